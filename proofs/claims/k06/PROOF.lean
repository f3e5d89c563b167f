import PyProof.Rows.All
import Wide.All
import OpenK.AllK
import Wide.FinOn
import HandS.ForMost
import HandS.Style
import HandS.TupAny
import HandS.TupMul
import HandS.Rev
import HandS.Zip
import HandS.Deep
import HandS.IsInst
import HandS.Conv
import HandS.NoneIn
import HandS.Defaults
import HandS.Wide
import HandS.Codes
import HandS.More
import HandS.SortInts
import HandS.Replace
import HandS.Dict
import KE.KDictKeyed
import PyProof.StrBlock2
import KE.KDictDisplayH
import KE.KDictCopyH
import KE.KDictPairs
import HandS.RevTup
import HandS.Head0
import HandS.Head1
import HandS.Head2
import HandS.HeadEnd
import HandS.HeadHook1
import HandS.HeadHook2
import HandS.HeadHook4
import PySem.Challenge.RW_clockhouse_k06_steps_and_waits
set_option Elab.async false
set_option linter.all false
set_option maxRecDepth 100000
/-! Ck1: data, a small syntax, its evaluator. -/
namespace Ck
open PySem
/-- what stands for good, the program, the world -/
structure KW where
  fr : PySem.W.Frag
  prog : Program
  w : World
instance : CoeOut KW PySem.W.Frag := ⟨KW.fr⟩
abbrev _root_.L2.Cx.kw (X : L2.Cx) : KW := ⟨X.K, X.prog, X.w⟩

/-! ### data -/
inductive D where
  | non | bl (b : Bool) | int (i : Int) | str (s : Str)
  | tup (l : List D) | lst (l : List D) | scr (l : List D)
  | dic (ks vs : List D) | obj (c : Nat) (ns : List Str) (vs : List D)
  deriving Inhabited
/-- what may be changed in place -/
def D.isC : D → Bool
  | .lst _ | .dic _ _ | .obj _ _ _ => true
  | _ => false
/-- no address -/
def D.flat : D → Bool
  | .non | .bl _ | .int _ | .str _ => true
  | _ => false
mutual
def D.beq : D → D → Bool
  | .non, .non => true
  | .bl a, .bl b => a == b
  | .int a, .int b => a == b
  | .str a, .str b => decide (a = b)
  | .tup a, .tup b => D.beqs a b
  | .lst a, .lst b => D.beqs a b
  | .scr a, .scr b => D.beqs a b
  | .dic a c, .dic b d => D.beqs a b && D.beqs c d
  | .obj i m a, .obj j n b => i == j && decide (m = n) && D.beqs a b
  | _, _ => false
termination_by structural x => x
def D.beqs : List D → List D → Bool
  | [], [] => true
  | a :: as, b :: bs => D.beq a b && D.beqs as bs
  | _, _ => false
termination_by structural x => x
end
mutual
def D.py : D → PyData
  | .non => .none
  | .bl b => .bool b
  | .int i => .int i
  | .str s => .str s
  | .tup l => .tuple (D.pys l)
  | .lst l => .list (D.pys l)
  | .scr l => .list (D.pys l)
  | .dic _ _ => .dict []
  | .obj _ _ _ => .dict []
termination_by structural x => x
def D.pys : List D → List PyData
  | [] => []
  | a :: as => D.py a :: D.pys as
termination_by structural x => x
end

/-! ### slots -/
abbrev SV := Nat × D
abbrev Env := List (Option SV)
/-- deep enough -/
def BIG : Nat := 1000
inductive Res (α : Type) where
  | ok (a : α)
  | ex (x : D) (env : Env)
  | no
namespace Res
def bind {α β : Type} : Res α → (α → Res β) → Res β
  | .ok a, f => f a
  | .ex x e, _ => .ex x e
  | .no, _ => .no
instance : Monad Res where
  pure := .ok
  bind := Res.bind
@[simp] theorem bind_ok {α β : Type} (a : α) (f : α → Res β) : (Res.ok a >>= f) = f a := rfl
@[simp] theorem bind_no {α β : Type} (f : α → Res β) : ((Res.no : Res α) >>= f) = .no := rfl
@[simp] theorem bind_ex {α β : Type} (x : D) (e : Env) (f : α → Res β) : ((Res.ex x e : Res α) >>= f) = .ex x e := rfl
@[simp] theorem pure_ok {α : Type} (a : α) : (pure a : Res α) = .ok a := rfl
theorem bind_eq_ok {α β : Type} {r : Res α} {f : α → Res β} {b : β} : (r >>= f) = .ok b ↔ ∃ a, r = .ok a ∧ f a = .ok b := by
  cases r with
  | ok a => exact ⟨fun h => ⟨a, rfl, h⟩, by rintro ⟨a', e, h⟩; cases e; exact h⟩
  | ex x e => exact ⟨(fun h => nomatch h), by rintro ⟨_, e, _⟩; cases e⟩
  | no => exact ⟨(fun h => nomatch h), by rintro ⟨_, e, _⟩; cases e⟩
def ofO {α : Type} : Option α → Res α
  | some a => .ok a
  | none => .no
@[simp] theorem ofO_some {α : Type} (a : α) : ofO (some a) = .ok a := rfl
@[simp] theorem ofO_none {α : Type} : ofO (none : Option α) = .no := rfl
theorem ofO_eq_ok {α : Type} {o : Option α} {a : α} : ofO o = .ok a ↔ o = some a := by
  cases o with
  | none => exact ⟨(fun h => nomatch h), (fun h => nomatch h)⟩
  | some b => exact ⟨fun h => by cases h; rfl, fun h => by cases h; rfl⟩
end Res
/-- where a value stands: a new one of one's own (or shared data), the thing that a slot holds, a thing within it -/
inductive Src where
  | fr | sl (i : Nat) | inn (i : Nat)
structure R where
  src : Src
  n : Nat
  d : D

/-! ### operators -/
inductive Op where
  | add | sub | mul | fdiv | mod | pow
  | eq | ne | lt | le | gt | ge | isin | notin | isN | notN
  | not | neg
  | len | listOf | tupleOf | revl | int1 | str1 | abs1 | sum1 | min1 | max1 | min2 | max2 | all1 | any1 | sorted1 | listRg1 | listRg2 | tupRg1 | tupRg2
  | join | get1 | get2 | index1 | startsw | split1 | part1 | items | count1
  | ix | slAB | slA | slB | slN | slRev
  | isiBool | isiInt | isiStr | isiTup | isiLst | isiTupLst
  | dic0 | dic1 | dictOf
  deriving DecidableEq
/-- operators whose answer holds items of what they read -/
def Op.prop : Op → Bool
  | .add | .mul | .listOf | .tupleOf | .revl | .slAB | .slA | .slB | .slN | .slRev | .ix | .get1 | .get2 | .min1 | .max1 | .sorted1 | .dictOf => true
  | _ => false
/-- operators that make a new list -/
def Op.makes : Op → Bool
  | .add | .mul | .listOf | .revl | .slAB | .slA | .slB | .slN | .slRev | .listRg1 | .listRg2 | .sorted1 | .split1 | .dic0 | .dic1 | .dictOf => true
  | _ => false
/-- list methods that change the list -/
inductive Mt where
  | append | pop | popAt | extend | insert | remove | clear | reverse | sort
/-- targets -/
inductive Tg where
  | nm (i : Nat) | tup (l : List Tg)
/-- the kind of a method's receiver -/
inductive Kd where
  | str | lst | dic
def Kd.ok : Kd → D → Bool
  | .str, .str _ => true
  | .lst, .lst _ => true
  | .dic, .dic _ _ => true
  | _, _ => false
mutual
inductive E where
  | cst (d : D)
  | glo (x : Str) (d : D)
  | var (i : Nat)
  | op (o : Op) (l : List E)
  | met (k : Kd) (o : Op) (a : E) (l : List E)
  | slc (a lo hi : E)
  | tupd (l : List E)
  | lstd (l : List E)
  | call (f : Nat) (l : List E)
  | comp (elt : E) (tg : Tg) (it : It) (tst : T) (own : List Nat)
  | mut (i : Nat) (m : Mt) (l : List E)
  | mutI (i : Nat) (j : E) (m : Mt) (l : List E)
  | ifx (t : T) (a b : E)
  | bop (isAnd : Bool) (a b : E)
inductive T where
  | tt
  | cmp (o : Op) (a b : E)
  | chn (o o' : Op) (a b c : E)
  | conj (a b : T)
  | disj (a b : T)
  | not (a : T)
  | isn (neg : Bool) (a : E)
  | val (e : E)
inductive It where
  | seq (e : E) | rng1 (a : E) | rng2 (a b : E) | rng3 (a b c : E) | enum (e : E) | zip (a b : E) | rev (e : E)
end
inductive S where
  | exp (e : E)
  | set (i : Nat) (e : E)
  | setT (tg : Tg) (e : E)
  | par (is : List Nat) (es : List E)
  | setIx (i : Nat) (j : E) (e : E)
  | setSl (i : Nat) (lo hi : E) (e : E)
  | aug (i : Nat) (o : Op) (e : E)
  | ret (e : E)
  | retN
  | ite (t : T) (a b : List S)
  | whl (t : T) (b : List S)
  | forS (tg : Tg) (it : It) (b : List S)
  | brk | cnt | pas | never

/-! ### keys of dicts -/
mutual
/-- as a key within a tuple -/
def nk : D → Option NestedKey
  | .int i => some (.num i)
  | .str x => some (.text x)
  | .tup l => (nks l).map .tup
  | _ => none
termination_by structural x => x
def nks : List D → Option (List NestedKey)
  | [] => some []
  | a :: as => match nk a, nks as with
    | some k, some ks => some (k :: ks)
    | _, _ => none
termination_by structural x => x
end
/-- as a key of its own: a whole number, a text -/
def bk : D → Option L2.Key
  | .int i => some (.inl i)
  | .str x => some (.inr x)
  | _ => none
/-- as a key of its own: a tuple -/
def hk : D → Option NestedKey
  | .tup l => (nks l).bind fun ks => if (NestedKey.tup ks).depth ≤ 8 then some (.tup ks) else none
  | _ => none
def keq (a b : D) : Bool := match nk a, nk b with
  | some x, some y => NestedKey.beq x y
  | _, _ => false
/-- where a key stands -/
def dIx : List D → D → Option Nat
  | [], _ => none
  | a :: l, k => if keq a k then some 0 else (dIx l k).map (· + 1)
/-- k is a key, and one of the kind of those that are there -/
def keyB (ks : List D) (k : D) : Bool := ((bk k).isSome || (hk k).isSome) && (match ks with | [] => true | a :: _ => (bk a).isSome == (bk k).isSome)
def dputD (ks vs : List D) (k v : D) : List D × List D := match dIx ks k with
  | some q => (ks, vs.set q v)
  | none => (ks ++ [k], vs ++ [v])
/-- the pairs, one by one -/
def dfill : List D → List D → List D → Option (List D × List D)
  | ks, vs, [] => some (ks, vs)
  | ks, vs, .tup [k, v] :: l => if keyB ks k then dfill (dputD ks vs k v).1 (dputD ks vs k v).2 l else none
  | _, _, _ => none
def dictD : D → Option D
  | .lst l => if l.length ≤ sizeLine then (dfill [] [] l).map fun p => .dic p.1 p.2 else none
  | .tup l => if l.length ≤ sizeLine then (dfill [] [] l).map fun p => .dic p.1 p.2 else none
  | .dic ks vs => if ks.all fun k => (bk k).isSome then some (.dic ks vs) else none
  | _ => none
def dgetD : D → D → Option D
  | .dic ks vs, k => if keyB ks k then (dIx ks k).bind fun q => vs[q]? else none
  | _, _ => none
def dget2D : D → D → D → Option D
  | .dic ks vs, k, x => if keyB ks k && !x.isC then (match dIx ks k with | some q => vs[q]? | none => some x) else none
  | _, _, _ => none
def dic1D : D → D → Option D
  | k, v => if keyB [] k && !v.isC then some (.dic [k] [v]) else none

/-! ### what operators come to -/
/-- a[i], i of any sign -/
abbrev at' {α : Type} (l : List α) (i : Int) : Option α := L2.atI l i
def cutD (xs : List D) (lo hi : Option Int) : List D := (xs.drop (HT.sIx xs.length 0 lo)).take (HT.sIx xs.length xs.length hi - HT.sIx xs.length 0 lo)
def sliceD (d : D) (lo hi : Option Int) : Option D :=
  match d with
  | .str z => if z.length ≤ sizeLine then some (.str (L2.cutS z lo hi)) else none
  | .lst l => some (.lst (cutD l lo hi))
  | .tup l => some (.tup (cutD l lo hi))
  | _ => none
def asInts : List D → Option (List Int)
  | [] => some []
  | .int i :: l => (asInts l).map (i :: ·)
  | _ :: _ => none
def asBls : List D → Option (List Bool)
  | [] => some []
  | .bl i :: l => (asBls l).map (i :: ·)
  | _ :: _ => none
def asStrs : List D → Option (List Str)
  | [] => some []
  | .str i :: l => (asStrs l).map (i :: ·)
  | _ :: _ => none
def leastI (a : Int) (l : List Int) : Int := l.foldl (fun m x => if x < m then x else m) a
def mostI (a : Int) (l : List Int) : Int := l.foldl (fun m x => if m < x then x else m) a
mutual
def D.eqb : D → Bool
  | .non | .bl _ | .int _ => true
  | .str x => PyData.canLay0 (.str x)
  | .tup l => D.eqbs l
  | .lst l => D.eqbs l
  | _ => false
termination_by structural x => x
def D.eqbs : List D → Bool
  | [] => true
  | a :: as => D.eqb a && D.eqbs as
termination_by structural x => x
end
def eqD (a b : D) : Option Bool :=
  if a.eqb && b.eqb && decide (a.py.depth ≤ 64) && decide (b.py.depth ≤ 64) then some (PyData.eqv a.py b.py) else none
def inD (a : D) (l : List D) : Option Bool :=
  if a.eqb && D.eqbs l && decide (a.py.depth ≤ 64) && decide ((D.lst l).py.depth ≤ 64) then some (l.any fun z => PyData.eqv z.py a.py) else none
def rngD (a b : Int) : List D := (List.range (b - a).toNat).map fun i => D.int (a + (i : Nat))
def okRg (a b : Int) : Bool := decide (-(2 ^ 62) ≤ a ∧ a < 2 ^ 62 ∧ -(2 ^ 62) ≤ b ∧ b < 2 ^ 62 ∧ (b - a).toNat ≤ 2 ^ 24)
def truthD : D → Option Bool
  | .non => some false
  | .bl b => some b
  | .int i => some (i != 0)
  | .str z => if z.length ≤ sizeLine then some (z.length != 0) else none
  | .lst l => some (!l.isEmpty)
  | .tup l => some (!l.isEmpty)
  | _ => none

def addD : List D → Option D
  | [.int i, .int j] => some (.int (i + j))
  | [.str a, .str b] => if a.length + b.length ≤ sizeLine then some (.str (a ++ b)) else none
  | [.lst a, .lst b] => if a.length + b.length ≤ sizeLine then some (.lst (a ++ b)) else none
  | [.tup a, .tup b] => if a.length + b.length ≤ sizeLine then some (.tup (a ++ b)) else none
  | _ => none
def mulD : List D → Option D
  | [.int i, .int j] => if (-(2 ^ 64) < i ∧ i < 2 ^ 64) ∨ (-(2 ^ 64) < j ∧ j < 2 ^ 64) then some (.int (i * j)) else none
  | [.lst a, .int k] => if -(2 ^ 63) ≤ k ∧ k < 2 ^ 63 ∧ a.length * k.toNat ≤ sizeLine then some (.lst (List.replicate k.toNat a).flatten) else none
  | [.tup a, .int k] => if a = [] ∨ ¬ (1 ≤ k ∧ k ≤ 1000 ∧ a.length ≤ 1000) then none else some (.tup (List.replicate k.toNat a).flatten)
  | [.str a, .int k] => if (decide (k < -(2 ^ 63 : Int)) || decide (k ≥ 2 ^ 63)) = false ∧ (¬ k < 1 → (k == 1 || a.length == 0) = false → ¬ ((a.length : Int) > (2 ^ 63 - 1) / k)) ∧ (¬ k < 1 → (k == 1 || a.length == 0) = false → Builtin.Str.tooLong (a.length * k.toNat) = false) then some (.str (PySem.Txt.mul a k)) else none
  | _ => none
def intD (C : Int → Int → Bool) (g : Int → Int → D) : List D → Option D
  | [.int i, .int j] => if C i j = true then some (g i j) else none
  | _ => none
def inSeq (neg : Bool) : List D → Option D
  | [.str c, .str z] => if c.cps.size = 1 then some (.bl (if neg then !decide (c.cps.getD 0 0 ∈ z.cps.toList) else decide (c.cps.getD 0 0 ∈ z.cps.toList))) else none
  | [a, .tup l] => (inD a l).map fun c => .bl (if neg then !c else c)
  | [a, .lst l] => (inD a l).map fun c => .bl (if neg then !c else c)
  | [a, .dic ks _] => if keyB ks a then some (.bl (if neg then !(dIx ks a).isSome else (dIx ks a).isSome)) else none
  | _ => none
def D.isNon : D → Bool
  | .non => true
  | _ => false
def one (f : D → Option D) : List D → Option D
  | [d] => f d
  | _ => none
def dyad (f : D → D → Option D) : List D → Option D
  | [d, e] => f d e
  | _ => none
def triad (f : D → D → D → Option D) : List D → Option D
  | [d, e, g] => f d e g
  | _ => none
def lenD : D → Option D
  | .lst l => some (.int l.length)
  | .scr l => some (.int l.length)
  | .tup l => some (.int l.length)
  | .str z => if z.length ≤ sizeLine then some (.int z.length) else none
  | _ => none
def listD : D → Option D
  | .lst l => some (.lst l)
  | .tup l => some (.lst l)
  | .dic ks _ => some (.lst ks)
  | _ => none
def tupD : D → Option D
  | .lst l => some (.tup l)
  | .tup l => some (.tup l)
  | _ => none
def revD : D → Option D
  | .lst l => some (.lst l.reverse)
  | _ => none
def int1D : D → Option D
  | .bl b => some (.int (if b then 1 else 0))
  | .int i => some (.int i)
  | _ => none
def abs1D : D → Option D
  | .int i => some (.int (if i < 0 then -i else i))
  | _ => none
def notD : D → Option D
  | .bl b => some (.bl (!b))
  | _ => none
def negD : D → Option D
  | .int i => some (.int (-i))
  | _ => none
def sumD : D → Option D
  | .lst l => (asInts l).map fun ns => .int ns.sum
  | _ => none
def min1D : D → Option D
  | .lst l => match asInts l with
    | some (a :: r) => some (.int (leastI a r))
    | _ => none
  | _ => none
def max1D : D → Option D
  | .lst l => match asInts l with
    | some (a :: r) => some (.int (mostI a r))
    | _ => none
  | _ => none
def all1D : D → Option D
  | .lst l => (asBls l).map fun bs => .bl (bs.all id)
  | _ => none
def any1D : D → Option D
  | .lst l => (asBls l).map fun bs => .bl (bs.any id)
  | _ => none
def rg1D (f : List D → D) : D → Option D
  | .int b => if okRg 0 b then some (f (rngD 0 b)) else none
  | _ => none
def rg2D (f : List D → D) : D → D → Option D
  | .int a, .int b => if okRg a b then some (f (rngD a b)) else none
  | _, _ => none
def insZ (a : Int) : List Int → List Int
  | [] => [a]
  | b :: l => if a ≤ b then a :: b :: l else b :: insZ a l
/-- in order -/
def sortZ : List Int → List Int
  | [] => []
  | a :: l => insZ a (sortZ l)
def sortD : D → Option D
  | .lst l => (asInts l).map fun ns => .lst ((sortZ ns).map .int)
  | _ => none
def indexD : D → D → Option D
  | .str a, .str b => match Builtin.Str.occurrences a b 0 a.length 1 with
    | i :: _ => some (.int (i : Nat))
    | [] => none
  | _, _ => none
def joinD : D → D → Option D
  | .str sep, .lst l => match asStrs l with
    | some ys => if (ys.map fun y => y.length).sum + ys.length * sep.length ≤ 16777216 then some (.str (PySem.Txt.join sep ys)) else none
    | none => none
  | _, _ => none
def ixD : D → D → Option D
  | .lst l, .int i => at' l i
  | .tup l, .int i => at' l i
  | .scr l, .int i => at' l i
  | .str z, .int i => if z.length ≤ sizeLine then (at' z.cps.toList i).map fun c => .str ⟨#[c]⟩ else none
  | .dic ks vs, k => dgetD (.dic ks vs) k
  | _, _ => none
def partI : D → Option Int
  | .int i => some i
  | _ => none
def kindD (p : D → Bool) (d : D) : Option D := match d with
  | .scr _ | .obj _ _ _ | .dic _ _ => none
  | d => some (.bl (p d))
def ltD : List D → Option D
  | [.int i, .int j] => some (.bl (decide (i < j)))
  | [.tup a, .tup b] => match asInts a, asInts b with
    | some x, some y => some (.bl (HT.lexLt x y))
    | _, _ => none
  | _ => none
def opF : Op → List D → Option D
  | .add => addD
  | .sub => intD (fun _ _ => true) fun i j => .int (i - j)
  | .mul => mulD
  | .mod => intD (fun _ j => decide (0 < j)) fun i j => .int (i % j)
  | .fdiv => intD (fun _ j => decide (0 < j ∧ j.natAbs.log2 < 9000)) fun i j => .int (i / j)
  | .pow => intD (fun i j => decide (0 ≤ j ∧ j ≤ 1000000 ∧ i.natAbs < 2 ^ 64)) fun i j => .int (i ^ j.toNat)
  | .eq => dyad fun a b => (eqD a b).map .bl
  | .ne => dyad fun a b => (eqD a b).map fun c => .bl (!c)
  | .lt => ltD
  | .le => intD (fun _ _ => true) fun i j => .bl (decide (i ≤ j))
  | .gt => intD (fun _ _ => true) fun i j => .bl (decide (j < i))
  | .ge => intD (fun _ _ => true) fun i j => .bl (decide (j ≤ i))
  | .isin => inSeq false
  | .notin => inSeq true
  | .isN => one fun a => some (.bl a.isNon)
  | .notN => one fun a => some (.bl (!a.isNon))
  | .not => one notD
  | .neg => one negD
  | .len => one lenD
  | .listOf => one listD
  | .tupleOf => one tupD
  | .revl => one revD
  | .int1 => one int1D
  | .abs1 => one abs1D
  | .sum1 => one sumD
  | .min2 => intD (fun _ _ => true) fun i j => .int (if j < i then j else i)
  | .max2 => intD (fun _ _ => true) fun i j => .int (if j > i then j else i)
  | .min1 => one min1D
  | .max1 => one max1D
  | .all1 => one all1D
  | .any1 => one any1D
  | .listRg1 => one (rg1D .lst)
  | .listRg2 => dyad (rg2D .lst)
  | .tupRg1 => one (rg1D .tup)
  | .tupRg2 => dyad (rg2D .tup)
  | .join => dyad joinD
  | .sorted1 => one sortD
  | .index1 => dyad indexD
  | .dic0 => fun l => match l with | [] => some (.dic [] []) | _ => none
  | .dic1 => dyad dic1D
  | .dictOf => one dictD
  | .get2 => triad dget2D
  | .ix => dyad ixD
  | .slAB => triad fun d i j => match partI i, partI j with
    | some i, some j => sliceD d (some i) (some j)
    | _, _ => none
  | .slA => dyad fun d i => match partI i with
    | some i => sliceD d (some i) none
    | none => none
  | .slB => dyad fun d j => match partI j with
    | some j => sliceD d none (some j)
    | none => none
  | .slN => one fun d => sliceD d none none
  | .slRev => one revD
  | .isiBool => one (kindD fun d => match d with | .bl _ => true | _ => false)
  | .isiInt => one (kindD fun d => match d with | .bl _ => true | .int _ => true | _ => false)
  | .isiStr => one (kindD fun d => match d with | .str _ => true | _ => false)
  | .isiTup => one (kindD fun d => match d with | .tup _ => true | _ => false)
  | .isiLst => one (kindD fun d => match d with | .lst _ => true | _ => false)
  | .isiTupLst => one (kindD fun d => match d with | .tup _ => true | .lst _ => true | _ => false)
  | _ => fun _ => none
/-- a list of one's own is new -/
def own1 (d : D) : SV := (if d.isC then 1 else 0, d)
/-- a list of things that cannot change -/
def D.shalD : D → Bool
  | .lst l => l.all fun d => !d.isC
  | .dic _ vs => vs.all fun d => !d.isC
  | _ => false
/-- items of what is read are shared already (or the thing is one's own and may be) -/
def R.shal (r : R) : Bool := (match r.src with | .fr => true | _ => false) || (decide (r.n ≤ 1) || r.d.shalD)
def opR (o : Op) (rs : List R) : Option R :=
  if !o.prop || rs.all R.shal then (opF o (rs.map (·.d))).map fun d => ⟨.fr, if o.makes then (own1 d).1 else 0, d⟩
  else match o, rs with
    | .ix, [⟨.sl i, n, .lst l⟩, ⟨_, _, .int k⟩] => (at' l k).map fun d => if d.isC then ⟨.inn i, n - 1, d⟩ else ⟨.fr, 0, d⟩
    | .ix, [⟨.sl i, n, .dic ks vs⟩, ⟨_, _, k⟩] => (dgetD (.dic ks vs) k).map fun d => if d.isC then ⟨.inn i, n - 1, d⟩ else ⟨.fr, 0, d⟩
    | _, _ => none

/-! ### slots read, claimed -/
def slotR (i : Nat) : SV → R
  | (n, d) => if 1 ≤ n ∧ d.isC = true then ⟨.sl i, n, d⟩ else ⟨.fr, 0, d⟩
def getS (env : Env) (i : Nat) : Option SV := (env[i]?).join
/-- the value as it is by now -/
def reR (r : R) (env : Env) : Option R :=
  match r.src with
  | .sl i => (getS env i).map fun sv => ⟨.sl i, sv.1, sv.2⟩
  | _ => some r
/-- taken as a value: a slot's own thing is shared from now on -/
def claim (r : R) (env : Env) : Option (SV × Env) :=
  match r.src with
  | .fr => some ((r.n, r.d), env)
  | .sl i => some ((0, r.d), env.set i (some (0, r.d)))
  | .inn _ => none
def claims : List R → Env → Option (List SV × Env)
  | [], env => some ([], env)
  | r :: rs, env => do
    let (sv, env1) ← claim r env
    let (svs, env2) ← claims rs env1
    pure (sv :: svs, env2)
def depOf (svs : List SV) : Nat := svs.foldr (fun sv m => min (if sv.2.isC then sv.1 + 1 else BIG) m) BIG
/-- a whole number of its own -/
def isInt : R → Bool
  | ⟨.fr, _, .int _⟩ => true
  | _ => false
def isInn (r : R) : Bool := match r.src with | .inn _ => true | _ => false

/-- expressions that change nothing and make nothing of a slot -/
def E.still : E → Bool
  | .cst _ | .glo _ _ | .var _ => true
  | .op .len [.var _] => true
  | .op .add [.var _, .cst _] => true
  | .op .fdiv [.cst _, .op .len [.var _]] => true
  | _ => false

/-! ### list methods -/
def mutF (m : Mt) (n : Nat) (d : D) (args : List SV) : Option (SV × SV) :=
  if n = 0 then none else
  match m, d, args with
  | .append, .lst l, [a] => if l.length < sizeLine then some ((min n (depOf [a]), .lst (l ++ [a.2])), (0, .non)) else none
  | .pop, .lst l, [] => match l.getLast? with
      | some x => some ((n, .lst l.dropLast), (if x.isC then n - 1 else 0, x))
      | none => none
  | .popAt, .lst l, [(_, .int i)] => if -(2 ^ 63) ≤ i ∧ i < 2 ^ 63 then
      match seqIndex? i l.length with
      | some k => (match l[k]? with
        | some x => some ((n, .lst (l.eraseIdx k)), (if x.isC then n - 1 else 0, x))
        | none => none)
      | none => none
      else none
  | .extend, .lst l, [(k, .lst z)] => if l.length + z.length ≤ sizeLine ∧ (k ≤ 1 ∨ D.shalD (.lst z) = true) then some ((1, .lst (l ++ z)), (0, .non)) else none
  | .insert, .lst l, [(_, .int i), a] => if l.length < sizeLine ∧ 0 ≤ i ∧ i < 2 ^ 63 then some ((min n (depOf [a]), .lst (l.take i.toNat ++ [a.2] ++ l.drop i.toNat)), (0, .non)) else none
  | .clear, .lst _, [] => some ((BIG, .lst []), (0, .non))
  | .reverse, .lst l, [] => some ((n, .lst l.reverse), (0, .non))
  | _, _, _ => none

/-! ### calls -/
inductive CRes where
  | ok (r : SV) (ps : List SV)
  | ex (x : D) (ps : List SV)
  | no
/-- def, arguments, which of them are lent -/
abbrev Cal := Nat → List SV → List Nat → CRes
/-- lent slots, by the arguments' places -/
def lentK : Nat → List R → List (Nat × Nat)
  | _, [] => []
  | k, r :: rs => match r.src with
    | .sl i => (k, i) :: lentK (k + 1) rs
    | _ => lentK (k + 1) rs
def lent (rs : List R) : List (Nat × Nat) := lentK 0 rs
/-- the slots lent, hidden -/
def hideL : List (Nat × Nat) → Env → Env
  | [], env => env
  | (_, i) :: l, env => hideL l (env.set i none)
def backIn (ps : List SV) : List (Nat × Nat) → Env → Env
  | [], env => env
  | (k, i) :: l, env => backIn ps l (env.set i (some (ps.getD k (0, .non))))
def callR (c : Cal) (f : Nat) (rs : List R) (env : Env) : Res (R × Env) :=
  if rs.any isInn || !decide ((lent rs).map (·.2)).Nodup then .no else
  match c f (rs.map fun r => (r.n, r.d)) ((lent rs).map (·.1)) with
  | .ok r ps => .ok (⟨.fr, r.1, r.2⟩, backIn ps (lent rs) (hideL (lent rs) env))
  | .ex x ps => .ex x (backIn ps (lent rs) (hideL (lent rs) env))
  | .no => .no

/-! ### targets -/
mutual
def setTg : Tg → SV → List Nat → Env → Option Env
  | .nm i, sv, pin, env => if i ∈ pin ∨ env.length ≤ i then none else some (env.set i (some sv))
  | .tup l, (_, .tup ds), pin, env => setTgs l ds pin env
  | .tup _, _, _, _ => none
termination_by structural x => x
def setTgs : List Tg → List D → List Nat → Env → Option Env
  | [], [], _, env => some env
  | t :: l, d :: ds, pin, env => do
    let env1 ← setTg t (0, d) pin env
    setTgs l ds pin env1
  | _, _, _, _ => none
termination_by structural x => x
end

/-! ### what is walked: a list that stands, or a slot's list as it is by then -/
inductive Live where
  | fix (ds : List D) | slot (i : Nat)
/-- the items; none where they are not shared -/
def Live.now (env : Env) : Live → Option (List D)
  | .fix ds => some ds
  | .slot i => match getS env i with
    | some (n, .lst l) => if 1 ≤ n ∧ (n ≤ 1 ∨ l.all fun d => !d.isC) then some l else none
    | _ => none
def Live.slots : Live → List Nat
  | .fix _ => []
  | .slot i => [i]
inductive Wk where
  | seq (l : Live) | rng (lo c : Int) (n : Nat) | enum (l : Live) | zip (a b : Live) | rev (n : Nat) (l : Live)
/-- how many turns, by now -/
def Wk.size (env : Env) : Wk → Option Nat
  | .seq l => (l.now env).map List.length
  | .rng _ _ n => some n
  | .enum l => (l.now env).map List.length
  | .zip a b => match a.now env, b.now env with | some x, some y => some (min x.length y.length) | _, _ => none
  | .rev n l => match l.now env with | some x => if x.length = n then some n else none | none => none
def Wk.item (env : Env) (k : Nat) : Wk → Option D
  | .seq l => (l.now env).bind fun x => x[k]?
  | .rng lo c _ => some (.int (lo + (k : Nat) * c))
  | .enum l => (l.now env).bind fun x => (x[k]?).map fun d => .tup [.int (k : Nat), d]
  | .zip a b => match a.now env, b.now env with | some x, some y => (match x[k]?, y[k]? with | some d, some e => some (.tup [d, e]) | _, _ => none) | _, _ => none
  | .rev n l => (l.now env).bind fun x => x[n - 1 - k]?
def Wk.slots : Wk → List Nat
  | .seq l | .enum l | .rev _ l => l.slots
  | .zip a b => a.slots ++ b.slots
  | .rng _ _ _ => []
def liveOf (r : R) : Option Live :=
  match r.src, r.d with
  | .fr, .lst l => some (.fix l)
  | .fr, .scr l => some (.fix l)
  | .fr, .tup l => some (.fix l)
  | .fr, .str z => if z.length ≤ sizeLine then some (.fix (z.cps.toList.map fun c => .str ⟨#[c]⟩)) else none
  | .sl i, .lst _ => some (.slot i)
  | _, _ => none
def D.isL : D → Bool
  | .lst _ | .scr _ => true
  | _ => false
def D.isT : D → Bool
  | .tup _ => true
  | _ => false
/-- may be set aside -/
def asideB (env : Env) (i : Nat) : Bool := match getS env i with
  | some (n, d) => n == 0 || !d.isC
  | none => true
def wipeE (env : Env) : List Nat → Env
  | [] => env
  | i :: l => (wipeE env l).set i none
/-- behind a comprehension: its own slots as they were ahead -/
def unwipe (was env : Env) : List Nat → Env
  | [] => env
  | i :: l => (unwipe was env l).set i ((getS was i).map fun sv => (0, sv.2))

/-- a comprehension's turns: n left, at turn k -/
def compL (w : Wk) (n0 : Nat) (own : List Nat) (f : D → Env → Res (Option SV × Env)) : Nat → Nat → Env → List SV → Res (List SV × Env)
  | 0, _, env, acc => if w.size env = some n0 then .ok (acc, env) else .no
  | n + 1, k, env, acc => do
    let d ← Res.ofO (w.item env k)
    let (o, env1) ← f d (wipeE env own)
    let env2 := unwipe env env1 own
    if w.size env2 = some n0 then
      match o with
      | some sv => if acc.length < sizeLine then compL w n0 own f n (k + 1) env2 (acc ++ [sv]) else .no
      | none => compL w n0 own f n (k + 1) env2 acc
    else .no

/-- two, three operands, from the left -/
def two (fa fb : Env → Res (R × Env)) (sb : Bool) (env : Env) : Res (List R × Env) := do
  let (r, env1) ← fa env
  if isInn r && !sb then .no else do
  let (r2, env2) ← fb env1
  let r2' ← Res.ofO (reR r2 env2)
  let r' ← Res.ofO (reR r env2)
  pure ([r', r2'], env2)
mutual
def evE (c : Cal) : E → Env → Res (R × Env)
  | .cst d => fun env => .ok (⟨.fr, 0, d⟩, env)
  | .glo _ d => fun env => .ok (⟨.fr, 0, d⟩, env)
  | .var i => fun env => do
    let sv ← Res.ofO (getS env i)
    pure (slotR i sv, env)
  | .op o l => fun env => do
    let (rs, env1) ← evEs c l env
    let r ← Res.ofO (opR o rs)
    pure (r, env1)
  | .met k o a l => fun env => do
    let (r, env1) ← evE c a env
    if (isInn r && !l.all E.still) || !k.ok r.d then .no else do
    let (rs, env2) ← evEs c l env1
    let r' ← Res.ofO (reR r env2)
    let r5 ← Res.ofO (opR o (r' :: rs))
    pure (r5, env2)
  | .slc a lo hi => fun env => do
    let (r1, env1) ← evE c a env
    if isInn r1 && !(lo.still && hi.still) then .no else do
    let (r2, env2) ← evE c lo env1
    if !isInt r2 then .no else do
    let (r3, env3) ← evE c hi env2
    if !isInt r3 then .no else do
    let r1' ← Res.ofO (reR r1 env3)
    let r5 ← Res.ofO (opR .slAB [r1', r2, r3])
    pure (r5, env3)
  | .tupd l => fun env => do
    let (rs, env1) ← evEs c l env
    let (svs, env2) ← Res.ofO (claims rs env1)
    if svs.length ≤ sizeLine then pure (⟨.fr, 0, .tup (svs.map (·.2))⟩, env2) else .no
  | .lstd l => fun env => do
    let (rs, env1) ← evEs c l env
    let (svs, env2) ← Res.ofO (claims rs env1)
    if svs.length ≤ sizeLine then pure (⟨.fr, depOf svs, .lst (svs.map (·.2))⟩, env2) else .no
  | .call f l => fun env => do
    let (rs, env1) ← evEs c l env
    callR c f rs env1
  | .comp elt tg it tst own => fun env => do
    let (w, env1) ← evIt c it env
    let n ← Res.ofO (w.size env1)
    if !own.all (asideB env1) then .no else do
    let (svs, env2) ← compL w n own (fun d e => do
      let e1 ← Res.ofO (setTg tg (0, d) [] e)
      let (b, e2) ← evT c tst e1
      if b then do
        let (r, e3) ← evE c elt e2
        let (sv, e4) ← Res.ofO (claim r e3)
        pure (some sv, e4)
      else pure (none, e2)) n 0 env1 []
    pure (⟨.fr, depOf svs, .lst (svs.map (·.2))⟩, env2)
  | .mut i m l => fun env => do
    let sv0 ← Res.ofO (getS env i)
    if !Kd.lst.ok sv0.2 then .no else do
    let (rs, env1) ← evEs c l env
    let (svs, env2) ← Res.ofO (claims rs env1)
    let (n, d) ← Res.ofO (getS env2 i)
    let (sv, r) ← Res.ofO (mutF m n d svs)
    pure (⟨.fr, r.1, r.2⟩, env2.set i (some sv))
  | .mutI i j m l => fun env => do
    let _ ← Res.ofO (getS env i)
    let (rj, env1) ← evE c j env
    let (n, d) ← Res.ofO (getS env1 i)
    match rj, d with
    | ⟨.fr, _, .int k⟩, .lst xs => do
      let x ← Res.ofO (at' xs k)
      let kk ← Res.ofO (L2.ixN xs.length k)
      let (rs, env2) ← evEs c l (env1.set i none)
      let (svs, env3) ← Res.ofO (claims rs env2)
      let (sv, r) ← Res.ofO (mutF m (n - 1) x svs)
      if (getS env3 i).isSome then .no else
      pure (⟨.fr, r.1, r.2⟩, env3.set i (some (min n (sv.1 + 1), .lst (xs.set kk sv.2))))
    | _, _ => .no
  | .ifx t a b => fun env => do
    let (k, env1) ← evT c t env
    if k then evE c a env1 else evE c b env1
  | .bop isAnd a b => fun env => do
    let (r, env1) ← evE c a env
    match r.d with
    | .bl k => if k = isAnd then evE c b env1 else pure (⟨.fr, 0, .bl k⟩, env1)
    | _ => .no
termination_by structural x => x
def evEs (c : Cal) : List E → Env → Res (List R × Env)
  | [] => fun env => .ok ([], env)
  | e :: es => fun env => do
    let (r, env1) ← evE c e env
    if isInn r && !es.all E.still then .no else do
    let (rs, env2) ← evEs c es env1
    let r' ← Res.ofO (reR r env2)
    pure (r' :: rs, env2)
termination_by structural x => x
def evT (c : Cal) : T → Env → Res (Bool × Env)
  | .tt => fun env => .ok (true, env)
  | .cmp o a b => fun env => do
    let (rs, env1) ← two (evE c a) (evE c b) b.still env
    match opR o rs with
    | some ⟨_, _, .bl k⟩ => pure (k, env1)
    | _ => .no
  | .chn o o' a b e => fun env => do
    let (rs, env1) ← two (evE c a) (evE c b) b.still env
    match rs with
    | [_, ⟨.fr, m, .int y⟩] =>
      (match opR o rs with
      | some ⟨_, _, .bl k⟩ => if k then do
          let (r3, env2) ← evE c e env1
          match opR o' [⟨.fr, m, .int y⟩, r3] with
          | some ⟨_, _, .bl k'⟩ => pure (k', env2)
          | _ => .no
        else pure (false, env1)
      | _ => .no)
    | _ => .no
  | .conj a b => fun env => do
    let (k, env1) ← evT c a env
    if k then evT c b env1 else pure (false, env1)
  | .disj a b => fun env => do
    let (k, env1) ← evT c a env
    if k then pure (true, env1) else evT c b env1
  | .not a => fun env => do
    let (k, env1) ← evT c a env
    pure (!k, env1)
  | .isn neg e => fun env => do
    let (r, env1) ← evE c e env
    match opR (if neg then .notN else .isN) [r] with
    | some ⟨_, _, .bl k⟩ => pure (k, env1)
    | _ => .no
  | .val e => fun env => do
    let (r, env1) ← evE c e env
    let k ← Res.ofO (truthD r.d)
    pure (k, env1)
termination_by structural x => x
def evIt (c : Cal) : It → Env → Res (Wk × Env)
  | .seq e => fun env => do
    let (r, env1) ← evE c e env
    let l ← Res.ofO (liveOf r)
    pure (.seq l, env1)
  | .rng1 a => fun env => do
    let (r, env1) ← evE c a env
    match r.d with
    | .int j => if -(2 ^ 62) ≤ j ∧ j < 2 ^ 62 then pure (.rng 0 1 j.toNat, env1) else .no
    | _ => .no
  | .rng2 a b => fun env => do
    let (rs, env1) ← two (evE c a) (evE c b) b.still env
    match rs with
    | [⟨_, _, .int i⟩, ⟨_, _, .int j⟩] => if -(2 ^ 62) ≤ i ∧ i < 2 ^ 62 ∧ -(2 ^ 62) ≤ j ∧ j < 2 ^ 62 then pure (.rng i 1 (j - i).toNat, env1) else .no
    | _ => .no
  | .rng3 a b e => fun env => do
    let (rs, env1) ← two (evE c a) (evE c b) b.still env
    let (r3, env2) ← evE c e env1
    match rs, r3 with
    | [⟨_, _, .int i⟩, ⟨_, _, .int j⟩], ⟨_, _, .int s⟩ => if s = -1 ∧ -(2 ^ 62) ≤ i ∧ i < 2 ^ 62 ∧ -(2 ^ 62) ≤ j ∧ j < 2 ^ 62 then pure (.rng i (-1) (i - j).toNat, env2) else .no
    | _, _ => .no
  | .enum e => fun env => do
    let (r, env1) ← evE c e env
    if !r.d.isL then .no else do
    let l ← Res.ofO (liveOf r)
    pure (.enum l, env1)
  | .zip a b => fun env => do
    let (rs, env1) ← two (evE c a) (evE c b) b.still env
    match rs with
    | [x, y] => if !((x.d.isL && y.d.isL) || (x.d.isT && y.d.isT)) then .no else do
      let l ← Res.ofO (liveOf x)
      let m ← Res.ofO (liveOf y)
      pure (.zip l m, env1)
    | _ => .no
  | .rev e => fun env => do
    let (r, env1) ← evE c e env
    if !(r.d.isL || r.d.isT) then .no else do
    let l ← Res.ofO (liveOf r)
    let x ← Res.ofO (l.now env1)
    pure (.rev x.length l, env1)
termination_by structural x => x
end

/-! ### statements -/
inductive Out where
  | nx (env : Env) | rt (r : SV) (env : Env) | bk (env : Env) | ct (env : Env)
def retR (r : R) (pin : List Nat) (env : Env) : Option (SV × Env) :=
  match r.src with
  | .fr => some ((r.n, r.d), env)
  | .sl i => if i ∈ pin then some ((0, r.d), env.set i (some (0, r.d))) else some ((r.n, r.d), env.set i none)
  | .inn _ => none
def forL (w : Wk) (n0 : Nat) (f : D → Env → Res Out) : Nat → Nat → Env → Res Out
  | 0, _, env => if w.size env = some n0 then .ok (.nx env) else .no
  | n + 1, k, env => do
    let d ← Res.ofO (w.item env k)
    let o ← f d env
    match o with
    | .nx env1 => if w.size env1 = some n0 then forL w n0 f n (k + 1) env1 else .no
    | .ct env1 => if w.size env1 = some n0 then forL w n0 f n (k + 1) env1 else .no
    | .bk env1 => .ok (.nx env1)
    | .rt sv env1 => .ok (.rt sv env1)
def whlL (t : Env → Res (Bool × Env)) (f : Env → Res Out) : Nat → Env → Res Out
  | 0, _ => .no
  | n + 1, env => do
    let (b, env1) ← t env
    if b then do
      let o ← f env1
      match o with
      | .nx env2 => whlL t f n env2
      | .ct env2 => whlL t f n env2
      | .bk env2 => .ok (.nx env2)
      | .rt sv env2 => .ok (.rt sv env2)
    else .ok (.nx env1)
def MANY : Nat := 2 ^ 200
def augF : Op → D → D → Option D
  | .add, .int i, .int j => some (.int (i + j))
  | .sub, .int i, .int j => some (.int (i - j))
  | .add, .str i, .str j => if i.length + j.length ≤ sizeLine then some (.str (i ++ j)) else none
  | _, _, _ => none
mutual
def evS (c : Cal) : S → List Nat → Env → Res Out
  | .exp e => fun _ env => do
    let (_, env1) ← evE c e env
    pure (.nx env1)
  | .set i e => fun pin env => do
    let (r, env1) ← evE c e env
    let (sv, env2) ← Res.ofO (claim r env1)
    let env3 ← Res.ofO (setTg (.nm i) sv pin env2)
    pure (.nx env3)
  | .setT tg e => fun pin env => do
    let (r, env1) ← evE c e env
    let (sv, env2) ← Res.ofO (claim r env1)
    let env3 ← Res.ofO (setTg tg sv pin env2)
    pure (.nx env3)
  | .par is es => fun pin env => do
    let (rs, env1) ← evEs c es env
    let (svs, env2) ← Res.ofO (claims rs env1)
    let env3 ← Res.ofO ((is.zip svs).foldl (fun (o : Option Env) (p : Nat × SV) => o.bind fun en => setTg (.nm p.1) p.2 pin en) (some env2))
    if is.length = svs.length then pure (.nx env3) else .no
  | .setIx i j e => fun _ env => do
    let (r, env1) ← evE c e env
    let (sv, env2) ← Res.ofO (claim r env1)
    let _ ← Res.ofO (getS env2 i)
    let (rj, env3) ← evE c j env2
    let (n, d) ← Res.ofO (getS env3 i)
    if n = 0 then .no else
    match d, rj.d with
    | .lst xs, .int k => do
      let kk ← Res.ofO (L2.ixN xs.length k)
      pure (.nx (env3.set i (some (min n (depOf [sv]), .lst (xs.set kk sv.2)))))
    | .dic ks vs, k => if keyB ks k && decide (ks.length < sizeLine) then
        pure (.nx (env3.set i (some (min n (depOf [sv]), .dic (dputD ks vs k sv.2).1 (dputD ks vs k sv.2).2)))) else .no
    | _, _ => .no
  | .setSl i lo hi e => fun _ env => do
    let (r, env1) ← evE c e env
    let (sv, env2) ← Res.ofO (claim r env1)
    let _ ← Res.ofO (getS env2 i)
    let (rs, env3) ← two (evE c lo) (evE c hi) hi.still env2
    let (n, d) ← Res.ofO (getS env3 i)
    if n = 0 then .no else
    match d, rs, sv with
    | .lst xs, [⟨_, _, .int a⟩, ⟨_, _, .int b⟩], (m + 1, .lst ys) =>
      if 0 ≤ a ∧ a ≤ b ∧ b ≤ xs.length ∧ xs.length + ys.length ≤ sizeLine then
        pure (.nx (env3.set i (some (min n (m + 1), .lst (xs.take a.toNat ++ ys ++ xs.drop b.toNat))))) else .no
    | _, _, _ => .no
  | .aug i o e => fun pin env => do
    let (_, d0) ← Res.ofO (getS env i)
    let (r, env1) ← evE c e env
    let d ← Res.ofO (augF o d0 r.d)
    let env2 ← Res.ofO (setTg (.nm i) (0, d) pin env1)
    pure (.nx env2)
  | .ret e => fun pin env => do
    let (r, env1) ← evE c e env
    let (sv, env2) ← Res.ofO (retR r pin env1)
    pure (.rt sv env2)
  | .retN => fun _ env => .ok (.rt (0, .non) env)
  | .ite t a b => fun pin env => do
    let (k, env1) ← evT c t env
    if k then evSs c a pin env1 else evSs c b pin env1
  | .whl t b => fun pin env => whlL (evT c t) (evSs c b pin) MANY env
  | .forS tg it b => fun pin env => do
    let (w, env1) ← evIt c it env
    let n ← Res.ofO (w.size env1)
    forL w n (fun d e => do
      let e1 ← Res.ofO (setTg tg (0, d) (w.slots ++ pin) e)
      evSs c b (w.slots ++ pin) e1) n 0 env1
  | .brk => fun _ env => .ok (.bk env)
  | .cnt => fun _ env => .ok (.ct env)
  | .pas => fun _ env => .ok (.nx env)
  | .never => fun _ _ => .no
termination_by structural x => x
def evSs (c : Cal) : List S → List Nat → Env → Res Out
  | [] => fun _ env => .ok (.nx env)
  | s :: ss => fun pin env => do
    let o ← evS c s pin env
    match o with
    | .nx env1 => evSs c ss pin env1
    | o => .ok o
termination_by structural x => x
end

/-! ### defs -/
structure Df where
  np : Nat
  ns : Nat
  body : List S
abbrev Gt := List Df
def outPs (np : Nat) (env : Env) : List SV := (env.take np).map fun o => o.getD (0, .non)
def evBody (c : Cal) (df : Df) (args : List SV) (pins : List Nat) : CRes :=
  if args.length = df.np then
    match evSs c df.body pins (args.map some ++ List.replicate (df.ns - args.length) none) with
    | .ok (.rt r env) => if pins.all fun i => (getS env i).isSome then .ok r (outPs df.np env) else .no
    | .ok (.nx env) => if pins.all fun i => (getS env i).isSome then .ok (0, .non) (outPs df.np env) else .no
    | .ex x env => .ex x (outPs df.np env)
    | _ => .no
  else .no
def evC (G : Gt) : Nat → Cal
  | 0 => fun _ _ _ => .no
  | n + 1 => fun f args pins => match G[f]? with
    | some df => evBody (evC G n) df args pins
    | none => .no
end Ck

set_option Elab.async false
set_option linter.all false
set_option maxRecDepth 100000
/-! Ck1d: how dicts lie in the heap. -/
namespace Ck
open PySem PySem.Spec PyProof.Rows L2
/-- a key by value, as data -/
def kD : Key → D
  | .inl i => .int i
  | .inr x => .str x
abbrev NPair : (NestedKey × Addr) × V → NestedKey × Addr × Value → Prop := fun p q => p.1.1 = q.1 ∧ p.1.2 = q.2.1 ∧ RelV p.2 q.2.2
/-- a dict whose keys are tuples -/
def DicN (P : Program) (w : World) (h : Heap) (a : Addr) (zs : List ((NestedKey × Addr) × V)) : Prop :=
  zs.length ≤ sizeLine ∧ (a == sysModules) = false ∧ ∃ ys, Paired NPair zs ys ∧ ∃ o es ep, h.get? a = some o ∧ o.ExactDict ∧ o.data = .dict es ep ∧ es.toList = ys.map (entryOfKey (nestedKind P w)) ∧ (ys.map (·.1)).Nodup
def HN (P : Program) (w : World) (a : Addr) (zs : List ((NestedKey × Addr) × V)) : HO := .ext fun h => DicN P w h a zs
theorem HN.get {P : Program} {w : World} {H : Hp} {h : Heap} {a : Addr} {zs : List ((NestedKey × Addr) × V)} (ok : HOk P w H h) (e : H a = some (HN P w a zs)) : DicN P w h a zs := (show ObjOk P w H h a (HN P w a zs) from ok a _ e).1
theorem HN.ok {P : Program} {w : World} {H : Hp} {h : Heap} {a : Addr} {zs : List ((NestedKey × Addr) × V)} (d : DicN P w h a zs) : ObjOk P w H h a (HN P w a zs) := by
  refine ⟨d, ?_, fun h1 h2 d k => ?_⟩
  · obtain ⟨_, _, _, _, o, _, _, e, _⟩ := d; exact ⟨o, e⟩
  · obtain ⟨z, y, ys, r, o, es, ep, e, q⟩ := d
    exact ⟨z, y, ys, r, o, es, ep, k _ e, q⟩
/-- the object o at a is a dict: keys kds at kvs, values vs -/
inductive HD (K : KW) (a : Addr) : List D → List V → List V → HO → Prop
  | k {ks : List Key} {vs : List V} : ks.length = vs.length → ks.Nodup → HD K a (ks.map kD) (ks.map kV) vs (.dK (ks.zip vs))
  | n {kds : List D} {xs : List (NestedKey × Addr)} {vs : List V} : kds ≠ [] → kds.map hk = xs.map (fun x => some x.1) → xs.length = vs.length → (xs.map (·.1)).Nodup → HD K a kds (xs.map fun x => V.ref x.2) vs (HN K.prog K.w a (xs.zip vs))
theorem HD.len {K : KW} {a : Addr} {kds : List D} {kvs vs : List V} {o : HO} (h : HD K a kds kvs vs o) : kds.length = vs.length ∧ kvs.length = vs.length := by
  cases h with
  | k e _ => exact ⟨by rw [List.length_map, e], by rw [List.length_map, e]⟩
  | n _ e e2 _ =>
    have := congrArg List.length e
    rw [List.length_map, List.length_map] at this
    exact ⟨this.trans e2, by rw [List.length_map, e2]⟩
/-- no list, no tuple -/
theorem HD.ne_lst {K : KW} {a : Addr} {kds : List D} {kvs vs xs : List V} (h : HD K a kds kvs vs (.lst xs)) : False := by
  generalize e : HO.lst xs = o at h
  cases h with
  | k _ _ => cases e
  | n _ _ _ _ => unfold HN at e; cases e
theorem HD.ne_tup {K : KW} {a : Addr} {kds : List D} {kvs vs xs : List V} (h : HD K a kds kvs vs (.tup xs)) : False := by
  generalize e : HO.tup xs = o at h
  cases h with
  | k _ _ => cases e
  | n _ _ _ _ => unfold HN at e; cases e
/-- it may be written -/
theorem HD.mut {K : KW} {a : Addr} {kds : List D} {kvs vs : List V} {o : HO} (h : HD K a kds kvs vs o) : Mut (some o) := by
  cases h with
  | k _ _ => exact True.intro
  | n _ _ _ _ => exact True.intro
end Ck

set_option Elab.async false
set_option linter.all false
set_option maxRecDepth 100000
set_option maxHeartbeats 4000000
/-! Ck1t: new tuples, known not to have a dict of their own. -/
namespace Ck
open PySem PySem.Spec PyProof.Rows L2
/-- a plain tuple's object -/
def TO (o : Obj) : Prop := o.cls = .type "tuple" ∧ o.dict = none
/-- a tuple without a dict of its own -/
def SqP (K : PySem.W.Frag) (F : Hp) (a : Addr) (vs : List V) : Prop := (∃ o, F a = some (.frz o (.tup vs)) ∧ TO o) ∨
  (∃ (o : Obj) (its : Array Value) (n : Nat), K.lookup a = some o ∧ o.cls = .type "tuple" ∧ o.data = .seq its n ∧ its.size ≤ sizeLine ∧ Vals vs its.toList ∧ o.dict = none)
theorem SqP.t {K : PySem.W.Frag} {F : Hp} {a : Addr} {vs : List V} (h : SqP K F a vs) : SqT K F a vs := by
  rcases h with ⟨o, h, _⟩ | ⟨o, its, n, h1, h2, h3, h4, h5, _⟩
  · exact .inl (.inr ⟨o, h⟩)
  · exact .inr ⟨o, its, n, h1, h2, h3, h4, h5⟩
abbrev NewT (H : Hp) (xs : List V) (Q : VK) : Prop := ∀ p o, H p = none → TO o → Q (.ref p) (upd H p (.frz o (.tup xs)))
section
variable {X : Cx} {pins : List (Addr × Obj)} {σ : L2.St} {H : Hp} {s : Shared} {xs : List V} {us : List Value}
theorem new_tup {n : Nat} (I : Inv X pins σ H s) (r : Vals xs us) (z : xs.length ≤ sizeLine) {Q : VK} (q : NewT H xs Q) (t : Nat) :
    EP X pins σ Q (.ref s.heap.objs.size) { s with heap := s.heap.push { cls := .type "tuple", data := .seq us.toArray n }, toks := t } := by
  have e : (s.heap.push { cls := .type "tuple", data := .seq us.toArray n }).get? s.heap.objs.size = some { cls := .type "tuple", data := .seq us.toArray n } := Heap.get?_push_size _ rfl
  refine ⟨.ref s.heap.objs.size, _, I.laid (t' := t) (o := .frz { cls := .type "tuple", data := .seq us.toArray n } (.tup xs)) (fun b u e => Heap.get?_push_of_some _ e) (Nat.le_refl _) ?_, rfl, q _ _ (I.hok.fresh (Nat.le_refl _)) ⟨rfl, rfl⟩⟩
  exact ⟨e, z, us, r, ⟨_, e, rfl, _, rfl⟩⟩
end
section
variable {X : Cx} {t : TA} {es : List Expr} {pos : Pos}
def tTupP (t : TA) : TE := fun σ H Q => t σ H fun xs H1 => xs.length ≤ sizeLine ∧ NewT H1 xs Q
theorem pe_tupP {x1} (h : PA X es t) : PE X (.Tuple es x1 pos) (tTupP t) := by
  refine ⟨fun pins s σ H Q I hq => ?_⟩
  refine wpAny_Tuple_spliced (thn (h.run pos pins s σ H _ I hq) fun us s1 ⟨xs, H1, I1, r, z, q⟩ => ⟨by rw [← r.length]; exact z, ?_⟩)
  exact new_tup I1 r z q _
theorem call_tuple_ofP : CallR X (.type "tuple") (fun xs H Q => ∃ p ys, xs = [.ref p] ∧ ((SqL X.K H p ys ∧ NewT H ys Q) ∨ (SqT X.K H p ys ∧ Q (.ref p) H))) := by
  intro pins s σ H xs us Q I r h
  obtain ⟨p, ys, rfl, h⟩ := h
  obtain ⟨u, rfl, rx⟩ := vals1 r
  cases rx
  rcases h with ⟨hq, q⟩ | ⟨hq, q⟩
  · obtain ⟨its, r', pl, hz⟩ := I.list hq
    have hlen := r'.length
    refine call_tuple_list pl.isList (fun h' kp => ?_) (by simp only [List.size_toArray] <;> omega)
    have I1 : Inv X pins σ H { s with heap := h' } := I.kept (t' := s.toks) kp
    exact new_tup I1 r' hz q _
  · obtain ⟨its, r', pl, hz⟩ := I.tuple hq
    exact call_tuple_same pl ⟨.ref p, H, I, rfl, q⟩
def tTupRgP (te : L2.St → Hp → (Int → Int → Hp → Prop) → Prop) : TE := fun σ H Q => te σ H fun a b H1 => RgOk a b ∧ NewT H1 (rgV a b) Q
theorem pe_tupRgP {e : Expr} {te : L2.St → Hp → (Int → Int → Hp → Prop) → Prop} {p pos : Pos} (hc : X.calm = true) (hg : Gl X "tuple") (hm : X.mg "tuple" = none) (he : PRg X e te) (na : starEach [e] X.env = (false, eval e X.env) :: starEach [] X.env := by rfl) : PE X (.Call (.Name "tuple" p) [e] [] pos) (tTupRgP te) := by
  refine ⟨fun pins s σ H Q I h => ?_⟩
  refine Call_ (ld_blt I hg hm boot_tuple (PyProof.Rows.callWith_type1 (args_cons (thn (he pins s σ H _ I h) fun x s1 ⟨r, a, b, t, u, v, H1, ex, hr, I1, ok, q⟩ => args_nil ?_) na) na))
  subst ex
  obtain ⟨b1, b2, b3, b4, b5⟩ := ok
  refine call_tuple_range (n := (b - a).toNat) (I1.ok.hd hc) hr (small_one b1 b2 b3 b4) (rangeSize_nat a b) b5 fun h' tk acc hk hi => ?_
  have I2 : Inv X pins σ H1 { s1 with heap := h', toks := tk } := I1.kept hk
  have := new_tup (n := 0) I2 (vals_rg hi) (by rw [rgV_length, sizeLine_eq]; omega) q tk
  rw [Array.toArray_toList] at this
  exact this
def rCatP (K : PySem.W.Frag) : R2 := fun x y H Q => ∃ a b xs ys, x = .ref a ∧ y = .ref b ∧ SqT K H a xs ∧ SqT K H b ys ∧ xs.length + ys.length ≤ sizeLine ∧
  (xs = [] → Q (.ref b) H) ∧ (xs ≠ [] → ys = [] → Q (.ref a) H) ∧ (xs ≠ [] → ys ≠ [] → NewT H (xs ++ ys) Q)
theorem op_catP : OpR X (binaryOp .Add) (rCatP X.K) := by
  intro pins s σ H x y v u Q I rx ry h
  obtain ⟨a, b, xs, ys, rfl, rfl, ha, hb, hz, q0, q1, q2⟩ := h
  cases rx
  cases ry
  obtain ⟨its, r1, p1, _⟩ := I.tuple ha
  obtain ⟨its2, r2, p2, _⟩ := I.tuple hb
  by_cases hx : xs = []
  · subst hx
    cases r1
    exact cat_tup0 p1 p2 ⟨.ref b, H, I, rfl, q0 rfl⟩
  · refine HT.cat_tup p1 p2 (fun z => hx (r1.nil_iff.mp z)) (fun z => ⟨.ref a, H, I, rfl, q1 hx (r2.nil_iff.mp z)⟩) (fun z => ?_) (by rw [← r1.length, ← r2.length]; exact hz)
    exact new_tup (n := 0) I (r1.append r2) (by rw [List.length_append]; exact hz) (q2 hx (fun w => z (r2.nil_iff.mpr w))) _
def rSlP (K : PySem.W.Frag) : V → Option Int → Option Int → Hp → VK → Prop := fun x lo hi H Q => ∃ a xs, x = .ref a ∧ SqT K H a xs ∧
  (HT.sIx xs.length 0 lo = 0 ∧ HT.sIx xs.length xs.length hi = xs.length → Q (.ref a) H) ∧ (¬ (HT.sIx xs.length 0 lo = 0 ∧ HT.sIx xs.length xs.length hi = xs.length) → NewT H (cutV xs lo hi) Q)
theorem sl_tupP : SlR X (rSlP X.K) := by
  intro pins s σ H x v vl vu lo hi sl Q I rx hs pl pu h
  obtain ⟨a, xs, rfl, hx, q1, q2⟩ := h
  cases rx
  obtain ⟨its, r, ht, hz⟩ := I.tuple hx
  have hlen : its.toArray.size = xs.length := by rw [List.size_toArray]; exact r.length.symm
  refine ⟨"tuple", _, PyProof.Rows.slot_tuple_getitem.lookup, ht.typeIs, ?_⟩
  by_cases hw : HT.sIx xs.length 0 lo = 0 ∧ HT.sIx xs.length xs.length hi = xs.length
  · exact getItem_tuple_whole ht hs pl pu (by rw [hlen]; exact hw) ⟨.ref a, H, I, rfl, q1 hw⟩
  · refine HT.getItem_tuple_cut ht hs pl pu (by rw [hlen]; exact hw) ?_ (by rw [hlen]; exact hz)
    rw [hlen]
    exact new_tup (n := 0) I ((r.drop (HT.sIx xs.length 0 lo)).take (HT.sIx xs.length xs.length hi - HT.sIx xs.length 0 lo)) (Nat.le_trans (cutV_length xs lo hi) hz) (q2 hw) _
def rRepP (K : PySem.W.Frag) : R2 := fun x y H Q => ∃ l k xs, x = .ref l ∧ y = .int k ∧ SqT K H l xs ∧ xs ≠ [] ∧ 2 ≤ k ∧ k ≤ 1000 ∧ xs.length ≤ 1000 ∧ NewT H (List.replicate k.toNat xs).flatten Q
theorem op_repP : OpR X (binaryOp .Mult) (rRepP X.K) := by
  intro pins s σ H x y v u Q I rx ry h
  obtain ⟨l, k, xs, rfl, rfl, hT, hne, h1, h2, hz, q⟩ := h
  cases rx
  obtain ⟨t, rfl⟩ := ry
  obtain ⟨its, r, ⟨⟨cls, dd, data, sl⟩, ho, hc, n, hd⟩, hs⟩ := I.tuple hT
  simp only at hc hd
  subst hc hd
  have hle : its.length = xs.length := r.length.symm
  have hn : its ≠ [] := fun e => hne (by
    rw [e] at hle
    exact List.eq_nil_of_length_eq_zero hle.symm)
  have hi : its.toArray.isEmpty = false := by
    cases its with
    | nil => exact absurd rfl hn
    | cons a b => rfl
  have hsz0 : its.toArray.size = xs.length := by rw [List.size_toArray, hle]
  have hm : ((its.toArray.size : Nat) : Int) * k ≤ 1000000 := by
    rw [hsz0]
    have a1 : ((xs.length : Nat) : Int) * k ≤ 1000 * k := Int.mul_le_mul_of_nonneg_right (by omega) (by omega)
    omega
  have flen : (List.replicate k.toNat its).flatten.length ≤ sizeLine := by
    rw [PyProof.Rows.lm_len_rep_flat, hle, sizeLine_eq]
    have a1 : k.toNat * xs.length ≤ 1000 * 1000 := Nat.mul_le_mul (by omega) hz
    omega
  have c0 : (decide (k < -(2 ^ 63)) || decide (k ≥ 2 ^ 63)) = false := by
    rw [decide_eq_false (by omega), decide_eq_false (by omega)] <;> rfl
  have c1 : (its.toArray.isEmpty || k == 1) = false := by
    rw [hi, Bool.false_or]
    exact beq_eq_false_iff_ne.mpr (by omega)
  have c2 : (decide (k ≤ 0) || its.toArray.isEmpty) = false := by
    rw [hi, Bool.or_false]
    exact decide_eq_false (by omega)
  have c4 : Builtin.Tuple.tupleTooMany (((its.toArray.size : Nat) : Int) * k) = false := by
    unfold Builtin.Tuple.tupleTooMany
    rw [sizeLine_eq]
    exact decide_eq_false (by omega)
  refine wpAny_binaryOp_repeat_ref (T := "tuple") (U := "int") (by decide) ⟨_, ho, rfl⟩ (fun s' => typeIs_int s' k t) noFill_tuple_mul F.fills_int_mul F.slot_int_rmul repeat_tuple F.slot_int_index.lookup
    (call_meets F.slot_int_rmul (typeIs_int s k t) F.entry_int_rmul (F.args_int_rmul_2 _ _) (int_rmul_tuple k t l its.toArray n dd sl)
      ⟨ho, rfl, ⟨_, ho, rfl⟩, call_meets F.slot_tuple_mul ⟨_, ho, rfl⟩ F.entry_tuple_mul (F.args_tuple_mul_2 _ _) (tuple_mulW l its.toArray n dd sl k t c0 c1 c2 (by omega) c4 (by rw [size_rep, List.size_toArray]; exact flen)) ⟨ho, ?_⟩⟩)
  rw [size_rep]
  exact new_tup (n := 0) I (r.rep k.toNat) (by rw [PyProof.Rows.lm_len_rep_flat, sizeLine_eq]; have a1 : k.toNat * xs.length ≤ 1000 * 1000 := Nat.mul_le_mul (by omega) hz; omega) q _
end
end Ck

set_option Elab.async false
set_option linter.all false
set_option maxRecDepth 100000
/-! Ck2: how data and slots lie in the heap. -/
namespace Ck
open PySem PySem.Spec PyProof.Rows L2

def Le (F H : Hp) : Prop := ∀ a o, F a = some o → H a = some o
theorem Le.refl {F : Hp} : Le F F := fun _ _ h => h
theorem Le.trans {F G H : Hp} (a : Le F G) (b : Le G H) : Le F H := fun x o h => b x o (a x o h)

section
variable (K : KW)
mutual
/-- shared data: all that it holds stands in F -/
inductive RD (F : Hp) : V → D → Prop
  | non : RD F .non .non
  | bl (b : Bool) : RD F (.bl b) (.bl b)
  | int (i : Int) : RD F (.int i) (.int i)
  | str (s : Str) : RD F (.str s) (.str s)
  | tup {a : Addr} {vs : List V} {ds : List D} : SqP K F a vs → RDs F vs ds → RD F (.ref a) (.tup ds)
  | lst {a : Addr} {vs : List V} {ds : List D} : F a = some (.lst vs) → RDs F vs ds → RD F (.ref a) (.lst ds)
  | scr {a : Addr} {vs : List V} {ds : List D} : SqL K F a vs → RDs F vs ds → RD F (.ref a) (.scr ds)
  | dic {a : Addr} {kds ds : List D} {kvs vs : List V} {o : HO} : F a = some o → HD K a kds kvs vs o → RDs F kvs kds → RDs F vs ds → RD F (.ref a) (.dic kds ds)
inductive RDs (F : Hp) : List V → List D → Prop
  | nil : RDs F [] []
  | cons {v : V} {vs : List V} {d : D} {ds : List D} : RD F v d → RDs F vs ds → RDs F (v :: vs) (d :: ds)
end
mutual
/-- a thing of one's own to depth n, at the addresses A -/
inductive RO (F H : Hp) : Nat → V → D → List Addr → Prop
  | zero {v : V} {d : D} : RD K F v d → RO F H 0 v d []
  | flat {n : Nat} {v : V} {d : D} : RD K F v d → d.isC = false → RO F H n v d []
  | lst {n : Nat} {a : Addr} {vs : List V} {ds : List D} {A : List Addr} : H a = some (.lst vs) → ROs F H n vs ds A → RO F H (n + 1) (.ref a) (.lst ds) (a :: A)
  | dic {n : Nat} {a : Addr} {kds ds : List D} {kvs vs : List V} {o : HO} {A : List Addr} : H a = some o → HD K a kds kvs vs o → RDs K F kvs kds → ROs F H n vs ds A → RO F H (n + 1) (.ref a) (.dic kds ds) (a :: A)
inductive ROs (F H : Hp) : Nat → List V → List D → List Addr → Prop
  | nil {n : Nat} : ROs F H n [] [] []
  | cons {n : Nat} {v : V} {vs : List V} {d : D} {ds : List D} {A B : List Addr} : RO F H n v d A → ROs F H n vs ds B → ROs F H n (v :: vs) (d :: ds) (A ++ B)
end
end

variable {K : KW} {F F' G H H' : Hp}

theorem SqT.up {a : Addr} {vs : List V} (l : Le F F') (h : SqT K F a vs) : SqT K F' a vs := by
  rcases h with (h | ⟨o, h⟩) | h
  · exact .inl (.inl (l _ _ h))
  · exact .inl (.inr ⟨o, l _ _ h⟩)
  · exact .inr h
theorem SqP.up {a : Addr} {vs : List V} (l : Le F F') (h : SqP K F a vs) : SqP K F' a vs := by
  rcases h with ⟨o, h, t⟩ | h
  · exact .inl ⟨o, l _ _ h, t⟩
  · exact .inr h
instance {K : PySem.W.Frag} {F : Hp} {a : Addr} {vs : List V} : Coe (SqP K F a vs) (SqT K F a vs) := ⟨SqP.t⟩
theorem SqL.up {a : Addr} {vs : List V} (l : Le F F') (h : SqL K F a vs) : SqL K F' a vs := by
  rcases h with (h | ⟨o, h⟩) | h
  · exact .inl (.inl (l _ _ h))
  · exact .inl (.inr ⟨o, l _ _ h⟩)
  · exact .inr h
mutual
theorem RD.up (l : Le F F') : ∀ {v : V} {d : D}, RD K F v d → RD K F' v d
  | _, _, .non => .non
  | _, _, .bl b => .bl b
  | _, _, .int i => .int i
  | _, _, .str s => .str s
  | _, _, .tup h r => .tup (SqP.up l h) (RDs.up l r)
  | _, _, .lst h r => .lst (l _ _ h) (RDs.up l r)
  | _, _, .scr h r => .scr (SqL.up l h) (RDs.up l r)
  | _, _, .dic h e k r => .dic (l _ _ h) e (RDs.up l k) (RDs.up l r)
theorem RDs.up (l : Le F F') : ∀ {vs : List V} {ds : List D}, RDs K F vs ds → RDs K F' vs ds
  | _, _, .nil => .nil
  | _, _, .cons a b => .cons (RD.up l a) (RDs.up l b)
end
/-- lists of data -/
theorem RDs.length : ∀ {vs : List V} {ds : List D}, RDs K F vs ds → vs.length = ds.length
  | _, _, .nil => rfl
  | _, _, .cons _ r => by rw [List.length_cons, List.length_cons, RDs.length r]
theorem RDs.get : ∀ {vs : List V} {ds : List D} {i : Nat} {d : D}, RDs K F vs ds → ds[i]? = some d → ∃ v, vs[i]? = some v ∧ RD K F v d
  | _, _, _, _, .nil, h => by simp at h
  | _, _, 0, _, .cons a _, h => by simp at h; subst h; exact ⟨_, by simp, a⟩
  | _, _, i + 1, _, .cons _ r, h => by
    obtain ⟨v, e, q⟩ := RDs.get (i := i) r (by simpa using h)
    exact ⟨v, by simpa using e, q⟩
theorem RDs.getV : ∀ {vs : List V} {ds : List D} {i : Nat} {v : V}, RDs K F vs ds → vs[i]? = some v → ∃ d, ds[i]? = some d ∧ RD K F v d
  | _, _, _, _, .nil, h => by simp at h
  | _, _, 0, _, .cons a _, h => by simp at h; subst h; exact ⟨_, by simp, a⟩
  | _, _, i + 1, _, .cons _ r, h => by
    obtain ⟨v, e, q⟩ := RDs.getV (i := i) r (by simpa using h)
    exact ⟨v, by simpa using e, q⟩
theorem RDs.app : ∀ {vs ws : List V} {ds es : List D}, RDs K F vs ds → RDs K F ws es → RDs K F (vs ++ ws) (ds ++ es)
  | _, _, _, _, .nil, s => s
  | _, _, _, _, .cons a r, s => .cons a (RDs.app r s)
theorem RDs.take : ∀ {vs : List V} {ds : List D} (n : Nat), RDs K F vs ds → RDs K F (vs.take n) (ds.take n)
  | _, _, 0, _ => by simpa using RDs.nil
  | _, _, _ + 1, .nil => by simpa using RDs.nil
  | _, _, n + 1, .cons a r => by simpa using RDs.cons a (RDs.take n r)
theorem RDs.drop : ∀ {vs : List V} {ds : List D} (n : Nat), RDs K F vs ds → RDs K F (vs.drop n) (ds.drop n)
  | _, _, 0, r => by simpa using r
  | _, _, _ + 1, .nil => by simpa using RDs.nil
  | _, _, n + 1, .cons _ r => by simpa using RDs.drop n r
theorem RDs.rev : ∀ {vs : List V} {ds : List D}, RDs K F vs ds → RDs K F vs.reverse ds.reverse
  | _, _, .nil => by simpa using RDs.nil
  | _, _, .cons a r => by simpa using RDs.app (RDs.rev r) (.cons a .nil)
theorem RDs.rep {vs : List V} {ds : List D} (r : RDs K F vs ds) : ∀ k : Nat, RDs K F (List.replicate k vs).flatten (List.replicate k ds).flatten
  | 0 => by simpa using RDs.nil
  | k + 1 => by simpa [List.replicate_succ] using RDs.app r (RDs.rep r k)

/-! ### the addresses -/
mutual
theorem RO.there : ∀ {n : Nat} {v : V} {d : D} {A : List Addr}, RO K F H n v d A → ∀ a ∈ A, ∃ o, H a = some o
  | _, _, _, _, .zero _, a, h => by cases h
  | _, _, _, _, .flat _ _, a, h => by cases h
  | _, _, _, _, .lst h r, a, m => by
    rcases List.mem_cons.mp m with e | m
    · subst e; exact ⟨_, h⟩
    · exact ROs.there r a m
  | _, _, _, _, .dic h _ _ r, a, m => by
    rcases List.mem_cons.mp m with e | m
    · subst e; exact ⟨_, h⟩
    · exact ROs.there r a m
theorem ROs.there : ∀ {n : Nat} {vs : List V} {ds : List D} {A : List Addr}, ROs K F H n vs ds A → ∀ a ∈ A, ∃ o, H a = some o
  | _, _, _, _, .nil, a, h => by cases h
  | _, _, _, _, .cons p r, a, m => (List.mem_append.mp m).elim (RO.there p a) (ROs.there r a)
end
mutual
/-- what is one's own stays where F grows elsewhere and the addresses stay -/
theorem RO.stay (l : Le F F') : ∀ {n : Nat} {v : V} {d : D} {A : List Addr}, RO K F H n v d A → (∀ a ∈ A, ∀ o, H a = some o → H' a = some o) → RO K F' H' n v d A
  | _, _, _, _, .zero r, _ => .zero (r.up l)
  | _, _, _, _, .flat r e, _ => .flat (r.up l) e
  | _, _, _, _, .lst h r, k => .lst (k _ (List.mem_cons_self ..) _ h) (ROs.stay l r fun a m => k a (List.mem_cons_of_mem _ m))
  | _, _, _, _, .dic h e q r, k => .dic (k _ (List.mem_cons_self ..) _ h) e (q.up l) (ROs.stay l r fun a m => k a (List.mem_cons_of_mem _ m))
theorem ROs.stay (l : Le F F') : ∀ {n : Nat} {vs : List V} {ds : List D} {A : List Addr}, ROs K F H n vs ds A → (∀ a ∈ A, ∀ o, H a = some o → H' a = some o) → ROs K F' H' n vs ds A
  | _, _, _, _, .nil, _ => .nil
  | _, _, _, _, .cons p r, k => .cons (RO.stay l p fun a m => k a (List.mem_append_left _ m)) (ROs.stay l r fun a m => k a (List.mem_append_right _ m))
end
mutual
/-- shared from now on -/
theorem RO.freeze (l : Le F F') : ∀ {n : Nat} {v : V} {d : D} {A : List Addr}, RO K F H n v d A → (∀ a ∈ A, ∀ o, H a = some o → F' a = some o) → RD K F' v d
  | _, _, _, _, .zero r, _ => r.up l
  | _, _, _, _, .flat r _, _ => r.up l
  | _, _, _, _, .lst h r, k => .lst (k _ (List.mem_cons_self ..) _ h) (ROs.freeze l r fun a m => k a (List.mem_cons_of_mem _ m))
  | _, _, _, _, .dic h e q r, k => .dic (k _ (List.mem_cons_self ..) _ h) e (q.up l) (ROs.freeze l r fun a m => k a (List.mem_cons_of_mem _ m))
theorem ROs.freeze (l : Le F F') : ∀ {n : Nat} {vs : List V} {ds : List D} {A : List Addr}, ROs K F H n vs ds A → (∀ a ∈ A, ∀ o, H a = some o → F' a = some o) → RDs K F' vs ds
  | _, _, _, _, .nil, _ => .nil
  | _, _, _, _, .cons p r, k => .cons (RO.freeze l p fun a m => k a (List.mem_append_left _ m)) (ROs.freeze l r fun a m => k a (List.mem_append_right _ m))
end
/-- read at the heap as it is -/
theorem RO.read {n : Nat} {v : V} {d : D} {A : List Addr} (r : RO K F H n v d A) (l : Le F H) : RD K H v d := r.freeze l fun _ _ _ h => h
theorem ROs.read {n : Nat} {v : List V} {d : List D} {A : List Addr} (r : ROs K F H n v d A) (l : Le F H) : RDs K H v d := r.freeze l fun _ _ _ h => h

/-- F with the addresses A as they stand in H -/
def frz (F H : Hp) (A : List Addr) : Hp := fun a => if a ∈ A then H a else F a
theorem frz_in {A : List Addr} {a : Addr} (h : a ∈ A) : frz F H A a = H a := by unfold frz; rw [if_pos h]
theorem frz_out {A : List Addr} {a : Addr} (h : a ∉ A) : frz F H A a = F a := by unfold frz; rw [if_neg h]
theorem le_frz {A : List Addr} (l : Le F H) : Le F (frz F H A) := fun a o h => by
  by_cases m : a ∈ A
  · rw [frz_in m]; exact l a o h
  · rw [frz_out m]; exact h
theorem frz_le {A : List Addr} (l : Le F H) : Le (frz F H A) H := fun a o h => by
  by_cases m : a ∈ A
  · rw [frz_in m] at h; exact h
  · rw [frz_out m] at h; exact l a o h
theorem frz_new {A : List Addr} {a : Addr} {o : HO} (h : frz F H A a = some o) : F a = some o ∨ a ∈ A := by
  by_cases m : a ∈ A
  · exact .inr m
  · rw [frz_out m] at h; exact .inl h
theorem RO.frozen {n : Nat} {v : V} {d : D} {A B : List Addr} (r : RO K F H n v d A) (l : Le F H) (h : ∀ a ∈ A, a ∈ B) : RD K (frz F H B) v d :=
  r.freeze (le_frz l) fun a m o e => by rw [frz_in (h a m)]; exact e
theorem ROs.frozen {n : Nat} {v : List V} {d : List D} {A B : List Addr} (r : ROs K F H n v d A) (l : Le F H) (h : ∀ a ∈ A, a ∈ B) : RDs K (frz F H B) v d :=
  r.freeze (le_frz l) fun a m o e => by rw [frz_in (h a m)]; exact e
mutual
/-- less deep: what lies deeper is shared -/
theorem RO.lower (l : Le F H) : ∀ {n m : Nat} {v : V} {d : D} {A : List Addr}, RO K F H n v d A → m ≤ n → ∃ Z B : List Addr, (∀ a, a ∈ A ↔ a ∈ Z ∨ a ∈ B) ∧ (A.Nodup → B.Nodup ∧ ∀ a ∈ Z, a ∉ B) ∧
    ∀ F', Le F F' → (∀ a ∈ Z, ∀ o, H a = some o → F' a = some o) → RO K F' H m v d B
  | n, 0, v, d, A, r, _ => ⟨A, [], by simp, fun _ => ⟨List.nodup_nil, fun _ _ h => nomatch h⟩, fun F' l' k => .zero (r.freeze l' k)⟩
  | _, _ + 1, _, _, _, .zero _, h => absurd h (by omega)
  | _, _ + 1, _, _, _, .flat r e, _ => ⟨[], [], by simp, fun _ => ⟨List.nodup_nil, fun _ h => nomatch h⟩, fun F' l' _ => .flat (r.up l') e⟩
  | _, m + 1, _, _, _, .lst (a := b) h r, hm => by
    obtain ⟨Z, B, e, nd, k⟩ := ROs.lower l (m := m) r (by omega)
    refine ⟨Z, b :: B, fun a => by simp only [List.mem_cons, e]; constructor <;> (intro h; rcases h with h | h | h <;> simp [h]), fun q => ?_, fun F' l' kk => ?_⟩
    · rw [List.nodup_cons] at q
      obtain ⟨n1, n2⟩ := nd q.2
      refine ⟨List.nodup_cons.mpr ⟨fun m => q.1 ((e b).mpr (.inr m)), n1⟩, fun a m => ?_⟩
      rw [List.mem_cons, not_or]
      exact ⟨fun z => q.1 (by rw [← z]; exact (e a).mpr (.inl m)), n2 a m⟩
    · exact .lst h (k F' l' kk)
  | _, m + 1, _, _, _, .dic (a := b) h hd hq r, hm => by
    obtain ⟨Z, B, e, nd, k⟩ := ROs.lower l (m := m) r (by omega)
    refine ⟨Z, b :: B, fun a => by simp only [List.mem_cons, e]; constructor <;> (intro h; rcases h with h | h | h <;> simp [h]), fun q => ?_, fun F' l' kk => ?_⟩
    · rw [List.nodup_cons] at q
      obtain ⟨n1, n2⟩ := nd q.2
      refine ⟨List.nodup_cons.mpr ⟨fun m => q.1 ((e b).mpr (.inr m)), n1⟩, fun a m => ?_⟩
      rw [List.mem_cons, not_or]
      exact ⟨fun z => q.1 (by rw [← z]; exact (e a).mpr (.inl m)), n2 a m⟩
    · exact .dic h hd (hq.up l') (k F' l' kk)
theorem ROs.lower (l : Le F H) : ∀ {n m : Nat} {v : List V} {d : List D} {A : List Addr}, ROs K F H n v d A → m ≤ n → ∃ Z B : List Addr, (∀ a, a ∈ A ↔ a ∈ Z ∨ a ∈ B) ∧ (A.Nodup → B.Nodup ∧ ∀ a ∈ Z, a ∉ B) ∧
    ∀ F', Le F F' → (∀ a ∈ Z, ∀ o, H a = some o → F' a = some o) → ROs K F' H m v d B
  | _, _, _, _, _, .nil, _ => ⟨[], [], by simp, fun _ => ⟨List.nodup_nil, fun _ h => nomatch h⟩, fun _ _ _ => .nil⟩
  | _, m, _, _, _, .cons (A := A1) (B := A2) p r, hm => by
    obtain ⟨Z1, B1, e1, nd1, k1⟩ := RO.lower l (m := m) p hm
    obtain ⟨Z2, B2, e2, nd2, k2⟩ := ROs.lower l (m := m) r hm
    refine ⟨Z1 ++ Z2, B1 ++ B2, fun a => by simp only [List.mem_append, e1, e2]; constructor <;> (intro h; rcases h with (h | h) | (h | h) <;> simp [h]), fun q => ?_, fun F' l' k => ?_⟩
    · rw [List.nodup_append] at q
      obtain ⟨qa, qb, qc⟩ := q
      obtain ⟨n1, z1⟩ := nd1 qa
      obtain ⟨n2, z2⟩ := nd2 qb
      refine ⟨List.nodup_append.mpr ⟨n1, n2, fun a ha b hb => qc a ((e1 a).mpr (.inr ha)) b ((e2 b).mpr (.inr hb))⟩, fun a m => ?_⟩
      rw [List.mem_append, not_or]
      rcases List.mem_append.mp m with m | m
      · exact ⟨z1 a m, fun h => qc a ((e1 a).mpr (.inl m)) a ((e2 a).mpr (.inr h)) rfl⟩
      · exact ⟨fun h => qc a ((e1 a).mpr (.inr h)) a ((e2 a).mpr (.inl m)) rfl, z2 a m⟩
    · exact .cons (k1 F' l' fun a m => k a (List.mem_append_left _ m)) (k2 F' l' fun a m => k a (List.mem_append_right _ m))
end
theorem ROs.length : ∀ {n : Nat} {vs : List V} {ds : List D} {A : List Addr}, ROs K F H n vs ds A → vs.length = ds.length
  | _, _, _, _, .nil => rfl
  | _, _, _, _, .cons _ r => by rw [List.length_cons, List.length_cons, ROs.length r]
theorem ROs.of_rd : ∀ {n : Nat} {vs : List V} {ds : List D}, RDs K F vs ds → (n = 0 ∨ ∀ d ∈ ds, d.isC = false) → ROs K F H n vs ds []
  | _, _, _, .nil, _ => .nil
  | n, _, _, .cons (d := d) a r, h => by
    have q := ROs.of_rd (n := n) r (h.imp id fun h d m => h d (List.mem_cons_of_mem _ m))
    rcases h with h | h
    · subst h; exact .cons (A := []) (B := []) (.zero a) q
    · exact .cons (A := []) (B := []) (.flat a (h _ (List.mem_cons_self ..))) q
theorem ROs.rd0 : ∀ {vs : List V} {ds : List D} {A : List Addr}, ROs K F H 0 vs ds A → RDs K F vs ds ∧ A = []
  | _, _, _, .nil => ⟨.nil, rfl⟩
  | _, _, _, .cons (.zero a) r => ⟨.cons a (ROs.rd0 r).1, by rw [(ROs.rd0 r).2]; rfl⟩
  | _, _, _, .cons (.flat a _) r => ⟨.cons a (ROs.rd0 r).1, by rw [(ROs.rd0 r).2]; rfl⟩
theorem RO.rd0 {v : V} {d : D} {A : List Addr} (r : RO K F H 0 v d A) : RD K F v d ∧ A = [] := by
  cases r with
  | zero r => exact ⟨r, rfl⟩
  | flat r _ => exact ⟨r, rfl⟩
theorem RO.rdf {n : Nat} {v : V} {d : D} {A : List Addr} (r : RO K F H n v d A) (h : d.isC = false) : RD K F v d ∧ A = [] := by
  cases r with
  | zero r => exact ⟨r, rfl⟩
  | flat r _ => exact ⟨r, rfl⟩
  | lst _ _ => cases h
  | dic _ _ _ _ => cases h
theorem ROs.app : ∀ {n : Nat} {vs ws : List V} {ds es : List D} {A B : List Addr}, ROs K F H n vs ds A → ROs K F H n ws es B → ROs K F H n (vs ++ ws) (ds ++ es) (A ++ B)
  | _, _, _, _, _, _, _, .nil, s => s
  | _, _, _, _, _, _, _, .cons a r, s => by rw [List.append_assoc]; exact .cons a (ROs.app r s)
theorem ROs.rev : ∀ {n : Nat} {vs : List V} {ds : List D} {A : List Addr}, ROs K F H n vs ds A → ∃ C : List Addr, C.Perm A ∧ ROs K F H n vs.reverse ds.reverse C
  | _, _, _, _, .nil => ⟨[], .refl _, by simpa using ROs.nil⟩
  | _, _, _, _, .cons (A := A) (B := B) a r => by
    obtain ⟨C, p, q⟩ := ROs.rev r
    refine ⟨C ++ A, (List.perm_append_comm).trans (p.append_left A), ?_⟩
    have one : ROs K F H _ [_] [_] (A ++ []) := .cons a .nil
    rw [List.append_nil] at one
    simpa using q.app one
/-- one item taken out -/
theorem ROs.at : ∀ {n : Nat} {vs : List V} {ds : List D} {A : List Addr} {i : Nat} {d : D}, ROs K F H n vs ds A → ds[i]? = some d →
    ∃ v A1 A2 A3, vs[i]? = some v ∧ A = A1 ++ (A2 ++ A3) ∧ RO K F H n v d A2 ∧ ROs K F H n (vs.take i) (ds.take i) A1 ∧ ROs K F H n (vs.drop (i + 1)) (ds.drop (i + 1)) A3
  | _, _, _, _, _, _, .nil, h => by simp at h
  | _, _, _, _, 0, _, .cons (A := A) (B := B) a r, h => by
    simp at h; subst h
    exact ⟨_, [], A, B, by simp, rfl, a, by simpa using ROs.nil, by simpa using r⟩
  | _, _, _, _, i + 1, _, .cons (A := A) a r, h => by
    obtain ⟨v, A1, A2, A3, e1, e2, q1, q2, q3⟩ := ROs.at (i := i) r (by simpa using h)
    refine ⟨v, A ++ A1, A2, A3, by simpa using e1, by rw [e2, List.append_assoc], q1, ?_, by simpa using q3⟩
    simpa using ROs.cons a q2

theorem ROs.split : ∀ {n : Nat} {vs : List V} {ds : List D} {A : List Addr} (i : Nat), ROs K F H n vs ds A → ∃ A1 A2, A = A1 ++ A2 ∧ ROs K F H n (vs.take i) (ds.take i) A1 ∧ ROs K F H n (vs.drop i) (ds.drop i) A2
  | _, _, _, _, _, .nil => ⟨[], [], rfl, by simpa using ROs.nil, by simpa using ROs.nil⟩
  | _, _, _, A, 0, r => ⟨[], A, rfl, by simpa using ROs.nil, by simpa using r⟩
  | _, _, _, _, i + 1, .cons (A := A) a r => by
    obtain ⟨A1, A2, e, r1, r2⟩ := ROs.split i r
    exact ⟨A ++ A1, A2, by rw [e, List.append_assoc], by simpa using ROs.cons a r1, by simpa using r2⟩

/-! ### the slots -/
section
variable (K)
inductive REnv (F H : Hp) : List (Option V) → Env → List Addr → Prop
  | nil : REnv F H [] [] []
  | hid {x : Option V} {σ : List (Option V)} {env : Env} {A : List Addr} : REnv F H σ env A → REnv F H (x :: σ) (none :: env) A
  | has {v : V} {n : Nat} {d : D} {σ : List (Option V)} {env : Env} {A B : List Addr} : RO K F H n v d A → REnv F H σ env B → REnv F H (some v :: σ) (some (n, d) :: env) (A ++ B)
structure Rep (F H : Hp) (σ : List (Option V)) (env : Env) (As : List Addr) : Prop where
  le : Le F H
  nd : As.Nodup
  out : ∀ a ∈ As, F a = none
  env : ∃ A0, A0.Perm As ∧ REnv K F H σ env A0
end
theorem REnv.there : ∀ {σ : List (Option V)} {env : Env} {A : List Addr}, REnv K F H σ env A → ∀ a ∈ A, ∃ o, H a = some o
  | _, _, _, .nil, a, h => by cases h
  | _, _, _, .hid r, a, h => REnv.there r a h
  | _, _, _, .has p r, a, h => (List.mem_append.mp h).elim (p.there a) (REnv.there r a)
theorem REnv.stay (l : Le F F') : ∀ {σ : List (Option V)} {env : Env} {A : List Addr}, REnv K F H σ env A → (∀ a ∈ A, ∀ o, H a = some o → H' a = some o) → REnv K F' H' σ env A
  | _, _, _, .nil, _ => .nil
  | _, _, _, .hid r, k => .hid (REnv.stay l r k)
  | _, _, _, .has p r, k => .has (p.stay l fun a m => k a (List.mem_append_left _ m)) (REnv.stay l r fun a m => k a (List.mem_append_right _ m))
theorem REnv.length : ∀ {σ : List (Option V)} {env : Env} {A : List Addr}, REnv K F H σ env A → σ.length = env.length
  | _, _, _, .nil => rfl
  | _, _, _, .hid r => by rw [List.length_cons, List.length_cons, REnv.length r]
  | _, _, _, .has _ r => by rw [List.length_cons, List.length_cons, REnv.length r]
/-- a slot's thing, taken out -/
theorem REnv.focus : ∀ {σ : List (Option V)} {env : Env} {A : List Addr} {i : Nat} {n : Nat} {d : D}, REnv K F H σ env A → getS env i = some (n, d) →
    ∃ v A1 A2 A3, σ[i]? = some (some v) ∧ A = A1 ++ (A2 ++ A3) ∧ RO K F H n v d A2 ∧ REnv K F H σ (env.set i none) (A1 ++ A3)
  | _, _, _, _, _, _, .nil, h => by simp [getS] at h
  | _, _, _, 0, _, _, .hid r, h => by simp [getS] at h
  | _, _, _, i + 1, _, _, .hid r, h => by
    obtain ⟨v, A1, A2, A3, e1, e2, q, q2⟩ := REnv.focus (i := i) r (by simpa [getS] using h)
    exact ⟨v, A1, A2, A3, by simpa using e1, e2, q, by simpa using REnv.hid q2⟩
  | _, _, _, 0, _, _, .has (A := A) (B := B) p r, h => by
    simp [getS] at h
    obtain ⟨rfl, rfl⟩ := h
    exact ⟨_, [], A, B, by simp, rfl, p, by simpa using REnv.hid r⟩
  | _, _, _, i + 1, _, _, .has (A := A) p r, h => by
    obtain ⟨v, A1, A2, A3, e1, e2, q, q2⟩ := REnv.focus (i := i) r (by simpa [getS] using h)
    refine ⟨v, A ++ A1, A2, A3, by simpa using e1, by rw [e2, List.append_assoc], q, ?_⟩
    rw [List.append_assoc]
    simpa using REnv.has p q2
/-- a slot's thing, put in -/
theorem REnv.fill : ∀ {σ : List (Option V)} {env : Env} {B : List Addr} {i : Nat} {n : Nat} {v : V} {d : D} {A : List Addr}, REnv K F H σ env B → σ[i]? = some (some v) → RO K F H n v d A →
    ∃ C, REnv K F H σ (env.set i (some (n, d))) C ∧ (∃ B', C.Perm (A ++ B') ∧ B'.Sublist B) ∧ (getS env i = none → C.Perm (A ++ B))
  | _, _, _, _, _, _, _, _, .nil, e, _ => by simp at e
  | _, _, B, 0, _, _, _, A, .hid r, e, q => by
    simp at e; subst e
    exact ⟨A ++ B, by simpa using REnv.has q r, ⟨B, .refl _, .refl _⟩, fun _ => .refl _⟩
  | _, _, _, i + 1, _, _, _, _, .hid r, e, q => by
    obtain ⟨C, r1, ⟨B', p1, s1⟩, p2⟩ := REnv.fill (i := i) r (by simpa using e) q
    exact ⟨C, by simpa using REnv.hid r1, ⟨B', p1, s1⟩, fun h => p2 (by simpa [getS] using h)⟩
  | _, _, _, 0, _, _, _, A, .has (A := A1) (B := B1) p r, e, q => by
    simp at e; subst e
    exact ⟨A ++ B1, by simpa using REnv.has q r, ⟨B1, .refl _, List.sublist_append_right ..⟩, fun h => by simp [getS] at h⟩
  | _, _, _, i + 1, _, _, _, A, .has (A := A1) (B := B1) p r, e, q => by
    obtain ⟨C, r1, ⟨B', p1, s1⟩, p2⟩ := REnv.fill (i := i) r (by simpa using e) q
    refine ⟨A1 ++ C, by simpa using REnv.has p r1, ⟨A1 ++ B', ?_, List.Sublist.append_left s1 _⟩, fun h => ?_⟩
    · exact (List.Perm.append_left A1 p1).trans (by simpa [List.append_assoc] using (List.perm_append_comm (l₁ := A1) (l₂ := A)).append_right B')
    · exact (List.Perm.append_left A1 (p2 (by simpa [getS] using h))).trans (by simpa [List.append_assoc] using (List.perm_append_comm (l₁ := A1) (l₂ := A)).append_right B1)
/-- a slot forgotten, and its value too -/
theorem REnv.drop : ∀ {σ : List (Option V)} {env : Env} {B : List Addr} (i : Nat) (x : Option V), REnv K F H σ env B → ∃ C, C.Sublist B ∧ REnv K F H (σ.set i x) (env.set i none) C
  | _, _, _, _, _, .nil => ⟨[], .refl _, by simpa using REnv.nil⟩
  | _, _, B, 0, _, .hid r => ⟨B, .refl _, by simpa using REnv.hid r⟩
  | _, _, _, i + 1, x, .hid r => by
    obtain ⟨C, s, q⟩ := REnv.drop i x r
    exact ⟨C, s, by simpa using REnv.hid q⟩
  | _, _, _, 0, _, .has (A := A) (B := B) _ r => ⟨B, List.sublist_append_right .., by simpa using REnv.hid r⟩
  | _, _, _, i + 1, x, .has (A := A) (B := B) p r => by
    obtain ⟨C, s, q⟩ := REnv.drop i x r
    exact ⟨A ++ C, List.Sublist.append_left s _, by simpa using REnv.has p q⟩

/-! ### what a step may do -/
structure Ext (F H : Hp) (As : List Addr) (F' H' : Hp) (As' : List Addr) : Prop where
  le : Le F F'
  new : ∀ a o, F' a = some o → F a = some o ∨ a ∈ As ∨ H a = none
  own : ∀ a ∈ As', a ∈ As ∨ H a = none
  keep : ∀ a o, H a = some o → a ∉ As → H' a = some o
theorem Ext.refl {As : List Addr} : Ext F H As F H As := ⟨Le.refl, fun _ _ h => .inl h, fun _ h => .inl h, fun _ _ h _ => h⟩
theorem Ext.sub {As Bs Bs' : List Addr} {F' H' : Hp} (e : Ext F H As F' H' Bs) (h : ∀ a ∈ Bs', a ∈ Bs) : Ext F H As F' H' Bs' := ⟨e.le, e.new, fun a m => e.own a (h a m), e.keep⟩
theorem Ext.more {As As2 Bs : List Addr} {F' H' : Hp} (e : Ext F H As F' H' Bs) (h : ∀ a ∈ As, a ∈ As2) : Ext F H As2 F' H' Bs :=
  ⟨e.le, fun a o q => (e.new a o q).imp id (Or.imp (h a) id), fun a m => (e.own a m).imp (h a) id, fun a o q n => e.keep a o q fun m => n (h a m)⟩
theorem Ext.trans {As Bs Cs : List Addr} {F1 H1 F2 H2 : Hp} (a : Ext F H As F1 H1 Bs) (b : Ext F1 H1 Bs F2 H2 Cs) : Ext F H As F2 H2 Cs where
  le := a.le.trans b.le
  new := fun x o h => by
    rcases b.new x o h with h | h | h
    · exact a.new x o h
    · exact .inr (a.own x h)
    · refine .inr ?_
      by_cases m : x ∈ As
      · exact .inl m
      · refine .inr ?_
        cases q : H x with
        | none => rfl
        | some u => rw [a.keep x u q m] at h; cases h
  own := fun x h => by
    rcases b.own x h with h | h
    · exact a.own x h
    · by_cases m : x ∈ As
      · exact .inl m
      · refine .inr ?_
        cases q : H x with
        | none => rfl
        | some u => rw [a.keep x u q m] at h; cases h
  keep := fun x o h m => b.keep x o (a.keep x o h m) fun z => by
    rcases a.own x z with z | z
    · exact m z
    · rw [h] at z; cases z
/-- what stands apart stays apart -/
theorem Ext.apart {As As' : List Addr} {F' H' : Hp} (e : Ext F H As F' H' As') {a : Addr} (h : ∃ o, H a = some o) (m : a ∉ As) (f : F a = none) : a ∉ As' ∧ F' a = none := by
  obtain ⟨o, h⟩ := h
  refine ⟨fun z => ?_, ?_⟩
  · rcases e.own a z with z | z
    · exact m z
    · rw [h] at z; cases z
  · cases q : F' a with
    | none => rfl
    | some u =>
      rcases e.new a u q with z | z | z
      · rw [f] at z; cases z
      · exact absurd z m
      · rw [h] at z; cases z
theorem RO.frame {n : Nat} {v : V} {d : D} {A As As' : List Addr} {F' H' : Hp} (r : RO K F H n v d A) (e : Ext F H As F' H' As') (m : ∀ a ∈ A, a ∉ As) : RO K F' H' n v d A :=
  r.stay e.le fun a h o q => e.keep a o q (m a h)
theorem ROs.frame {n : Nat} {v : List V} {d : List D} {A As As' : List Addr} {F' H' : Hp} (r : ROs K F H n v d A) (e : Ext F H As F' H' As') (m : ∀ a ∈ A, a ∉ As) : ROs K F' H' n v d A :=
  r.stay e.le fun a h o q => e.keep a o q (m a h)

/-! ### Rep -/
section
variable {σ : List (Option V)} {env : Env} {As : List Addr}
theorem Rep.there (r : Rep K F H σ env As) : ∀ a ∈ As, ∃ o, H a = some o := fun a m => by
  obtain ⟨A0, p, q⟩ := r.env
  exact q.there a (p.mem_iff.mpr m)
theorem Rep.len (r : Rep K F H σ env As) : σ.length = env.length := by
  obtain ⟨A0, p, q⟩ := r.env
  exact q.length
theorem Rep.perm {Bs : List Addr} (r : Rep K F H σ env As) (p : As.Perm Bs) : Rep K F H σ env Bs :=
  ⟨r.le, (p.nodup_iff).mp r.nd, fun a m => r.out a (p.mem_iff.mpr m), let ⟨A0, p0, q⟩ := r.env; ⟨A0, p0.trans p, q⟩⟩
/-- the heap has changed elsewhere -/
theorem Rep.frame {Bs Bs' : List Addr} {F' H' : Hp} (r : Rep K F H σ env As) (e : Ext F H Bs F' H' Bs') (l : Le F' H') (m : ∀ a ∈ As, a ∉ Bs) : Rep K F' H' σ env As := by
  obtain ⟨A0, p, q⟩ := r.env
  refine ⟨l, r.nd, fun a h => (e.apart (r.there a h) (m a h) (r.out a h)).2, A0, p, q.stay e.le fun a h o z => e.keep a o z (m a (p.mem_iff.mp h))⟩
theorem Rep.focus {i n : Nat} {d : D} (r : Rep K F H σ env As) (h : getS env i = some (n, d)) :
    ∃ v A B, σ[i]? = some (some v) ∧ As.Perm (A ++ B) ∧ RO K F H n v d A ∧ Rep K F H σ (env.set i none) B := by
  obtain ⟨A0, p, q⟩ := r.env
  obtain ⟨v, A1, A2, A3, e1, e2, q1, q2⟩ := q.focus h
  subst e2
  have pm : (A1 ++ (A2 ++ A3)).Perm (A2 ++ (A1 ++ A3)) := by
    rw [← List.append_assoc, ← List.append_assoc]
    exact List.perm_append_comm.append_right A3
  have pp := p.symm.trans pm
  have nd := (pp.nodup_iff).mp r.nd
  exact ⟨v, A2, A1 ++ A3, e1, pp, q1, r.le, (List.nodup_append.mp nd).2.1, fun a m => r.out a (pp.mem_iff.mpr (List.mem_append_right _ m)), A1 ++ A3, .refl _, q2⟩
theorem Rep.fill {i n : Nat} {v : V} {d : D} {A : List Addr} (r : Rep K F H σ env As) (hs : σ[i]? = some (some v)) (h : RO K F H n v d A) (nd : (A ++ As).Nodup) (out : ∀ a ∈ A, F a = none) (hn : getS env i = none) :
    Rep K F H σ (env.set i (some (n, d))) (A ++ As) := by
  obtain ⟨A0, p, q⟩ := r.env
  obtain ⟨C, r1, _, p1⟩ := q.fill hs h
  exact ⟨r.le, nd, fun a m => (List.mem_append.mp m).elim (out a) (r.out a), C, (p1 hn).trans (p.append_left A), r1⟩
theorem sub_perm {α : Type} {C A0 As : List α} (s : C.Sublist A0) (p : A0.Perm As) : ∃ B, C.Perm B ∧ B.Sublist As := by
  obtain ⟨B, h1, h2⟩ := List.exists_perm_sublist s p
  exact ⟨B, h1.symm, h2⟩
theorem Rep.drop (i : Nat) (x : Option V) (r : Rep K F H σ env As) : ∃ B, B.Sublist As ∧ Rep K F H (σ.set i x) (env.set i none) B := by
  obtain ⟨A0, p, q⟩ := r.env
  obtain ⟨C, s, q2⟩ := q.drop i x
  obtain ⟨B, p2, s2⟩ := sub_perm s p
  exact ⟨B, s2, r.le, r.nd.sublist s2, fun a m => r.out a (s2.subset m), C, p2, q2⟩
/-- a name is stored -/
theorem Rep.store {i n : Nat} {v : V} {d : D} {A : List Addr} (r : Rep K F H σ env As) (hi : i < env.length) (h : RO K F H n v d A) (nd : (A ++ As).Nodup) (out : ∀ a ∈ A, F a = none) :
    ∃ B, (∀ a ∈ B, a ∈ A ∨ a ∈ As) ∧ Rep K F H (σ.set i (some v)) (env.set i (some (n, d))) B := by
  obtain ⟨B, s, r1⟩ := r.drop i (some v)
  refine ⟨A ++ B, fun a m => (List.mem_append.mp m).imp id fun z => s.subset z, ?_⟩
  have e : (env.set i none).set i (some (n, d)) = env.set i (some (n, d)) := by simp
  rw [← e]
  have nd' : (A ++ B).Nodup := nd.sublist (List.Sublist.append_left s A)
  refine r1.fill ?_ h nd' out ?_
  · rw [List.getElem?_set_self (by rw [r.len]; exact hi)]
  · simp [getS, hi]
end
end Ck

set_option Elab.async false
set_option linter.all false
set_option maxRecDepth 100000
/-! Ck3: what the evaluator says, as readings of the hand layer. -/
namespace Ck
open PySem PySem.Spec PyProof.Rows L2

theorem PE.weak {X : Cx} {e : Expr} {t t' : TE} (h : PE X e t) (w : ∀ σ H Q, t' σ H Q → t σ H Q) : PE X e t' := ⟨fun pins s σ H Q I q => h.run pins s σ H Q I (w σ H Q q)⟩
theorem PT.weak {X : Cx} {e : Expr} {t t' : TT} (h : PT X e t) (w : ∀ σ H Q, t' σ H Q → t σ H Q) : PT X e t' := ⟨fun pins s σ H Q I q => h.run pins s σ H Q I (w σ H Q q)⟩
theorem PW.weak {X : Cx} {e : Expr} {t t' : TT} (h : PW X e t) (w : ∀ σ H Q, t' σ H Q → t σ H Q) : PW X e t' := ⟨fun wh pins s σ H Q I q => h.run wh pins s σ H Q I (w σ H Q q)⟩
theorem PA.weak {X : Cx} {e : List Expr} {t t' : TA} (h : PA X e t) (w : ∀ σ H Q, t' σ H Q → t σ H Q) : PA X e t' := ⟨fun pos pins s σ H Q I q => h.run pos pins s σ H Q I (w σ H Q q)⟩
theorem PS.weak {X : Cx} {e : Stmt} {t t' : TS} (h : PS X e t) (w : ∀ D σ H, t' D σ H → t D σ H) : PS X e t' := ⟨fun pins s σ H D I q => h.run pins s σ H D I (w D σ H q)⟩
theorem PSs.weak {X : Cx} {e : List Stmt} {t t' : TS} (h : PSs X e t) (w : ∀ D σ H, t' D σ H → t D σ H) : PSs X e t' := ⟨fun pins s σ H D I q => h.run pins s σ H D I (w D σ H q)⟩
theorem PI.weak {X : Cx} {tg e : Expr} {t t' : TI} (h : PI X tg e t) (w : ∀ σ H Q, t' σ H Q → t σ H Q) : PI X tg e t' := ⟨fun pins s σ H Q I q => h.run pins s σ H Q I (w σ H Q q)⟩

abbrev Sg := List (Option V)
section
variable (K : KW)
/-- how an answer lies: Ar the addresses that are the answer's own -/
def RR (F H : Hp) (σ : Sg) (env : Env) (As : List Addr) (v : V) (r : R) (Ar : List Addr) : Prop :=
  match r.src with
  | .fr => RO K F H r.n v r.d Ar
  | .sl i => Ar = [] ∧ σ[i]? = some (some v) ∧ getS env i = some (r.n, r.d)
  | .inn _ => Ar = [] ∧ ∃ A, (∀ a ∈ A, a ∈ As) ∧ RO K F H r.n v r.d A
inductive RRs (F H : Hp) (σ : Sg) (env : Env) (As : List Addr) : List V → List R → List Addr → Prop
  | nil : RRs F H σ env As [] [] []
  | cons {v : V} {vs : List V} {r : R} {rs : List R} {A B : List Addr} : RR K F H σ env As v r A → RRs F H σ env As vs rs B → RRs F H σ env As (v :: vs) (r :: rs) (A ++ B)
/-- nothing was changed, nothing of a slot's taken -/
def Quiet (As As' : List Addr) (env env' : Env) (H H' : Hp) : Prop := As' = As ∧ env' = env ∧ ∀ a o, H a = some o → H' a = some o

def tE (c : Cal) (e : E) : TE := fun σ H Q => ∃ F As env r env', Rep K F H σ env As ∧ evE c e env = .ok (r, env') ∧
  ∀ v F' H' As' Ar, Ext F H As F' H' (Ar ++ As') → Rep K F' H' σ env' As' → RR K F' H' σ env' As' v r Ar → Ar.Nodup → (∀ a ∈ Ar, a ∉ As' ∧ F' a = none) → (e.still = true → Quiet As As' env env' H H') → Q v H'
def tEs (c : Cal) (l : List E) : TA := fun σ H Q => ∃ F As env rs env', Rep K F H σ env As ∧ evEs c l env = .ok (rs, env') ∧
  ∀ vs F' H' As' Ar, Ext F H As F' H' (Ar ++ As') → Rep K F' H' σ env' As' → RRs K F' H' σ env' As' vs rs Ar → Ar.Nodup → (∀ a ∈ Ar, a ∉ As' ∧ F' a = none) → (l.all E.still = true → Quiet As As' env env' H H') → Q vs H'
def tT (c : Cal) (t : T) : TT := fun σ H Q => ∃ F As env b env', Rep K F H σ env As ∧ evT c t env = .ok (b, env') ∧
  ∀ F' H' As', Ext F H As F' H' As' → Rep K F' H' σ env' As' → Q b H'
end

variable {K : KW} {F F' G H H' : Hp} {σ : Sg} {env env' : Env} {As As' : List Addr} {c : Cal}

theorem RR.ro {v : V} {r : R} {Ar : List Addr} (h : RR K F H σ env As v r Ar) (p : Rep K F H σ env As) : ∃ A, (∀ a ∈ A, a ∈ Ar ∨ a ∈ As) ∧ RO K F H r.n v r.d A := by
  unfold RR at h
  split at h
  · exact ⟨Ar, fun a m => .inl m, h⟩
  · obtain ⟨rfl, e, g⟩ := h
    obtain ⟨w, A, B, e1, pm, q, _⟩ := p.focus g
    rw [e] at e1; cases e1
    exact ⟨A, fun a m => .inr (pm.mem_iff.mpr (List.mem_append_left _ m)), q⟩
  · obtain ⟨rfl, A, s, q⟩ := h
    exact ⟨A, fun a m => .inr (s a m), q⟩
theorem RR.read {v : V} {r : R} {Ar : List Addr} (h : RR K F H σ env As v r Ar) (p : Rep K F H σ env As) : RD K H v r.d := by
  obtain ⟨A, _, q⟩ := h.ro p
  exact q.read p.le
theorem RRs.read {vs : List V} {rs : List R} {Ar : List Addr} (h : RRs K F H σ env As vs rs Ar) (p : Rep K F H σ env As) : RDs K H vs (rs.map (·.d)) := by
  induction h with
  | nil => exact .nil
  | cons a _ ih => exact .cons (a.read p) ih

/-- what an answer's post is given -/
structure Post (K : KW) (F H : Hp) (σ : Sg) (env env' : Env) (As : List Addr) (F' H' : Hp) (As' : List Addr) (vs : List V) (rs : List R) (Ar : List Addr) (st : Bool) : Prop where
  x : Ext F H As F' H' (Ar ++ As')
  rep : Rep K F' H' σ env' As'
  rr : RRs K F' H' σ env' As' vs rs Ar
  nd : Ar.Nodup
  out : ∀ a ∈ Ar, a ∉ As' ∧ F' a = none
  q : st = true → Quiet As As' env env' H H'
/-- the first, then the rest -/
theorem cons_post {F1 H1 F2 H2 : Hp} {env1 env2 : Env} {As1 As2 A1 A2 : List Addr} {v : V} {vs : List V} {r r' : R} {rs : List R} {s1 s2 : Bool}
    (x1 : Ext F H As F1 H1 (A1 ++ As1)) (rep1 : Rep K F1 H1 σ env1 As1) (rr1 : RR K F1 H1 σ env1 As1 v r A1) (nd1 : A1.Nodup) (out1 : ∀ a ∈ A1, a ∉ As1 ∧ F1 a = none) (q1 : s1 = true → Quiet As As1 env env1 H H1)
    (p : Post K F1 H1 σ env1 env2 As1 F2 H2 As2 vs rs A2 s2) (e3 : reR r env2 = some r') (hinn : isInn r = true → s2 = true) : Post K F H σ env env2 As F2 H2 As2 (v :: vs) (r' :: rs) (A1 ++ A2) (s1 && s2) := by
  obtain ⟨x2, rep2, rr2, nd2, out2, q2⟩ := p
  have ap : ∀ a ∈ A1, a ∉ A2 ++ As2 ∧ F2 a = none := fun a m => by
    have hth : ∃ o, H1 a = some o := by
      unfold RR at rr1
      split at rr1
      · exact rr1.there a m
      · rw [rr1.1] at m; cases m
      · rw [rr1.1] at m; cases m
    exact x2.apart hth (out1 a m).1 (out1 a m).2
  have x1s := x1.sub (Bs' := As1) fun a m => List.mem_append_right _ m
  refine ⟨⟨x1.le.trans x2.le, fun a o h => (x1s.trans x2).new a o h, fun a m => ?_, fun a o h n => (x1s.trans x2).keep a o h n⟩, rep2, .cons ?_ rr2, ?_, ?_, ?_⟩
  · rcases List.mem_append.mp m with m | m
    · rcases List.mem_append.mp m with m | m
      · exact x1.own a (List.mem_append_left _ m)
      · exact (x1s.trans x2).own a (List.mem_append_left _ m)
    · exact (x1s.trans x2).own a (List.mem_append_right _ m)
  · cases hs : r.src with
    | fr =>
      rw [reR, hs] at e3
      obtain rfl : r = r' := Option.some.inj e3
      have q : RO K F1 H1 r.n v r.d A1 := by rw [RR, hs] at rr1; exact rr1
      rw [RR, hs]
      exact q.frame x2 fun a m => (out1 a m).1
    | sl i =>
      rw [reR, hs] at e3
      rw [RR, hs] at rr1
      obtain ⟨sv, g, rfl⟩ := Option.map_eq_some_iff.mp e3
      exact ⟨rr1.1, rr1.2.1, g⟩
    | inn i =>
      rw [reR, hs] at e3
      obtain rfl : r = r' := Option.some.inj e3
      rw [RR, hs] at rr1
      rw [RR, hs]
      obtain ⟨q3, q4, q5⟩ := q2 (hinn (by rw [isInn, hs]))
      obtain ⟨z, A, s, ro⟩ := rr1
      refine ⟨z, A, fun a m => by rw [q3]; exact s a m, ro.stay x2.le fun a _ o h => q5 a o h⟩
  · exact List.nodup_append.mpr ⟨nd1, nd2, fun a ha b hb e => (ap a ha).1 (by rw [e]; exact List.mem_append_left _ hb)⟩
  · intro a m
    rcases List.mem_append.mp m with m | m
    · exact ⟨fun z => (ap a m).1 (List.mem_append_right _ z), (ap a m).2⟩
    · exact out2 a m
  · intro st
    simp only [Bool.and_eq_true] at st
    obtain ⟨a1, a2, a3⟩ := q1 st.1
    obtain ⟨b1, b2, b3⟩ := q2 st.2
    exact ⟨b1.trans a1, b2.trans a2, fun a o h => b3 a o (a3 a o h)⟩
/-- from the list to its first and the rest -/
theorem tEs_cons {e : E} {es : List E} {Q : List V → Hp → Prop} (h : tEs K c (e :: es) σ H Q) : tCons (tE K c e) (tEs K c es) σ H Q := by
  obtain ⟨F, As, env, rs, env', rep, ev, post⟩ := h
  simp only [evEs] at ev
  obtain ⟨⟨r, env1⟩, e1, ev⟩ := Res.bind_eq_ok.mp ev
  simp only at ev
  split at ev
  · cases ev
  rename_i hinn
  obtain ⟨⟨rs2, env2⟩, e2, ev⟩ := Res.bind_eq_ok.mp ev
  obtain ⟨r', e3, ev⟩ := Res.bind_eq_ok.mp ev
  have e3 := Res.ofO_eq_ok.mp e3
  cases ev
  refine ⟨F, As, env, r, env1, rep, e1, fun v F1 H1 As1 A1 x1 rep1 rr1 nd1 out1 q1 => ?_⟩
  refine ⟨F1, As1, env1, rs2, env2, rep1, e2, fun vs F2 H2 As2 A2 x2 rep2 rr2 nd2 out2 q2 => ?_⟩
  obtain ⟨y1, y2, y3, y4, y5, y6⟩ := cons_post x1 rep1 rr1 nd1 out1 q1 ⟨x2, rep2, rr2, nd2, out2, q2⟩ e3 (fun h => by
    cases q : es.all E.still with
    | true => rfl
    | false => rw [h, q] at hinn; exact absurd rfl hinn)
  exact post (v :: vs) F2 H2 As2 (A1 ++ A2) y1 y2 y3 y4 y5 fun s => y6 (by simpa using s)
theorem tEs_nil {Q : List V → Hp → Prop} (h : tEs K c [] σ H Q) : tNil σ H Q := by
  obtain ⟨F, As, env, rs, env', rep, ev, post⟩ := h
  simp only [evEs] at ev
  cases ev
  exact post [] F H As [] Ext.refl rep .nil List.nodup_nil (fun _ m => nomatch m) fun _ => ⟨rfl, rfl, fun _ _ h => h⟩
theorem tEs_one {a : E} {R : V → Hp → Prop} (h : tEs K c [a] σ H fun xs H' => ∀ x, xs = [x] → R x H') : tE K c a σ H fun x H1 => R x H1 := by
  obtain ⟨F, As, env, r, env', rep, ev, post⟩ := tEs_cons h
  refine ⟨F, As, env, r, env', rep, ev, fun v F1 H1 As1 A1 x1 rep1 rr1 nd1 out1 q1 => ?_⟩
  exact tEs_nil (post v F1 H1 As1 A1 x1 rep1 rr1 nd1 out1 q1) v rfl
theorem tEs_two {a b : E} {R : V → V → Hp → Prop} (h : tEs K c [a, b] σ H fun xs H' => ∀ x y, xs = [x, y] → R x y H') : tE K c a σ H fun x H1 => tE K c b σ H1 fun y H2 => R x y H2 := by
  obtain ⟨F, As, env, r, env', rep, ev, post⟩ := tEs_cons h
  refine ⟨F, As, env, r, env', rep, ev, fun v F1 H1 As1 A1 x1 rep1 rr1 nd1 out1 q1 => ?_⟩
  have h2 := post v F1 H1 As1 A1 x1 rep1 rr1 nd1 out1 q1
  obtain ⟨F, As, env, r, env', rep, ev, post⟩ := tEs_cons h2
  refine ⟨F, As, env, r, env', rep, ev, fun w F1 H1 As1 A1 x1 rep1 rr1 nd1 out1 q1 => ?_⟩
  exact tEs_nil (post w F1 H1 As1 A1 x1 rep1 rr1 nd1 out1 q1) v w rfl
theorem tEs_three {a b e : E} {R : V → V → V → Hp → Prop} (h : tEs K c [a, b, e] σ H fun xs H' => ∀ x y z, xs = [x, y, z] → R x y z H') :
    tE K c a σ H fun x H1 => tE K c b σ H1 fun y H2 => tE K c e σ H2 fun z H3 => R x y z H3 := by
  obtain ⟨F, As, env, r, env', rep, ev, post⟩ := tEs_cons h
  refine ⟨F, As, env, r, env', rep, ev, fun v F1 H1 As1 A1 x1 rep1 rr1 nd1 out1 q1 => ?_⟩
  have h2 := post v F1 H1 As1 A1 x1 rep1 rr1 nd1 out1 q1
  obtain ⟨F, As, env, r, env', rep, ev, post⟩ := tEs_cons h2
  refine ⟨F, As, env, r, env', rep, ev, fun w F1 H1 As1 A1 x1 rep1 rr1 nd1 out1 q1 => ?_⟩
  have h3 := post w F1 H1 As1 A1 x1 rep1 rr1 nd1 out1 q1
  obtain ⟨F, As, env, r, env', rep, ev, post⟩ := tEs_cons h3
  refine ⟨F, As, env, r, env', rep, ev, fun u F1 H1 As1 A1 x1 rep1 rr1 nd1 out1 q1 => ?_⟩
  exact tEs_nil (post u F1 H1 As1 A1 x1 rep1 rr1 nd1 out1 q1) v w u rfl

/-! ### operators -/
/-- what is read: to depth n one's own, or shared (n = 0) -/
def Pk (K : KW) (F H : Hp) (n : Nat) (v : V) (d : D) : Prop := ∃ A, RO K F H n v d A
inductive Pks (K : KW) (F H : Hp) : List Nat → List V → List D → Prop
  | nil : Pks K F H [] [] []
  | cons {n : Nat} {ns : List Nat} {v : V} {vs : List V} {d : D} {ds : List D} : Pk K F H n v d → Pks K F H ns vs ds → Pks K F H (n :: ns) (v :: vs) (d :: ds)
/-- the rule r for operands as they come says what o says -/
def OpOk (K : KW) (r : List V → Hp → VK → Prop) (o : Op) : Prop :=
  ∀ (F H : Hp) (ns : List Nat) (vs : List V) (ds : List D) (dd : D) (Q : VK), Le F H → Pks K F H ns vs ds → (o.prop = true → ∀ n ∈ ns, n ≤ 1) → opF o ds = some dd →
    (∀ v' F' H' Ar, Ext F H [] F' H' Ar → Le F' H' → RO K F' H' (if o.makes then (own1 dd).1 else 0) v' dd Ar → Ar.Nodup → (∀ a ∈ Ar, F' a = none) → Q v' H') → r vs H Q

theorem ROs.rdf0 : ∀ {n : Nat} {vs : List V} {ds : List D} {A : List Addr}, ROs K F H n vs ds A → (∀ d ∈ ds, d.isC = false) → ROs K F H 0 vs ds []
  | _, _, _, _, .nil, _ => .nil
  | _, _, _, _, .cons p t, h => by
    have := ROs.cons (F := F) (H := H) (RO.zero (H := H) (p.rdf (h _ (List.mem_cons_self ..))).1) (ROs.rdf0 t fun d m => h d (List.mem_cons_of_mem _ m))
    exact this
theorem RO.flat1 {n : Nat} {v : V} {d : D} {A : List Addr} (r : RO K F H n v d A) (h : d.shalD = true) : ∃ m, m ≤ 1 ∧ ∃ A', RO K F H m v d A' := by
  cases r with
  | zero r => exact ⟨0, Nat.zero_le _, [], .zero r⟩
  | flat r e =>
    cases d <;> first | (cases h; done) | (cases e)
  | lst e q =>
    simp only [D.shalD, List.all_eq_true, Bool.not_eq_true'] at h
    exact ⟨1, Nat.le_refl _, _, .lst e (q.rdf0 h)⟩
  | dic e hd hq q =>
    simp only [D.shalD, List.all_eq_true, Bool.not_eq_true'] at h
    exact ⟨1, Nat.le_refl _, _, .dic e hd hq (q.rdf0 h)⟩
theorem pk_shal {r : R} {v : V} {A : List Addr} (ro : RO K F H r.n v r.d A) (hs : r.src = .fr → False) : ∃ m, Pk K F H m v r.d ∧ (R.shal r = true → m ≤ 1) := by
  by_cases h1 : r.n ≤ 1
  · exact ⟨r.n, ⟨A, ro⟩, fun _ => h1⟩
  · by_cases h2 : r.d.shalD = true
    · obtain ⟨m, hm, A', ro2⟩ := ro.flat1 h2
      exact ⟨m, ⟨A', ro2⟩, fun _ => hm⟩
    · refine ⟨r.n, ⟨A, ro⟩, fun s => ?_⟩
      unfold R.shal at s
      cases q : r.src with
      | fr => exact (hs q).elim
      | sl i => rw [q] at s; simp [h1, h2] at s
      | inn i => rw [q] at s; simp [h1, h2] at s
/-- the answers of a list, those that are new shared: what an operator reads -/
theorem RRs.pks {vs : List V} {rs : List R} {Ar : List Addr} (h : RRs K F H σ env As vs rs Ar) (p : Rep K F H σ env As) {Z : List Addr} (hz : ∀ a ∈ Ar, a ∈ Z) (hd : ∀ a ∈ Z, a ∉ As) :
    ∃ ns, Pks K (frz F H Z) H ns vs (rs.map (·.d)) ∧ (rs.all R.shal = true → ∀ n ∈ ns, n ≤ 1) := by
  induction h with
  | nil => exact ⟨[], .nil, fun _ _ m => nomatch m⟩
  | @cons v vs r rs A B a t ih =>
    obtain ⟨ns, q, sh⟩ := ih fun a m => hz a (List.mem_append_right _ m)
    cases hs : r.src with
    | fr =>
      rw [RR, hs] at a
      refine ⟨0 :: ns, .cons ⟨[], .zero (a.frozen p.le fun a m => hz a (List.mem_append_left _ m))⟩ q, fun s n m => ?_⟩
      simp only [List.all_cons, Bool.and_eq_true] at s
      rcases List.mem_cons.mp m with e | m
      · subst e; exact Nat.zero_le _
      · exact sh s.2 n m
    | sl i =>
      have hA : RR K F H σ env As v r A := a
      obtain ⟨A0, hm, ro⟩ := hA.ro p
      rw [RR, hs] at a
      obtain ⟨rfl, _, _⟩ := a
      obtain ⟨n0, pk0, hn0⟩ := pk_shal (r := r) (v := v) (A := A0) (F := frz F H Z) (ro.stay (le_frz p.le) fun _ _ _ h => h) (by rw [hs]; exact fun h => nomatch h)
      refine ⟨n0 :: ns, .cons pk0 q, fun s n m => ?_⟩
      simp only [List.all_cons, Bool.and_eq_true] at s
      rcases List.mem_cons.mp m with e | m
      · subst e; exact hn0 s.1
      · exact sh s.2 n m
    | inn i =>
      have hA : RR K F H σ env As v r A := a
      obtain ⟨A0, hm, ro⟩ := hA.ro p
      rw [RR, hs] at a
      obtain ⟨rfl, _⟩ := a
      obtain ⟨n0, pk0, hn0⟩ := pk_shal (r := r) (v := v) (A := A0) (F := frz F H Z) (ro.stay (le_frz p.le) fun _ _ _ h => h) (by rw [hs]; exact fun h => nomatch h)
      refine ⟨n0 :: ns, .cons pk0 q, fun s n m => ?_⟩
      simp only [List.all_cons, Bool.and_eq_true] at s
      rcases List.mem_cons.mp m with e | m
      · subst e; exact hn0 s.1
      · exact sh s.2 n m
theorem Pk.read {n : Nat} {v : V} {d : D} (h : Pk K F H n v d) (l : Le F H) : RD K H v d := let ⟨_, r⟩ := h; r.read l
/-- what a thing read holds -/
theorem Pk.lst {n : Nat} {v : V} {ds : List D} (h : Pk K F H n v (.lst ds)) (l : Le F H) (hn : n ≤ 1) : ∃ a vs, v = .ref a ∧ H a = some (.lst vs) ∧ RDs K F vs ds := by
  obtain ⟨A, r⟩ := h
  cases r with
  | zero r =>
    cases r with
    | lst e q => exact ⟨_, _, rfl, l _ _ e, q⟩
  | flat r e => cases e
  | lst e q =>
    obtain rfl : _ = 0 := Nat.le_zero.mp (Nat.le_of_succ_le_succ hn)
    exact ⟨_, _, rfl, e, (q.rd0).1⟩
theorem Pk.dic {n : Nat} {v : V} {ks ds : List D} (h : Pk K F H n v (.dic ks ds)) (l : Le F H) (hn : n ≤ 1) : ∃ a o kvs vs, v = .ref a ∧ H a = some o ∧ HD K a ks kvs vs o ∧ RDs K F kvs ks ∧ RDs K F vs ds := by
  obtain ⟨A, r⟩ := h
  cases r with
  | zero r =>
    cases r with
    | dic e h k q => exact ⟨_, _, _, _, rfl, l _ _ e, h, k, q⟩
  | flat r e => cases e
  | dic e h k q =>
    obtain rfl : _ = 0 := Nat.le_zero.mp (Nat.le_of_succ_le_succ hn)
    exact ⟨_, _, _, _, rfl, e, h, k, (q.rd0).1⟩
theorem Pk.dicH {n : Nat} {v : V} {ks ds : List D} (h : Pk K F H n v (.dic ks ds)) (l : Le F H) : ∃ a o kvs vs, v = .ref a ∧ H a = some o ∧ HD K a ks kvs vs o ∧ RDs K H kvs ks ∧ RDs K H vs ds := by
  have r := h.read l
  cases r with
  | dic e h k q => exact ⟨_, _, _, _, rfl, e, h, k, q⟩
theorem Pk.tup {n : Nat} {v : V} {ds : List D} (h : Pk K F H n v (.tup ds)) : ∃ a vs, v = .ref a ∧ SqP K F a vs ∧ RDs K F vs ds := by
  obtain ⟨A, r⟩ := h
  obtain ⟨q, _⟩ := r.rdf rfl
  cases q with
  | tup e q => exact ⟨_, _, rfl, e, q⟩
theorem Pk.scr {n : Nat} {v : V} {ds : List D} (h : Pk K F H n v (.scr ds)) : ∃ a vs, v = .ref a ∧ SqL K F a vs ∧ RDs K F vs ds := by
  obtain ⟨A, r⟩ := h
  obtain ⟨q, _⟩ := r.rdf rfl
  cases q with
  | scr e q => exact ⟨_, _, rfl, e, q⟩
theorem Pk.int {n : Nat} {v : V} {i : Int} (h : Pk K F H n v (.int i)) : v = .int i := by
  obtain ⟨A, r⟩ := h
  obtain ⟨q, _⟩ := r.rdf rfl
  cases q; rfl
theorem Pk.str {n : Nat} {v : V} {i : Str} (h : Pk K F H n v (.str i)) : v = .str i := by
  obtain ⟨A, r⟩ := h
  obtain ⟨q, _⟩ := r.rdf rfl
  cases q; rfl
theorem Pk.bl {n : Nat} {v : V} {i : Bool} (h : Pk K F H n v (.bl i)) : v = .bl i := by
  obtain ⟨A, r⟩ := h
  obtain ⟨q, _⟩ := r.rdf rfl
  cases q; rfl
theorem Pk.non {n : Nat} {v : V} (h : Pk K F H n v .non) : v = .non := by
  obtain ⟨A, r⟩ := h
  obtain ⟨q, _⟩ := r.rdf rfl
  cases q; rfl

theorem opR_key {o : Op} (hix : o ≠ .ix) {rs : List R} {r0 : R} (e2 : opR o rs = some r0) : ∃ dd, opF o (rs.map (·.d)) = some dd ∧ r0 = ⟨.fr, if o.makes then (own1 dd).1 else 0, dd⟩ ∧ (o.prop = true → rs.all R.shal = true) := by
  unfold opR at e2
  split at e2
  · rename_i hc
    obtain ⟨dd, g, rfl⟩ := Option.map_eq_some_iff.mp e2
    refine ⟨dd, g, rfl, fun hp => ?_⟩
    rw [hp] at hc
    simpa using hc
  · split at e2
    · exact absurd rfl hix
    · exact absurd rfl hix
    · cases e2
/-- the operands stand: the rule -/
theorem op_postK {o : Op} {r : List V → Hp → VK → Prop} {st st' : Bool} (hk : OpOk K r o) {Q : VK} {rs : List R} {r0 : R} {vs : List V} {F1 H1 : Hp} {As1 A1 : List Addr} {env1 : Env} (key : ∃ dd, opF o (rs.map (·.d)) = some dd ∧ r0 = ⟨.fr, if o.makes then (own1 dd).1 else 0, dd⟩ ∧ (o.prop = true → rs.all R.shal = true)) (p : Post K F H σ env env1 As F1 H1 As1 vs rs A1 st) (hst : st' = true → st = true)
    (post : ∀ v F' H' As' Ar, Ext F H As F' H' (Ar ++ As') → Rep K F' H' σ env1 As' → RR K F' H' σ env1 As' v r0 Ar → Ar.Nodup → (∀ a ∈ Ar, a ∉ As' ∧ F' a = none) → (st' = true → Quiet As As' env env1 H H') → Q v H') : r vs H1 Q := by
  obtain ⟨x1, rep1, rr1, nd1, out1, q1⟩ := p
  obtain ⟨dd, g, rfl, hsh⟩ := key
  obtain ⟨ns, pk, sh⟩ := rr1.pks rep1 (Z := A1) (fun a m => m) fun a m => (out1 a m).1
  refine hk (frz F1 H1 A1) H1 ns vs _ dd Q (frz_le rep1.le) pk (fun hp => sh (hsh hp)) g fun v' F2 H2 A2 x2 l2 ro nd2 out2 => ?_
  have x1' : Ext F H As (frz F1 H1 A1) H1 As1 := ⟨x1.le.trans (le_frz rep1.le), fun a o h => by
      rcases frz_new h with h | h
      · exact x1.new a o h
      · exact .inr (x1.own a (List.mem_append_left _ h)), fun a m => x1.own a (List.mem_append_right _ m), x1.keep⟩
  have rep1' : Rep K (frz F1 H1 A1) H1 σ env1 As1 := by
    obtain ⟨A0, p, q⟩ := rep1.env
    refine ⟨frz_le rep1.le, rep1.nd, fun a m => ?_, A0, p, q.stay (le_frz rep1.le) fun _ _ _ h => h⟩
    rw [frz_out fun z => (out1 a z).1 m]
    exact rep1.out a m
  have x12 : Ext F H As F2 H2 (A2 ++ As1) := x1'.trans
    ⟨x2.le, fun a o h => (x2.new a o h).imp id fun h => h.elim (fun m => nomatch m) .inr, fun a m => (List.mem_append.mp m).elim (fun m => (x2.own a m).elim (fun m => nomatch m) .inr) .inl, fun a o h _ => x2.keep a o h fun m => nomatch m⟩
  have rep2 : Rep K F2 H2 σ env1 As1 := rep1'.frame x2 l2 fun _ _ m => nomatch m
  refine post v' F2 H2 As1 A2 x12 rep2 ro nd2 (fun a m => ⟨fun z => ?_, out2 a m⟩) fun s => ?_
  · rcases x2.own a m with q | q
    · cases q
    · obtain ⟨o, e⟩ := rep1.there a z
      rw [e] at q; cases q
  · obtain ⟨a1, a2, a3⟩ := q1 (hst s)
    exact ⟨a1, a2, fun a o h => x2.keep a o (a3 a o h) fun m => nomatch m⟩
theorem op_post {o : Op} {r : List V → Hp → VK → Prop} {st st' : Bool} (hk : OpOk K r o) {Q : VK} (hix : o ≠ .ix) {rs : List R} {r0 : R} {vs : List V} {F1 H1 : Hp} {As1 A1 : List Addr} {env1 : Env} (e2 : opR o rs = some r0) (p : Post K F H σ env env1 As F1 H1 As1 vs rs A1 st) (hst : st' = true → st = true)
    (post : ∀ v F' H' As' Ar, Ext F H As F' H' (Ar ++ As') → Rep K F' H' σ env1 As' → RR K F' H' σ env1 As' v r0 Ar → Ar.Nodup → (∀ a ∈ Ar, a ∉ As' ∧ F' a = none) → (st' = true → Quiet As As' env env1 H H') → Q v H') : r vs H1 Q := op_postK hk (opR_key hix e2) p hst post
/-- THE OPERATOR: the operands first, then the rule -/
theorem op_step {o : Op} {l : List E} {r : List V → Hp → VK → Prop} (hk : OpOk K r o) {Q : VK} (hst : (E.op o l).still = true → l.all E.still = true) (hix : o ≠ .ix) (h : tE K c (.op o l) σ H Q) : tEs K c l σ H fun vs H' => r vs H' Q := by
  obtain ⟨F, As, env, r0, env', rep, ev, post⟩ := h
  simp only [evE] at ev
  obtain ⟨⟨rs, env1⟩, e1, ev⟩ := Res.bind_eq_ok.mp ev
  obtain ⟨r1, e2, ev⟩ := Res.bind_eq_ok.mp ev
  have e2 := Res.ofO_eq_ok.mp e2
  cases ev
  exact ⟨F, As, env, rs, env1, rep, e1, fun vs F1 H1 As1 A1 x1 rep1 rr1 nd1 out1 q1 => op_post hk hix e2 ⟨x1, rep1, rr1, nd1, out1, q1⟩ hst post⟩
/-- the kind of a receiver -/
def KindV (K : KW) (k : Kd) (v : V) (H : Hp) : Prop := match k with
  | .str => ∃ z, v = .str z
  | .lst => ∃ a vs, v = .ref a ∧ H a = some (.lst vs)
  | .dic => ∃ a o kds kvs vs, v = .ref a ∧ H a = some o ∧ HD K a kds kvs vs o
/-- a method: the receiver, its kind, the arguments, the rule -/
theorem met_step {k : Kd} {o : Op} {a : E} {l : List E} {r : List V → Hp → VK → Prop} (hk : OpOk K r o) {Q : VK} (hix : o ≠ .ix) (h : tE K c (.met k o a l) σ H Q) :
    tE K c a σ H fun v H1 => KindV K k v H1 ∧ tEs K c l σ H1 fun vs H2 => r (v :: vs) H2 Q := by
  obtain ⟨F, As, env, r0, env', rep, ev, post⟩ := h
  simp only [evE] at ev
  obtain ⟨⟨r, env1⟩, e1, ev⟩ := Res.bind_eq_ok.mp ev
  simp only at ev
  split at ev
  · cases ev
  rename_i hc
  obtain ⟨⟨rs, env2⟩, e2, ev⟩ := Res.bind_eq_ok.mp ev
  obtain ⟨r', e3, ev⟩ := Res.bind_eq_ok.mp ev
  obtain ⟨r5, e5, ev⟩ := Res.bind_eq_ok.mp ev
  have e3 := Res.ofO_eq_ok.mp e3
  have e5 := Res.ofO_eq_ok.mp e5
  cases ev
  have hki : k.ok r.d = true := by
    cases q : k.ok r.d with
    | true => rfl
    | false => rw [q] at hc; simp at hc
  refine ⟨F, As, env, r, env1, rep, e1, fun v F1 H1 As1 A1 x1 rep1 rr1 nd1 out1 q1 => ⟨?_, F1, As1, env1, rs, env2, rep1, e2, fun vs F2 H2 As2 A2 x2 rep2 rr2 nd2 out2 q2 => ?_⟩⟩
  · have rd := rr1.read rep1
    cases k with
    | str =>
      revert hki
      cases hd : r.d <;> intro hki <;> first | cases hki | skip
      rw [hd] at rd
      cases rd
      exact ⟨_, rfl⟩
    | lst =>
      revert hki
      cases hd : r.d <;> intro hki <;> first | cases hki | skip
      rw [hd] at rd
      cases rd with
      | lst e _ => exact ⟨_, _, rfl, e⟩
    | dic =>
      revert hki
      cases hd : r.d <;> intro hki <;> first | cases hki | skip
      rw [hd] at rd
      cases rd with
      | dic e h2 _ _ => exact ⟨_, _, _, _, _, rfl, e, h2⟩
  · exact op_post hk hix e5 (cons_post x1 rep1 rr1 nd1 out1 q1 ⟨x2, rep2, rr2, nd2, out2, q2⟩ e3 (fun h => by
      cases q : l.all E.still with
      | true => rfl
      | false => rw [h, q] at hc; simp at hc)) (fun h => by simp [E.still] at h) post
theorem isInt_of {r : R} (h : isInt r = true) : ∃ n i, r = ⟨.fr, n, .int i⟩ := by
  obtain ⟨s, n, d⟩ := r
  cases s <;> cases d <;> first | exact ⟨_, _, rfl⟩ | cases h
theorem RR.int {v : V} {n : Nat} {i : Int} {Ar As : List Addr} (h : RR K F H σ env As v ⟨.fr, n, .int i⟩ Ar) : v = .int i ∧ Ar = [] := by
  have q : RO K F H n v (.int i) Ar := h
  obtain ⟨r, e⟩ := q.rdf rfl
  cases r
  exact ⟨rfl, e⟩
/-- a[lo:hi]: the bounds are whole numbers, each by itself -/
theorem slc_step {a lo hi : E} {r : List V → Hp → VK → Prop} (hk : OpOk K r .slAB) {Q : VK} (h : tE K c (.slc a lo hi) σ H Q) :
    tE K c a σ H fun v H1 => tE K c lo σ H1 fun x H2 => ∃ i, x = .int i ∧ tE K c hi σ H2 fun y H3 => ∃ j, y = .int j ∧ r [v, .int i, .int j] H3 Q := by
  obtain ⟨F, As, env, r0, env', rep, ev, post⟩ := h
  simp only [evE] at ev
  obtain ⟨⟨r1, env1⟩, e1, ev⟩ := Res.bind_eq_ok.mp ev
  simp only at ev
  split at ev
  · cases ev
  rename_i hinn
  obtain ⟨⟨r2, env2⟩, e2, ev⟩ := Res.bind_eq_ok.mp ev
  simp only at ev
  split at ev
  · cases ev
  rename_i hi2
  obtain ⟨⟨r3, env3⟩, e3, ev⟩ := Res.bind_eq_ok.mp ev
  simp only at ev
  split at ev
  · cases ev
  rename_i hi3
  obtain ⟨r1', e4, ev⟩ := Res.bind_eq_ok.mp ev
  obtain ⟨r5, e5, ev⟩ := Res.bind_eq_ok.mp ev
  have e4 := Res.ofO_eq_ok.mp e4
  have e5 := Res.ofO_eq_ok.mp e5
  cases ev
  obtain ⟨n2, i, rfl⟩ := isInt_of (r := r2) (by simpa using hi2)
  obtain ⟨n3, j, rfl⟩ := isInt_of (r := r3) (by simpa using hi3)
  refine ⟨F, As, env, r1, env1, rep, e1, fun v F1 H1 As1 A1 x1 rep1 rr1 nd1 out1 q1 => ?_⟩
  refine ⟨F1, As1, env1, _, env2, rep1, e2, fun x F2 H2 As2 A2 x2 rep2 rr2 nd2 out2 q2 => ?_⟩
  obtain ⟨rfl, rfl⟩ := rr2.int
  refine ⟨i, rfl, F2, As2, env2, _, env', rep2, e3, fun y F3 H3 As3 A3 x3 rep3 rr3 nd3 out3 q3 => ?_⟩
  obtain ⟨rfl, rfl⟩ := rr3.int
  refine ⟨j, rfl, ?_⟩
  have p3 : Post K F2 H2 σ env2 env' As2 F3 H3 As3 [.int j] [⟨.fr, n3, .int j⟩] [] hi.still := ⟨x3, rep3, .cons (A := []) rr3 .nil, nd3, out3, q3⟩
  have p2 := cons_post x2 rep2 rr2 nd2 out2 q2 p3 rfl (fun h => by simp [isInn] at h)
  have p1 := cons_post x1 rep1 rr1 nd1 out1 q1 p2 e4 (fun h => by
    rw [h] at hinn
    cases q : (lo.still && hi.still) with
    | true => rfl
    | false => rw [q] at hinn; exact absurd rfl hinn)
  exact op_post hk (by decide) e5 p1 (fun h => by simp [E.still] at h) post
end Ck

set_option Elab.async false
set_option linter.all false
set_option maxRecDepth 100000
/-! Ck3d: dicts: what is read, what is put. -/
namespace Ck
open PySem PySem.Spec PyProof.Rows L2

/-! ### keys -/
theorem keq_iff {a b : D} : keq a b = true ↔ ∃ k, nk a = some k ∧ nk b = some k := by
  unfold keq
  cases ha : nk a with
  | none => simp
  | some x =>
    cases hb : nk b with
    | none => simp
    | some y =>
      simp only [Option.some.injEq]
      constructor
      · intro h; exact ⟨x, rfl, (NestedKey.eq_of_beq _ _ h).symm⟩
      · rintro ⟨k, rfl, rfl⟩; exact NestedKey.beq_self _
theorem nk_kD : ∀ k : Key, nk (kD k) = some (match k with | .inl i => .num i | .inr x => .text x)
  | .inl _ => rfl
  | .inr _ => rfl
theorem keq_kD (a b : Key) : keq (kD a) (kD b) = decide (a = b) := by
  rw [Bool.eq_iff_iff, keq_iff, decide_eq_true_iff]
  rw [nk_kD, nk_kD]
  constructor
  · rintro ⟨k, h1, h2⟩
    rw [← h2] at h1
    cases a <;> cases b <;> simp at h1 ⊢ <;> exact h1
  · rintro rfl; exact ⟨_, rfl, rfl⟩
theorem bk_some {d : D} {k : Key} (h : bk d = some k) : d = kD k := by
  cases d <;> simp [bk] at h <;> subst h <;> rfl
theorem bk_kD : ∀ k : Key, bk (kD k) = some k
  | .inl _ => rfl
  | .inr _ => rfl
theorem hk_some {d : D} {k : NestedKey} (h : hk d = some k) : (∃ l, d = .tup l) ∧ nk d = some k ∧ k.depth ≤ 8 := by
  unfold hk at h
  split at h
  · rename_i l
    obtain ⟨ks, h1, h2⟩ := Option.bind_eq_some_iff.mp h
    split at h2
    · rename_i hd
      cases h2
      exact ⟨⟨_, rfl⟩, by rw [nk, h1]; rfl, hd⟩
    · cases h2
  · cases h
theorem hk_bk {d : D} {k : NestedKey} (h : hk d = some k) : bk d = none := by
  obtain ⟨⟨l, rfl⟩, _⟩ := hk_some h; rfl
theorem keq_hk {a b : D} {x y : NestedKey} (ha : hk a = some x) (hb : hk b = some y) : keq a b = decide (x = y) := by
  rw [Bool.eq_iff_iff, keq_iff, decide_eq_true_iff, (hk_some ha).2.1, (hk_some hb).2.1]
  constructor
  · rintro ⟨k, h1, h2⟩; cases h1; cases h2; rfl
  · rintro rfl; exact ⟨_, rfl, rfl⟩

/-! ### by value -/
theorem ix_valV (k : Key) : ∀ {ks : List Key} {vs : List V}, ks.length = vs.length → valV (ks.zip vs) k = (dIx (ks.map kD) (kD k)).bind fun q => vs[q]?
  | [], [], _ => rfl
  | [], _ :: _, h => nomatch h
  | _ :: _, [], h => nomatch h
  | a :: ks, v :: vs, h => by
    rw [List.zip_cons_cons, List.map_cons]
    unfold dIx
    rw [keq_kD]
    by_cases e : a = k
    · rw [valV_pos (p := (a, v)) e, decide_eq_true e]; rfl
    · rw [valV_neg (p := (a, v)) e, decide_eq_false e, ix_valV k (Nat.succ.inj h)]
      simp only [Bool.false_eq_true, if_false]
      cases dIx (ks.map kD) (kD k) <;> simp
theorem dIx_lt {k : D} : ∀ {ks : List D} {q : Nat}, dIx ks k = some q → q < ks.length
  | [], _, h => nomatch h
  | a :: ks, q, h => by
    unfold dIx at h
    split at h
    · cases h; simp
    · obtain ⟨q', h1, rfl⟩ := Option.map_eq_some_iff.mp h
      have := dIx_lt h1
      simp; omega
theorem zip_put (k : Key) (v : V) : ∀ {ks : List Key} {vs : List V}, ks.length = vs.length → ks.Nodup →
    putK (ks.zip vs) k v = (match dIx (ks.map kD) (kD k) with | some q => ks.zip (vs.set q v) | none => (ks ++ [k]).zip (vs ++ [v]))
  | [], [], _, _ => rfl
  | [], _ :: _, h, _ => nomatch h
  | _ :: _, [], h, _ => nomatch h
  | a :: ks, u :: vs, h, nd => by
    have hl := Nat.succ.inj h
    obtain ⟨n1, n2⟩ := List.nodup_cons.mp nd
    have ih := zip_put k v hl n2
    rw [List.map_cons]
    unfold dIx
    rw [keq_kD, List.zip_cons_cons]
    by_cases e : a = k
    · subst e
      rw [decide_eq_true rfl]
      simp only [if_true, List.set_cons_zero, List.zip_cons_cons]
      unfold putK
      rw [if_pos (by simp)]
      rw [List.map_cons, if_pos rfl]
      congr 1
      rw [List.map_congr_left (g := id)]
      · simp
      · intro p hp
        rw [if_neg]
        · rfl
        · intro e
          exact n1 (by rw [← e]; exact (List.of_mem_zip (a := p.1) (b := p.2) hp).1)
    · rw [decide_eq_false e]
      simp only [Bool.false_eq_true, if_false]
      have step : putK ((a, u) :: ks.zip vs) k v = (a, u) :: putK (ks.zip vs) k v := by
        unfold putK
        simp only [List.any_cons, e, decide_false, Bool.false_or, List.map_cons, if_false]
        split <;> rfl
      rw [step, ih]
      cases dIx (ks.map kD) (kD k) with
      | none => rfl
      | some q => simp

/-! ### tuples -/
section
variable {X : Cx} {pins : List (Addr × Obj)} {σ : Sg} {H : Hp} {s : Shared}
mutual
theorem RD.nest (I : Inv X pins σ H s) : ∀ {v : V} {d : D} {u : Value} {k : NestedKey}, RD X.kw H v d → nk d = some k → RelV v u → NestedIs s.heap k u
  | _, _, _, _, .int i, h, r => by cases h; obtain ⟨t, rfl⟩ := r; exact .int i t
  | _, _, _, _, .str x, h, r => by cases h; obtain ⟨t, rfl⟩ := r; exact .text x t
  | _, _, _, _, .tup e q, h, r => by
    rw [nk] at h
    obtain ⟨ks, h1, rfl⟩ := Option.map_eq_some_iff.mp h
    obtain rfl : _ = Value.ref _ := r
    obtain ⟨its, rv, ⟨o, ho, hc, n, hd⟩, _⟩ := I.tuple e.t
    exact .tup ho hc hd (by simpa using RDs.nest I q h1 rv)
  | _, _, _, _, .non, h, _ => nomatch h
  | _, _, _, _, .bl _, h, _ => nomatch h
  | _, _, _, _, .lst _ _, h, _ => nomatch h
  | _, _, _, _, .scr _ _, h, _ => nomatch h
  | _, _, _, _, .dic _ _ _ _, h, _ => nomatch h
theorem RDs.nest (I : Inv X pins σ H s) : ∀ {vs : List V} {ds : List D} {us : List Value} {ks : List NestedKey}, RDs X.kw H vs ds → nks ds = some ks → Vals vs us → NestedAll s.heap ks us
  | _, _, _, _, .nil, h, r => by cases h; cases r; exact .nil
  | _, _, _, _, .cons (d := d) (ds := ds) a q, h, r => by
    rw [nks] at h
    cases h1 : nk d with
    | none => rw [h1] at h; cases h
    | some k =>
      cases h2 : nks ds with
      | none => rw [h1, h2] at h; cases h
      | some ks =>
        rw [h1, h2] at h
        cases h
        cases r with
        | cons ra rr => exact .cons (RD.nest I a h1 ra) (RDs.nest I q h2 rr)
end
/-- a key that is a tuple -/
theorem RD.hkey (I : Inv X pins σ H s) {v : V} {d : D} {u : Value} {k : NestedKey} (r : RD X.kw H v d) (h : hk d = some k) (ru : RelV v u) : ∃ b, v = .ref b ∧ u = .ref b ∧ (nestedKind X.prog X.w).is s.heap k b := by
  obtain ⟨⟨l, rfl⟩, h1, h2⟩ := hk_some h
  have n := r.nest I h1 ru
  cases r
  obtain rfl : u = Value.ref _ := ru
  exact ⟨_, rfl, rfl, n, h2⟩
end
theorem at_pairs {nkey : NestedKey} {k : D} (hkk : hk k = some nkey) : ∀ {kds : List D} {xs : List (NestedKey × Addr)} {vs : List V} {ys : List (NestedKey × Addr × Value)}, kds.map hk = xs.map (fun x => some x.1) → xs.length = vs.length → Paired NPair (xs.zip vs) ys →
    RelO ((dIx kds k).bind fun q => vs[q]?) ((atKey ys nkey).map (·.2))
  | [], [], [], ys, _, _, r => by cases r; exact True.intro
  | [], [], _ :: _, _, _, h, _ => nomatch h
  | [], _ :: _, _, _, h, _, _ => nomatch h
  | _ :: _, [], _, _, h, _, _ => nomatch h
  | _ :: _, _ :: _, [], _, _, h, _ => nomatch h
  | d :: kds, x :: xs, v :: vs, ys, h1, h2, r => by
    rw [List.zip_cons_cons] at r
    cases r with
    | @cons _ q _ qs hq t =>
      rw [List.map_cons, List.map_cons] at h1
      injection h1 with h3 h4
      have ih := at_pairs hkk h4 (Nat.succ.inj h2) t
      unfold dIx
      rw [keq_hk h3 hkk]
      obtain ⟨z1, z2, z3⟩ := hq
      by_cases e : x.1 = nkey
      · rw [decide_eq_true e]
        have b : atKey (q :: qs) nkey = some q.2 := by simp [atKey, List.find?_cons, ← z1, e]
        rw [b]
        exact z3
      · rw [decide_eq_false e]
        have b : atKey (q :: qs) nkey = atKey qs nkey := by
          have : ¬ q.1 = nkey := fun z => e (z1.trans z)
          simp [atKey, List.find?_cons, this]
        rw [b]
        simp only [Bool.false_eq_true, if_false]
        cases hd : dIx kds k with
        | none => rw [hd] at ih; exact ih
        | some j => rw [hd] at ih; simpa using ih

/-! ### what is read of a dict -/
/-- x is a dict, y a key of its kind -/
def DRead (K : KW) (H : Hp) (x y : V) (kds : List D) (k : D) (vs : List V) (a : Addr) (o : HO) (kvs : List V) : Prop :=
  x = .ref a ∧ H a = some o ∧ HD K a kds kvs vs o ∧ RDs K H kvs kds ∧ RD K H y k ∧ keyB kds k = true
section
variable {X : Cx} {pins : List (Addr × Obj)} {σ : Sg} {H : Hp} {s : Shared} {x y : V} {kds : List D} {k : D} {vs kvs : List V} {a : Addr} {o : HO} {u : Value}
/-- an empty dict is of each kind -/
theorem empty_of {P : Program} {w : World} {h : Heap} {a : Addr} (d : h.DictOf (mixKind P w) a []) : h.DictOfH (nestedKind P w) a [] := by
  obtain ⟨o, es, ep, h1, h2, h3, h4, h5, h6⟩ := d
  refine ⟨o, es, ep, h1, h2, h3, ?_, (fun _ m => nomatch m), List.nodup_nil⟩
  generalize es.toList = l at h5 ⊢
  cases h5; rfl
/-- the dict at a, as the machine sees it -/
def DSee (X : Cx) (s : Shared) (a : Addr) (y : V) (u : Value) (H : Hp) (r : Option V) : Prop :=
  (∃ (kvs : List (Key × V)) (key : Key), H a = some (.dK kvs) ∧ y = kV key ∧ valV kvs key = r) ∨
  (∃ (b : Addr) (key : NestedKey) (ys : List (NestedKey × Addr × Value)), y = .ref b ∧ u = .ref b ∧ (nestedKind X.prog X.w).is s.heap key b ∧ s.heap.DictOfH (nestedKind X.prog X.w) a ys ∧ (a == sysModules) = false ∧ RelO r ((atKey ys key).map (·.2)))
theorem dict_all {P : Program} {w : World} {h : Heap} {zs : List ((NestedKey × Addr) × V)} (d : DicN P w h a zs) (ha : ∀ z ∈ zs, (nestedKind P w).is h z.1.1 z.1.2) : ∃ ys, Paired NPair zs ys ∧ h.DictOfH (nestedKind P w) a ys ∧ (a == sysModules) = false ∧ zs.length ≤ sizeLine := by
  obtain ⟨z, hm, ys, r, o, es, ep, h1, h2, h3, h4, h5⟩ := d
  refine ⟨ys, r, ⟨o, es, ep, h1, h2, h3, h4, ?_, h5⟩, hm, z⟩
  clear h4 h5 z
  induction r with
  | nil => intro _ m; cases m
  | @cons p q ps qs hq t ih =>
    intro x m
    rcases List.mem_cons.mp m with e | m
    · subst e
      obtain ⟨e1, e2, _⟩ := hq
      rw [← e1, ← e2]
      exact ha p (List.mem_cons_self ..)
    · exact ih (fun z m => ha z (List.mem_cons_of_mem _ m)) x m
theorem keys_are (I : Inv X pins σ H s) : ∀ {kds : List D} {xs : List (NestedKey × Addr)}, RDs X.kw H (xs.map fun x => V.ref x.2) kds → kds.map hk = xs.map (fun x => some x.1) → ∀ x ∈ xs, (nestedKind X.prog X.w).is s.heap x.1 x.2
  | _, [], _, _, _, m => nomatch m
  | [], _ :: _, _, h, _, _ => nomatch h
  | d :: kds, x :: xs, r, h, z, m => by
    rw [List.map_cons] at r
    rw [List.map_cons, List.map_cons] at h
    injection h with h1 h2
    cases r with
    | cons ra rr =>
      rcases List.mem_cons.mp m with e | m
      · subst e
        obtain ⟨b, e1, e2, q⟩ := ra.hkey (u := .ref z.2) I h1 rfl
        cases e2
        exact q
      · exact keys_are I rr h2 z m
theorem zip_mem {xs : List (NestedKey × Addr)} {vs : List V} {z : (NestedKey × Addr) × V} (h : z ∈ xs.zip vs) : z.1 ∈ xs := (List.of_mem_zip (a := z.1) (b := z.2) h).1
theorem DRead.see (I : Inv X pins σ H s) (d : DRead X.kw H x y kds k vs a o kvs) (ru : RelV y u) : DSee X s a y u H ((dIx kds k).bind fun q => vs[q]?) := by
  obtain ⟨rfl, ho, hd, hkv, hy, hb⟩ := d
  unfold keyB at hb
  rw [Bool.and_eq_true, Bool.or_eq_true] at hb
  cases hd with
  | @k ks vs hl nd =>
    cases hbk : bk k with
    | some key =>
      obtain rfl := bk_some hbk
      refine .inl ⟨_, key, ho, ?_, ix_valV key hl⟩
      cases key <;> cases hy <;> rfl
    | none =>
      obtain ⟨b1, b2⟩ := hb
      rw [hbk] at b1 b2
      cases ks with
      | cons c cs => simp [bk_kD] at b2
      | nil =>
        obtain ⟨key, hkk⟩ := Option.isSome_iff_exists.mp (b1.resolve_left (by simp))
        obtain ⟨b, rfl, rfl, is⟩ := hy.hkey I hkk ru
        obtain ⟨z, hm, ws, rel, dd⟩ := dk_of I.hok ho
        simp only [List.zip_nil_left] at rel
        cases rel
        exact .inr ⟨b, key, [], rfl, rfl, is, empty_of dd, hm, True.intro⟩
  | @n kds xs vs hne he hl nd =>
    obtain ⟨b1, b2⟩ := hb
    cases kds with
    | nil => exact absurd rfl hne
    | cons c cs =>
      cases xs with
      | nil => cases he
      | cons x0 xs0 =>
        have hc : hk c = some x0.1 := by
          rw [List.map_cons, List.map_cons] at he
          injection he
        simp only [hk_bk hc, Option.isSome_none] at b2
        have hbk : (bk k).isSome = false := by simpa using (eq_of_beq b2).symm
        rw [hbk] at b1
        obtain ⟨key, hkk⟩ := Option.isSome_iff_exists.mp (b1.resolve_left (by simp))
        obtain ⟨b, rfl, rfl, is⟩ := hy.hkey I hkk ru
        obtain ⟨ys, r, dd, hm, z⟩ := dict_all (HN.get I.hok ho) fun z m => keys_are I hkv he _ (zip_mem m)
        exact .inr ⟨b, key, ys, rfl, rfl, is, dd, hm, at_pairs hkk he hl r⟩
theorem HD.typeIs (I : Inv X pins σ H s) (ho : H a = some o) (h : HD X.kw a kds kvs vs o) : s.TypeIs (.ref a) "dict" := by
  cases h with
  | k _ _ =>
    obtain ⟨_, _, ws, _, dd⟩ := dk_of I.hok ho
    exact dd.typeIs
  | n _ _ _ _ =>
    obtain ⟨_, _, ys, _, ob, es, ep, h1, h2, _⟩ := HN.get I.hok ho
    exact ⟨ob, h1, h2.1⟩
theorem HD.noDict (I : Inv X pins σ H s) (ho : H a = some o) (h : HD X.kw a kds kvs vs o) : ∀ b, Value.ref a = .ref b → ∃ ob, s.heap.get? b = some ob ∧ ob.dict = none := fun b q => by
  cases q
  cases h with
  | k _ _ =>
    obtain ⟨_, _, ws, _, ob, _, _, h1, h2, _⟩ := dk_of I.hok ho
    exact ⟨ob, h1, h2.2.1⟩
  | n _ _ _ _ =>
    obtain ⟨_, _, ys, _, ob, es, ep, h1, h2, _⟩ := HN.get I.hok ho
    exact ⟨ob, h1, h2.2.1⟩
end
end Ck

set_option Elab.async false
set_option linter.all false
set_option maxRecDepth 100000
/-! Ck3e: dicts: rules. -/
namespace Ck
open PySem PySem.Spec PyProof.Rows L2
section
variable {X : Cx} {pins : List (Addr × Obj)} {σ : Sg} {H : Hp} {s : Shared} {x y : V} {kds : List D} {k : D} {vs kvs : List V} {a : Addr} {o : HO} {u : Value} {A : Around} {E : Value → Shared → Prop}
theorem nroom (hu : A.units + 65 < cLine) : (nestedKind X.prog X.w).room A.in1 := by
  show A.in1.units + 8 < cLine
  rw [Around.in1_units]; omega
theorem nroom2 (hu : A.units + 65 < cLine) : (nestedKind X.prog X.w).room A.in1.in1 := by
  show A.in1.in1.units + 8 < cLine
  rw [Around.in1_units, Around.in1_units]; omega
theorem nroom0 (hu : A.units + 65 < cLine) : (nestedKind X.prog X.w).room A := by
  show A.units + 8 < cLine
  omega
/-- what is there at y -/
abbrev dAt (kds : List D) (vs : List V) (k : D) : Option V := (dIx kds k).bind fun q => vs[q]?
theorem dAt_some (hl : kds.length = vs.length) : (dAt kds vs k).isSome = (dIx kds k).isSome := by
  unfold dAt
  cases h : dIx kds k with
  | none => rfl
  | some q =>
    have := dIx_lt h
    simp [List.getElem?_eq_getElem (show q < vs.length by omega)]
theorem see_getItem {v : V} {Q : Value → Shared → Prop} (hu : A.units + 65 < cLine) (I : Inv X pins σ H s) (g : DSee X s a y u H (some v)) (ry : RelV y u) (h : ∀ w' s', Inv X pins σ H s' → RelV v w' → Q w' s') :
    wpAny (model X.prog X.w) A (getItem (.ref a) u) Q E s := by
  rcases g with ⟨kvs, key, e, ey, l⟩ | ⟨b, key, ys, ey, eu, is, dd, hm, l⟩
  · exact d_getItem (v := v) (by omega) I (.inl ⟨kvs, key, .inl e, ey, l.symm⟩) ry h
  · subst eu
    obtain ⟨w', hw, rw'⟩ := RelO.some_of (v := v) (o := (atKey ys key).map (·.2)) l
    obtain ⟨p, hp, hp2⟩ := Option.map_eq_some_iff.mp hw
    refine wpAny_getItem_heap (nroom (X := X) hu) is dd hp ?_
    rw [hp2]
    exact h w' _ (I.tok _) rw'
theorem see_in {r : Option V} {Q : Value → Shared → Prop} (hu : A.units + 65 < cLine) (I : Inv X pins σ H s) (g : DSee X s a y u H r) (ry : RelV y u) (h : ∀ s', Inv X pins σ H s' → Q (.bool r.isSome) s') :
    wpAny (model X.prog X.w) A (compareOp .In u (.ref a)) Q E s := by
  rcases g with ⟨kvs, key, e, ey, l⟩ | ⟨b, key, ys, ey, eu, is, dd, hm, l⟩
  · exact d_in (by omega) I (.inl ⟨kvs, key, .inl e, ey, l.symm⟩) ry h
  · subst eu
    refine wpAny_in_heap (nroom (X := X) hu) is hm dd ?_
    have q := l.isSome_eq
    rw [Option.isSome_map] at q
    rw [← q]
    exact h _ (I.tok _)
theorem see_notIn {r : Option V} {Q : Value → Shared → Prop} (hu : A.units + 65 < cLine) (I : Inv X pins σ H s) (g : DSee X s a y u H r) (ry : RelV y u) (h : ∀ s', Inv X pins σ H s' → Q (.bool (!r.isSome)) s') :
    wpAny (model X.prog X.w) A (compareOp .NotIn u (.ref a)) Q E s := by
  rcases g with ⟨kvs, key, e, ey, l⟩ | ⟨b, key, ys, ey, eu, is, dd, hm, l⟩
  · exact d_notIn (by omega) I (.inl ⟨kvs, key, .inl e, ey, l.symm⟩) ry h
  · subst eu
    refine wpAny_notIn_heap (nroom (X := X) hu) is hm dd ?_
    have q := l.isSome_eq
    rw [Option.isSome_map] at q
    rw [← q]
    exact h _ (I.tok _)
theorem see_get2 {r : Option V} {d : V} {x' : Value} {Q : Value → Shared → Prop} (hu : A.units + 65 < cLine) (I : Inv X pins σ H s) (g : DSee X s a y u H r) (ry : RelV y u) (rd : RelV d x') (h : ∀ w' s', Inv X pins σ H s' → RelV (r.getD d) w' → Q w' s') :
    wpAny (model X.prog X.w) A (call (.builtin "dict.get") [.ref a, u, x']) Q E s := by
  rcases g with ⟨kvs, key, e, ey, l⟩ | ⟨b, key, ys, ey, eu, is, dd, hm, l⟩
  · exact d_get2 (by omega) I (.inl ⟨kvs, key, .inl e, ey, l.symm⟩) ry rd h
  · subst eu
    refine call_meetsIn PySem.F.slot_dict_get dd.typeIs PySem.F.entry_dict_get (PySem.F.args_dict_get_3 _ _ _) (meetsH_dict_get_default (nestedKind X.prog X.w) a b hm x') ⟨nroom (X := X) hu, key, ys, is, dd, h _ _ (I.tok _) ?_⟩
    exact RelO.getD l rd
end
section
variable {X : Cx}
/-- d[y] -/
def rIxD (K : KW) : R2 := fun x y H Q => ∃ kds k vs a o kvs v, DRead K H x y kds k vs a o kvs ∧ dAt kds vs k = some v ∧ Q v H
theorem ix_dict (hu : X.A.units + 65 < cLine) : IxR X (rIxD X.kw) := by
  intro value slice pins s σ H x y v u Q I rx ry h hs
  obtain ⟨kds, k, vs, a, o, kvs, w, d, hd, q⟩ := h
  have g := d.see I ry
  obtain ⟨rfl, ho, hD, _⟩ := d
  cases rx
  change DSee X s a y u H (dAt kds vs k) at g
  rw [hd] at g
  exact tail_any (hD.typeIs I ho) PySem.F.slot_dict_getitem.lookup (see_getItem hu I g ry fun w' s' I' r' => ⟨w, H, I', r', q⟩) hs
def rInD (K : KW) (neg : Bool) : R2 := fun x y H Q => ∃ kds k vs a o kvs, DRead K H y x kds k vs a o kvs ∧ Q (.bl (if neg then !(dIx kds k).isSome else (dIx kds k).isSome)) H
theorem op_inDict (hu : X.A.units + 65 < cLine) : OpR X (compareOp .In) (rInD X.kw false) := by
  intro pins s σ H x y v u Q I rx ry h
  obtain ⟨kds, k, vs, a, o, kvs, d, q⟩ := h
  have g := d.see I rx
  obtain ⟨rfl, ho, hD, _⟩ := d
  cases ry
  refine see_in hu I g rx fun s' I' => ⟨.bl _, H, I', rfl, ?_⟩
  rw [show ((dIx kds k).bind fun q => vs[q]?).isSome = (dIx kds k).isSome from dAt_some hD.len.1]
  exact q
theorem op_notInDict (hu : X.A.units + 65 < cLine) : OpR X (compareOp .NotIn) (rInD X.kw true) := by
  intro pins s σ H x y v u Q I rx ry h
  obtain ⟨kds, k, vs, a, o, kvs, d, q⟩ := h
  have g := d.see I rx
  obtain ⟨rfl, ho, hD, _⟩ := d
  cases ry
  refine see_notIn hu I g rx fun s' I' => ⟨.bl _, H, I', rfl, ?_⟩
  rw [show ((dIx kds k).bind fun q => vs[q]?).isSome = (dIx kds k).isSome from dAt_some hD.len.1]
  exact q
/-- d.get(y, z) -/
def rGet2 (K : KW) : V → List V → Hp → VK → Prop := fun x ys H Q => ∃ y z kds k vs a o kvs, ys = [y, z] ∧ DRead K H x y kds k vs a o kvs ∧ Q ((dAt kds vs k).getD z) H
theorem mt_get2 (hu : X.A.units + 65 < cLine) : MtR X "dict.get" (rGet2 X.kw) := by
  intro pins s σ H x xs v us Q I rx rs h
  obtain ⟨y, z, kds, k, vs, a, o, kvs, rfl, d, q⟩ := h
  obtain ⟨u1, u2, rfl, r1, r2⟩ := rs.two
  have g := d.see I r1
  obtain ⟨rfl, ho, hD, _⟩ := d
  cases rx
  exact see_get2 hu I g r1 r2 fun w' s' I' r' => ⟨_, H, I', r', q⟩
end

/-! ### what is put -/
/-- the keys, their values' places, behind a store -/
def putKs (kds : List D) (kvs : List V) (k : D) (y : V) : List D × List V := match dIx kds k with
  | some _ => (kds, kvs)
  | none => (kds ++ [k], kvs ++ [y])
def putVs (kds : List D) (vs : List V) (k : D) (v : V) : List V := match dIx kds k with
  | some q => vs.set q v
  | none => vs ++ [v]
theorem dIx_none_mem {k : Key} : ∀ {ks : List Key}, dIx (ks.map kD) (kD k) = none → k ∉ ks
  | [], _, m => nomatch m
  | a :: ks, h, m => by
    rw [List.map_cons] at h
    unfold dIx at h
    rw [keq_kD] at h
    by_cases e : a = k
    · rw [decide_eq_true e] at h; cases h
    · rw [decide_eq_false e] at h
      rcases List.mem_cons.mp m with z | m
      · exact e z.symm
      · refine dIx_none_mem (ks := ks) ?_ m
        simpa using h
theorem dIx_none_memH {k : D} {nkey : NestedKey} (hkk : hk k = some nkey) : ∀ {kds : List D} {xs : List (NestedKey × Addr)}, kds.map hk = xs.map (fun x => some x.1) → dIx kds k = none → nkey ∉ xs.map (·.1)
  | [], [], _, _, m => nomatch m
  | [], _ :: _, h, _, _ => nomatch h
  | _ :: _, [], h, _, _ => nomatch h
  | d :: kds, x :: xs, h1, h, m => by
    rw [List.map_cons, List.map_cons] at h1
    injection h1 with h3 h4
    unfold dIx at h
    rw [keq_hk h3 hkk] at h
    by_cases e : x.1 = nkey
    · rw [decide_eq_true e] at h; cases h
    · rw [decide_eq_false e] at h
      rw [List.map_cons] at m
      rcases List.mem_cons.mp m with z | m
      · exact e z.symm
      · exact dIx_none_memH hkk h4 (by simpa using h) m
theorem atKey_is {nkey : NestedKey} {k : D} (hkk : hk k = some nkey) {kds : List D} {xs : List (NestedKey × Addr)} {vs : List V} {ys : List (NestedKey × Addr × Value)} (h1 : kds.map hk = xs.map (fun x => some x.1)) (h2 : xs.length = vs.length) (r : Paired NPair (xs.zip vs) ys) :
    (atKey ys nkey).isSome = (dIx kds k).isSome := by
  have h := (at_pairs hkk h1 h2 r).isSome_eq
  rw [Option.isSome_map] at h
  rw [← h]
  refine dAt_some ?_
  have := congrArg List.length h1
  simp at this
  omega
theorem set_pairs {nkey : NestedKey} {k : D} (hkk : hk k = some nkey) {v : V} {u : Value} (rv : RelV v u) : ∀ {kds : List D} {xs : List (NestedKey × Addr)} {vs : List V} {ys : List (NestedKey × Addr × Value)} {q : Nat}, kds.map hk = xs.map (fun x => some x.1) → (xs.map (·.1)).Nodup → xs.length = vs.length →
    Paired NPair (xs.zip vs) ys → dIx kds k = some q → Paired NPair (xs.zip (vs.set q v)) (ys.map (putAt nkey u))
  | [], _, _, _, _, _, _, _, _, h => nomatch h
  | _ :: _, [], _, _, _, h, _, _, _, _ => nomatch h
  | _ :: _, _ :: _, [], _, _, _, _, h, _, _ => nomatch h
  | d :: kds, x :: xs, w :: vs, ys, q, h1, nd, h2, r, h => by
    rw [List.zip_cons_cons] at r
    cases r with
    | @cons _ p _ ps hp t =>
      rw [List.map_cons, List.map_cons] at h1
      injection h1 with h3 h4
      rw [List.map_cons, List.nodup_cons] at nd
      unfold dIx at h
      rw [keq_hk h3 hkk] at h
      obtain ⟨z1, z2, z3⟩ := hp
      by_cases e : x.1 = nkey
      · rw [decide_eq_true e] at h
        cases h
        rw [List.set_cons_zero, List.zip_cons_cons, List.map_cons]
        refine .cons ?_ ?_
        · unfold putAt
          rw [if_pos (z1.symm.trans e)]
          exact ⟨z1, z2, rv⟩
        · have : ps.map (putAt nkey u) = ps := by
            refine map_putAt_of_not_mem ps nkey u fun m => nd.1 ?_
            rw [e]
            have hk' : ∀ {l : List ((NestedKey × Addr) × V)} {m : List (NestedKey × Addr × Value)}, Paired NPair l m → m.map (·.1) = l.map (·.1.1) := by
              intro l m r
              induction r with
              | nil => rfl
              | cons h _ ih => rw [List.map_cons, List.map_cons, ih, h.1]
            rw [hk' t] at m
            obtain ⟨y, hy, e2⟩ := List.mem_map.mp m
            exact List.mem_map.mpr ⟨y.1, zip_mem hy, e2⟩
          rw [this]
          exact t
      · rw [decide_eq_false e] at h
        simp only [Bool.false_eq_true, if_false] at h
        obtain ⟨q', h5, rfl⟩ := Option.map_eq_some_iff.mp h
        rw [List.set_cons_succ, List.zip_cons_cons, List.map_cons]
        refine .cons ?_ (set_pairs hkk rv h4 nd.2 (Nat.succ.inj h2) t h5)
        unfold putAt
        rw [if_neg (fun z => e (z1.trans z))]
        exact ⟨z1, z2, z3⟩
section
variable {X : Cx} {pins : List (Addr × Obj)} {σ : Sg} {H : Hp} {s : Shared} {x y v : V} {kds : List D} {k : D} {vs kvs : List V} {a : Addr} {o : HO} {u r : Value} {A : Around} {E : Value → Shared → Prop}
/-- d[y] = v: the new object -/
theorem DRead.put {K : KW} (d : DRead K H x y kds k vs a o kvs) (v : V) : ∃ o', HD K a (putKs kds kvs k y).1 (putKs kds kvs k y).2 (putVs kds vs k v) o' ∧
    ∀ {X : Cx} {pins : List (Addr × Obj)} {σ : Sg} {s : Shared} {u r : Value} {A : Around} {E : Value → Shared → Prop} {Q : Unit → Shared → Prop}, X.kw = K → A.units + 65 < cLine → Inv X pins σ H s → RelV y u → RelV v r → vs.length < sizeLine → (∀ s', Inv X pins σ (upd H a o') s' → Q () s') → wpAny (model X.prog X.w) A (setItem (.ref a) u r) Q E s := by
  obtain ⟨rfl, ho, hd, hkv, hy, hb⟩ := d
  unfold keyB at hb
  rw [Bool.and_eq_true, Bool.or_eq_true] at hb
  cases hd with
  | @k ks vs hl nd =>
    cases hbk : bk k with
    | some key =>
      obtain rfl := bk_some hbk
      have ey : y = kV key := by cases key <;> cases hy <;> rfl
      subst ey
      have hz := zip_put key v hl nd
      refine ⟨.dK (putK (ks.zip vs) key v), ?_, fun {X pins σ s u r A E Q} hX hu I ru rv hsz h => ?_⟩
      · unfold putKs putVs
        cases q : dIx (ks.map kD) (kD key) with
        | some j =>
          rw [q] at hz
          simp only at hz ⊢
          rw [hz]
          exact .k (by rw [List.length_set]; exact hl) nd
        | none =>
          rw [q] at hz
          simp only at hz ⊢
          rw [hz]
          have := HD.k (K := K) (a := a) (ks := ks ++ [key]) (vs := vs ++ [v]) (by simp [hl]) (List.nodup_append.mpr ⟨nd, by simp, fun b hb' c hc' e => by
            rw [List.mem_singleton.mp hc'] at e; rw [e] at hb'; exact dIx_none_mem q hb'⟩)
          simpa using this
      · refine d_setItem (by omega) I (DPut.k ho ?_) ru rv h
        rw [List.length_zip]; omega
    | none =>
      obtain ⟨b1, b2⟩ := hb
      rw [hbk] at b1 b2
      cases ks with
      | cons c cs => simp [bk_kD] at b2
      | nil =>
        cases vs with
        | cons _ _ => cases hl
        | nil =>
          obtain ⟨key, hkk⟩ := Option.isSome_iff_exists.mp (b1.resolve_left (by simp))
          obtain ⟨⟨l, rfl⟩, _, _⟩ := hk_some hkk
          cases hy with
          | @tup b _ _ e1 e2 =>
          refine ⟨HN K.prog K.w a [((key, b), v)], ?_, fun {X pins σ s u r A E Q} hX hu I ru rv hsz h => ?_⟩
          · have := HD.n (K := K) (a := a) (kds := [D.tup l]) (xs := [(key, b)]) (vs := [v]) (by simp) (by simp [hkk]) rfl (by simp)
            exact this
          · subst hX
            have hy : RD X.kw H (.ref b) (.tup l) := .tup e1 e2
            obtain ⟨b', eb, rfl, is⟩ := hy.hkey I hkk ru
            cases eb
            obtain ⟨z, hm, ws, rel, dd⟩ := dk_of I.hok ho
            simp only [List.zip_nil_left] at rel
            cases rel
            refine wpAny_setItem_heap (hsz := Nat.zero_le _) (nroom (X := X) hu) is (empty_of dd) fun h' dd' hs => h _ ?_
            obtain ⟨q, es, ep, hq, h2, h3, h4, _, h5⟩ := dd'
            refine d_write I (by rw [ho]; exact True.intro) hs ⟨q, hq⟩ (HN.ok ⟨by rw [sizeLine_eq, List.length_singleton]; omega, hm, storedH [] key b r, ?_, q, es, ep, hq, h2, h3, h4, h5⟩)
            exact .cons ⟨rfl, rfl, rv⟩ .nil
  | @n kds xs vs hne he hl nd =>
    obtain ⟨b1, b2⟩ := hb
    cases kds with
    | nil => exact absurd rfl hne
    | cons c cs =>
      have hc : ∃ x0, hk c = some x0 := by
        cases xs with
        | nil => cases he
        | cons x0 xs0 =>
          rw [List.map_cons, List.map_cons] at he
          injection he with h1 _
          exact ⟨_, h1⟩
      obtain ⟨x0, hc⟩ := hc
      simp only [hk_bk hc, Option.isSome_none] at b2
      have hbk : (bk k).isSome = false := by simpa using (eq_of_beq b2).symm
      rw [hbk] at b1
      obtain ⟨key, hkk⟩ := Option.isSome_iff_exists.mp (b1.resolve_left (by simp))
      obtain ⟨⟨l, rfl⟩, _, _⟩ := hk_some hkk
      cases hy with
      | @tup b _ _ e1 e2 =>
      have hlen : (c :: cs).length = xs.length := by simpa using congrArg List.length he
      have go : ∀ (zs : List ((NestedKey × Addr) × V)), (∀ {ys : List (NestedKey × Addr × Value)} {r : Value}, RelV v r → Paired NPair (xs.zip vs) ys → Paired NPair zs (storedH ys key b r)) → (zs.length ≤ vs.length + 1) →
          ∀ {X : Cx} {pins : List (Addr × Obj)} {σ : Sg} {s : Shared} {u r : Value} {A : Around} {E : Value → Shared → Prop} {Q : Unit → Shared → Prop}, X.kw = K → A.units + 65 < cLine → Inv X pins σ H s → RelV (.ref b) u → RelV v r → vs.length < sizeLine → (∀ s', Inv X pins σ (upd H a (HN K.prog K.w a zs)) s' → Q () s') → wpAny (model X.prog X.w) A (setItem (.ref a) u r) Q E s := by
        intro zs hzs hzl X pins σ s u r A E Q hX hu I ru rv hsz h
        subst hX
        have hy : RD X.kw H (.ref b) (.tup l) := .tup e1 e2
        obtain ⟨b', eb, rfl, is⟩ := hy.hkey I hkk ru
        cases eb
        obtain ⟨ys, rp, dd, hm, z⟩ := dict_all (HN.get I.hok ho) fun z m => keys_are I hkv he _ (zip_mem m)
        refine wpAny_setItem_heap (hsz := by rw [← Paired.length rp]; exact z) (nroom (X := X) hu) is dd fun h' dd' hs => h _ ?_
        obtain ⟨q, es, ep, hq, h2, h3, h4, _, h5⟩ := dd'
        exact d_write I (by rw [ho]; exact True.intro) hs ⟨q, hq⟩ (HN.ok ⟨by omega, hm, _, hzs rv rp, q, es, ep, hq, h2, h3, h4, h5⟩)
      cases q : dIx (c :: cs) (.tup l) with
      | some j =>
        unfold putKs putVs
        rw [q]
        refine ⟨HN K.prog K.w a (xs.zip (vs.set j v)), .n hne he (by rw [List.length_set]; exact hl) nd, go _ (fun {ys r} rv rp => ?_) (by rw [List.length_zip, List.length_set]; omega)⟩
        have hat := atKey_is hkk he hl rp
        rw [q] at hat
        unfold storedH
        rw [if_pos (by rw [hat]; rfl)]
        exact set_pairs hkk rv he nd hl rp q
      | none =>
        unfold putKs putVs
        rw [q]
        refine ⟨HN K.prog K.w a ((xs ++ [(key, b)]).zip (vs ++ [v])), ?_, go _ (fun {ys r} rv rp => ?_) (by rw [List.length_zip, List.length_append, List.length_append]; exact Nat.min_le_right ..)⟩
        · have := HD.n (K := K) (a := a) (kds := c :: cs ++ [.tup l]) (xs := xs ++ [(key, b)]) (vs := vs ++ [v]) (by simp) (by rw [List.map_append, List.map_append, he, List.map_cons, hkk]; rfl) (by simp [hl])
            (by
              rw [List.map_append]
              refine List.nodup_append.mpr ⟨nd, by simp, fun x hx y hy e => ?_⟩
              simp at hy
              subst hy e
              exact dIx_none_memH hkk he q hx)
          simpa using this
        · have hat := atKey_is hkk he hl rp
          rw [q] at hat
          unfold storedH
          rw [if_neg (by rw [hat]; simp), List.zip_append hl]
          exact Paired.snoc rp ⟨rfl, rfl, rv⟩
end
/-- d[y] = v -/
def rSetD (K : KW) : V → V → V → Hp → (Hp → Prop) → Prop := fun x y v H Q => ∃ kds k vs a o kvs, DRead K H x y kds k vs a o kvs ∧ vs.length < sizeLine ∧ ∀ o', HD K a (putKs kds kvs k y).1 (putKs kds kvs k y).2 (putVs kds vs k v) o' → Q (upd H a o')
theorem set_dict {X : Cx} (hu : X.A.units + 65 < cLine) : PSet X (rSetD X.kw) := by
  intro pins s σ H x y v ov iv u Q I ro ri rv h
  obtain ⟨kds, k, vs, a, o, kvs, d, hz, q⟩ := h
  obtain ⟨o', h1, h2⟩ := d.put v
  obtain ⟨rfl, _⟩ := d
  cases ro
  exact h2 rfl hu I ri rv hz fun s' I' => ⟨_, I', q o' h1⟩
end Ck

set_option Elab.async false
set_option linter.all false
set_option maxRecDepth 100000
/-! Ck3f: list(d), displays. -/
namespace Ck
open PySem PySem.Spec PyProof.Rows L2
theorem vals_refs : ∀ l : List Addr, Vals (l.map V.ref) (l.map Value.ref)
  | [] => .nil
  | _ :: l => .cons rfl (vals_refs l)
theorem npair_keys : ∀ {zs : List ((NestedKey × Addr) × V)} {ys : List (NestedKey × Addr × Value)}, Paired NPair zs ys → ys.map (·.2.1) = zs.map (·.1.2)
  | _, _, .nil => rfl
  | _, _, .cons h t => by rw [List.map_cons, List.map_cons, npair_keys t, h.2.1]
theorem zip_keys {xs : List (NestedKey × Addr)} {vs : List V} (h : xs.length = vs.length) : (xs.zip vs).map (·.1.2) = xs.map (·.2) := by
  have e : (xs.zip vs).map (·.1) = xs := List.map_fst_zip (Nat.le_of_eq h)
  calc (xs.zip vs).map (·.1.2) = ((xs.zip vs).map (·.1)).map (·.2) := by rw [List.map_map]; rfl
    _ = xs.map (·.2) := by rw [e]
section
variable {X : Cx}
/-- list(d) -/
def rListD (K : KW) : List V → Hp → VK → Prop := fun us H Q => ∃ a o kds kvs vs, us = [.ref a] ∧ H a = some o ∧ HD K a kds kvs vs o ∧ ∀ p, H p = none → Q (.ref p) (upd H p (.lst kvs))
theorem call_listDic (hc : X.calm = true) : CallR X (.type "list") (rListD X.kw) := by
  intro pins s σ H xs us Q I r q
  obtain ⟨a, o, kds, kvs, vs, rfl, ho, hd, q⟩ := q
  cases hd with
  | @k ks vs hl nd =>
    refine call_listD hc pins s σ H _ us Q I r ⟨a, _, rfl, .inl ho, ?_⟩
    have e : ((ks.zip vs).map fun kv => kV kv.1) = ks.map kV := by
      have e1 : (ks.zip vs).map (·.1) = ks := List.map_fst_zip (Nat.le_of_eq hl)
      calc ((ks.zip vs).map fun kv => kV kv.1) = ((ks.zip vs).map (·.1)).map kV := by rw [List.map_map]; rfl
        _ = ks.map kV := by rw [e1]
    rw [e]
    exact q
  | @n kds xs vs hne he hl nd =>
    obtain ⟨u, rfl, rx⟩ := vals1 r
    cases rx
    obtain ⟨z, hm, ys, rp, ob, es, ep, h1, h2, h3, h4, h5⟩ := HN.get I.hok ho
    have hraw : s.heap.DictRaw a es ep := ⟨ob, h1, h2, h3⟩
    have hsz : es.size = xs.length := by
      rw [← Array.length_toList, h4, List.length_map, ← Paired.length rp, List.length_zip]
      omega
    refine PySem.W.kdl_call (KdlSrc.rawDict hm) (I.ok.hd hc) hraw (by rw [hsz]; rw [List.length_zip] at z; omega) fun h' tk acc c' hk hD hacc => ?_
    have hv : acc.toList = (xs.map (·.2)).map Value.ref := by
      have e1 : acc.toList = es.toList.map (·.key) := by
        refine List.ext_getElem? fun j => ?_
        rw [List.getElem?_map, Array.getElem?_toList, Array.getElem?_toList]
        by_cases hj : j < acc.size
        · obtain ⟨hi, e⟩ := hacc.2 j acc[j] (Array.getElem?_eq_getElem hj)
          rw [Array.getElem?_eq_getElem hj, Array.getElem?_eq_getElem hi, e]; rfl
        · rw [Array.getElem?_eq_none (by omega), Array.getElem?_eq_none (by have := hacc.1; omega)]; rfl
      rw [e1, h4, List.map_map, ← zip_keys hl, ← npair_keys rp, List.map_map]
      rfl
    refine ⟨.ref s.heap.objs.size, upd H s.heap.objs.size (.lst (xs.map fun x => V.ref x.2)), I.laid (t' := tk) hk (Nat.le_refl _)
      (show ObjOk X.prog X.w _ _ _ (.lst (xs.map fun x => V.ref x.2)) from ⟨by rw [List.length_map]; rw [List.length_zip] at z; omega, acc.toList, c', ?_, by rw [Array.toArray_toList]; exact hD⟩), rfl, q _ (I.hok.fresh (Nat.le_refl _))⟩
    rw [hv]
    have := vals_refs (xs.map (·.2))
    rw [List.map_map] at this
    exact this
/-- {} -/
theorem pe_dic0 {pos : Pos} : PE X (.Dict [] [] pos) tDNewK := pe_dnewK
/-- {k: v} -/
def rDic1 (K : KW) : V → V → Addr → Hp → VK → Prop := fun x y p H Q => ∃ k o, keyB [] k = true ∧ RD K H x k ∧ HD K p [k] [x] [y] o ∧ Q (.ref p) (upd H p o)
def tDic1 (K : KW) (tk tv : TE) : TE := fun σ H Q => ∀ p, H p = none → tk σ (upd H p (.dK [])) fun x H1 => tv σ H1 fun y H2 => H2 p = some (.dK []) ∧ rDic1 K x y p H2 Q
theorem tpairs1 {tk tv : TE} {σ : Sg} {H : Hp} {R : V → V → Hp → Prop} (mk : ∀ {σ H} {Q Q' : VK}, tk σ H Q → (∀ v H', Q v H' → Q' v H') → tk σ H Q') (mv : ∀ {σ H} {Q Q' : VK}, tv σ H Q → (∀ v H', Q v H' → Q' v H') → tv σ H Q')
    (h : tk σ H fun x H1 => tv σ H1 fun y H2 => R x y H2) : tPairs [(tk, tv)] σ H fun ps H2 => ∃ x y, ps = [(x, y)] ∧ R x y H2 :=
  mk h fun x H1 h1 => mv h1 fun y H2 h2 => ⟨x, y, rfl, h2⟩
theorem pe_dic1 {pos : Pos} {ke ve : Expr} {tk tv : TE} (hmk : ∀ {σ H} {Q Q' : VK}, tk σ H Q → (∀ v H', Q v H' → Q' v H') → tk σ H Q') (hmv : ∀ {σ H} {Q Q' : VK}, tv σ H Q → (∀ v H', Q v H' → Q' v H') → tv σ H Q') (hu : X.A.units + 65 < cLine) (hk : PE X ke tk) (hv : PE X ve tv) : PE X (.Dict [some ke] [ve] pos) (tDic1 X.kw tk tv) := by
  refine ⟨fun pins s σ H Q I q => ?_⟩
  have hn := I.hok.fresh (Nat.le_refl s.heap.objs.size)
  have I1 := I.laid (a := s.heap.objs.size) (o := .dK []) (h' := s.heap.push { cls := .type "dict", data := .dict #[] }) (t' := s.toks) (fun _ _ q => Heap.get?_push_of_some _ q) (Nat.le_refl _) (dk_empty s.heap I.big)
  have pps : PPs X pos [some ke] [ve] [(tk, tv)] := pps_cons hk hv pps_nil
  rw [arm_eval_Dict, zip_pairTrees [some ke] [ve] X.env pos rfl rfl, dictDisplay_pairs _ (by intro h; cases h) (by rw [pairTrees_length [some ke] [ve] X.env pos rfl rfl]; show 1 < 17; omega)]
  refine wpAny_bind (wpAny_standAt (wpAny_bind ?_))
  have hlen : (pairTrees [some ke] [ve] X.env pos).length = 1 := pairTrees_length [some ke] [ve] X.env pos rfl rfl
  have hrun := pps.run pins _ σ _ (fun ps H2 => ∃ x y, ps = [(x, y)] ∧ H2 s.heap.objs.size = some (.dK []) ∧ rDic1 X.kw x y s.heap.objs.size H2 Q) I1 (tpairs1 hmk hmv (q _ hn))
  unfold subDict
  refine wpAny_bind (wpAny_alloc ?_)
  refine wpAny_bind (wpAny_holding ?_)
  rw [if_pos (by rw [hlen]; omega)]
  refine wpAny_bind (thn hrun fun ws s2 ⟨ps, H2, I2, rel, x, y, eps, e, k, o, kb, rk, hD, q2⟩ => ?_)
  subst eps
  obtain ⟨z, hm, w0, rel0, dd⟩ := dk_of I2.hok e
  cases rel0
  cases rel with
  | @cons _ kv _ _ hkv t =>
  cases t
  obtain ⟨u, r⟩ := kv
  obtain ⟨ru, rv⟩ := hkv
  refine wpAny_holding ?_
  generalize hk1 : [k] = kds at hD
  generalize hx1 : [x] = kvs at hD
  generalize hy1 : [y] = vs at hD
  cases hD with
  | @k ks vs hl nd =>
    subst hy1
    match ks, hk1, hx1, hl with
    | [key], hk1, hx1, _ =>
    rw [List.map_cons] at hk1 hx1
    injection hx1 with ex _
    subst ex
    refine wpAny_bind (wpAny_storeAll (knd := mixKind X.prog X.w) [(u, r)] [(key, r)] [] s2 _ ⟨kV_is ru, rfl, trivial⟩ dd (by rw [sizeLine_eq]; show 0 + 1 ≤ _; omega) fun h' hm' hs' => wpAny_pure (wpAny_pure (wpAny_pure ⟨.ref s.heap.objs.size, _, ?_, rfl, q2⟩)))
    have he : ∃ q, h'.get? s.heap.objs.size = some q := let ⟨q, _, _, hq, _⟩ := hm'; ⟨q, hq⟩
    exact d_write I2 (by rw [e]; exact True.intro) hs' he (dk_new (vs := [(key, r)]) (kvs := [(key, y)]) (by rw [sizeLine_eq]; show 1 ≤ _; omega) hm (.cons ⟨rfl, rv⟩ .nil) hm')
  | @n kds xs vs hne he hl nd =>
    subst hy1 hk1
    match xs, hx1, he, hl with
    | [(nkey, b)], hx1, he, _ =>
    rw [List.map_cons] at hx1
    injection hx1 with ex _
    subst ex
    rw [List.map_cons, List.map_cons] at he
    injection he with hkk _
    obtain ⟨b', eb, rfl, is⟩ := rk.hkey I2 hkk ru
    cases eb
    refine wpAny_bind (wpAny_storeAllH (knd := nestedKind X.prog X.w) (nroom0 (X := X) hu) [(.ref b, r)] [(nkey, b, r)] [] s2 _ ⟨rfl, rfl, is, trivial⟩ (empty_of dd) (by rw [sizeLine_eq]; show 0 + 1 ≤ _; omega) fun h' tk hm' hs' => wpAny_pure (wpAny_pure (wpAny_pure ⟨.ref s.heap.objs.size, _, ?_, rfl, q2⟩)))
    obtain ⟨q, es, ep, hq, h2, h3, h4, _, h5⟩ := hm'
    exact d_write I2 (by rw [e]; exact True.intro) hs' ⟨q, hq⟩ (HN.ok (zs := [((nkey, b), y)]) ⟨by rw [sizeLine_eq]; show 1 ≤ _; omega, hm, [(nkey, b, r)], .cons ⟨rfl, rfl, rv⟩ .nil, q, es, ep, hq, h2, h3, h4, h5⟩)
end
end Ck

set_option Elab.async false
set_option linter.all false
set_option maxRecDepth 100000
/-! Ck3g: dict(pairs). -/
namespace Ck
open PySem PySem.Spec PyProof.Rows L2
section
variable {K : KW} {F H : Hp}
theorem RDs.set : ∀ {vs : List V} {ds : List D} {v : V} {d : D} (q : Nat), RDs K F vs ds → RD K F v d → RDs K F (vs.set q v) (ds.set q d)
  | _, _, _, _, _, .nil, _ => .nil
  | _, _, _, _, 0, .cons _ r, a => .cons a r
  | _, _, _, _, q + 1, .cons b r, a => .cons b (RDs.set q r a)
/-- the pairs taken apart -/
structure Ps (K : KW) (F : Hp) (ws : List V) (ps : List (Addr × V × V)) (ks vs : List D) : Prop where
  ws : ws = ps.map fun p => V.ref p.1
  at_ : ∀ p ∈ ps, SqT K F p.1 [p.2.1, p.2.2]
  ks : RDs K F (ps.map (·.2.1)) ks
  vs : RDs K F (ps.map (·.2.2)) vs
def pairsD : List D → List D → List D
  | k :: ks, v :: vs => .tup [k, v] :: pairsD ks vs
  | _, _ => []
theorem ps_of : ∀ {pds : List D} {ws : List V} {kds ds : List D} {r : List D × List D}, RDs K F ws pds → dfill kds ds pds = some r → ∃ ps ks vs, Ps K F ws ps ks vs ∧ pds = pairsD ks vs
  | [], _, _, _, _, .nil, _ => ⟨[], [], [], ⟨rfl, (fun _ m => nomatch m), .nil, .nil⟩, rfl⟩
  | d :: pds, _, kds, ds, r, .cons a t, h => by
    unfold dfill at h
    split at h
    · rename_i e; cases e
    · rename_i k v l e
      cases e
      split at h
      · obtain ⟨ps, ks, vs, q, rfl⟩ := ps_of t h
        cases a with
        | @tup b _ _ sq q2 =>
          cases q2 with
          | cons a1 q2 => cases q2 with
            | cons a2 q2 =>
              cases q2
              refine ⟨(b, _, _) :: ps, k :: ks, v :: vs, ⟨by rw [q.ws]; rfl, fun p m => ?_, .cons a1 q.ks, .cons a2 q.vs⟩, rfl⟩
              rcases List.mem_cons.mp m with e | m
              · subst e; exact sq.t
              · exact q.at_ p m
      · cases h
    · cases h
/-- all keys are of the first one's kind -/
theorem fill_kind : ∀ {ks vs : List D} {kds ds : List D} {r : List D × List D} {c : D}, ks.length = vs.length → dfill kds ds (pairsD ks vs) = some r → kds.head? = some c → ∀ k ∈ ks, (bk c).isSome = (bk k).isSome ∧ ((bk k).isSome || (hk k).isSome) = true
  | [], _, _, _, _, _, _, _, _, _, m => nomatch m
  | _ :: _, [], _, _, _, _, h, _, _, _, _ => nomatch h
  | k :: ks, v :: vs, kds, ds, r, c, hl, h, hc, z, m => by
    rw [pairsD, dfill] at h
    split at h
    · rename_i hk
      cases kds with
      | nil => cases hc
      | cons c' kds =>
        cases hc
        unfold keyB at hk
        simp only [Bool.and_eq_true] at hk
        rcases List.mem_cons.mp m with e | m
        · subst e; exact ⟨eq_of_beq hk.2, hk.1⟩
        · refine fill_kind (Nat.succ.inj hl) h ?_ z m
          unfold dputD
          split <;> rfl
    · cases h
theorem keys_rd : ∀ ks : List Key, RDs K F (ks.map kV) (ks.map kD)
  | [] => .nil
  | .inl i :: ks => .cons (.int i) (keys_rd ks)
  | .inr x :: ks => .cons (.str x) (keys_rd ks)
/-- by value -/
theorem fill_k : ∀ {kks : List (Key × V)} {vds : List D} {ks : List Key} {vs : List V} {ds : List D} {r : List D × List D}, ks.length = vs.length → ks.Nodup → RDs K F vs ds → RDs K F (kks.map (·.2)) vds →
    dfill (ks.map kD) ds (pairsD (kks.map fun p => kD p.1) vds) = some r → ∃ (ks' : List Key) (vs' : List V), mergeK (ks.zip vs) kks = ks'.zip vs' ∧ ks'.length = vs'.length ∧ ks'.Nodup ∧ r.1 = ks'.map kD ∧ RDs K F vs' r.2
  | [], _, ks, vs, ds, r, hl, nd, rd, _, h => by
    rw [List.map_nil, pairsD, dfill] at h
    · cases h
      exact ⟨ks, vs, rfl, hl, nd, rfl, rd⟩
    · intro _ _ _ _ e; cases e
  | (key, v) :: kks, vds, ks, vs, ds, r, hl, nd, rd, rv, h => by
    rw [List.map_cons] at rv
    cases rv with
    | @cons _ _ d vds a t =>
      rw [List.map_cons, pairsD, dfill] at h
      split at h
      · have zp := zip_put key v hl nd
        show ∃ (ks' : List Key) (vs' : List V), mergeK (putK (ks.zip vs) key v) kks = _ ∧ _
        rw [zp]
        unfold dputD at h
        cases q : dIx (ks.map kD) (kD key) with
        | some j =>
          rw [q] at h
          exact fill_k (by rw [List.length_set]; exact hl) nd (rd.set j a) t h
        | none =>
          rw [q] at h
          have e : ks.map kD ++ [kD key] = (ks ++ [key]).map kD := by simp
          rw [e] at h
          exact fill_k (by simp [hl]) (List.nodup_append.mpr ⟨nd, by simp, fun b hb' c hc' e => by
            rw [List.mem_singleton.mp hc'] at e; rw [e] at hb'; exact dIx_none_mem q hb'⟩) (rd.app (.cons a .nil)) t h
      · cases h
/-- keys that are tuples -/
theorem fill_n : ∀ {xxs : List ((NestedKey × Addr) × V)} {pys : List (NestedKey × Addr × Value)} {kds0 vds : List D} {kds : List D} {xs : List (NestedKey × Addr)} {vs : List V} {ds : List D} {ys : List (NestedKey × Addr × Value)} {r : List D × List D},
    kds0.map hk = xxs.map (fun x => some x.1.1) → RDs K F (xxs.map fun x => V.ref x.1.2) kds0 → RDs K F (xxs.map (·.2)) vds → Paired NPair xxs pys →
    kds.map hk = xs.map (fun x => some x.1) → xs.length = vs.length → (xs.map (·.1)).Nodup → RDs K F (xs.map fun x => V.ref x.2) kds → RDs K F vs ds → Paired NPair (xs.zip vs) ys →
    dfill kds ds (pairsD kds0 vds) = some r → ∃ (xs' : List (NestedKey × Addr)) (vs' : List V), r.1.map hk = xs'.map (fun x => some x.1) ∧ xs'.length = vs'.length ∧ (xs'.map (·.1)).Nodup ∧ RDs K F (xs'.map fun x => V.ref x.2) r.1 ∧ RDs K F vs' r.2 ∧ Paired NPair (xs'.zip vs') (storedAllH ys pys) ∧ (kds0 ≠ [] ∨ kds ≠ [] → r.1 ≠ [])
  | [], pys, kds0, vds, kds, xs, vs, ds, ys, r, g1, g2, g3, g4, h1, h2, h3, h4, h5, h6, h => by
    cases kds0 with
    | cons _ _ => cases g1
    | nil =>
      cases g4
      rw [pairsD, dfill] at h
      · cases h
        exact ⟨xs, vs, h1, h2, h3, h4, h5, h6, fun z => z.resolve_left fun z => z rfl⟩
      · intro _ _ _ _ e; cases e
  | ((nkey, b), v) :: xxs, pys, kds0, vds, kds, xs, vs, ds, ys, r, g1, g2, g3, g4, h1, h2, h3, h4, h5, h6, h => by
    cases kds0 with
    | nil => cases g1
    | cons k kds0 =>
      rw [List.map_cons, List.map_cons] at g1
      injection g1 with hkk g1
      rw [List.map_cons] at g2 g3
      cases g2 with
      | cons rk g2 =>
      cases g3 with
      | @cons _ _ d vds a g3 =>
      cases g4 with
      | @cons _ p _ pys hp g4 =>
      obtain ⟨e1, e2, rv⟩ := hp
      rw [pairsD, dfill] at h
      split at h
      · have hat := atKey_is hkk h1 h2 h6
        have hs : storedAllH ys (p :: pys) = storedAllH (storedH ys nkey b p.2.2) pys := by
          show storedAllH (storedH ys p.1 p.2.1 p.2.2) pys = _
          rw [← e1, ← e2]
        rw [hs]
        unfold dputD at h
        cases q : dIx kds k with
        | some j =>
          rw [q] at h hat
          have := fill_n (ys := storedH ys nkey b p.2.2) g1 g2 g3 g4 h1 (vs := vs.set j v) (by rw [List.length_set]; exact h2) h3 h4 (h5.set j a) (by
            unfold storedH
            rw [if_pos (by rw [hat]; rfl)]
            exact set_pairs hkk rv h1 h3 h2 h6 q) h
          obtain ⟨xs', vs', q1, q2, q3, q4, q5, q6, q7⟩ := this
          refine ⟨xs', vs', q1, q2, q3, q4, q5, q6, fun _ => q7 (.inr fun e => ?_)⟩
          rw [e] at q; cases q
        | none =>
          rw [q] at h hat
          have := fill_n (ys := storedH ys nkey b p.2.2) g1 g2 g3 g4 (kds := kds ++ [k]) (xs := xs ++ [(nkey, b)]) (vs := vs ++ [v]) (by rw [List.map_append, List.map_append, h1, List.map_cons, hkk]; rfl) (by simp [h2]) (by
            rw [List.map_append]
            refine List.nodup_append.mpr ⟨h3, by simp, fun x hx y hy e => ?_⟩
            simp at hy
            subst hy e
            exact dIx_none_memH hkk h1 q hx) (by rw [List.map_append]; exact h4.app (.cons rk .nil)) (h5.app (.cons a .nil)) (by
            unfold storedH
            rw [if_neg (by rw [hat]; simp), List.zip_append h2]
            exact Paired.snoc h6 ⟨rfl, rfl, rv⟩) h
          obtain ⟨xs', vs', q1, q2, q3, q4, q5, q6, q7⟩ := this
          exact ⟨xs', vs', q1, q2, q3, q4, q5, q6, fun _ => q7 (.inr (by simp))⟩
      · cases h
end
section
variable {X : Cx} {pins : List (Addr × Obj)} {σ : Sg} {H F : Hp} {s : Shared}
/-- the pairs as the machine sees them -/
theorem ps_see (I : Inv X pins σ H s) : ∀ {ps : List (Addr × V × V)}, (∀ p ∈ ps, SqT X.K H p.1 [p.2.1, p.2.2]) → ∃ qs : List (Value × Value), Paired (fun (p : Addr × V × V) (q : Value × Value) => IsTup s.heap p.1 #[q.1, q.2] ∧ RelV p.2.1 q.1 ∧ RelV p.2.2 q.2) ps qs
  | [], _ => ⟨[], .nil⟩
  | p :: ps, h => by
    obtain ⟨qs, r⟩ := ps_see I (ps := ps) fun p m => h p (List.mem_cons_of_mem _ m)
    obtain ⟨its, rv, ht, _⟩ := I.tuple (h p (List.mem_cons_self ..))
    obtain ⟨u, y, ei, ru, ry⟩ := vals2 rv
    subst ei
    exact ⟨(u, y) :: qs, .cons ⟨ht, ru, ry⟩ r⟩
theorem paired_at {α β : Type} {P : α → β → Prop} : ∀ {l : List α} {m : List β} {j : Nat} {b : β}, Paired P l m → m[j]? = some b → ∃ a, l[j]? = some a ∧ P a b
  | _, _, _, _, .nil, h => by simp at h
  | _, _, 0, _, .cons a _, h => by simp at h; subst h; exact ⟨_, rfl, a⟩
  | _, _, j + 1, _, .cons _ r, h => by
    obtain ⟨x, e, q⟩ := paired_at (j := j) r (by simpa using h)
    exact ⟨x, by simpa using e, q⟩
theorem SqP.see (I : Inv X pins σ H s) {a : Addr} {vs : List V} (h : SqP X.K H a vs) : ∃ its : List Value, Vals vs its ∧ PlainSeq "tuple" s.heap a its.toArray ∧ vs.length ≤ sizeLine := by
  rcases h with ⟨o, e, t⟩ | ⟨o, its, n, h1, h2, h3, h4, h5, h6⟩
  · obtain ⟨e1, z, its, r, ⟨o', e2, hc, n, hd⟩⟩ := (show ObjOk X.prog X.w H s.heap a (.frz o (.tup vs)) from I.hok a _ e)
    rw [e1] at e2; cases e2
    exact ⟨its, r, ⟨o, n, e1, t.1, t.2, hd⟩, z⟩
  · refine ⟨its.toList, h5, ⟨o, n, I.kIn a o h1, h2, h6, by simpa using h3⟩, ?_⟩
    have := h5.length
    simp at this
    omega
/-- what dict() is called with -/
inductive DArg (X : Cx) (H : Hp) (a : Addr) (ws : List V) : Prop
  | l : SqL X.K H a ws → DArg X H a ws
  | t : SqP X.K H a ws → DArg X H a ws
theorem DArg.arg (I : Inv X pins σ H s) {a : Addr} {ps : List (Addr × V × V)} {qs : List (Value × Value)} (h : DArg X H a (ps.map fun p => V.ref p.1)) (r : Paired (fun (p : Addr × V × V) (q : Value × Value) => IsTup s.heap p.1 #[q.1, q.2] ∧ RelV p.2.1 q.1 ∧ RelV p.2.2 q.2) ps qs) :
    ps.length ≤ sizeLine ∧ ∃ T fp OK, PairArg X.prog X.w T a fp [] qs.length (PairRel qs) OK ∧ OK s.heap := by
  have hit : ∀ its : List Value, Vals (ps.map fun p => V.ref p.1) its → PairItems s.heap its.toArray (fun j => ((ps[j]?).map (·.1)).getD 0) qs := by
    intro its rv
    have hl := rv.length
    rw [List.length_map] at hl
    refine ⟨by rw [List.size_toArray, ← hl, Paired.length r], fun j k v e => ?_⟩
    obtain ⟨p, ep, ht, _⟩ := paired_at r e
    obtain ⟨u, eu, ru⟩ := rv.get (i := j) (x := V.ref p.1) (by rw [List.getElem?_map, ep]; rfl)
    have ru : u = Value.ref p.1 := ru
    show its.toArray[j]? = some (.ref (((ps[j]?).map (·.1)).getD 0)) ∧ PairAt s.heap (((ps[j]?).map (·.1)).getD 0) k v
    rw [ep]
    exact ⟨by rw [List.getElem?_toArray, eu, ru]; rfl, .inl ht⟩
  cases h with
  | l h =>
    obtain ⟨its, rv, pl, hz⟩ := I.list h
    rw [List.length_map] at hz
    obtain ⟨o, n, ho, hc, hd, hdat⟩ := pl
    exact ⟨hz, _, _, _, PairArg.list a its.toArray (fun j => ((ps[j]?).map (·.1)).getD 0) qs, ⟨o, n, ho, hc, hd, hdat⟩, hit its rv⟩
  | t h =>
    obtain ⟨its, rv, hd, hz⟩ := h.see I
    rw [List.length_map] at hz
    exact ⟨hz, _, _, _, PairArg.tuple a its.toArray (fun j => ((ps[j]?).map (·.1)).getD 0) qs, hd, hit its rv⟩
/-- dict(pairs) -/
def rDictP (X : Cx) : List V → Hp → VK → Prop := fun us H Q => ∃ (a : Addr) (ws : List V) (ps : List (Addr × V × V)) (ks vs : List D) (F : Hp) (r : List D × List D), us = [.ref a] ∧ DArg X H a ws ∧ Le F H ∧ Ps X.kw F ws ps ks vs ∧ dfill [] [] (pairsD ks vs) = some r ∧
  ∀ p o kvs' vs', H p = none → HD X.kw p r.1 kvs' vs' o → RDs X.kw F kvs' r.1 → RDs X.kw F vs' r.2 → Q (.ref p) (upd H p o)
theorem kks_of : ∀ {ps : List (Addr × V × V)} {ks : List D}, RDs X.kw F (ps.map (·.2.1)) ks → (∀ k ∈ ks, (bk k).isSome = true) → ∃ kks : List (Key × V), ks = kks.map (fun p => kD p.1) ∧ kks.map (·.2) = ps.map (·.2.2) ∧ kks.map (fun p => kV p.1) = ps.map (·.2.1)
  | [], _, .nil, _ => ⟨[], rfl, rfl, rfl⟩
  | p :: ps, _, .cons (d := d) (ds := ds) a r, h => by
    obtain ⟨kks, e1, e2, e3⟩ := kks_of (ps := ps) r fun k m => h k (List.mem_cons_of_mem _ m)
    obtain ⟨key, hk⟩ := Option.isSome_iff_exists.mp (h d (List.mem_cons_self ..))
    obtain rfl := bk_some hk
    have ev : kV key = p.2.1 := by
      have a : RD X.kw F p.2.1 _ := a
      generalize p.2.1 = v at a ⊢
      cases key <;> cases a <;> rfl
    exact ⟨(key, p.2.2) :: kks, by rw [List.map_cons, ← e1], by rw [List.map_cons, List.map_cons, e2], by rw [List.map_cons, List.map_cons, e3, ev]⟩
theorem xxs_of : ∀ {ps : List (Addr × V × V)} {ks : List D}, RDs X.kw F (ps.map (·.2.1)) ks → (∀ k ∈ ks, (hk k).isSome = true) → ∃ xxs : List ((NestedKey × Addr) × V), ks.map hk = xxs.map (fun x => some x.1.1) ∧ xxs.map (·.2) = ps.map (·.2.2) ∧ xxs.map (fun x => V.ref x.1.2) = ps.map (·.2.1)
  | [], _, .nil, _ => ⟨[], rfl, rfl, rfl⟩
  | p :: ps, _, .cons (d := d) (ds := ds) a r, h => by
    obtain ⟨kks, e1, e2, e3⟩ := xxs_of (ps := ps) r fun k m => h k (List.mem_cons_of_mem _ m)
    obtain ⟨key, hkk⟩ := Option.isSome_iff_exists.mp (h d (List.mem_cons_self ..))
    obtain ⟨⟨l, rfl⟩, _, _⟩ := hk_some hkk
    obtain ⟨b, ev⟩ : ∃ b, p.2.1 = V.ref b := by
      have a : RD X.kw F p.2.1 _ := a
      generalize p.2.1 = v at a ⊢
      cases a; exact ⟨_, rfl⟩
    exact ⟨((key, b), p.2.2) :: kks, by rw [List.map_cons, List.map_cons, ← e1, hkk], by rw [List.map_cons, List.map_cons, e2], by rw [List.map_cons, List.map_cons, e3, ev]⟩
theorem kv_of : ∀ {ps : List (Addr × V × V)} {kks : List (Key × V)} {qs : List (Value × Value)}, kks.map (·.2) = ps.map (·.2.2) → kks.map (fun p => kV p.1) = ps.map (·.2.1) → Paired (fun (p : Addr × V × V) (q : Value × Value) => IsTup s.heap p.1 #[q.1, q.2] ∧ RelV p.2.1 q.1 ∧ RelV p.2.2 q.2) ps qs →
    ∃ prs : List (Key × Value), KV kks prs ∧ PairsHave (mixKind X.prog X.w) qs.length (PairRel qs) prs
  | [], [], _, _, _, .nil => ⟨[], .nil, rfl, fun i k v e => by simp [PairRel] at e⟩
  | [], _ :: _, _, h, _, _ => nomatch h
  | _ :: _, [], _, h, _, _ => nomatch h
  | p :: ps, kk :: kks, _, h1, h2, .cons (b := q) (l₂ := qs) hq t => by
    rw [List.map_cons, List.map_cons] at h1 h2
    injection h1 with a1 h1
    injection h2 with a2 h2
    obtain ⟨prs, r, hl, hp⟩ := kv_of h1 h2 t
    obtain ⟨_, r1, r2⟩ := hq
    rw [← a2] at r1
    rw [← a1] at r2
    refine ⟨(kk.1, q.2) :: prs, .cons ⟨rfl, r2⟩ r, by rw [List.length_cons, List.length_cons, hl], fun i key v e => ?_⟩
    cases i with
    | zero =>
      have e : q = (key, v) := by simpa [PairRel] using e
      subst e
      exact ⟨kk.1, rfl, kV_is r1⟩
    | succ i =>
      obtain ⟨k, e1, e2⟩ := hp i key v (by simpa [PairRel] using e)
      exact ⟨k, by simpa using e1, e2⟩
theorem xv_of : ∀ {ps : List (Addr × V × V)} {xxs : List ((NestedKey × Addr) × V)} {qs : List (Value × Value)}, xxs.map (·.2) = ps.map (·.2.2) → xxs.map (fun x => V.ref x.1.2) = ps.map (·.2.1) → Paired (fun (p : Addr × V × V) (q : Value × Value) => IsTup s.heap p.1 #[q.1, q.2] ∧ RelV p.2.1 q.1 ∧ RelV p.2.2 q.2) ps qs →
    ∃ pys : List (NestedKey × Addr × Value), Paired NPair xxs pys ∧ PairsHaveH (prog := X.prog) (w := X.w) (nestedKind X.prog X.w) qs.length (PairRel qs) pys
  | [], [], _, _, _, .nil => ⟨[], .nil, rfl, fun i k v e => by simp [PairRel] at e⟩
  | [], _ :: _, _, h, _, _ => nomatch h
  | _ :: _, [], _, h, _, _ => nomatch h
  | p :: ps, xx :: xxs, _, h1, h2, .cons (b := q) (l₂ := qs) hq t => by
    rw [List.map_cons, List.map_cons] at h1 h2
    injection h1 with a1 h1
    injection h2 with a2 h2
    obtain ⟨pys, r, hl, hp⟩ := xv_of h1 h2 t
    obtain ⟨_, r1, r2⟩ := hq
    rw [← a2] at r1
    rw [← a1] at r2
    refine ⟨(xx.1.1, xx.1.2, q.2) :: pys, .cons ⟨rfl, rfl, r2⟩ r, by rw [List.length_cons, List.length_cons, hl], fun i key v e => ?_⟩
    cases i with
    | zero =>
      have e : q = (key, v) := by simpa [PairRel] using e
      subst e
      exact ⟨xx.1.1, xx.1.2, rfl, r1⟩
    | succ i =>
      obtain ⟨k, b, e1, e2⟩ := hp i key v (by simpa [PairRel] using e)
      exact ⟨k, b, by simpa using e1, e2⟩
theorem call_dictPs (hc : X.calm = true) (hu : X.A.units + 65 < cLine) : CallR X (.type "dict") (rDictP X) := by
  intro pins s σ H xs us Q I r h
  obtain ⟨a, ws, ps, ks, vs, F, rr, rfl, da, lF, P, hf, q⟩ := h
  obtain ⟨u, rfl, rx⟩ := vals1 r
  cases rx
  have hws := P.ws
  subst hws
  obtain ⟨qs, hq⟩ := ps_see I fun p m => SqT.up lF (P.at_ p m)
  obtain ⟨hz, T, fp, OK, arg, ok⟩ := da.arg I hq
  have hlq := Paired.length hq
  have hlk : ks.length = vs.length := by
    have h1 := P.ks.length
    have h2 := P.vs.length
    simp at h1 h2
    omega
  have hm : (s.heap.objs.size == sysModules) = false := beq_eq_false_iff_ne.mpr (Nat.ne_of_gt I.big)
  have byv : (∀ k ∈ ks, (bk k).isSome = true) → wpAny (model X.prog X.w) X.A (call (.type "dict") [.ref a]) (EP X pins σ Q) X.xe s := fun hb => by
    obtain ⟨kks, e1, e2, e3⟩ := kks_of P.ks hb
    obtain ⟨prs, rk, hp⟩ := kv_of (X := X) e2 e3 hq
    have hv : RDs X.kw F (kks.map (·.2)) vs := by rw [e2]; exact P.vs
    subst e1
    obtain ⟨ks', vs', m1, m2, m3, m4, m5⟩ := fill_k (ks := []) (vs := []) (ds := []) rfl List.nodup_nil .nil hv hf
    refine PySem.call_dict_pairs (knd := mixKind X.prog X.w) arg (I.ok.hd hc) ok hp (by omega) fun h' tk hd' hk => ?_
    have hlen : (mergeK [] kks).length ≤ sizeLine := by
      refine Nat.le_trans (length_mergeK kks []) ?_
      have := congrArg List.length e2
      simp at this ⊢
      omega
    have m1 : mergeK [] kks = ks'.zip vs' := m1
    refine ⟨.ref s.heap.objs.size, upd H s.heap.objs.size (.dK (mergeK [] kks)), I.laid (t' := tk) (fun b o e => hk b o (fun m => nomatch m) e) (Nat.le_refl _) (show ObjOk X.prog X.w _ _ _ (.dK (mergeK [] kks)) from ⟨hlen, hm, merged [] prs, KV.merge rk .nil, hd'⟩), rfl, ?_⟩
    rw [m1]
    refine q _ _ _ _ (I.hok.fresh (Nat.le_refl _)) (by rw [m4]; exact HD.k m2 m3) ?_ m5
    rw [m4]
    exact keys_rd ks'
  cases hks : ks with
  | nil => exact byv (by rw [hks]; exact fun _ m => nomatch m)
  | cons k0 ks0 =>
    cases hvs : vs with
    | nil => rw [hks, hvs] at hlk; cases hlk
    | cons v0 vs0 =>
    have hf' := hf
    rw [hks, hvs, pairsD, dfill] at hf'
    split at hf'
    rotate_left
    · cases hf'
    rename_i hk0
    have kinds := fill_kind (c := k0) (by rw [hks, hvs] at hlk; exact Nat.succ.inj hlk) hf' rfl
    unfold keyB at hk0
    simp only [Bool.and_true] at hk0
    cases hb : (bk k0).isSome with
    | true =>
      refine byv fun k m => ?_
      rw [hks] at m
      rcases List.mem_cons.mp m with e | m
      · subst e; exact hb
      · rw [← (kinds k m).1]; exact hb
    | false =>
      have hh : ∀ k ∈ ks, (hk k).isSome = true := fun k m => by
        rw [hks] at m
        rcases List.mem_cons.mp m with e | m
        · subst e
          rw [hb] at hk0
          simpa using hk0
        · obtain ⟨z1, z2⟩ := kinds k m
          rw [← z1, hb] at z2
          simpa using z2
      obtain ⟨xxs, e1, e2, e3⟩ := xxs_of P.ks hh
      obtain ⟨pys, rk, hp⟩ := xv_of (X := X) e2 e3 hq
      have hv : RDs X.kw F (xxs.map (·.2)) vs := by rw [e2]; exact P.vs
      have hkr : RDs X.kw F (xxs.map fun x => V.ref x.1.2) ks := by rw [e3]; exact P.ks
      obtain ⟨xs', vs', m1, m2, m3, m4, m5, m6, m7⟩ := fill_n (kds := []) (xs := []) (vs := []) (ds := []) (ys := []) e1 hkr hv rk rfl rfl List.nodup_nil .nil .nil .nil hf
      have hne : rr.1 ≠ [] := m7 (.inl (by rw [hks]; simp))
      have isx : ∀ x ∈ pys, (nestedKind X.prog X.w).is s.heap x.1 x.2.1 := by
        have : ∀ z ∈ xxs, (nestedKind X.prog X.w).is s.heap z.1.1 z.1.2 := fun z m => by
          have := keys_are (kds := ks) (xs := xxs.map (·.1)) I (by rw [List.map_map]; exact hkr.up lF) (by rw [List.map_map]; exact e1) z.1 (List.mem_map.mpr ⟨z, m, rfl⟩)
          exact this
        intro x m
        obtain ⟨j, hj⟩ := List.mem_iff_getElem?.mp m
        obtain ⟨z, hz, n1, n2, _⟩ := paired_at rk hj
        rw [← n1, ← n2]
        exact this z (List.mem_of_getElem? hz)
      refine call_dict_pairsH (knd := nestedKind X.prog X.w) arg (I.ok.hd hc) (nroom2 (X := X) hu) ok hp (fun h' hk x m => nestedKind_stays.stays (fun b o us n e _ => hk b o (fun z => ?_) (fun m => nomatch m) e) (isx x m)) (by omega) fun h' tk hd' hk => ?_
      · rw [z] at e; exact absurd (Heap.lt_size e) (Nat.lt_irrefl _)
      · have hlen : (xs'.zip vs').length ≤ sizeLine := by
          rw [Paired.length m6]
          refine Nat.le_trans (storedAllH_length pys []) ?_
          rw [← Paired.length rk]
          have := congrArg List.length e2
          simp at this ⊢
          omega
        obtain ⟨ob, es, ep, g1, g2, g3, g4, _, g5⟩ := hd'
        refine ⟨.ref s.heap.objs.size, upd H s.heap.objs.size (HN X.prog X.w s.heap.objs.size (xs'.zip vs')), I.laid (t' := tk) (fun b o e => hk b o (fun m => nomatch m) e) (Nat.le_refl _) (HN.ok ⟨hlen, hm, _, m6, ob, es, ep, g1, g2, g3, g4, g5⟩), rfl, ?_⟩
        exact q _ _ _ _ (I.hok.fresh (Nat.le_refl _)) (HD.n hne m1 m2 m3) m4 m5
end
end Ck

set_option Elab.async false
set_option linter.all false
set_option maxRecDepth 100000
/-! Ck4: each operator's rule says what opF says. -/
namespace Ck
open PySem PySem.Spec PyProof.Rows L2

/-! ### tuple * 1, text * int -/
theorem tuple_mul1 (l : Addr) (items : Array Value) (n : Nat) (dd : Option Addr) (sl : Array (Option Value)) (u : Tok) :
    Meets (Builtin.«tuple.__mul__» ⟨[.ref l, .int 1 u], []⟩) (fun _ R s => s.heap.get? l = some { cls := .type "tuple", dict := dd, data := .seq items n, slots := sl } ∧ R (.ok (.ret (Value.ref l))) s) :=
  .of_wp fun prog w A R s h => by
    obtain ⟨hp, g, d, tk, os⟩ := s
    obtain ⟨hl, h⟩ := h
    have f1 := AutoSeq1.idx_int
    wp_walk using wpAny_loadPart' hl
    all_goals exact ⟨_, rfl, h⟩
def rRepT1 (K : KW) : R2 := fun x y H Q => ∃ l xs, x = .ref l ∧ y = .int 1 ∧ SqT K H l xs ∧ Q (.ref l) H
section
variable {X : Cx}
theorem op_repT1 : OpR X (binaryOp .Mult) (rRepT1 X.kw) := by
  intro pins s σ H x y v u Q I rx ry h
  obtain ⟨l, xs, rfl, rfl, hT, q⟩ := h
  cases rx
  obtain ⟨t, rfl⟩ := ry
  obtain ⟨its, r, ⟨⟨cls, dd, data, sl⟩, ho, hc, n, hd⟩, hs⟩ := I.tuple hT
  simp only at hc hd
  subst hc hd
  exact wpAny_binaryOp_repeat_ref (T := "tuple") (U := "int") (by decide) ⟨_, ho, rfl⟩ (fun s' => typeIs_int s' 1 t) noFill_tuple_mul F.fills_int_mul F.slot_int_rmul repeat_tuple F.slot_int_index.lookup
    (call_meets F.slot_int_rmul (typeIs_int s 1 t) F.entry_int_rmul (F.args_int_rmul_2 _ _) (int_rmul_tuple 1 t l its.toArray n dd sl)
      ⟨ho, rfl, ⟨_, ho, rfl⟩, call_meets F.slot_tuple_mul ⟨_, ho, rfl⟩ F.entry_tuple_mul (F.args_tuple_mul_2 _ _) (tuple_mul1 l its.toArray n dd sl t) ⟨ho, ⟨.ref l, H, I, rfl, q⟩⟩⟩)
def rRepS : R2 := fun x y H Q => ∃ z k, x = .str z ∧ y = .int k ∧ MulOk z k ∧ Q (.str (PySem.Txt.mul z k)) H
theorem op_repS : OpR X (binaryOp .Mult) rRepS := by
  intro pins s σ H x y v u Q I rx ry h
  obtain ⟨z, k, rfl, rfl, ok, q⟩ := h
  obtain ⟨t, rfl⟩ := rx
  obtain ⟨t', rfl⟩ := ry
  exact PySem.SB.mul ok fun t' k' => ⟨.str _, H, I.tok k', ⟨_, rfl⟩, q⟩
/-- x in a tuple of data -/
def rInT (K : KW) (neg : Bool) : R2 := fun x y H Q => ∃ d ds, Dp K H x d ∧ Dp K H y (.tuple ds) ∧ SeqAt.shaped d = true ∧ SeqAt.shaped (.tuple ds) = true ∧ Q (.bl (if neg then !(ds.any fun z => PyData.eqv z d) else ds.any fun z => PyData.eqv z d)) H
theorem op_inT (hu : X.A.units + 65 < cLine) : OpR X (compareOp .In) (rInT X.kw false) := by
  intro pins s σ H x y v u Q I rx ry h
  obtain ⟨d, ds, hd, he, sd, se, q⟩ := h
  obtain ⟨as, r1⟩ := Dp.reads I d x v hd rx
  obtain ⟨bs, r2⟩ := Dp.reads I (.tuple ds) y u he ry
  exact SeqAt.in_tuple_reads r2 r1 (SeqAt.canLay_of_shaped se) (SeqAt.canLay_of_shaped sd) (room_in_shaped sd hu) ⟨.bl _, H, I, rfl, q⟩
theorem op_ninT (hu : X.A.units + 65 < cLine) : OpR X (compareOp .NotIn) (rInT X.kw true) := by
  intro pins s σ H x y v u Q I rx ry h
  obtain ⟨d, ds, hd, he, sd, se, q⟩ := h
  obtain ⟨as, r1⟩ := Dp.reads I d x v hd rx
  obtain ⟨bs, r2⟩ := Dp.reads I (.tuple ds) y u he ry
  exact SeqAt.notIn_tuple_reads r2 r1 (SeqAt.canLay_of_shaped se) (SeqAt.canLay_of_shaped sd) (room_in_shaped sd hu) ⟨.bl _, H, I, rfl, q⟩
end

variable {K : KW} {F H : Hp} {Q : VK}

/-! ### answers -/
def Then (K : KW) (F H : Hp) (n : Nat) (dd : D) (Q : VK) : Prop :=
  ∀ v' F' H' Ar, Ext F H [] F' H' Ar → Le F' H' → RO K F' H' n v' dd Ar → Ar.Nodup → (∀ a ∈ Ar, F' a = none) → Q v' H'
theorem Then.old {n : Nat} {dd : D} {v : V} (h : Then K F H n dd Q) (l : Le F H) (r : RD K F v dd) (hn : n = 0 ∨ dd.isC = false) : Q v H := by
  refine h v F H [] Ext.refl l ?_ List.nodup_nil fun _ m => nomatch m
  rcases hn with hn | hn
  · subst hn; exact .zero r
  · exact .flat r hn
theorem Then.newL {ds : List D} {vs : List V} {p : Addr} (h : Then K F H 1 (.lst ds) Q) (l : Le F H) (r : RDs K F vs ds) (hp : H p = none) : Q (.ref p) (upd H p (.lst vs)) := by
  have fp : F p = none := by
    cases q : F p with
    | none => rfl
    | some o => rw [l p o q] at hp; cases hp
  refine h (.ref p) F _ [p] ⟨Le.refl, fun _ _ h => .inl h, fun a m => .inr (by rw [List.mem_singleton.mp m]; exact hp), fun a o e _ => by rw [upd_ne (ne_of_none e hp)]; exact e⟩ (fun a o e => by rw [upd_ne (ne_of_none e fp)]; exact l a o e) ?_ (by simp) fun a m => by rw [List.mem_singleton.mp m]; exact fp
  exact .lst upd_same (.of_rd r (.inl rfl))
theorem Then.newT {n : Nat} {ds : List D} {vs : List V} {p : Addr} {o : Obj} (h : Then K F H n (.tup ds) Q) (l : Le F H) (r : RDs K F vs ds) (hp : H p = none) (ho : TO o) : Q (.ref p) (upd H p (.frz o (.tup vs))) := by
  have fp : F p = none := by
    cases q : F p with
    | none => rfl
    | some o => rw [l p o q] at hp; cases hp
  have up : Le F (upd F p (.frz o (.tup vs))) := fun a o e => by rw [upd_ne (ne_of_none e fp)]; exact e
  refine h (.ref p) (upd F p (.frz o (.tup vs))) _ [] ⟨up, fun a o e => ?_, fun _ m => (nomatch m), fun a o e _ => by rw [upd_ne (ne_of_none e hp)]; exact e⟩ (fun a o e => ?_) (.flat (.tup (.inl ⟨o, upd_same, ho⟩) (r.up up)) rfl) List.nodup_nil fun _ m => nomatch m
  · by_cases e1 : a = p
    · subst e1; exact .inr (.inr hp)
    · rw [upd_ne e1] at e; exact .inl e
  · by_cases e1 : a = p
    · subst e1; rw [upd_same] at e ⊢; exact e
    · rw [upd_ne e1] at e ⊢; exact l a o e
theorem SqT.le {a : Addr} {vs : List V} (l : Le F H) (h : SqT K F a vs) : SqT K H a vs := SqT.up l h
theorem SqL.le {a : Addr} {vs : List V} (l : Le F H) (h : SqL K F a vs) : SqL K H a vs := SqL.up l h
theorem Pks.one {ns : List Nat} {vs : List V} {d : D} (h : Pks K F H ns vs [d]) : ∃ n v, ns = [n] ∧ vs = [v] ∧ Pk K F H n v d := by
  cases h with
  | cons a t => cases t; exact ⟨_, _, rfl, rfl, a⟩
theorem Pks.two {ns : List Nat} {vs : List V} {d e : D} (h : Pks K F H ns vs [d, e]) : ∃ n m v w, ns = [n, m] ∧ vs = [v, w] ∧ Pk K F H n v d ∧ Pk K F H m w e := by
  cases h with
  | cons a t => obtain ⟨m, w, rfl, rfl, b⟩ := t.one; exact ⟨_, _, _, _, rfl, rfl, a, b⟩
theorem Pks.three {ns : List Nat} {vs : List V} {d e g : D} (h : Pks K F H ns vs [d, e, g]) : ∃ n m k v w u, ns = [n, m, k] ∧ vs = [v, w, u] ∧ Pk K F H n v d ∧ Pk K F H m w e ∧ Pk K F H k u g := by
  cases h with
  | cons a t => obtain ⟨m, k, w, u, rfl, rfl, b, c⟩ := t.two; exact ⟨_, _, _, _, _, _, rfl, rfl, a, b, c⟩
theorem one_some {f : D → Option D} {l : List D} {d : D} (h : one f l = some d) : ∃ a, l = [a] ∧ f a = some d := by
  unfold one at h
  split at h
  · exact ⟨_, rfl, h⟩
  · cases h
theorem dyad_some {f : D → D → Option D} {l : List D} {d : D} (h : dyad f l = some d) : ∃ a b, l = [a, b] ∧ f a b = some d := by
  unfold dyad at h
  split at h
  · exact ⟨_, _, rfl, h⟩
  · cases h
theorem triad_some {f : D → D → D → Option D} {l : List D} {d : D} (h : triad f l = some d) : ∃ a b c, l = [a, b, c] ∧ f a b c = some d := by
  unfold triad at h
  split at h
  · exact ⟨_, _, _, rfl, h⟩
  · cases h
theorem intD_some {C : Int → Int → Bool} {g : Int → Int → D} {l : List D} {d : D} (h : intD C g l = some d) : ∃ i j, l = [.int i, .int j] ∧ C i j = true ∧ d = g i j := by
  unfold intD at h
  split at h
  · split at h
    · rename_i hc; cases h; exact ⟨_, _, rfl, hc, rfl⟩
    · cases h
  · cases h

abbrev r2 (r : R2) : List V → Hp → VK → Prop := fun vs H Q => ∀ x y, vs = [x, y] → r x y H Q
/-- two ints -/
theorem k_int {C : Int → Int → Bool} {P : Int → Int → Prop} {g : Int → Int → D} {gv : Int → Int → V} {o : Op} (ho : opF o = intD C g) (hm : o.makes = false) (hc : ∀ i j, C i j = true → P i j) (hg : ∀ F i j, RD K F (gv i j) (g i j)) : OpOk K (r2 (rI P gv)) o := by
  intro F H ns vs ds dd Q l pk _ h t x y e
  rw [ho] at h
  obtain ⟨i, j, rfl, q, rfl⟩ := intD_some h
  obtain ⟨n, m, v, w, rfl, rfl, a, b⟩ := pk.two
  cases e
  obtain rfl := a.int
  obtain rfl := b.int
  rw [hm] at t
  exact ⟨i, j, rfl, rfl, hc i j q, Then.old t l (hg F i j) (.inl rfl)⟩
theorem k_int0 {g : Int → Int → D} {gv : Int → Int → V} {o : Op} (ho : opF o = intD (fun _ _ => true) g) (hm : o.makes = false) (hg : ∀ F i j, RD K F (gv i j) (g i j)) : OpOk K (r2 (rI0 gv)) o := by
  intro F H ns vs ds dd Q l pk _ h t x y e
  rw [ho] at h
  obtain ⟨i, j, rfl, q, rfl⟩ := intD_some h
  obtain ⟨n, m, v, w, rfl, rfl, a, b⟩ := pk.two
  cases e
  obtain rfl := a.int
  obtain rfl := b.int
  rw [hm] at t
  exact ⟨i, j, rfl, rfl, Then.old t l (hg F i j) (.inl rfl)⟩
theorem k_sub : OpOk K (r2 (rI0 fun i j => .int (i - j))) .sub := k_int0 rfl rfl fun F i j => .int _
theorem k_mod : OpOk K (r2 (rI (fun _ j => 0 < j) fun i j => .int (i % j))) .mod := k_int rfl rfl (fun i j h => of_decide_eq_true h) fun F i j => .int _
theorem k_fdiv : OpOk K (r2 (rI CDivW fun i j => .int (i / j))) .fdiv := k_int rfl rfl (fun i j h => of_decide_eq_true (p := 0 < j ∧ j.natAbs.log2 < 9000) h) fun F i j => .int _
theorem k_pow : OpOk K (r2 (rI CPow fun i j => .int (i ^ j.toNat))) .pow := k_int rfl rfl (fun i j h => of_decide_eq_true (p := 0 ≤ j ∧ j ≤ 1000000 ∧ i.natAbs < 2 ^ 64) h) fun F i j => .int _
theorem k_le : OpOk K (r2 (rI0 fun i j => .bl (decide (i ≤ j)))) .le := k_int0 rfl rfl fun F i j => .bl _
theorem k_gt : OpOk K (r2 (rI0 fun i j => .bl (decide (j < i)))) .gt := k_int0 rfl rfl fun F i j => .bl _
theorem k_ge : OpOk K (r2 (rI0 fun i j => .bl (decide (j ≤ i)))) .ge := k_int0 rfl rfl fun F i j => .bl _
theorem k_add : OpOk K (r2 fun x y H Q => (rI0 (fun i j => .int (i + j)) x y H Q ∨ (∃ i j, x = .str i ∧ y = .str j ∧ i.length + j.length ≤ sizeLine ∧ Q (.str (i ++ j)) H)) ∨ (rCat x y H Q ∨ rCatP K x y H Q)) .add := by
  intro F H ns vs ds dd Q l pk hp h t x y e
  have h : addD ds = some dd := h
  unfold addD at h
  split at h
  · cases h
    obtain ⟨n, m, v, w, rfl, rfl, a, b⟩ := pk.two
    cases e
    obtain rfl := a.int
    obtain rfl := b.int
    exact .inl (.inl ⟨_, _, rfl, rfl, Then.old t l (.int _) (.inl rfl)⟩)
  · split at h
    · rename_i hz
      cases h
      obtain ⟨n, m, v, w, rfl, rfl, a, b⟩ := pk.two
      cases e
      obtain rfl := a.str
      obtain rfl := b.str
      exact .inl (.inr ⟨_, _, rfl, rfl, hz, Then.old t l (.str _) (.inl rfl)⟩)
    · cases h
  · split at h
    · rename_i hz
      cases h
      obtain ⟨n, m, v, w, rfl, rfl, a, b⟩ := pk.two
      cases e
      obtain ⟨p, vs, rfl, e1, r1⟩ := a.lst l (hp rfl n (by simp))
      obtain ⟨q, ws, rfl, e2, r2⟩ := b.lst l (hp rfl m (by simp))
      refine .inr (.inl ⟨_, _, _, _, rfl, rfl, e1, e2, by rw [r1.length, r2.length]; exact hz, fun p hp => Then.newL t l (r1.app r2) hp⟩)
    · cases h
  · split at h
    · rename_i hz
      cases h
      obtain ⟨n, m, v, w, rfl, rfl, a, b⟩ := pk.two
      cases e
      obtain ⟨p, vs, rfl, e1, r1⟩ := a.tup
      obtain ⟨q, ws, rfl, e2, r2⟩ := b.tup
      refine .inr (.inr ⟨_, _, _, _, rfl, rfl, SqT.up l e1.t, SqT.up l e2.t, by rw [r1.length, r2.length]; exact hz, fun hx => ?_, fun _ hy => ?_, fun _ _ p o hp ho => Then.newT t l (r1.app r2) hp ho⟩)
      · subst hx
        cases r1
        exact Then.old t l (.tup e2 r2) (.inr rfl)
      · subst hy
        cases r2
        rw [List.append_nil] at t
        exact Then.old t l (.tup e1 r1) (.inr rfl)
    · cases h
  · cases h
theorem k_mul : OpOk K (r2 fun x y H Q => (rI CMul (fun i j => .int (i * j)) x y H Q ∨ rRep x y H Q) ∨ ((rRepP K x y H Q ∨ rRepT1 K x y H Q) ∨ rRepS x y H Q)) .mul := by
  intro F H ns vs ds dd Q l pk hp h t x y e
  have h : mulD ds = some dd := h
  unfold mulD at h
  split at h
  · split at h
    · rename_i hz
      cases h
      obtain ⟨n, m, v, w, rfl, rfl, a, b⟩ := pk.two
      cases e
      obtain rfl := a.int
      obtain rfl := b.int
      exact .inl (.inl ⟨_, _, rfl, rfl, hz, Then.old t l (.int _) (.inl rfl)⟩)
    · cases h
  · split at h
    · rename_i hz
      cases h
      obtain ⟨n, m, v, w, rfl, rfl, a, b⟩ := pk.two
      cases e
      obtain ⟨p, vs, rfl, e1, r1⟩ := a.lst l (hp rfl n (by simp))
      obtain rfl := b.int
      exact .inl (.inr ⟨_, _, _, rfl, rfl, e1, hz.1, hz.2.1, by rw [r1.length]; exact hz.2.2, fun p hp => Then.newL t l (r1.rep _) hp⟩)
    · cases h
  · split at h
    · cases h
    · rename_i hz
      cases h
      rename_i ta tk
      obtain ⟨n, m, v, w, rfl, rfl, a, b⟩ := pk.two
      cases e
      obtain ⟨p, vs, rfl, e1, r1⟩ := a.tup
      obtain rfl := b.int
      rw [not_or, Decidable.not_not] at hz
      obtain ⟨z0, z1, z2, z3⟩ := hz
      by_cases k1 : tk = 1
      · subst k1
        have e2 : ∀ l : List D, (List.replicate (1 : Int).toNat l).flatten = l := fun l => by simp
        rw [e2] at t
        exact .inr (.inl (.inr ⟨_, _, rfl, rfl, SqT.up l e1.t, Then.old t l (.tup e1 r1) (.inr rfl)⟩))
      · refine .inr (.inl (.inl ⟨_, _, _, rfl, rfl, SqT.up l e1.t, fun z => z0 ?_, by omega, z2, by rw [r1.length]; exact z3, fun p o hp ho => Then.newT t l (r1.rep _) hp ho⟩))
        subst z
        cases r1; rfl
  · split at h
    · rename_i hz
      cases h
      obtain ⟨n, m, v, w, rfl, rfl, a, b⟩ := pk.two
      cases e
      obtain rfl := a.str
      obtain rfl := b.int
      exact .inr (.inr ⟨_, _, rfl, rfl, hz, Then.old t l (.str _) (.inl rfl)⟩)
    · cases h
  · cases h

/-! ### == and in -/
mutual
theorem RD.dp : ∀ {v : V} {d : D}, RD K F v d → d.eqb = true → Dp K F v d.py
  | _, _, .non, _ => .non
  | _, _, .bl b, _ => .bl b
  | _, _, .int i, _ => .int i
  | _, _, .str s, _ => .str s
  | _, _, .tup h r, e => by
    simp only [D.py]
    exact .tup h (RDs.dps r (by simpa [D.eqb] using e))
  | _, _, .lst h r, e => by
    simp only [D.py]
    exact .lst (SqL.of h) (RDs.dps r (by simpa [D.eqb] using e))
  | _, _, .scr h r, e => by simp [D.eqb] at e
theorem RDs.dps : ∀ {vs : List V} {ds : List D}, RDs K F vs ds → D.eqbs ds = true → DpAll K F vs (D.pys ds)
  | _, _, .nil, _ => .nil
  | _, _, .cons a r, e => by
    simp only [D.eqbs, Bool.and_eq_true] at e
    simp only [D.pys]
    exact .cons (RD.dp a e.1) (RDs.dps r e.2)
end
mutual
theorem lay_of : ∀ d : D, d.eqb = true → d.py.canLay0 = true
  | .non, _ => by simp [D.py, PyData.canLay0]
  | .bl b, _ => by simp [D.py, PyData.canLay0]
  | .int i, _ => by simp [D.py, PyData.canLay0]
  | .str s, h => by simpa [D.py, D.eqb] using h
  | .tup l, h => by simpa [D.py, PyData.canLay0] using lays_of l (by simpa [D.eqb] using h)
  | .lst l, h => by simpa [D.py, PyData.canLay0] using lays_of l (by simpa [D.eqb] using h)
  | .scr l, h => by simp [D.eqb] at h
  | .dic _ _, h => by simp [D.eqb] at h
  | .obj _ _ _, h => by simp [D.eqb] at h
theorem lays_of : ∀ l : List D, D.eqbs l = true → PyData.canLayAll0 (D.pys l) = true
  | [], _ => by simp [D.pys, PyData.canLayAll0]
  | d :: l, h => by
    simp only [D.eqbs, Bool.and_eq_true] at h
    simp [D.pys, PyData.canLayAll0, lay_of d h.1, lays_of l h.2]
end
theorem shaped_of {d : D} (h : d.eqb = true) (hd : d.py.depth ≤ 64) : SeqAt.shaped d.py = true := by
  unfold SeqAt.shaped
  rw [lay_of d h, decide_eq_true hd]; rfl
theorem pys_any (a : PyData) : ∀ l : List D, ((D.pys l).any fun z => PyData.eqv z a) = l.any fun z => PyData.eqv z.py a
  | [] => rfl
  | d :: l => by simp only [D.pys, List.any_cons, pys_any a l]
theorem Pk.dp {n : Nat} {v : V} {d : D} (h : Pk K F H n v d) (l : Le F H) (e : d.eqb = true) : Dp K H v d.py := (h.read l).dp e
theorem k_eq : OpOk K (r2 (rEqD K)) .eq := by
  intro F H ns vs ds dd Q l pk hp h t x y e
  obtain ⟨a, b, rfl, h⟩ := dyad_some h
  obtain ⟨n, m, v, w, rfl, rfl, pa, pb⟩ := pk.two
  cases e
  obtain ⟨k, h2, rfl⟩ := Option.map_eq_some_iff.mp h
  clear h
  unfold eqD at h2
  split at h2
  · rename_i hz
    simp only [Bool.and_eq_true, decide_eq_true_eq] at hz
    cases h2
    exact ⟨_, _, pa.dp l hz.1.1.1, pb.dp l hz.1.1.2, shaped_of hz.1.1.1 hz.1.2, shaped_of hz.1.1.2 hz.2, Then.old t l (.bl _) (.inl rfl)⟩
  · cases h2
theorem k_ne : OpOk K (r2 (rNeD K)) .ne := by
  intro F H ns vs ds dd Q l pk hp h t x y e
  obtain ⟨a, b, rfl, h⟩ := dyad_some h
  obtain ⟨n, m, v, w, rfl, rfl, pa, pb⟩ := pk.two
  cases e
  obtain ⟨k, h2, rfl⟩ := Option.map_eq_some_iff.mp h
  clear h
  unfold eqD at h2
  split at h2
  · rename_i hz
    simp only [Bool.and_eq_true, decide_eq_true_eq] at hz
    cases h2
    exact ⟨_, _, pa.dp l hz.1.1.1, pb.dp l hz.1.1.2, shaped_of hz.1.1.1 hz.1.2, shaped_of hz.1.1.2 hz.2, Then.old t l (.bl _) (.inl rfl)⟩
  · cases h2
def rInA (K : KW) (neg : Bool) : R2 := fun x y H Q =>
  ((∃ (c : Nat) (z : Str), x = .str ⟨#[c]⟩ ∧ y = .str z ∧ Q (.bl (if neg then !decide (c ∈ z.cps.toList) else decide (c ∈ z.cps.toList))) H) ∨
  (rInT K neg x y H Q ∨ ∃ d ds, Dp K H x d ∧ Dp K H y (.list ds) ∧ SeqAt.shaped d = true ∧ SeqAt.shaped (.list ds) = true ∧ Q (.bl (if neg then !(ds.any fun z => PyData.eqv z d) else ds.any fun z => PyData.eqv z d)) H)) ∨ rInD K neg x y H Q
theorem op_inA {X : Cx} (hu : X.A.units + 65 < cLine) : OpR X (compareOp .In) (rInA X.kw false) := (op_in_sign.or ((op_inT hu).or (op_inD hu))).or (op_inDict hu)
theorem op_ninA {X : Cx} (hu : X.A.units + 65 < cLine) : OpR X (compareOp .NotIn) (rInA X.kw true) := (op_notIn_sign.or ((op_ninT hu).or (op_notInD hu))).or (op_notInDict hu)
theorem inD_some {a : D} {l : List D} {k : Bool} (h : inD a l = some k) : a.eqb = true ∧ D.eqbs l = true ∧ a.py.depth ≤ 64 ∧ (D.lst l).py.depth ≤ 64 ∧ k = l.any fun z => PyData.eqv z.py a.py := by
  unfold inD at h
  split at h
  · rename_i hz
    simp only [Bool.and_eq_true, decide_eq_true_eq] at hz
    cases h
    exact ⟨hz.1.1.1, hz.1.1.2, hz.1.2, hz.2, rfl⟩
  · cases h
theorem k_in (neg : Bool) (o : Op) (ho : opF o = inSeq neg) (hm : o.makes = false) : OpOk K (r2 (rInA K neg)) o := by
  intro F H ns vs ds dd Q l pk hp h t x y e
  rw [ho] at h
  rw [hm] at t
  unfold inSeq at h
  split at h
  · split at h
    · rename_i hz
      cases h
      obtain ⟨n, m, v, w, rfl, rfl, a, b⟩ := pk.two
      cases e
      obtain rfl := a.str
      obtain rfl := b.str
      rename_i c z
      obtain ⟨k, hk⟩ : ∃ k, c = ⟨#[k]⟩ := by
        obtain ⟨cs⟩ := c
        exact ⟨cs[0]'(by simp at hz; omega), by
          congr 1
          exact Array.ext (by simpa using hz) fun i h1 h2 => by
            have : i = 0 := by simp at h2; omega
            subst this; rfl⟩
      subst hk
      exact .inl (.inl ⟨_, _, rfl, rfl, Then.old t l (.bl _) (.inl rfl)⟩)
    · cases h
  · rename_i a z
    obtain ⟨n, m, v, w, rfl, rfl, pa, pb⟩ := pk.two
    cases e
    obtain ⟨k, h', rfl⟩ := Option.map_eq_some_iff.mp h
    obtain ⟨h1, h2, h3, h4, rfl⟩ := inD_some h'
    have e2 : (D.tup z).eqb = true := by simpa [D.eqb] using h2
    have h5 : (D.tup z).py.depth ≤ 64 := by simpa [D.py, PyData.depth] using h4
    have dp := pb.dp l e2
    have sh := shaped_of e2 h5
    simp only [D.py] at dp sh
    refine .inl (.inr (.inl ⟨_, _, pa.dp l h1, dp, shaped_of h1 h3, sh, ?_⟩))
    rw [pys_any]
    exact Then.old t l (.bl _) (.inl rfl)
  · rename_i a z
    obtain ⟨n, m, v, w, rfl, rfl, pa, pb⟩ := pk.two
    cases e
    obtain ⟨k, h', rfl⟩ := Option.map_eq_some_iff.mp h
    obtain ⟨h1, h2, h3, h4, rfl⟩ := inD_some h'
    have e2 : (D.lst z).eqb = true := by simpa [D.eqb] using h2
    have dp := pb.dp l e2
    have sh := shaped_of e2 h4
    simp only [D.py] at dp sh
    refine .inl (.inr (.inr ⟨_, _, pa.dp l h1, dp, shaped_of h1 h3, sh, ?_⟩))
    rw [pys_any]
    exact Then.old t l (.bl _) (.inl rfl)
  · split at h
    · rename_i a ks w hk
      cases h
      obtain ⟨n, m, v, w, rfl, rfl, pa, pb⟩ := pk.two
      cases e
      obtain ⟨a, o, kvs, vs, rfl, ho, hd, r1, _⟩ := pb.dicH l
      exact .inr ⟨_, _, _, _, _, _, ⟨rfl, ho, hd, r1, pa.read l, hk⟩, Then.old t l (.bl _) (.inl rfl)⟩
    · cases h
  · cases h
end Ck

set_option Elab.async false
set_option linter.all false
set_option maxRecDepth 100000
/-! Ck5: list(reversed(list)). -/
namespace Ck
open PySem PySem.Spec PyProof.Rows L2 PySem.Calls
section
variable {prog : Program} {w : World} {A : Around} {E : Value → Shared → Prop} {s : Shared}
theorem init_rev {R : Result → Shared → Prop} {it l : Addr} {items : Array Value} (hh : A.handled = none) (hit : s.heap.IsRevIter it l ((items.size : Int) - 1)) (hl : s.heap.IsList l items) (hne : l ≠ it) (hn : items.size ≤ sizeLine)
    (S : Addr) (hS : s.heap.get? S = some { cls := .type "list", data := .seq #[] }) (hSi : S ≠ it) (hSl : S ≠ l)
    (hR : ∀ h' tk acc' c', (∀ b o, b ≠ S → b ≠ it → s.heap.get? b = some o → h'.get? b = some o) → h'.get? S = some { cls := .type "list", dict := none, data := .seq acc' c', slots := #[] } →
      ItemsOf (fun i v => items[items.size - 1 - i]? = some v) acc' items.size → R (.ok (.ret .none)) { s with heap := h', toks := tk }) :
    wpAny (model prog w) A.in1 (Builtin.«list.__init__» ⟨[.ref S, .ref it], []⟩)
      (fun fin s' => match fin with | .done f => R (.ok f) s' | .again c' => c'.quiet = true ∧ codeAny (model prog w) A c' R s') (fun e s' => R (.error e) s') s := by
  have W := (Walks.listRev (prog := prog) (w := w) (A := A.in1) hh it l hne items).toS
  have hSf : S ∉ [it, l] := by simp only [List.mem_cons, List.not_mem_nil, or_false, not_or]; exact ⟨hSi, hSl⟩
  show wpAny _ A.in1 (do let old ← Builtin.List.listItems (.ref S); Builtin.List.listUpdate (.ref S) (fun _ => #[]); letGo old.toList.reverse; Builtin.List.listExtendWith (.ref S) (.ref it) .none) _ _ s
  refine wpAny_bind ?_
  unfold Builtin.List.listItems
  refine wpAny_bind (wpAny_seqItems hS rfl (wpAny_pure ?_))
  show wpAny _ A.in1 (updateSeq S (fun _ => #[]) >>= fun _ => letGo (#[] : Array Value).toList.reverse >>= fun _ => Builtin.List.listExtendWith (.ref S) (.ref it) .none) _ _ s
  refine wpAny_bind (wpAny_updateSeq hS rfl ?_)
  have hS₂ := Heap.get?_update_self (Obj.mapSeq (fun _ => (#[] : Array Value))) hS rfl
  have oth : ∀ b o, b ≠ S → s.heap.get? b = some o → (s.heap.update S (Obj.mapSeq (fun _ => (#[] : Array Value)))).get? b = some o :=
    fun b o hb e => (Heap.get?_update_other _ _ (Ne.symm hb)).trans e
  refine wpAny_bind (wpAny_letGo ?_)
  have hit1 : (s.heap.update S (Obj.mapSeq (fun _ => (#[] : Array Value)))).IsRevIter it l ((items.size : Int) - 1) := hit.at fun o e => oth _ _ (Ne.symm hSi) e
  have hl1 : (s.heap.update S (Obj.mapSeq (fun _ => (#[] : Array Value)))).IsList l items := by
    obtain ⟨ol, hol, r⟩ := hl
    exact ⟨ol, oth _ _ (Ne.symm hSl) hol, r⟩
  have hT : ({ s with heap := s.heap.update S (Obj.mapSeq (fun _ => (#[] : Array Value))) } : Shared).TypeIs (.ref it) "list_reverseiterator" := Heap.IsRevIter.typeIs (s := { s with heap := s.heap.update S (Obj.mapSeq (fun _ => (#[] : Array Value))) }) hit1
  have h1 : Builtin.List.listSameRef (.ref S) (.ref it) = false := by simp [Builtin.List.listSameRef, hSi]
  unfold Builtin.List.listExtendWith
  refine wpAny_bind (wpAny_typeOf hT ?_)
  rw [if_neg (by rw [h1]; decide)]
  refine wpAny_bind (wpAny_pyIter_revIter (s := { s with heap := s.heap.update S (Obj.mapSeq (fun _ => (#[] : Array Value))) }) hit1 ?_)
  refine wpAny_bind (wpAny_holding ?_)
  unfold Builtin.List.listLengthHint
  refine wpAny_bind (wpAny_specialOf hT RT.nolen_lri ?_)
  show wpAny _ A.in1 (specialOf (Value.ref it) (Str.ofString "__length_hint__") >>= _) _ _ _
  refine wpAny_bind (wpAny_specialOf hT RT.hint_lri ?_)
  generalize hid : ("list_reverseiterator.__length_hint__" : String) = id0
  wp_delta
  rw [show splitId id0 = some ("list_reverseiterator", "__length_hint__") from by subst hid; decide +kernel]
  subst hid
  refine wpAny_bind (wpAny_isInstance (b := true) hT (by rw [isSubtype_type]; kernel_rfl) ?_)
  refine wpAny_pure ?_
  rw [if_neg (by decide)]
  have e0 : ((items.size : Nat) : Int) - 1 - ((0 : Nat) : Int) = (items.size : Int) - 1 := by omega
  refine wpAny_pure ⟨plainId_quiet F.plain_extend_loop _, codeAny_extend_loopS W hn _ hSf _ items.size 0 _ #[] _ rfl (Nat.zero_le _) ⟨Nat.zero_le _, by rw [e0]; exact hit1, hl1⟩ hS₂ (ItemsOf.nil _) fun s' acc' c' hm hS' hacc => ?_⟩
  rw [Moved.eq_with hm]
  refine hR s'.heap s'.toks acc' c' (fun b o hb1 hb2 e => hm.heap b o (fun hmem => ?_) (oth b o hb1 e)) hS' hacc
  rcases List.mem_cons.mp hmem with e' | hmem
  · exact hb1 e'
  · exact hb2 (List.mem_singleton.mp hmem)
theorem call_list_rev {it l : Addr} {items : Array Value} {Q : Value → Shared → Prop} (hh : A.handled = none) (hit : s.heap.IsRevIter it l ((items.size : Int) - 1)) (hl : s.heap.IsList l items) (hne : l ≠ it) (hn : items.size ≤ sizeLine)
    (hQ : ∀ h' tk acc' c', (∀ b o, b ≠ it → s.heap.get? b = some o → h'.get? b = some o) → h'.get? s.heap.objs.size = some { cls := .type "list", dict := none, data := .seq acc' c', slots := #[] } →
      ItemsOf (fun i v => items[items.size - 1 - i]? = some v) acc' items.size → Q (.ref s.heap.objs.size) { s with heap := h', toks := tk }) :
    wpAny (model prog w) A (call (.type "list") [.ref it]) Q E s := by
  refine callType_codes (Q₁ := fun obj s₁ => obj = .ref s.heap.objs.size ∧ s₁ = { s with heap := s.heap.push { cls := .type "list", data := .seq #[] } }) F.called_list (F.typeCall_list_1 _) F.entry_list_init
    (code_list_new _ ⟨rfl, rfl⟩) fun obj s₁ h₁ => ?_
  obtain ⟨rfl, rfl⟩ := h₁
  have hS : (s.heap.push { cls := .type "list", data := .seq #[] }).get? s.heap.objs.size = some { cls := .type "list", data := .seq #[] } := Heap.get?_push_size _ rfl
  obtain ⟨oi, hoi, _⟩ := id hit
  obtain ⟨ol, hol, _⟩ := id hl
  refine ⟨⟨_, hS, rfl⟩, F.args_list_init_2 _ _, init_rev (A := A.in1) hh (hit.at fun o e => Heap.get?_push_of_some _ e) (hl.push _) hne hn _ hS (Nat.ne_of_gt (Heap.lt_size hoi)) (Nat.ne_of_gt (Heap.lt_size hol)) fun h' tk acc' c' hk hS' hacc => ?_⟩
  exact ⟨rfl, hQ h' tk acc' c' (fun b o hb e => hk b o (Nat.ne_of_lt (Heap.lt_size e)) hb (Heap.get?_push_of_some _ e)) hS' hacc⟩
end
section
variable {X : Cx}
theorem pe_listRev {e : Expr} {te : TE} {p p2 pos pos2 : Pos} (hc : X.calm = true) (hg : Gl X "list") (hm : X.mg "list" = none) (hg2 : Gl X "reversed") (hm2 : X.mg "reversed" = none) (he : PE X e te)
    (hs : starEach [e] X.env = (false, eval e X.env) :: starEach [] X.env)
    (hs2 : starEach [.Call (.Name "reversed" p2) [e] [] pos2] X.env = (false, eval (.Call (.Name "reversed" p2) [e] [] pos2) X.env) :: starEach [] X.env := by rfl) :
    PE X (.Call (.Name "list" p) [.Call (.Name "reversed" p2) [e] [] pos2] [] pos) (tRevL X.K te) := by
  refine ⟨fun pins s σ H Q I h => ?_⟩
  refine Call_ (ld_blt I hg hm boot_list (PyProof.Rows.callWith_type1 (args_cons (Call_ (ld_blt I hg2 hm2 PyProof.Rows.boot_reversed (PyProof.Rows.callWith_type1 (args_cons (thn (he.run pins s σ H _ I h) fun u s1 ⟨v, H1, I1, r1, q1⟩ => args_nil ?_) hs) hs rfl))) hs2) hs2 rfl))
  obtain ⟨a, xs, ev, hq, q⟩ := q1
  subst ev
  obtain rfl : u = Value.ref a := r1
  obtain ⟨its, rv, p', hz⟩ := I1.list hq
  refine call_reversed_list p'.isList (args_nil ?_)
  have k0 : ∀ b o, s1.heap.get? b = some o → (s1.heap.push (revObj a ((its.toArray.size : Int) - 1))).get? b = some o := fun b o e => Heap.get?_push_of_some _ e
  have I2 : Inv X pins σ H1 { s1 with heap := s1.heap.push (revObj a ((its.toArray.size : Int) - 1)) } := I1.kept (t' := s1.toks) k0
  obtain ⟨f0, f1, f2, f3, f4, f5⟩ := I1.fpOk (H' := H1) (b := s1.heap.objs.size) (Nat.le_refl _) (I1.hok.fresh (Nat.le_refl _))
  have hl := p'.isList
  obtain ⟨ol, hol, _⟩ := id hl
  have hne : a ≠ s1.heap.objs.size := Nat.ne_of_lt (Heap.lt_size hol)
  have hn : its.toArray.size ≤ sizeLine := by rw [List.size_toArray, ← rv.length]; exact hz
  refine call_list_rev (s := { s1 with heap := s1.heap.push (revObj a ((its.toArray.size : Int) - 1)) }) (I1.ok.hd hc) ⟨_, Heap.get?_push_size _ rfl, rfl, rfl⟩ (hl.push _) hne hn fun h' tk acc c' hk hS hi => ?_
  have fr2 := I2.hok.fresh (Nat.le_refl _)
  have I3 : Inv X pins σ (upd H1 (s1.heap.push (revObj a ((its.toArray.size : Int) - 1))).objs.size (.lst xs.reverse)) { s1 with heap := h', toks := tk } := I2.turnedNew (t' := tk) (ch := [s1.heap.objs.size]) (fun b o hb e => hk b o (by simpa using hb) e) (fun b hb => by
      have e : b = s1.heap.objs.size := by simpa using hb
      subst e
      exact ⟨f0, f1, f2, f3, f4, f5⟩) (Nat.le_refl _) ⟨by rw [List.length_reverse]; exact hz, acc.toList, c', RT.vals_rev rv hi, by rw [Array.toArray_toList]; exact hS⟩
  exact ⟨.ref _, _, I3, rfl, q _ fr2⟩
end
end Ck

set_option Elab.async false
set_option linter.all false
set_option maxRecDepth 100000
/-! Ck6: the other operators. -/
namespace Ck
open PySem PySem.Spec PyProof.Rows L2
variable {K : KW} {F H : Hp} {Q : VK}

abbrev r1 (r : V → Hp → VK → Prop) : List V → Hp → VK → Prop := fun vs H Q => ∀ x, vs = [x] → r x H Q
theorem k_not : OpOk K (r1 fun x H Q => ∃ c, x = .bl c ∧ Q (.bl (!c)) H) .not := by
  intro F H ns vs ds dd Q l pk _ h t x e
  replace h := one_some h
  obtain ⟨a, rfl, h⟩ := h
  obtain ⟨n, v, rfl, rfl, p⟩ := pk.one
  cases e
  unfold notD at h
  split at h
  · cases h
    exact ⟨_, p.bl, Then.old t l (.bl _) (.inl rfl)⟩
  · cases h
theorem k_neg : OpOk K (r1 (rU fun i => .int (-i))) .neg := by
  intro F H ns vs ds dd Q l pk _ h t x e
  replace h := one_some h
  obtain ⟨a, rfl, h⟩ := h
  obtain ⟨n, v, rfl, rfl, p⟩ := pk.one
  cases e
  unfold negD at h
  split at h
  · cases h
    exact ⟨_, p.int, Then.old t l (.int _) (.inl rfl)⟩
  · cases h
theorem Pk.isNon {n : Nat} {v : V} {d : D} (p : Pk K F H n v d) : decide (v = .non) = d.isNon := by
  obtain ⟨A, r⟩ := p
  have key : ∀ {v : V} {d : D} {F : Hp}, RD K F v d → decide (v = .non) = d.isNon := by
    intro v d F r
    cases r <;> simp [D.isNon]
  cases r with
  | zero r => exact key r
  | flat r _ => exact key r
  | lst _ _ => simp [D.isNon]
  | dic _ _ _ _ => simp [D.isNon]
theorem k_isN : OpOk K (r1 fun x H Q => Q (.bl (decide (x = .non))) H) .isN := by
  intro F H ns vs ds dd Q l pk _ h t x e
  replace h := one_some h
  obtain ⟨a, rfl, h⟩ := h
  obtain ⟨n, v, rfl, rfl, p⟩ := pk.one
  cases e
  cases h
  show Q (.bl (decide (x = .non))) H
  rw [p.isNon]
  exact Then.old t l (.bl _) (.inl rfl)
theorem k_notN : OpOk K (r1 fun x H Q => Q (.bl (!decide (x = .non))) H) .notN := by
  intro F H ns vs ds dd Q l pk _ h t x e
  replace h := one_some h
  obtain ⟨a, rfl, h⟩ := h
  obtain ⟨n, v, rfl, rfl, p⟩ := pk.one
  cases e
  cases h
  show Q (.bl (!decide (x = .non))) H
  rw [p.isNon]
  exact Then.old t l (.bl _) (.inl rfl)
/-- a list read at H -/
theorem Pk.lstH {n : Nat} {v : V} {ds : List D} (h : Pk K F H n v (.lst ds)) (l : Le F H) : ∃ a vs, v = .ref a ∧ H a = some (.lst vs) ∧ RDs K H vs ds := by
  have r := h.read l
  cases r with
  | lst e q => exact ⟨_, _, rfl, e, q⟩
theorem k_len : OpOk K (fun xs H Q => ∃ x n, xs = [x] ∧ LenV K x H n ∧ Q (.int n) H) .len := by
  intro F H ns vs ds dd Q l pk _ h t
  replace h := one_some h
  obtain ⟨a, rfl, h⟩ := h
  obtain ⟨n, v, rfl, rfl, p⟩ := pk.one
  unfold lenD at h
  split at h
  · cases h
    obtain ⟨a, vs, rfl, e, r⟩ := p.lstH l
    exact ⟨_, _, rfl, .inl ⟨vs, SqL.of e, r.length.symm⟩, Then.old t l (.int _) (.inl rfl)⟩
  · cases h
    obtain ⟨a, vs, rfl, e, r⟩ := p.scr
    exact ⟨_, _, rfl, .inl ⟨vs, SqL.up l e, r.length.symm⟩, Then.old t l (.int _) (.inl rfl)⟩
  · cases h
    obtain ⟨a, vs, rfl, e, r⟩ := p.tup
    exact ⟨_, _, rfl, .inr ⟨vs, SqT.up l e.t, r.length.symm⟩, Then.old t l (.int _) (.inl rfl)⟩
  · split at h
    · rename_i hz
      cases h
      obtain rfl := p.str
      exact ⟨_, _, rfl, ⟨hz, rfl⟩, Then.old t l (.int _) (.inl rfl)⟩
    · cases h
  · cases h
theorem k_listOf : OpOk K (fun xs H Q => (∃ p ys, xs = [.ref p] ∧ (SqL K H p ys ∨ SqT K H p ys) ∧ ∀ l, H l = none → Q (.ref l) (upd H l (.lst ys))) ∨ rListD K xs H Q) .listOf := by
  intro F H ns vs ds dd Q l pk hp h t
  replace h := one_some h
  obtain ⟨a, rfl, h⟩ := h
  obtain ⟨n, v, rfl, rfl, p⟩ := pk.one
  unfold listD at h
  split at h
  · cases h
    obtain ⟨a, vs, rfl, e, r⟩ := p.lst l (hp rfl n (by simp))
    exact .inl ⟨_, _, rfl, .inl (SqL.of e), fun q hq => Then.newL t l r hq⟩
  · cases h
    obtain ⟨a, vs, rfl, e, r⟩ := p.tup
    exact .inl ⟨_, _, rfl, .inr (SqT.up l e.t), fun q hq => Then.newL t l r hq⟩
  · cases h
    obtain ⟨a, o, kvs, vs, rfl, ho, hd, r1, _⟩ := p.dic l (hp rfl n (by simp))
    exact .inr ⟨_, _, _, _, _, rfl, ho, hd, fun q hq => Then.newL t l r1 hq⟩
  · cases h
theorem k_tupleOf : OpOk K (fun xs H Q => ∃ p ys, xs = [.ref p] ∧ ((SqL K H p ys ∧ NewT H ys Q) ∨ (SqT K H p ys ∧ Q (.ref p) H))) .tupleOf := by
  intro F H ns vs ds dd Q l pk hp h t
  replace h := one_some h
  obtain ⟨a, rfl, h⟩ := h
  obtain ⟨n, v, rfl, rfl, p⟩ := pk.one
  unfold tupD at h
  split at h
  · cases h
    obtain ⟨a, vs, rfl, e, r⟩ := p.lst l (hp rfl n (by simp))
    exact ⟨_, _, rfl, .inl ⟨SqL.of e, fun q o hq ho => Then.newT t l r hq ho⟩⟩
  · cases h
    obtain ⟨a, vs, rfl, e, r⟩ := p.tup
    exact ⟨_, _, rfl, .inr ⟨SqT.up l e.t, Then.old t l (.tup e r) (.inr rfl)⟩⟩
  · cases h
theorem k_rev {o : Op} (ho : opF o = one revD) (hm : o.makes = true) (hpr : o.prop = true) : OpOk K (r1 fun x H Q => ∃ a xs, x = .ref a ∧ SqL K H a xs ∧ ∀ p, H p = none → Q (.ref p) (upd H p (.lst xs.reverse))) o := by
  intro F H ns vs ds dd Q l pk hp h t x e
  rw [ho] at h
  rw [hm] at t
  replace h := one_some h
  obtain ⟨a, rfl, h⟩ := h
  obtain ⟨n, v, rfl, rfl, p⟩ := pk.one
  cases e
  unfold revD at h
  split at h
  · cases h
    obtain ⟨a, vs, rfl, e, r⟩ := p.lst l (hp hpr n (by simp))
    exact ⟨_, _, rfl, SqL.of e, fun q hq => Then.newL t l r.rev hq⟩
  · cases h
theorem k_int1 : OpOk K (fun xs H Q => (∃ i, xs = [.int i] ∧ Q (.int i) H) ∨ ∃ k, xs = [.bl k] ∧ Q (.int (if k then 1 else 0)) H) .int1 := by
  intro F H ns vs ds dd Q l pk hp h t
  replace h := one_some h
  obtain ⟨a, rfl, h⟩ := h
  obtain ⟨n, v, rfl, rfl, p⟩ := pk.one
  unfold int1D at h
  split at h
  · cases h
    obtain rfl := p.bl
    exact .inr ⟨_, rfl, Then.old t l (.int _) (.inl rfl)⟩
  · cases h
    obtain rfl := p.int
    exact .inl ⟨_, rfl, Then.old t l (.int _) (.inl rfl)⟩
  · cases h
theorem k_abs : OpOk K (fun xs H Q => ∃ i, xs = [.int i] ∧ Q (.int (if i < 0 then -i else i)) H) .abs1 := by
  intro F H ns vs ds dd Q l pk hp h t
  replace h := one_some h
  obtain ⟨a, rfl, h⟩ := h
  obtain ⟨n, v, rfl, rfl, p⟩ := pk.one
  unfold abs1D at h
  split at h
  · cases h
    obtain rfl := p.int
    exact ⟨_, rfl, Then.old t l (.int _) (.inl rfl)⟩
  · cases h
theorem k_min2 : OpOk K (fun xs H Q => ∃ i j, xs = [.int i, .int j] ∧ Q (.int (if j < i then j else i)) H) .min2 := by
  intro F H ns vs ds dd Q l pk hp h t
  obtain ⟨i, j, rfl, _, rfl⟩ := intD_some h
  obtain ⟨n, m, v, w, rfl, rfl, a, b⟩ := pk.two
  obtain rfl := a.int
  obtain rfl := b.int
  exact ⟨i, j, rfl, Then.old t l (.int _) (.inl rfl)⟩
theorem k_max2 : OpOk K (fun xs H Q => ∃ i j, xs = [.int i, .int j] ∧ Q (.int (if j > i then j else i)) H) .max2 := by
  intro F H ns vs ds dd Q l pk hp h t
  obtain ⟨i, j, rfl, _, rfl⟩ := intD_some h
  obtain ⟨n, m, v, w, rfl, rfl, a, b⟩ := pk.two
  obtain rfl := a.int
  obtain rfl := b.int
  exact ⟨i, j, rfl, Then.old t l (.int _) (.inl rfl)⟩
/-! lists of ints, of truths, of texts -/
theorem asInts_map : ∀ {l : List D} {ns : List Int}, asInts l = some ns → ∀ {vs : List V}, RDs K F vs l → vs = ns.map V.int
  | [], ns, h, vs, r => by
    cases h; cases r; rfl
  | .int i :: l, ns, h, vs, r => by
    obtain ⟨ms, h2, rfl⟩ := Option.map_eq_some_iff.mp h
    cases r with
    | cons a r => cases a; rw [List.map_cons, ← asInts_map h2 r]
  | .non :: _, _, h, _, _ => nomatch h
  | .bl _ :: _, _, h, _, _ => nomatch h
  | .str _ :: _, _, h, _, _ => nomatch h
  | .tup _ :: _, _, h, _, _ => nomatch h
  | .lst _ :: _, _, h, _, _ => nomatch h
  | .scr _ :: _, _, h, _, _ => nomatch h
  | .dic _ _ :: _, _, h, _, _ => nomatch h
  | .obj _ _ _ :: _, _, h, _, _ => nomatch h
theorem asBls_map : ∀ {l : List D} {ns : List Bool}, asBls l = some ns → ∀ {vs : List V}, RDs K F vs l → vs = ns.map V.bl
  | [], ns, h, vs, r => by
    cases h; cases r; rfl
  | .bl i :: l, ns, h, vs, r => by
    obtain ⟨ms, h2, rfl⟩ := Option.map_eq_some_iff.mp h
    cases r with
    | cons a r => cases a; rw [List.map_cons, ← asBls_map h2 r]
  | .non :: _, _, h, _, _ => nomatch h
  | .int _ :: _, _, h, _, _ => nomatch h
  | .str _ :: _, _, h, _, _ => nomatch h
  | .tup _ :: _, _, h, _, _ => nomatch h
  | .lst _ :: _, _, h, _, _ => nomatch h
  | .scr _ :: _, _, h, _, _ => nomatch h
  | .dic _ _ :: _, _, h, _, _ => nomatch h
  | .obj _ _ _ :: _, _, h, _, _ => nomatch h
theorem asStrs_map : ∀ {l : List D} {ns : List Str}, asStrs l = some ns → ∀ {vs : List V}, RDs K F vs l → vs = ns.map V.str
  | [], ns, h, vs, r => by
    cases h; cases r; rfl
  | .str i :: l, ns, h, vs, r => by
    obtain ⟨ms, h2, rfl⟩ := Option.map_eq_some_iff.mp h
    cases r with
    | cons a r => cases a; rw [List.map_cons, ← asStrs_map h2 r]
  | .non :: _, _, h, _, _ => nomatch h
  | .int _ :: _, _, h, _, _ => nomatch h
  | .bl _ :: _, _, h, _, _ => nomatch h
  | .tup _ :: _, _, h, _, _ => nomatch h
  | .lst _ :: _, _, h, _, _ => nomatch h
  | .scr _ :: _, _, h, _, _ => nomatch h
  | .dic _ _ :: _, _, h, _, _ => nomatch h
  | .obj _ _ _ :: _, _, h, _, _ => nomatch h
theorem k_sum : OpOk K (rSum K) .sum1 := by
  intro F H ns vs ds dd Q l pk hp h t
  replace h := one_some h
  obtain ⟨a, rfl, h⟩ := h
  obtain ⟨n, v, rfl, rfl, p⟩ := pk.one
  unfold sumD at h
  split at h
  · obtain ⟨ms, h2, rfl⟩ := Option.map_eq_some_iff.mp h
    obtain ⟨a, vs, rfl, e, r⟩ := p.lstH l
    rw [asInts_map h2 r] at e
    exact ⟨_, _, rfl, SqL.of e, Then.old t l (.int _) (.inl rfl)⟩
  · cases h
theorem k_all : OpOk K (rAll K) .all1 := by
  intro F H ns vs ds dd Q l pk hp h t
  replace h := one_some h
  obtain ⟨a, rfl, h⟩ := h
  obtain ⟨n, v, rfl, rfl, p⟩ := pk.one
  unfold all1D at h
  split at h
  · obtain ⟨ms, h2, rfl⟩ := Option.map_eq_some_iff.mp h
    obtain ⟨a, vs, rfl, e, r⟩ := p.lstH l
    rw [asBls_map h2 r] at e
    exact ⟨_, _, rfl, SqL.of e, Then.old t l (.bl _) (.inl rfl)⟩
  · cases h
theorem k_any : OpOk K (rAny K) .any1 := by
  intro F H ns vs ds dd Q l pk hp h t
  replace h := one_some h
  obtain ⟨a, rfl, h⟩ := h
  obtain ⟨n, v, rfl, rfl, p⟩ := pk.one
  unfold any1D at h
  split at h
  · obtain ⟨ms, h2, rfl⟩ := Option.map_eq_some_iff.mp h
    obtain ⟨a, vs, rfl, e, r⟩ := p.lstH l
    rw [asBls_map h2 r] at e
    exact ⟨_, _, rfl, SqL.of e, Then.old t l (.bl _) (.inl rfl)⟩
  · cases h
theorem leastI_mem : ∀ (l : List Int) (a : Int), leastI a l ∈ a :: l ∧ ∀ y ∈ a :: l, leastI a l ≤ y
  | [], a => ⟨by simp [leastI], by simp [leastI]⟩
  | b :: l, a => by
    have e : leastI a (b :: l) = leastI (if b < a then b else a) l := rfl
    obtain ⟨h1, h2⟩ := leastI_mem l (if b < a then b else a)
    rw [e]
    have h3 := h2 _ (List.mem_cons_self ..)
    constructor
    · rcases List.mem_cons.mp h1 with h | h
      · rw [h]; split <;> simp
      · simp [h]
    · intro y hy
      have h4 : (if b < a then b else a) ≤ a ∧ (if b < a then b else a) ≤ b := by split <;> omega
      rcases List.mem_cons.mp hy with rfl | hy
      · exact Int.le_trans h3 h4.1
      · rcases List.mem_cons.mp hy with rfl | hy
        · exact Int.le_trans h3 h4.2
        · exact h2 y (List.mem_cons_of_mem _ hy)
theorem mostI_mem : ∀ (l : List Int) (a : Int), mostI a l ∈ a :: l ∧ ∀ y ∈ a :: l, y ≤ mostI a l
  | [], a => ⟨by simp [mostI], by simp [mostI]⟩
  | b :: l, a => by
    have e : mostI a (b :: l) = mostI (if a < b then b else a) l := rfl
    obtain ⟨h1, h2⟩ := mostI_mem l (if a < b then b else a)
    rw [e]
    have h3 := h2 _ (List.mem_cons_self ..)
    constructor
    · rcases List.mem_cons.mp h1 with h | h
      · rw [h]; split <;> simp
      · simp [h]
    · intro y hy
      have h4 : a ≤ (if a < b then b else a) ∧ b ≤ (if a < b then b else a) := by split <;> omega
      rcases List.mem_cons.mp hy with rfl | hy
      · exact Int.le_trans h4.1 h3
      · rcases List.mem_cons.mp hy with rfl | hy
        · exact Int.le_trans h4.2 h3
        · exact h2 y (List.mem_cons_of_mem _ hy)
theorem k_min1 : OpOk K (rMin K) .min1 := by
  intro F H ns vs ds dd Q l pk hp h t
  replace h := one_some h
  obtain ⟨a, rfl, h⟩ := h
  obtain ⟨n, v, rfl, rfl, p⟩ := pk.one
  unfold min1D at h
  split at h
  · split at h
    · rename_i a z h2
      cases h
      obtain ⟨p, vs, rfl, e, r⟩ := p.lstH l
      rw [asInts_map h2 r] at e
      refine ⟨_, _, rfl, SqL.of e, by simp, fun m h3 h4 => ?_⟩
      obtain ⟨h5, h6⟩ := leastI_mem z a
      have e5 : m = leastI a z := by
        have q1 := h6 m h3
        have q2 := h4 _ h5
        omega
      subst e5
      exact Then.old t l (.int _) (.inl rfl)
    · cases h
  · cases h
theorem k_max1 : OpOk K (rMax K) .max1 := by
  intro F H ns vs ds dd Q l pk hp h t
  replace h := one_some h
  obtain ⟨a, rfl, h⟩ := h
  obtain ⟨n, v, rfl, rfl, p⟩ := pk.one
  unfold max1D at h
  split at h
  · split at h
    · rename_i a z h2
      cases h
      obtain ⟨p, vs, rfl, e, r⟩ := p.lstH l
      rw [asInts_map h2 r] at e
      refine ⟨_, _, rfl, SqL.of e, by simp, fun m h3 h4 => ?_⟩
      obtain ⟨h5, h6⟩ := mostI_mem z a
      have e5 : m = mostI a z := by
        have q1 := h6 m h3
        have q2 := h4 _ h5
        omega
      subst e5
      exact Then.old t l (.int _) (.inl rfl)
    · cases h
  · cases h
/-! ranges as values -/
theorem rds_rng (a b : Int) : RDs K F (rgV a b) (rngD a b) := by
  unfold rgV rngD
  generalize (b - a).toNat = n
  suffices ∀ l : List Nat, RDs K F (l.map fun (i : Nat) => V.int (a + (i : Nat))) (l.map fun (i : Nat) => D.int (a + (i : Nat))) from this _
  intro l
  induction l with
  | nil => exact .nil
  | cons x l ih => exact .cons (.int _) ih
theorem okRg_of {a b : Int} (h : okRg a b = true) : RgOk a b := of_decide_eq_true (p := -(2 ^ 62) ≤ a ∧ a < 2 ^ 62 ∧ -(2 ^ 62) ≤ b ∧ b < 2 ^ 62 ∧ (b - a).toNat ≤ 2 ^ 24) h
abbrev rRg (f : List V → HO) : Int → Int → Hp → VK → Prop := fun a b H Q => RgOk a b ∧ ∀ q, H q = none → Q (.ref q) (upd H q (f (rgV a b)))
theorem k_listRg1 : OpOk K (r1 fun x H Q => ∃ n, x = .int n ∧ rRg .lst 0 n H Q) .listRg1 := by
  intro F H ns vs ds dd Q l pk hp h t x e
  replace h := one_some h
  obtain ⟨a, rfl, h⟩ := h
  obtain ⟨n, v, rfl, rfl, p⟩ := pk.one
  cases e
  unfold rg1D at h
  split at h
  · split at h
    · rename_i hz
      cases h
      exact ⟨_, p.int, okRg_of hz, fun q hq => Then.newL t l (rds_rng 0 _) hq⟩
    · cases h
  · cases h
theorem k_tupRg1 : OpOk K (r1 fun x H Q => ∃ n, x = .int n ∧ RgOk 0 n ∧ NewT H (rgV 0 n) Q) .tupRg1 := by
  intro F H ns vs ds dd Q l pk hp h t x e
  replace h := one_some h
  obtain ⟨a, rfl, h⟩ := h
  obtain ⟨n, v, rfl, rfl, p⟩ := pk.one
  cases e
  unfold rg1D at h
  split at h
  · split at h
    · rename_i hz
      cases h
      exact ⟨_, p.int, okRg_of hz, fun q o hq ho => Then.newT t l (rds_rng 0 _) hq ho⟩
    · cases h
  · cases h
theorem k_listRg2 : OpOk K (r2 fun x y H Q => ∃ i j, x = .int i ∧ y = .int j ∧ rRg .lst i j H Q) .listRg2 := by
  intro F H ns vs ds dd Q l pk hp h t x y e
  replace h := dyad_some h
  obtain ⟨a, b, rfl, h⟩ := h
  obtain ⟨n, m, v, w, rfl, rfl, p, q⟩ := pk.two
  cases e
  unfold rg2D at h
  split at h
  · split at h
    · rename_i hz
      cases h
      exact ⟨_, _, p.int, q.int, okRg_of hz, fun q hq => Then.newL t l (rds_rng _ _) hq⟩
    · cases h
  · cases h
theorem k_tupRg2 : OpOk K (r2 fun x y H Q => ∃ i j, x = .int i ∧ y = .int j ∧ RgOk i j ∧ NewT H (rgV i j) Q) .tupRg2 := by
  intro F H ns vs ds dd Q l pk hp h t x y e
  replace h := dyad_some h
  obtain ⟨a, b, rfl, h⟩ := h
  obtain ⟨n, m, v, w, rfl, rfl, p, q⟩ := pk.two
  cases e
  unfold rg2D at h
  split at h
  · split at h
    · rename_i hz
      cases h
      exact ⟨_, _, p.int, q.int, okRg_of hz, fun q o hq ho => Then.newT t l (rds_rng _ _) hq ho⟩
    · cases h
  · cases h
/-! join -/
abbrev rJoin (K : KW) : V → List V → Hp → VK → Prop := fun x xs H Q => ∃ a p, ∃ ys : List Str, x = .str a ∧ xs = [.ref p] ∧ (SqL K H p (ys.map V.str) ∨ SqT K H p (ys.map V.str)) ∧ (ys.map (·.length)).sum + ys.length * a.length ≤ 16777216 ∧ Q (.str (Txt.join a ys)) H
theorem k_join : OpOk K (r2 fun x y H Q => (∃ a, x = .str a) ∧ rJoin K x [y] H Q) .join := by
  intro F H ns vs ds dd Q l pk hp h t x y e
  replace h := dyad_some h
  obtain ⟨a, b, rfl, h⟩ := h
  obtain ⟨n, m, v, w, rfl, rfl, p, q⟩ := pk.two
  cases e
  unfold joinD at h
  split at h
  · split at h
    · rename_i ys h2
      split at h
      · rename_i hz
        cases h
        obtain rfl := p.str
        obtain ⟨a, vs, rfl, e, r⟩ := q.lstH l
        rw [asStrs_map h2 r] at e
        exact ⟨⟨_, rfl⟩, _, _, ys, rfl, rfl, .inl (SqL.of e), hz, Then.old t l (.str _) (.inl rfl)⟩
      · cases h
    · cases h
  · cases h
theorem insZ_perm (a : Int) : ∀ l : List Int, (insZ a l).Perm (a :: l)
  | [] => .refl _
  | b :: l => by
    unfold insZ
    split
    · exact .refl _
    · exact ((insZ_perm a l).cons b).trans (.swap a b l)
theorem sortZ_perm : ∀ l : List Int, (sortZ l).Perm l
  | [] => .refl _
  | a :: l => (insZ_perm a _).trans ((sortZ_perm l).cons a)
theorem insZ_pw (a : Int) : ∀ l : List Int, l.Pairwise (· ≤ ·) → (insZ a l).Pairwise (· ≤ ·)
  | [], _ => List.pairwise_singleton ..
  | b :: l, h => by
    rw [List.pairwise_cons] at h
    unfold insZ
    split
    · rename_i hab
      refine List.pairwise_cons.mpr ⟨fun x hx => ?_, List.pairwise_cons.mpr h⟩
      rcases List.mem_cons.mp hx with rfl | hx
      · exact hab
      · exact Int.le_trans hab (h.1 x hx)
    · rename_i hab
      refine List.pairwise_cons.mpr ⟨fun x hx => ?_, insZ_pw a l h.2⟩
      rcases List.mem_cons.mp ((insZ_perm a l).mem_iff.mp hx) with rfl | hx
      · omega
      · exact h.1 x hx
theorem sortZ_pw : ∀ l : List Int, (sortZ l).Pairwise (· ≤ ·)
  | [] => .nil
  | a :: l => insZ_pw a _ (sortZ_pw l)
theorem rds_ints {F : Hp} : ∀ ns : List Int, RDs K F (ns.map V.int) (ns.map D.int)
  | [] => .nil
  | n :: ns => .cons (.int n) (rds_ints ns)
theorem k_sorted : OpOk K (rSortedI K) .sorted1 := by
  intro F H ns vs ds dd Q l pk hp h t
  replace h := one_some h
  obtain ⟨a, rfl, h⟩ := h
  obtain ⟨n, v, rfl, rfl, p⟩ := pk.one
  unfold sortD at h
  split at h
  · obtain ⟨ms, h2, rfl⟩ := Option.map_eq_some_iff.mp h
    obtain ⟨a, vs, rfl, e, r⟩ := p.lstH l
    rw [asInts_map h2 r] at e
    refine ⟨_, _, rfl, SqL.of e, fun ns' q h3 h4 hq => ?_⟩
    have e5 : ns' = sortZ ms := (h3.trans (sortZ_perm ms).symm).eq_of_pairwise (fun x y _ _ h1 h2 => Int.le_antisymm h1 h2) h4 (sortZ_pw ms)
    subst e5
    exact Then.newL t l (rds_ints _) hq
  · cases h
theorem k_index : OpOk K (r2 fun x y H Q => (∃ a, x = .str a) ∧ (∃ a b i rest, x = .str a ∧ [y] = [V.str b] ∧ Builtin.Str.occurrences a b 0 a.length 1 = i :: rest ∧ Q (.int (i : Nat)) H)) .index1 := by
  intro F H ns vs ds dd Q l pk hp h t x y e
  replace h := dyad_some h
  obtain ⟨a, b, rfl, h⟩ := h
  obtain ⟨n, m, v, w, rfl, rfl, p, q⟩ := pk.two
  cases e
  unfold indexD at h
  split at h
  · split at h
    · rename_i i rest h2
      cases h
      obtain rfl := p.str
      obtain rfl := q.str
      exact ⟨⟨_, rfl⟩, _, _, _, _, rfl, rfl, h2, Then.old t l (.int _) (.inl rfl)⟩
    · cases h
  · cases h
/-! a[i] -/
theorem at_rds {vs : List V} {ds : List D} {i : Int} {d : D} (r : RDs K F vs ds) (h : at' ds i = some d) : ∃ v, atI vs i = some v ∧ RD K F v d := by
  unfold at' atI at h
  obtain ⟨j, e1, e2⟩ := Option.bind_eq_some_iff.mp h
  obtain ⟨v, e3, q⟩ := r.get e2
  exact ⟨v, by unfold atI; rw [r.length, e1]; exact e3, q⟩
theorem dget_some {ks vs : List D} {k d : D} (h : dgetD (.dic ks vs) k = some d) : keyB ks k = true ∧ ∃ q, dIx ks k = some q ∧ vs[q]? = some d := by
  simp only [dgetD] at h
  split at h
  · rename_i hk
    obtain ⟨q, h1, h2⟩ := Option.bind_eq_some_iff.mp h
    exact ⟨hk, q, h1, h2⟩
  · cases h
theorem k_ix : OpOk K (r2 fun x y H Q => rIx K x y H Q ∨ rIxD K x y H Q) .ix := by
  intro F H ns vs ds dd Q l pk hp h t x y e
  replace h := dyad_some h
  obtain ⟨a, b, rfl, h⟩ := h
  obtain ⟨n, m, v, w, rfl, rfl, p, q⟩ := pk.two
  cases e
  unfold ixD at h
  split at h
  · obtain ⟨a, vs, rfl, e, r⟩ := p.lst l (hp rfl n (by simp))
    obtain rfl := q.int
    obtain ⟨v, e2, rd⟩ := at_rds r h
    exact .inl (.inl ⟨_, _, _, v, rfl, rfl, SqL.of e, e2, Then.old t l rd (.inl rfl)⟩)
  · obtain ⟨a, vs, rfl, e, r⟩ := p.tup
    obtain rfl := q.int
    obtain ⟨v, e2, rd⟩ := at_rds r h
    exact .inl (.inr (.inl ⟨_, _, _, v, rfl, rfl, SqT.up l e.t, e2, Then.old t l rd (.inl rfl)⟩))
  · obtain ⟨a, vs, rfl, e, r⟩ := p.scr
    obtain rfl := q.int
    obtain ⟨v, e2, rd⟩ := at_rds r h
    exact .inl (.inl ⟨_, _, _, v, rfl, rfl, SqL.up l e, e2, Then.old t l rd (.inl rfl)⟩)
  · split at h
    · rename_i hz
      obtain ⟨c, e2, rfl⟩ := Option.map_eq_some_iff.mp h
      obtain rfl := p.str
      obtain rfl := q.int
      exact .inl (.inr (.inr ⟨_, _, c, rfl, rfl, hz, e2, Then.old t l (.str _) (.inl rfl)⟩))
    · cases h
  · obtain ⟨a, o, kvs, vs, rfl, ho, hd, r1, r2⟩ := p.dic l (hp rfl n (by simp))
    obtain ⟨h1, j, h2, h3⟩ := dget_some h
    obtain ⟨v, e2, rd⟩ := r2.get h3
    exact .inr ⟨_, _, _, _, _, _, v, ⟨rfl, ho, hd, r1.up l, q.read l, h1⟩, by unfold dAt; rw [h2]; exact e2, Then.old t l rd (.inl rfl)⟩
  · cases h
/-! dicts -/
theorem Then.newD {kds ds : List D} {kvs vs : List V} {p : Addr} {o : HO} (h : Then K F H 1 (.dic kds ds) Q) (l : Le F H) (hd : HD K p kds kvs vs o) (rk : RDs K F kvs kds) (r : RDs K F vs ds) (hp : H p = none) : Q (.ref p) (upd H p o) := by
  have fp : F p = none := by
    cases q : F p with
    | none => rfl
    | some o => rw [l p o q] at hp; cases hp
  refine h (.ref p) F _ [p] ⟨Le.refl, fun _ _ h => .inl h, fun a m => .inr (by rw [List.mem_singleton.mp m]; exact hp), fun a o e _ => by rw [upd_ne (ne_of_none e hp)]; exact e⟩ (fun a o e => by rw [upd_ne (ne_of_none e fp)]; exact l a o e) ?_ (by simp) fun a m => by rw [List.mem_singleton.mp m]; exact fp
  exact .dic upd_same hd rk (.of_rd r (.inl rfl))
theorem k_dic0 : OpOk K (fun vs H Q => vs = [] → ∀ p, H p = none → Q (.ref p) (upd H p (.dK []))) .dic0 := by
  intro F H ns vs ds dd Q l pk hp h t e p hn
  subst e
  cases pk
  cases h
  exact Then.newD t l (HD.k (ks := []) (vs := []) rfl List.nodup_nil) .nil .nil hn
theorem HD.one {a : Addr} {k : D} {x y : V} {F : Hp} (hk : keyB [] k = true) (r : RD K F x k) : ∃ o, HD K a [k] [x] [y] o := by
  unfold keyB at hk
  simp only [Bool.and_true, Bool.or_eq_true] at hk
  cases hb : bk k with
  | some key =>
    obtain rfl := bk_some hb
    refine ⟨.dK ([key].zip [y]), ?_⟩
    have := HD.k (K := K) (a := a) (ks := [key]) (vs := [y]) rfl (by simp)
    rw [List.map_cons, List.map_cons, List.map_nil, List.map_nil] at this
    have e : kV key = x := by cases key <;> cases r <;> rfl
    rw [e] at this
    exact this
  | none =>
    rw [hb] at hk
    obtain ⟨nkey, hkk⟩ := Option.isSome_iff_exists.mp (hk.resolve_left (by simp))
    obtain ⟨⟨l, rfl⟩, _, _⟩ := hk_some hkk
    cases r with
    | @tup b _ _ _ _ => exact ⟨_, HD.n (K := K) (a := a) (kds := [.tup l]) (xs := [(nkey, b)]) (vs := [y]) (by simp) (by simp [hkk]) rfl (by simp)⟩
theorem k_dic1 : OpOk K (r2 fun x y H Q => ∀ p, H p = none → rDic1 K x y p H Q) .dic1 := by
  intro F H ns vs ds dd Q l pk hp h t x y e p hn
  replace h := dyad_some h
  obtain ⟨a, b, rfl, h⟩ := h
  obtain ⟨n, m, v, w, rfl, rfl, pa, pb⟩ := pk.two
  cases e
  simp only [dic1D] at h
  split at h
  · rename_i hk
    cases h
    simp only [Bool.and_eq_true, Bool.not_eq_true'] at hk
    obtain ⟨A, rb⟩ := pb
    have rb := (rb.rdf hk.2).1
    have ra : RD K F x a := by
      obtain ⟨A, ra⟩ := pa
      refine (ra.rdf ?_).1
      cases a <;> first | rfl | (have := hk.1; simp [keyB, bk, Ck.hk] at this)
    obtain ⟨o, hd⟩ := HD.one (a := p) (y := y) hk.1 ra
    exact ⟨a, o, hk.1, ra.up l, hd, Then.newD t l hd (.cons ra .nil) (.cons rb .nil) hn⟩
  · cases h
theorem k_get2 : OpOk K (fun vs H Q => ∀ x y z, vs = [x, y, z] → rGet2 K x [y, z] H Q) .get2 := by
  intro F H ns vs ds dd Q l pk hp h t x y z e
  replace h := triad_some h
  obtain ⟨a, b, c, rfl, h⟩ := h
  obtain ⟨n, m, k, v, w, u, rfl, rfl, pa, pb, pc⟩ := pk.three
  cases e
  unfold dget2D at h
  split at h
  · split at h
    · rename_i hk
      simp only [Bool.and_eq_true, Bool.not_eq_true'] at hk
      obtain ⟨a, o, kvs, vs, rfl, ho, hd, r1, r2⟩ := pa.dic l (hp rfl n (by simp))
      refine ⟨_, _, _, _, _, _, _, _, rfl, ⟨rfl, ho, hd, r1.up l, pb.read l, hk.1⟩, ?_⟩
      unfold dAt
      split at h
      · rename_i j hj
        obtain ⟨v, e2, rd⟩ := r2.get h
        rw [hj]
        show Q ((vs[j]?).getD _) H
        rw [e2]
        exact Then.old t l rd (.inl rfl)
      · rename_i hj
        cases h
        rw [hj]
        obtain ⟨A, rc⟩ := pc
        exact Then.old t l (rc.rdf hk.2).1 (.inl rfl)
    · cases h
  · cases h
abbrev rDictC : List V → Hp → VK → Prop := fun xs H Q => ∃ (a : Addr) (kvs : List (Key × V)), xs = [.ref a] ∧ Rd H a (.dK kvs) ∧ ∀ p, H p = none → Q (.ref p) (upd H p (.dK kvs))
theorem pds_flat : ∀ {l : List D} {kds ds : List D} {r : List D × List D}, dfill kds ds l = some r → ∃ ks vs, l = pairsD ks vs
  | [], _, _, _, _ => ⟨[], [], rfl⟩
  | d :: l, kds, ds, r, h => by
    unfold dfill at h
    split at h
    · rename_i e; cases e
    · rename_i k v l' e
      cases e
      split at h
      · obtain ⟨ks, vs, rfl⟩ := pds_flat h
        exact ⟨k :: ks, v :: vs, rfl⟩
      · cases h
    · cases h
theorem k_dictOf {X : Cx} : OpOk X.kw (fun us H Q => rDictP X us H Q ∨ rDictC us H Q) .dictOf := by
  intro F H ns vs ds dd Q l pk hp h t
  replace h := one_some h
  obtain ⟨a, rfl, h⟩ := h
  obtain ⟨n, v, rfl, rfl, p⟩ := pk.one
  unfold dictD at h
  split at h
  · split at h
    · obtain ⟨r, hf, rfl⟩ := Option.map_eq_some_iff.mp h
      obtain ⟨a, ws, rfl, e, rd⟩ := p.lst l (hp rfl n (by simp))
      obtain ⟨ps, ks, us, P, rfl⟩ := ps_of rd hf
      exact .inl ⟨_, _, ps, ks, us, F, r, rfl, .l (SqL.of e), l, P, hf, fun p o kvs vs hn hd rk rv => Then.newD t l hd rk rv hn⟩
    · cases h
  · split at h
    · obtain ⟨r, hf, rfl⟩ := Option.map_eq_some_iff.mp h
      obtain ⟨a, ws, rfl, e, rd⟩ := p.tup
      obtain ⟨ps, ks, us, P, rfl⟩ := ps_of rd hf
      exact .inl ⟨_, _, ps, ks, us, F, r, rfl, .t (e.up l), l, P, hf, fun p o kvs vs hn hd rk rv => Then.newD t l hd rk rv hn⟩
    · cases h
  · rename_i ks us
    split at h
    · rename_i hall
      cases h
      obtain ⟨a, o, kvs, vs, rfl, ho, hd, r1, r2⟩ := p.dic l (hp rfl n (by simp))
      cases hd with
      | k e nd => exact .inr ⟨_, _, rfl, .inl ho, fun p hn => Then.newD t l (HD.k e nd) r1 r2 hn⟩
      | n hne he _ _ =>
        cases ks with
        | nil => exact absurd rfl hne
        | cons c cs =>
          rename_i xs _ _
          cases xs with
          | nil => cases he
          | cons x xs =>
            rw [List.map_cons, List.map_cons] at he
            injection he with h1 _
            have := List.all_eq_true.mp hall c (List.mem_cons_self ..)
            rw [hk_bk h1] at this
            cases this
    · cases h
  · cases h
theorem k_lt : OpOk K (r2 fun x y H Q => rI0 (fun i j => .bl (decide (i < j))) x y H Q ∨ rLtT K x y H Q) .lt := by
  intro F H ns vs ds dd Q l pk hp h t x y e
  replace h : ltD ds = some dd := h
  unfold ltD at h
  split at h
  · cases h
    obtain ⟨n, m, v, w, rfl, rfl, p, q⟩ := pk.two
    cases e
    obtain rfl := p.int
    obtain rfl := q.int
    exact .inl ⟨_, _, rfl, rfl, Then.old t l (.bl _) (.inl rfl)⟩
  · split at h
    · rename_i h1 h2
      cases h
      obtain ⟨n, m, v, w, rfl, rfl, p, q⟩ := pk.two
      cases e
      obtain ⟨a, vs, rfl, e1, r1⟩ := p.tup
      obtain ⟨b, ws, rfl, e2, r2⟩ := q.tup
      rw [asInts_map h1 r1] at e1
      rw [asInts_map h2 r2] at e2
      exact .inr ⟨_, _, _, _, rfl, rfl, SqT.up l e1.t, SqT.up l e2.t, Then.old t l (.bl _) (.inl rfl)⟩
    · cases h
  · cases h
/-! slices -/
abbrev rSlc (K : KW) : V → Option Int → Option Int → Hp → VK → Prop := fun x lo hi H Q => rSlS x lo hi H Q ∨ (rSlL K x lo hi H Q ∨ rSlP K x lo hi H Q)
theorem rds_cut {vs : List V} {ds : List D} (r : RDs K F vs ds) (lo hi : Option Int) : RDs K F (cutV vs lo hi) (cutD ds lo hi) := by
  unfold cutV cutD
  rw [r.length]
  exact (r.drop _).take _
theorem cutD_whole (ds : List D) (lo hi : Option Int) (h : HT.sIx ds.length 0 lo = 0 ∧ HT.sIx ds.length ds.length hi = ds.length) : cutD ds lo hi = ds := by
  unfold cutD
  rw [h.1, h.2]
  simp
theorem slc_ok {n : Nat} {x : V} {d dd : D} {lo hi : Option Int} (l : Le F H) (p : Pk K F H n x d) (hn : n ≤ 1) (h : sliceD d lo hi = some dd) (t : Then K F H (own1 dd).1 dd Q) : rSlc K x lo hi H Q := by
  unfold sliceD at h
  split at h
  · split at h
    · rename_i hz
      cases h
      obtain rfl := p.str
      exact .inl ⟨_, rfl, hz, Then.old t l (.str _) (.inl rfl)⟩
    · cases h
  · cases h
    obtain ⟨a, vs, rfl, e, r⟩ := p.lst l hn
    exact .inr (.inl ⟨_, _, rfl, SqL.of e, fun q hq => Then.newL t l (rds_cut r lo hi) hq⟩)
  · cases h
    obtain ⟨a, vs, rfl, e, r⟩ := p.tup
    refine .inr (.inr ⟨_, _, rfl, SqT.up l e.t, fun hw => ?_, fun _ q o hq ho => Then.newT t l (rds_cut r lo hi) hq ho⟩)
    rw [r.length] at hw
    rw [cutD_whole _ _ _ hw] at t
    exact Then.old t l (.tup e r) (.inr rfl)
  · cases h
theorem partI_some {d : D} {i : Int} (h : partI d = some i) : d = .int i := by
  unfold partI at h
  split at h
  · cases h; rfl
  · cases h
theorem k_slAB : OpOk K (fun vs H Q => ∀ x y z, vs = [x, y, z] → ∃ i, y = .int i ∧ ∃ j, z = .int j ∧ rSlc K x (some i) (some j) H Q) .slAB := by
  intro F H ns vs ds dd Q l pk hp h t x y z e
  replace h := triad_some h
  obtain ⟨a, b, c, rfl, h⟩ := h
  obtain ⟨n, m, k, v, w, u, rfl, rfl, p, q, s⟩ := pk.three
  cases e
  split at h
  · rename_i i j h1 h2
    obtain rfl := partI_some h1
    obtain rfl := partI_some h2
    exact ⟨_, q.int, _, s.int, slc_ok l p (hp rfl n (by simp)) h t⟩
  · cases h
theorem k_slA : OpOk K (fun vs H Q => ∀ x y, vs = [x, y] → ∃ i, y = .int i ∧ rSlc K x (some i) none H Q) .slA := by
  intro F H ns vs ds dd Q l pk hp h t x y e
  replace h := dyad_some h
  obtain ⟨a, b, rfl, h⟩ := h
  obtain ⟨n, m, v, w, rfl, rfl, p, q⟩ := pk.two
  cases e
  split at h
  · rename_i i h1
    obtain rfl := partI_some h1
    exact ⟨_, q.int, slc_ok l p (hp rfl n (by simp)) h t⟩
  · cases h
theorem k_slB : OpOk K (fun vs H Q => ∀ x y, vs = [x, y] → ∃ i, y = .int i ∧ rSlc K x none (some i) H Q) .slB := by
  intro F H ns vs ds dd Q l pk hp h t x y e
  replace h := dyad_some h
  obtain ⟨a, b, rfl, h⟩ := h
  obtain ⟨n, m, v, w, rfl, rfl, p, q⟩ := pk.two
  cases e
  split at h
  · rename_i i h1
    obtain rfl := partI_some h1
    exact ⟨_, q.int, slc_ok l p (hp rfl n (by simp)) h t⟩
  · cases h
theorem k_slN : OpOk K (r1 fun x H Q => rSlc K x none none H Q) .slN := by
  intro F H ns vs ds dd Q l pk hp h t x e
  replace h := one_some h
  obtain ⟨a, rfl, h⟩ := h
  obtain ⟨n, v, rfl, rfl, p⟩ := pk.one
  cases e
  exact slc_ok l p (hp rfl n (by simp)) h t
/-! isinstance -/
def kindN : D → Option String
  | .non => some "NoneType"
  | .bl _ => some "bool"
  | .int _ => some "int"
  | .str _ => some "str"
  | .tup _ => some "tuple"
  | .lst _ => some "list"
  | _ => none
theorem Pk.ty {n : Nat} {v : V} {d : D} {N : String} (p : Pk K F H n v d) (l : Le F H) (h : kindN d = some N) : TyX K H v (.type N) := by
  have r := p.read l
  cases r with
  | non => cases h; exact .base .non
  | bl => cases h; exact .base (.bl _)
  | int => cases h; exact .base (.int _)
  | str => cases h; exact .base (.str _)
  | tup e _ =>
    cases h
    rcases e.t with (e | ⟨o, e⟩) | ⟨o, its, n, e, c, _⟩
    · exact .base (.tup e)
    · exact .fTuple e
    · exact .kTuple e c
  | lst e _ => cases h; exact .base (.lst e)
  | scr _ _ => cases h
  | dic _ _ _ _ => cases h
/-- isinstance(x, T) -/
theorem k_isi {o : Op} {p : D → Bool} {T : String} (ho : opF o = one (kindD p)) (hm : o.makes = false) (hk : ∀ d N, kindN d = some N → kitB N T = some (p d)) :
    OpOk K (r1 fun x H Q => rIsi K [x, .ty T] H Q) o := by
  intro F H ns vs ds dd Q l pk hp h t x e
  rw [ho] at h
  rw [hm] at t
  replace h := one_some h
  obtain ⟨a, rfl, h⟩ := h
  obtain ⟨n, v, rfl, rfl, q⟩ := pk.one
  cases e
  obtain ⟨N, hN, rfl⟩ : ∃ N, kindN a = some N ∧ dd = .bl (p a) := by
    have rd := q.read l
    cases rd <;> first | (cases h; exact ⟨_, rfl, rfl⟩) | cases h
  exact ⟨_, _, _, _, _, rfl, .ty T, q.ty l hN, kit_ty (hk a N hN), Then.old t l (.bl _) (.inl rfl)⟩
/-- isinstance(x, (T, U)): the tuple of classes is new -/
theorem k_isi2 {o : Op} {p q : D → Bool} {T U : String} (ho : opF o = one (kindD fun d => p d || q d)) (hm : o.makes = false) (hk : ∀ d N, kindN d = some N → kitB N T = some (p d)) (hk2 : ∀ d N, kindN d = some N → kitB N U = some (q d)) :
    OpOk K (r1 fun x H Q => ∀ tp, H tp = none → rIsiT K [x, .ref tp] (upd H tp (.tup [.ty T, .ty U])) Q) o := by
  intro F H ns vs ds dd Q l pk hp h t x e tp htp
  rw [ho] at h
  rw [hm] at t
  replace h := one_some h
  obtain ⟨a, rfl, h⟩ := h
  obtain ⟨n, v, rfl, rfl, w⟩ := pk.one
  cases e
  obtain ⟨N, hN, rfl⟩ : ∃ N, kindN a = some N ∧ dd = .bl (p a || q a) := by
    have rd := w.read l
    cases rd <;> first | (cases h; exact ⟨_, rfl, rfl⟩) | cases h
  have l2 : Le H (upd H tp (.tup [.ty T, .ty U])) := fun a o e => by rw [upd_ne (ne_of_none e htp)]; exact e
  have w2 : Pk K F (upd H tp (.tup [.ty T, .ty U])) n x a := let ⟨A, r⟩ := w; ⟨A, r.stay Le.refl fun a _ o e => l2 a o e⟩
  refine ⟨_, tp, _, _, _, p a || q a, rfl, upd_same, .cons (.ty T) (.cons (.ty U) .nil), w2.ty (l.trans l2) hN, kitAny_cons (kit_ty (hk a N hN)) (fun h1 => kitAny_cons (kit_ty (hk2 a N hN)) (fun h2 => ?_) (fun h2 => by rw [h2]; simp)) (fun h1 => by rw [h1]; rfl), ?_⟩
  · rw [h1, h2]; exact kitAny_nil
  · refine t (.bl _) F _ [] ⟨Le.refl, fun _ _ h => .inl h, fun _ m => (nomatch m), fun a o e _ => l2 a o e⟩ (l.trans l2) (.zero (.bl _)) List.nodup_nil fun _ m => nomatch m
end Ck

set_option Elab.async false
set_option linter.all false
set_option maxRecDepth 100000
/-! Ck7: our syntax against the row's: operators. -/
namespace Ck
open PySem PySem.Spec PyProof.Rows L2

/-- where one stands: the names by slots, the scope, the defs' names, constants, built-in names that the module leaves alone -/
structure Ss where
  N : List Str
  sc : Scope
  nm : List Str
  np : List Nat
  cs : List (Str × D)
  bl : List Str
  st : List Str
def visB (sc : Scope) (x : Str) : Bool := match sc.names.lookup x with
  | some .local => true
  | some .cell => true
  | some .free => true
  | _ => false
def locB (sc : Scope) (x : Str) : Bool := match sc.names.lookup x with
  | some .local => true
  | some .cell => true
  | _ => false
def glB (sc : Scope) (x : Str) : Bool := decide (sc.names.lookup x = some .globalImplicit)
def dbgB (x : Str) : Bool := (x == ("__debug__" : Str)) || (x == ("__classdict__" : Str)) || (x == ("__name__" : Str))
theorem vis_of {sc : Scope} {x : Str} (h : visB sc x = true) : Vis sc x := by
  unfold visB at h
  split at h
  · exact .inl (by assumption)
  · exact .inr (.inl (by assumption))
  · exact .inr (.inr (by assumption))
  · cases h
theorem loc_of {sc : Scope} {x : Str} (h : locB sc x = true) : Loc sc x := by
  unfold locB at h
  split at h
  · exact .inl (by assumption)
  · exact .inr (by assumption)
  · cases h
def notStar : Expr → Bool
  | .Starred _ _ => false
  | _ => true
def plainIx : Expr → Bool
  | .Slice _ _ _ _ => false
  | _ => true
def notSet : Expr → Bool
  | .Set _ _ _ => false
  | _ => true
def noSuper : Expr → Bool
  | .Call _ _ _ _ => false
  | _ => true
def noComp : Expr → Bool
  | .ListComp _ _ _ _ => false
  | .SetComp _ _ _ _ => false
  | .DictComp _ _ _ _ _ => false
  | _ => true
theorem star_of {e : Expr} {es : List Expr} {env : PySem.Env} (h : notStar e = true) : starEach (e :: es) env = (false, eval e env) :: starEach es env := by
  cases e <;> first | rfl | cases h
theorem plain_of {e : Expr} (h : plainIx e = true) : PlainIx e := by
  intro o i
  cases e <;> first | rfl | cases h
theorem behind_of {e : Expr} (op : CmpOp) (h : notSet e = true) : behindInMarks op e = false := by
  cases e <;> first | rfl | cases h
theorem super_of {e : Expr} (f : Str) (env : PySem.Env) (h : noSuper e = true) : attributeBase e f env (eval e env) = eval e env := by
  cases e <;> first | rfl | cases h
theorem folded_of {e : Expr} (env : PySem.Env) (h : notSet e = true) : ∀ x, foldedSetIterable e env x = pure x := by
  intro x
  cases e <;> first | rfl | cases h

/-- what the text's proof is given at a place -/
structure XOk (S : Ss) (X : Cx) : Prop where
  N : X.N = S.N
  sc : X.env.scope = S.sc
  nd : S.N.Nodup
  calm : X.calm = true
  hu : X.A.units + 65 < cLine
  st : ∀ x ∈ S.st, Loc S.sc x ∧ (X.fn x = true ∨ X.env.scope.names.lookup x = some .local)
  cs : ∀ p ∈ S.cs, ∃ v u, X.mg p.1 = some u ∧ RelV v u ∧ ∀ F, RD X.kw F v p.2
  bl : ∀ x ∈ S.bl, X.mg x = none
theorem XOk.gl {S : Ss} {X : Cx} (o : XOk S X) {x : Str} (h : glB S.sc x = true) : Gl X x := by
  show X.env.scope.names.lookup x = _
  rw [o.sc]
  exact of_decide_eq_true h
def dbg_f {x : Str} (h : dbgB x = false) : (x == ("__debug__" : Str)) = false ∧ (x == ("__classdict__" : Str)) = false ∧ x ≠ ("__name__" : Str) := by
  unfold dbgB at h
  simp only [Bool.or_eq_false_iff] at h
  refine ⟨h.1.1, h.1.2, fun e => ?_⟩
  rw [e] at h
  exact absurd h.2 (by decide)

/-! ### shapes -/
def binB : Op → Operator → Bool
  | .add, .Add => true
  | .sub, .Sub => true
  | .mul, .Mult => true
  | .fdiv, .FloorDiv => true
  | .mod, .Mod => true
  | .pow, .Pow => true
  | _, _ => false
def cmpB : Op → CmpOp → Bool
  | .eq, .Eq => true
  | .ne, .NotEq => true
  | .lt, .Lt => true
  | .le, .LtE => true
  | .gt, .Gt => true
  | .ge, .GtE => true
  | .isin, .In => true
  | .notin, .NotIn => true
  | _, _ => false
/-- the name of a built-in that an operator is a call of -/
def calN : Op → Option Str
  | .len => some "len"
  | .listOf => some "list"
  | .tupleOf => some "tuple"
  | .int1 => some "int"
  | .abs1 => some "abs"
  | .sum1 => some "sum"
  | .min1 => some "min"
  | .max1 => some "max"
  | .all1 => some "all"
  | .any1 => some "any"
  | .sorted1 => some "sorted"
  | .dictOf => some "dict"
  | _ => none
def calN2 : Op → Option Str
  | .min2 => some "min"
  | .max2 => some "max"
  | _ => none
def isiN : Op → Option Str
  | .isiBool => some "bool"
  | .isiInt => some "int"
  | .isiStr => some "str"
  | .isiTup => some "tuple"
  | .isiLst => some "list"
  | _ => none
abbrev Ck := Ss → Expr → Bool
def blB (S : Ss) (x : Str) : Bool := glB S.sc x && decide (x ∈ S.bl) && !dbgB x
def chkBin (o : Op) (fs : List Ck) (S : Ss) : Expr → Bool
  | .BinOp a op b _ => (match fs with | [f, g] => binB o op && f S a && g S b | _ => false)
  | _ => false
def chkCmp (o : Op) (fs : List Ck) (S : Ss) : Expr → Bool
  | .Compare a [op] [b] _ => (match fs with | [f, g] => cmpB o op && f S a && g S b && notSet b | _ => false)
  | _ => false
def chkCal (o : Op) (fs : List Ck) (S : Ss) : Expr → Bool
  | .Call (.Name x _) [a] [] _ => (match fs with | [f] => decide (calN o = some x) && blB S x && f S a && notStar a | _ => false)
  | .Call (.Name x _) [a, b] [] _ => (match fs with | [f, g] => decide (calN2 o = some x) && blB S x && f S a && g S b && notStar a && notStar b | _ => false)
  | _ => false
def chkRg (T : Str) (fs : List Ck) (S : Ss) : Expr → Bool
  | .Call (.Name x _) [.Call (.Name y _) [a] [] _] [] _ => (match fs with | [f] => decide (x = T) && decide (y = "range") && blB S x && blB S y && f S a && notStar a | _ => false)
  | .Call (.Name x _) [.Call (.Name y _) [a, b] [] _] [] _ => (match fs with | [f, g] => decide (x = T) && decide (y = "range") && blB S x && blB S y && f S a && notStar a && g S b && notStar b | _ => false)
  | _ => false
def chkRev (fs : List Ck) (S : Ss) : Expr → Bool
  | .Call (.Name x _) [.Call (.Name y _) [a] [] _] [] _ => (match fs with | [f] => decide (x = "list") && decide (y = "reversed") && blB S x && blB S y && f S a && notStar a | _ => false)
  | _ => false
def chkIsi (T : Str) (fs : List Ck) (S : Ss) : Expr → Bool
  | .Call (.Name x _) [a, .Name t _] [] _ => (match fs with | [f] => decide (x = "isinstance") && decide (t = T) && blB S x && blB S t && f S a && notStar a | _ => false)
  | _ => false
def chkIsi2 (T U : Str) (fs : List Ck) (S : Ss) : Expr → Bool
  | .Call (.Name x _) [a, .Tuple [.Name t _, .Name u _] _ _] [] _ => (match fs with | [f] => decide (x = "isinstance") && decide (t = T) && decide (u = U) && blB S x && blB S t && blB S u && f S a && notStar a | _ => false)
  | _ => false
/-- a method's name, by kind, operator, and how many arguments -/
def metN1 : Kd → Op → Option Str
  | .str, .join => some "join"
  | .str, .index1 => some "index"
  | _, _ => none
def metN2 : Kd → Op → Option Str
  | .dic, .get2 => some "get"
  | _, _ => none
def metN0 : Kd → Op → Option Str
  | _, _ => none
def chkMet (k : Kd) (o : Op) (f : Ck) (fs : List Ck) (S : Ss) : Expr → Bool
  | .Call (.Attribute a m p1) [b] [] p2 => (match fs with | [g] => decide (metN1 k o = some m) && f S a && g S b && notStar b && noSuper a && (p1.endLine == p2.line) | _ => false)
  | .Call (.Attribute a m p1) [b, b2] [] p2 => (match fs with | [g, g2] => decide (metN2 k o = some m) && f S a && g S b && g2 S b2 && notStar b && notStar b2 && noSuper a && (p1.endLine == p2.line) | _ => false)
  | .Call (.Attribute a m p1) [] [] p2 => (match fs with | [] => decide (metN0 k o = some m) && f S a && noSuper a && (p1.endLine == p2.line) | _ => false)
  | _ => false
def chkIx (fs : List Ck) (S : Ss) : Expr → Bool
  | .Subscript a b _ => (match fs with | [f, g] => f S a && g S b && plainIx b | _ => false)
  | _ => false
def chkSl (l h : Bool) (fs : List Ck) (S : Ss) : Expr → Bool
  | .Subscript a (.Slice lo hi none _) _ => (match fs, l, h, lo, hi with
    | [f, g], true, false, some lo, none => f S a && g S lo
    | [f, g], false, true, none, some hi => f S a && g S hi
    | [f], false, false, none, none => f S a
    | _, _, _, _, _ => false)
  | _ => false
def chkSlc (f g k : Ck) (S : Ss) : Expr → Bool
  | .Subscript a (.Slice (some lo) (some hi) none _) _ => f S a && g S lo && k S hi
  | _ => false
def chkSlRev (fs : List Ck) (S : Ss) : Expr → Bool
  | .Subscript a (.Slice none none (some (.UnaryOp .USub (.Constant (.int 1) _ _) _)) _) _ => (match fs with | [f] => f S a | _ => false)
  | _ => false
def chkUn (not : Bool) (fs : List Ck) (S : Ss) : Expr → Bool
  | .UnaryOp u a _ => (match fs, not, u with
    | [f], true, .Not => f S a
    | [f], false, .USub => f S a
    | _, _, _ => false)
  | _ => false
def chkIsN (neg : Bool) (fs : List Ck) (S : Ss) : Expr → Bool
  | .Compare a [op] [.Constant .none _ _] _ => (match fs, neg, op with
    | [f], false, .Is => f S a
    | [f], true, .IsNot => f S a
    | _, _, _ => false)
  | _ => false
def chkD0 (fs : List Ck) : Expr → Bool
  | .Dict [] [] _ => fs.isEmpty
  | _ => false
def chkD1 (fs : List Ck) (S : Ss) : Expr → Bool
  | .Dict [some a] [b] _ => (match fs with | [f, g] => f S a && g S b | _ => false)
  | _ => false
def chkOp (o : Op) (fs : List Ck) (S : Ss) (e : Expr) : Bool :=
  match o with
  | .revl => chkRev fs S e
  | .listRg1 => chkRg "list" fs S e && fs.length == 1
  | .tupRg1 => chkRg "tuple" fs S e && fs.length == 1
  | .listRg2 => chkRg "list" fs S e && fs.length == 2
  | .tupRg2 => chkRg "tuple" fs S e && fs.length == 2
  | .isiBool => chkIsi "bool" fs S e
  | .isiInt => chkIsi "int" fs S e
  | .isiStr => chkIsi "str" fs S e
  | .isiTup => chkIsi "tuple" fs S e
  | .isiLst => chkIsi "list" fs S e
  | .isiTupLst => chkIsi2 "tuple" "list" fs S e
  | .ix => chkIx fs S e
  | .slA => chkSl true false fs S e
  | .slB => chkSl false true fs S e
  | .slN => chkSl false false fs S e
  | .slRev => chkSlRev fs S e
  | .not => chkUn true fs S e
  | .neg => chkUn false fs S e
  | .isN => chkIsN false fs S e
  | .notN => chkIsN true fs S e
  | .dic0 => chkD0 fs e
  | .dic1 => chkD1 fs S e
  | o => chkBin o fs S e || chkCmp o fs S e || chkCal o fs S e

/-! ### the operators' readings -/
section
variable {S : Ss} {X : Cx} {c : Cal}
theorem still_op {o : Op} {l : List E} (h : (E.op o l).still = true) : l.all E.still = true := by
  unfold E.still at h
  split at h
  all_goals first
    | (rename_i e; cases e; done)
    | (rename_i e; cases e; first | rfl | (simp [E.still]; done))
    | cases h
/-- a part of the text and its checker: what is let by reads as the evaluator says -/
def Good (S : Ss) (X : Cx) (c : Cal) (f : Ck) (e : E) : Prop := ∀ a, f S a = true → PE X a (tE X.kw c e)
theorem pe_op1 {o : Op} {ea : E} {t : TE} {e : Expr} {r : List V → Hp → VK → Prop} (hix : o ≠ .ix) (h : PE X e t) (hk : OpOk X.kw r o) (w : ∀ σ H Q, (tE X.kw c ea σ H fun x H' => r [x] H' Q) → t σ H Q) : PE X e (tE X.kw c (.op o [ea])) :=
  PE.weak h fun σ H Q q => w σ H Q (tEs_one (by
    have := op_step hk still_op hix q
    obtain ⟨F, As, env, rs, env', a, b, k⟩ := this
    exact ⟨F, As, env, rs, env', a, b, fun vs F' H' As' Ar x1 x2 x3 x4 x5 x6 x e => by subst e; exact k _ F' H' As' Ar x1 x2 x3 x4 x5 x6⟩))
theorem pe_op2 {o : Op} {ea eb : E} {t : TE} {e : Expr} {r : List V → Hp → VK → Prop} (hix : o ≠ .ix) (h : PE X e t) (hk : OpOk X.kw r o) (w : ∀ σ H Q, (tE X.kw c ea σ H fun x H1 => tE X.kw c eb σ H1 fun y H2 => r [x, y] H2 Q) → t σ H Q) : PE X e (tE X.kw c (.op o [ea, eb])) :=
  PE.weak h fun σ H Q q => w σ H Q (tEs_two (by
    have := op_step hk still_op hix q
    obtain ⟨F, As, env, rs, env', a, b, k⟩ := this
    exact ⟨F, As, env, rs, env', a, b, fun vs F' H' As' Ar x1 x2 x3 x4 x5 x6 x y e => by subst e; exact k _ F' H' As' Ar x1 x2 x3 x4 x5 x6⟩))
theorem pe_op3 {o : Op} {ea eb ec : E} {t : TE} {e : Expr} {r : List V → Hp → VK → Prop} (hix : o ≠ .ix) (h : PE X e t) (hk : OpOk X.kw r o) (w : ∀ σ H Q, (tE X.kw c ea σ H fun x H1 => tE X.kw c eb σ H1 fun y H2 => tE X.kw c ec σ H2 fun z H3 => r [x, y, z] H3 Q) → t σ H Q) : PE X e (tE X.kw c (.op o [ea, eb, ec])) :=
  PE.weak h fun σ H Q q => w σ H Q (tEs_three (by
    have := op_step hk still_op hix q
    obtain ⟨F, As, env, rs, env', a, b, k⟩ := this
    exact ⟨F, As, env, rs, env', a, b, fun vs F' H' As' Ar x1 x2 x3 x4 x5 x6 x y z e => by subst e; exact k _ F' H' As' Ar x1 x2 x3 x4 x5 x6⟩))
/-- two operands, one rule -/
theorem pe_op2R {o : Op} {ea eb : E} {e : Expr} {r : R2} (hix : o ≠ .ix) (h : PE X e (tOp r (tE X.kw c ea) (tE X.kw c eb))) (hk : OpOk X.kw (r2 r) o) : PE X e (tE X.kw c (.op o [ea, eb])) :=
  pe_op2 hix h hk fun σ H Q q => by
    obtain ⟨F, As, env, rs, env', a, b, k⟩ := q
    refine ⟨F, As, env, rs, env', a, b, fun v F' H' As' Ar x1 x2 x3 x4 x5 x6 => ?_⟩
    obtain ⟨F, As, env, rs, env', a, b, k⟩ := k v F' H' As' Ar x1 x2 x3 x4 x5 x6
    exact ⟨F, As, env, rs, env', a, b, fun v F' H' As' Ar x1 x2 x3 x4 x5 x6 => k v F' H' As' Ar x1 x2 x3 x4 x5 x6 _ _ rfl⟩
theorem tE_mono {K : KW} {e : E} {σ : Sg} {H : Hp} {Q Q' : VK} (h : tE K c e σ H Q) (w : ∀ v H', Q v H' → Q' v H') : tE K c e σ H Q' := by
  obtain ⟨F, As, env, rs, env', a, b, k⟩ := h
  exact ⟨F, As, env, rs, env', a, b, fun v F' H' As' Ar x1 x2 x3 x4 x5 x6 => w _ _ (k v F' H' As' Ar x1 x2 x3 x4 x5 x6)⟩
theorem tEs_mono {K : KW} {e : List E} {σ : Sg} {H : Hp} {Q Q' : List V → Hp → Prop} (h : tEs K c e σ H Q) (w : ∀ v H', Q v H' → Q' v H') : tEs K c e σ H Q' := by
  obtain ⟨F, As, env, rs, env', a, b, k⟩ := h
  exact ⟨F, As, env, rs, env', a, b, fun v F' H' As' Ar x1 x2 x3 x4 x5 x6 => w _ _ (k v F' H' As' Ar x1 x2 x3 x4 x5 x6)⟩
theorem pe_op1R {o : Op} {ea : E} {e : Expr} {r : V → Hp → VK → Prop} {t : TE} (hix : o ≠ .ix) (h : PE X e t) (ht : ∀ σ H Q, (tE X.kw c ea σ H fun x H1 => r x H1 Q) → t σ H Q) (hk : OpOk X.kw (r1 r) o) : PE X e (tE X.kw c (.op o [ea])) :=
  pe_op1 hix h hk fun σ H Q q => ht σ H Q (tE_mono q fun v H' z => z _ rfl)
/-- a built-in's call -/
theorem pe_cal1 {o : Op} {ea : E} {a : Expr} {x : Str} {p pos : Pos} {id : String} {r : List V → Hp → VK → Prop} (ok : XOk S X) (hix : o ≠ .ix) (hc : CallR X (.builtin id) r) (hv : bootBuiltins x = some (.builtin id)) (hb : blB S x = true) (ha : PE X a (tE X.kw c ea)) (hs : notStar a = true) (hk : OpOk X.kw r o) :
    PE X (.Call (.Name x p) [a] [] pos) (tE X.kw c (.op o [ea])) := by
  unfold blB at hb
  simp only [Bool.and_eq_true, decide_eq_true_eq, Bool.not_eq_true'] at hb
  obtain ⟨d1, d2, d3⟩ := dbg_f hb.2
  refine pe_op1 hix (pe_callB hc (ok.gl hb.1.1) (ok.bl x hb.1.2) hv (pa_cons ha pa_nil (star_of hs)) d3 d1 (star_of hs) rfl) hk fun σ H Q q => ?_
  exact q
theorem pe_cal2 {o : Op} {ea eb : E} {a b : Expr} {x : Str} {p pos : Pos} {id : String} {r : List V → Hp → VK → Prop} (ok : XOk S X) (hix : o ≠ .ix) (hc : CallR X (.builtin id) r) (hv : bootBuiltins x = some (.builtin id)) (hb : blB S x = true) (ha : PE X a (tE X.kw c ea)) (hs : notStar a = true) (hb' : PE X b (tE X.kw c eb)) (hs' : notStar b = true) (hk : OpOk X.kw r o) :
    PE X (.Call (.Name x p) [a, b] [] pos) (tE X.kw c (.op o [ea, eb])) := by
  unfold blB at hb
  simp only [Bool.and_eq_true, decide_eq_true_eq, Bool.not_eq_true'] at hb
  obtain ⟨d1, d2, d3⟩ := dbg_f hb.2
  refine pe_op2 hix (pe_callB hc (ok.gl hb.1.1) (ok.bl x hb.1.2) hv (pa_cons ha (pa_cons hb' pa_nil (star_of hs')) (star_of hs)) d3 d1 (star_of hs) (by rw [star_of hs']; rfl)) hk fun σ H Q q => ?_
  exact q
theorem pe_cty1 {o : Op} {ea : E} {a : Expr} {x : Str} {p pos : Pos} {T : String} {r : List V → Hp → VK → Prop} (ok : XOk S X) (hix : o ≠ .ix) (hc : CallR X (.type T) r) (hv : bootBuiltins x = some (.type T)) (hb : blB S x = true) (ha : PE X a (tE X.kw c ea)) (hs : notStar a = true) (hk : OpOk X.kw r o) :
    PE X (.Call (.Name x p) [a] [] pos) (tE X.kw c (.op o [ea])) := by
  unfold blB at hb
  simp only [Bool.and_eq_true, decide_eq_true_eq, Bool.not_eq_true'] at hb
  obtain ⟨d1, d2, d3⟩ := dbg_f hb.2
  refine pe_op1 hix (pe_callTy hc (ok.gl hb.1.1) (ok.bl x hb.1.2) hv (pa_cons ha pa_nil (star_of hs)) d3 d1 (star_of hs) rfl) hk fun σ H Q q => ?_
  exact q
theorem pe_ty {x : Str} {p : Pos} {T : String} (ok : XOk S X) (hv : bootBuiltins x = some (.type T)) (hb : blB S x = true) : PE X (.Name x p) (tC (.ty T)) := by
  unfold blB at hb
  simp only [Bool.and_eq_true, decide_eq_true_eq, Bool.not_eq_true'] at hb
  obtain ⟨d1, d2, d3⟩ := dbg_f hb.2
  exact pe_bltn (v := .ty T) (ok.gl hb.1.1) (ok.bl x hb.1.2) hv rfl d3 d1
theorem paired1 {α β : Type} {P : α → β → Prop} {a : α} {l : List β} (h : Paired P [a] l) : ∃ b, l = [b] ∧ P a b := by
  cases h with
  | cons p t => cases t; exact ⟨_, rfl, p⟩
theorem paired2 {α β : Type} {P : α → β → Prop} {a b : α} {l : List β} (h : Paired P [a, b] l) : ∃ x y, l = [x, y] ∧ P a x ∧ P b y := by
  cases h with
  | cons p t => obtain ⟨y, rfl, q⟩ := paired1 t; exact ⟨_, _, rfl, p, q⟩
theorem paired3 {α β : Type} {P : α → β → Prop} {a b d : α} {l : List β} (h : Paired P [a, b, d] l) : ∃ x y z, l = [x, y, z] ∧ P a x ∧ P b y ∧ P d z := by
  cases h with
  | cons p t => obtain ⟨y, z, rfl, q, r⟩ := paired2 t; exact ⟨_, _, _, rfl, p, q, r⟩

variable {fs : List Ck} {l : List E} {e : Expr}
theorem snd_bin {o : Op} (g : Paired (Good S X c) fs l) (h : chkBin o fs S e = true) : PE X e (tE X.kw c (.op o l)) := by
  unfold chkBin at h
  split at h
  · split at h
    · rename_i f f2
      obtain ⟨x, y, rfl, p, q⟩ := paired2 g
      simp only [Bool.and_eq_true] at h
      have pa := p _ h.1.2
      have pb := q _ h.2
      have hb := h.1.1
      unfold binB at hb
      split at hb
      · exact pe_op2R (by decide) (pe_op ((op_add.or op_add_str).or (op_cat.or op_catP)) pa pb) k_add
      · exact pe_op2R (by decide) (pe_op op_sub pa pb) k_sub
      · exact pe_op2R (by decide) (pe_op ((op_mul.or op_rep).or ((op_repP.or op_repT1).or op_repS)) pa pb) k_mul
      · exact pe_op2R (by decide) (pe_op op_fdivW pa pb) k_fdiv
      · exact pe_op2R (by decide) (pe_op op_mod pa pb) k_mod
      · exact pe_op2R (by decide) (pe_op op_pow pa pb) k_pow
      · cases hb
    · cases h
  · cases h
/-- a comparison's rule -/
theorem cmp_rule (ok : XOk S X) {o : Op} {op : CmpOp} (hb : cmpB o op = true) : ∃ r : R2, OpR X (compareOp op) r ∧ OpOk X.kw (r2 r) o ∧ o ≠ .ix := by
  have hu := ok.hu
  unfold cmpB at hb
  split at hb
  · exact ⟨_, op_eqD (by omega), k_eq, by decide⟩
  · exact ⟨_, op_neD (by omega), k_ne, by decide⟩
  · exact ⟨_, op_lt.or (op_ltT (by omega)), k_lt, by decide⟩
  · exact ⟨_, op_le, k_le, by decide⟩
  · exact ⟨_, op_gt, k_gt, by decide⟩
  · exact ⟨_, op_ge, k_ge, by decide⟩
  · exact ⟨_, op_inA hu, k_in false _ rfl rfl, by decide⟩
  · exact ⟨_, op_ninA hu, k_in true _ rfl rfl, by decide⟩
  · cases hb
theorem snd_cmp (ok : XOk S X) {o : Op} (g : Paired (Good S X c) fs l) (h : chkCmp o fs S e = true) : PE X e (tE X.kw c (.op o l)) := by
  unfold chkCmp at h
  split at h
  · split at h
    · rename_i f f2
      obtain ⟨x, y, rfl, p, q⟩ := paired2 g
      simp only [Bool.and_eq_true] at h
      obtain ⟨r, h1, h2, h3⟩ := cmp_rule ok h.1.1.1
      exact pe_op2R h3 (pe_cmpR h1 (p _ h.1.1.2) (q _ h.1.2) (behind_of _ h.2)) h2
    · cases h
  · cases h
theorem snd_cal (ok : XOk S X) {o : Op} (g : Paired (Good S X c) fs l) (h : chkCal o fs S e = true) : PE X e (tE X.kw c (.op o l)) := by
  unfold chkCal at h
  split at h
  · split at h
    · rename_i f
      obtain ⟨x, rfl, p⟩ := paired1 g
      simp only [Bool.and_eq_true, decide_eq_true_eq] at h
      obtain ⟨⟨⟨h1, h2⟩, h3⟩, h4⟩ := h
      have pa := p _ h3
      unfold calN at h1
      split at h1 <;> first
        | cases h1; done
        | (cases h1; exact pe_cal1 ok (by decide) call_len PySem.boot_len h2 pa h4 k_len)
        | (cases h1; exact pe_cty1 ok (by decide) (call_list_of.or (call_listDic ok.calm)) PyProof.Rows.boot_list h2 pa h4 k_listOf)
        | (cases h1; exact pe_cty1 ok (by decide) call_tuple_ofP PyProof.Rows.boot_tuple h2 pa h4 k_tupleOf)
        | (cases h1; exact pe_cty1 ok (by decide) ((call_dictPs ok.calm ok.hu).or call_dictD) PyProof.Rows.boot_dict h2 pa h4 k_dictOf)
        | (cases h1; exact pe_cty1 ok (by decide) call_int1 PyProof.Rows.boot_int h2 pa h4 k_int1)
        | (cases h1; exact pe_cal1 ok (by decide) call_abs PyProof.Rows.boot_abs h2 pa h4 k_abs)
        | (cases h1; exact pe_cal1 ok (by decide) (cr_sum ok.calm) PyProof.Rows.boot_sum h2 pa h4 k_sum)
        | (cases h1; exact pe_cal1 ok (by decide) (cr_min ok.calm) PyProof.Rows.boot_min h2 pa h4 k_min1)
        | (cases h1; exact pe_cal1 ok (by decide) (cr_max ok.calm) PyProof.Rows.boot_max h2 pa h4 k_max1)
        | (cases h1; exact pe_cal1 ok (by decide) (cr_all ok.calm) PyProof.Rows.boot_all h2 pa h4 k_all)
        | (cases h1; exact pe_cal1 ok (by decide) (cr_any ok.calm) PyProof.Rows.boot_any h2 pa h4 k_any)
        | (cases h1; exact pe_cal1 ok (by decide) cr_sortedI PyProof.Rows.boot_sorted h2 pa h4 k_sorted)
    · cases h
  · split at h
    · rename_i f f2
      obtain ⟨x, y, rfl, p, q⟩ := paired2 g
      simp only [Bool.and_eq_true, decide_eq_true_eq] at h
      obtain ⟨⟨⟨⟨⟨h1, h2⟩, h3⟩, h3'⟩, h4⟩, h4'⟩ := h
      have pa := p _ h3
      have pb := q _ h3'
      unfold calN2 at h1
      split at h1 <;> first
        | cases h1; done
        | (cases h1; exact pe_cal2 ok (by decide) (call_min2 ok.calm) PyProof.Rows.boot_min h2 pa h4 pb h4' k_min2)
        | (cases h1; exact pe_cal2 ok (by decide) (call_max2 ok.calm) PyProof.Rows.boot_max h2 pa h4 pb h4' k_max2)
    · cases h
  · cases h
end
end Ck

set_option Elab.async false
set_option linter.all false
set_option maxRecDepth 100000
/-! Ck7d: displays of dicts; d.get(y, z). -/
namespace Ck
open PySem PySem.Spec PyProof.Rows L2
section
variable {K : KW} {F H H' : Hp} {σ : Sg} {env : Env} {As : List Addr} {c : Cal}
theorem RRs.stay {vs : List V} {rs : List R} {Ar : List Addr} (h : RRs K F H σ env As vs rs Ar) (k : ∀ a o, (a ∈ Ar ∨ a ∈ As) → H a = some o → H' a = some o) : RRs K F H' σ env As vs rs Ar := by
  induction h with
  | nil => exact .nil
  | @cons v vs r rs A B a t ih =>
    refine .cons ?_ (ih fun b o m e => k b o (m.imp (fun m => List.mem_append_right _ m) id) e)
    unfold RR at a ⊢
    split at a
    · exact a.stay Le.refl fun b m o e => k b o (.inl (List.mem_append_left _ m)) e
    · exact a
    · obtain ⟨a1, B2, s, q⟩ := a
      exact ⟨a1, B2, s, q.stay Le.refl fun b m o e => k b o (.inr (s b m)) e⟩
/-- {k: v}: the new dict stands empty while its pair is made -/
theorem dic1_step {a b : E} {Q : VK} (h : tE K c (.op .dic1 [a, b]) σ H Q) : tDic1 K (tE K c a) (tE K c b) σ H Q := by
  obtain ⟨F, As, env, r0, env', rep, ev, post⟩ := h
  simp only [evE] at ev
  obtain ⟨⟨rs, env1⟩, e1, ev⟩ := Res.bind_eq_ok.mp ev
  obtain ⟨r1, e2, ev⟩ := Res.bind_eq_ok.mp ev
  have e2 := Res.ofO_eq_ok.mp e2
  cases ev
  intro p hp
  have pAs : p ∉ As := fun m => by obtain ⟨o, e⟩ := rep.there p m; rw [e] at hp; cases hp
  have pF : F p = none := by
    cases q : F p with
    | none => rfl
    | some o => rw [rep.le p o q] at hp; cases hp
  refine tEs_two ⟨F, As, env, rs, env1, ?_, e1, fun vs F1 H1 As1 A1 x1 rep1 rr1 nd1 out1 q1 => ?_⟩
  · obtain ⟨A0, pm, q⟩ := rep.env
    exact ⟨fun a o e => by rw [upd_ne (ne_of_none e pF)]; exact rep.le a o e, rep.nd, rep.out, A0, pm, q.stay Le.refl fun a _ o e => by rw [upd_ne (ne_of_none e hp)]; exact e⟩
  · have hp1 : H1 p = some (.dK []) := x1.keep p _ upd_same pAs
    have ne : ∀ b, b ∈ A1 ++ As1 → b ≠ p := fun b m e => by
      subst e
      rcases x1.own b m with z | z
      · exact pAs z
      · rw [upd_same] at z; cases z
    have pF1 : F1 p = none := by
      cases q : F1 p with
      | none => rfl
      | some o =>
        rcases x1.new p o q with z | z | z
        · rw [pF] at z; cases z
        · exact absurd z pAs
        · rw [upd_same] at z; cases z
    let H0 : Hp := fun b => if b = p then none else H1 b
    have h0p : H0 p = none := if_pos rfl
    have h0n : ∀ b, b ≠ p → H0 b = H1 b := fun b n => if_neg n
    have rep0 : Rep K F1 H0 σ env1 As1 := by
      obtain ⟨A0, pm, q⟩ := rep1.env
      refine ⟨fun b o e => by rw [h0n b (ne_of_none e pF1)]; exact rep1.le b o e, rep1.nd, rep1.out, A0, pm, q.stay Le.refl fun b m o e => ?_⟩
      rw [h0n b (ne b (List.mem_append_right _ (pm.mem_iff.mp m)))]; exact e
    have x0 : Ext F H As F1 H0 (A1 ++ As1) := by
      refine ⟨x1.le, fun b o e => ?_, fun b m => ?_, fun b o e n => ?_⟩
      · rcases x1.new b o e with z | z | z
        · exact .inl z
        · exact .inr (.inl z)
        · rw [upd_ne (ne_of_none e pF1)] at z; exact .inr (.inr z)
      · rcases x1.own b m with z | z
        · exact .inl z
        · rw [upd_ne (ne b m)] at z; exact .inr z
      · have hb := ne_of_none e hp
        rw [h0n b hb]
        exact x1.keep b o (by rw [upd_ne hb]; exact e) n
    have rr0 : RRs K F1 H0 σ env1 As1 vs rs A1 := rr1.stay fun b o m e => by
      rw [h0n b (ne b (List.mem_append.mpr m))]; exact e
    have res := op_post (o := .dic1) (r := r2 fun x y H Q => ∀ p, H p = none → rDic1 K x y p H Q) (st := [a, b].all E.still) k_dic1 (by decide) e2
      ⟨x0, rep0, rr0, nd1, out1, fun s => by
        obtain ⟨a1, a2, a3⟩ := q1 s
        refine ⟨a1, a2, fun b o e => ?_⟩
        have hb := ne_of_none e hp
        rw [h0n b hb]
        exact a3 b o (by rw [upd_ne hb]; exact e)⟩ still_op post
    intro x y exy
    obtain ⟨k, o, z1, z2, z3, z4⟩ := res x y exy p h0p
    refine ⟨hp1, k, o, z1, z2.up fun b o e => ?_, z3, ?_⟩
    · have hb := ne_of_none e h0p
      rw [h0n b hb] at e; exact e
    · have e : upd H0 p o = upd H1 p o := by
        funext b
        unfold upd
        by_cases hb : b = p
        · rw [if_pos hb, if_pos hb]
        · rw [if_neg hb, if_neg hb]; exact h0n b hb
      rw [← e]; exact z4
end
section
variable {X : Cx} {o e f : Expr} {apos cpos : Pos} {td ty tx : TE}
/-- d.get(y, z) -/
def tGet2 (K : KW) (td ty tx : TE) : TE := fun σ H Q => td σ H fun x H1 => KindV K .dic x H1 ∧ ty σ H1 fun y H2 => tx σ H2 fun z H3 => rGet2 K x [y, z] H3 Q
theorem pe_get2 (hu : X.A.units + 65 < cLine) (ho : PE X o td) (he : PE X e ty) (hf : PE X f tx) (m : M2 X o "get" apos e f cpos) : PE X (.Call (.Attribute o "get" apos) [e, f] [] cpos) (tGet2 X.kw td ty tx) := by
  refine ⟨fun pins s σ H Q I h => ?_⟩
  refine wpAny_Call_method m.base m.few m.line PySem.F.plainAttrs_dict PySem.F.slot_dict_get PySem.F.type_dict_get (thn (ho.run pins s σ H _ I h) fun u s1 ⟨x, H1, I1, rx, kv, q1⟩ => ?_)
  obtain ⟨a, ob, kds, kvs, vs, ex, e1, hd⟩ := kv
  subst ex
  obtain rfl : u = Value.ref a := rx
  refine ⟨hd.typeIs I1 e1, hd.noDict I1 e1, ?_⟩
  rw [m.trees]
  refine Calls.callWith_builtin rfl (Calls.evalArgs_plain (Calls.spliced_cons (thn (he.run pins s1 σ H1 _ I1 q1) fun iv s2 ⟨y, H2, I2, ry, q2⟩ =>
    Calls.spliced_cons (thn (hf.run pins s2 σ H2 _ I2 q2) fun fv s3 ⟨z, H3, I3, rz, q3⟩ => Calls.spliced_nil ?_))))
  exact mt_get2 hu pins s3 σ H3 (.ref a) [y, z] (.ref a) [iv, fv] Q I3 rfl (.cons ry (.cons rz .nil)) q3
end
end Ck

set_option Elab.async false
set_option linter.all false
set_option maxRecDepth 100000
/-! Ck8: our syntax against the row's: the other operators. -/
namespace Ck
open PySem PySem.Spec PyProof.Rows L2
section
variable {S : Ss} {X : Cx} {c : Cal} {fs : List Ck} {l : List E} {e : Expr}
theorem bl_of (ok : XOk S X) {x : Str} (hb : blB S x = true) : Gl X x ∧ X.mg x = none ∧ x ≠ ("__name__" : Str) ∧ (x == ("__debug__" : Str)) = false := by
  unfold blB at hb
  simp only [Bool.and_eq_true, decide_eq_true_eq, Bool.not_eq_true'] at hb
  obtain ⟨d1, d2, d3⟩ := dbg_f hb.2
  exact ⟨ok.gl hb.1.1, ok.bl x hb.1.2, d3, d1⟩
theorem snd_rev (ok : XOk S X) (g : Paired (Good S X c) fs l) (h : chkRev fs S e = true) : PE X e (tE X.kw c (.op .revl l)) := by
  unfold chkRev at h
  split at h
  · split at h
    · obtain ⟨x, rfl, p⟩ := paired1 g
      simp only [Bool.and_eq_true, decide_eq_true_eq] at h
      obtain ⟨⟨⟨⟨⟨rfl, rfl⟩, h1⟩, h2⟩, h3⟩, h4⟩ := h
      obtain ⟨g1, g2, _⟩ := bl_of ok h1
      obtain ⟨g3, g4, _⟩ := bl_of ok h2
      exact pe_op1R (by decide) (pe_listRev ok.calm g1 g2 g3 g4 (p _ h3) (star_of h4)) (fun σ H Q q => q) (k_rev rfl rfl rfl)
    · cases h
  · cases h
theorem snd_slRev (ok : XOk S X) (g : Paired (Good S X c) fs l) (h : chkSlRev fs S e = true) : PE X e (tE X.kw c (.op .slRev l)) := by
  unfold chkSlRev at h
  split at h
  · split at h
    · obtain ⟨x, rfl, p⟩ := paired1 g
      exact pe_op1R (by decide) (pe_revL (p _ h)) (fun σ H Q q => q) (k_rev rfl rfl rfl)
    · cases h
  · cases h
theorem snd_rg (ok : XOk S X) {T : Str} {o1 o2 : Op} (hT : (T = "list" ∧ o1 = .listRg1 ∧ o2 = .listRg2) ∨ (T = "tuple" ∧ o1 = .tupRg1 ∧ o2 = .tupRg2)) (g : Paired (Good S X c) fs l) (h : chkRg T fs S e = true) :
    (fs.length = 1 → PE X e (tE X.kw c (.op o1 l))) ∧ (fs.length = 2 → PE X e (tE X.kw c (.op o2 l))) := by
  unfold chkRg at h
  split at h
  · split at h
    · obtain ⟨x, rfl, p⟩ := paired1 g
      refine ⟨fun _ => ?_, fun q => by simp at q⟩
      simp only [Bool.and_eq_true, decide_eq_true_eq] at h
      obtain ⟨⟨⟨⟨⟨rfl, rfl⟩, h1⟩, h2⟩, h3⟩, h4⟩ := h
      obtain ⟨g1, g2, _⟩ := bl_of ok h1
      obtain ⟨g3, g4, _⟩ := bl_of ok h2
      rcases hT with ⟨rfl, rfl, rfl⟩ | ⟨rfl, rfl, rfl⟩
      · exact pe_op1R (by decide) (pe_listRg ok.calm g1 g2 (prg_1 g3 g4 (p _ h3) (star_of h4))) (fun σ H Q q => q) k_listRg1
      · exact pe_op1R (by decide) (pe_tupRgP ok.calm g1 g2 (prg_1 g3 g4 (p _ h3) (star_of h4))) (fun σ H Q q => q) k_tupRg1
    · cases h
  · split at h
    · obtain ⟨x, y, rfl, p, q⟩ := paired2 g
      refine ⟨fun q => by simp at q, fun _ => ?_⟩
      simp only [Bool.and_eq_true, decide_eq_true_eq] at h
      obtain ⟨⟨⟨⟨⟨⟨⟨rfl, rfl⟩, h1⟩, h2⟩, h3⟩, h4⟩, h5⟩, h6⟩ := h
      obtain ⟨g1, g2, _⟩ := bl_of ok h1
      obtain ⟨g3, g4, _⟩ := bl_of ok h2
      have na : ∀ {a b : Expr} (ha : notStar a = true) (hb : notStar b = true), starEach [a, b] X.env = (false, eval a X.env) :: starEach [b] X.env := fun ha _ => star_of ha
      rcases hT with ⟨rfl, rfl, rfl⟩ | ⟨rfl, rfl, rfl⟩
      · exact pe_op2 (by decide) (pe_listRg ok.calm g1 g2 (prg_2 g3 g4 (p _ h3) (q _ h5) (star_of h4) (star_of h6) (by rw [star_of h6]; rfl))) k_listRg2 fun σ H Q q => tE_mono q fun v H1 z => tE_mono z fun w H2 z => z _ _ rfl
      · exact pe_op2 (by decide) (pe_tupRgP ok.calm g1 g2 (prg_2 g3 g4 (p _ h3) (q _ h5) (star_of h4) (star_of h6) (by rw [star_of h6]; rfl))) k_tupRg2 fun σ H Q q => tE_mono q fun v H1 z => tE_mono z fun w H2 z => z _ _ rfl
    · cases h
  · cases h
theorem snd_met (ok : XOk S X) {k : Kd} {o : Op} {f : Ck} {a : E} (gf : Good S X c f a) (g : Paired (Good S X c) fs l) (h : chkMet k o f fs S e = true) : PE X e (tE X.kw c (.met k o a l)) := by
  unfold chkMet at h
  split at h
  · split at h
    · obtain ⟨y, rfl, q⟩ := paired1 g
      simp only [Bool.and_eq_true, decide_eq_true_eq] at h
      obtain ⟨⟨⟨⟨⟨hm, h1⟩, h2⟩, h3⟩, h4⟩, h5⟩ := h
      unfold metN1 at hm
      split at hm
      · cases hm
        refine PE.weak (pe_join (gf _ h1) (q _ h2) (star_of h3) (super_of _ _ h4) h5) fun σ H Q z => ?_
        refine tE_mono (met_step k_join (by decide) z) fun v H1 ⟨kv, z⟩ => ⟨kv, ?_⟩
        exact tEs_one (tEs_mono z fun vs H2 z x e => by subst e; exact (z _ _ rfl).2)
      · cases hm
        refine PE.weak (pe_m1 PySem.F.slot_str_index PySem.F.type_str_index mt_sindex (gf _ h1) (q _ h2) (star_of h3) (super_of _ _ h4) h5) fun σ H Q z => ?_
        refine tE_mono (met_step k_index (by decide) z) fun v H1 ⟨kv, z⟩ => ⟨kv, ?_⟩
        exact tEs_one (tEs_mono z fun vs H2 z x e => by subst e; exact (z _ _ rfl).2)
      · cases hm
    · cases h
  · split at h
    · obtain ⟨y, z, rfl, q, q'⟩ := paired2 g
      simp only [Bool.and_eq_true, decide_eq_true_eq] at h
      obtain ⟨⟨⟨⟨⟨⟨⟨hm, h1⟩, h2⟩, h2'⟩, h3⟩, h3'⟩, h4⟩, h5⟩ := h
      unfold metN2 at hm
      split at hm
      · cases hm
        refine PE.weak (pe_get2 ok.hu (gf _ h1) (q _ h2) (q' _ h2') ⟨super_of _ _ h4, by rw [star_of h3, star_of h3']; rfl, h5, by rw [star_of h3, star_of h3']; rfl⟩) fun σ H Q z => ?_
        refine tE_mono (met_step k_get2 (by decide) z) fun v H1 ⟨kv, z⟩ => ⟨kv, ?_⟩
        exact tEs_two (tEs_mono z fun vs H2 z x y e => by subst e; exact z _ _ _ rfl)
      · cases hm
    · cases h
  · split at h
    · simp only [Bool.and_eq_true, decide_eq_true_eq] at h
      obtain ⟨⟨⟨hm, h1⟩, h4⟩, h5⟩ := h
      cases hm
    · cases h
  · cases h
theorem snd_un {not : Bool} {o : Op} (ho : o = if not then .not else .neg) (g : Paired (Good S X c) fs l) (h : chkUn not fs S e = true) : PE X e (tE X.kw c (.op o l)) := by
  unfold chkUn at h
  split at h
  · split at h
    · obtain ⟨x, rfl, p⟩ := paired1 g
      subst ho
      exact pe_op1R (by decide) (pe_not (p _ h)) (fun σ H Q q => q) k_not
    · obtain ⟨x, rfl, p⟩ := paired1 g
      subst ho
      exact pe_op1R (by decide) (pe_un un_neg (p _ h)) (fun σ H Q q => q) k_neg
    · cases h
  · cases h
theorem snd_isN {neg : Bool} {o : Op} (ho : o = if neg then .notN else .isN) (g : Paired (Good S X c) fs l) (h : chkIsN neg fs S e = true) : PE X e (tE X.kw c (.op o l)) := by
  unfold chkIsN at h
  split at h
  · split at h
    · obtain ⟨x, rfl, p⟩ := paired1 g
      subst ho
      exact pe_op1R (by decide) (pe_cmp (pc_isN (p _ h)) (behind_of _ rfl)) (fun σ H Q q => q) k_isN
    · obtain ⟨x, rfl, p⟩ := paired1 g
      subst ho
      exact pe_op1R (by decide) (pe_cmp (pc_notN (p _ h)) (behind_of _ rfl)) (fun σ H Q q => q) k_notN
    · cases h
  · cases h
/-! isinstance -/
theorem pe_isi1 (ok : XOk S X) {o : Op} {ea : E} {a : Expr} {t : Str} {T : String} {p p2 pos : Pos} {pr : D → Bool} (hix : o ≠ .ix) (hb : blB S "isinstance" = true) (hbt : blB S t = true) (ht : bootBuiltins t = some (.type T)) (ha : PE X a (tE X.kw c ea)) (hs : notStar a = true)
    (ho : opF o = one (kindD pr)) (hm : o.makes = false) (hk : ∀ d N, kindN d = some N → kitB N T = some (pr d)) : PE X (.Call (.Name "isinstance" p) [a, .Name t p2] [] pos) (tE X.kw c (.op o [ea])) := by
  obtain ⟨g1, g2, g3, g4⟩ := bl_of ok hb
  refine pe_op1 hix (pe_callB call_isi g1 g2 PyProof.Rows.boot_isinstance (pa_cons ha (pa_cons (pe_ty ok ht hbt) pa_nil rfl) (star_of hs)) g3 g4 (star_of hs) rfl) (k_isi ho hm hk) fun σ H Q q => ?_
  exact tE_mono q fun v H' z => z _ rfl
theorem snd_isi (ok : XOk S X) {o : Op} {T : String} {pr : D → Bool} (hix : o ≠ .ix) (ht : bootBuiltins T = some (.type T)) (ho : opF o = one (kindD pr)) (hm : o.makes = false) (hk : ∀ d N, kindN d = some N → kitB N T = some (pr d))
    (g : Paired (Good S X c) fs l) (h : chkIsi T fs S e = true) : PE X e (tE X.kw c (.op o l)) := by
  unfold chkIsi at h
  split at h
  · split at h
    · obtain ⟨x, rfl, p⟩ := paired1 g
      simp only [Bool.and_eq_true, decide_eq_true_eq] at h
      obtain ⟨⟨⟨⟨⟨rfl, rfl⟩, h1⟩, h2⟩, h3⟩, h4⟩ := h
      exact pe_isi1 ok hix h1 h2 ht (p _ h3) h4 ho hm hk
    · cases h
  · cases h
theorem snd_isi2 (ok : XOk S X) {o : Op} {T U : String} {pr qr : D → Bool} (hix : o ≠ .ix) (ht : bootBuiltins T = some (.type T)) (hu : bootBuiltins U = some (.type U)) (ho : opF o = one (kindD fun d => pr d || qr d)) (hm : o.makes = false)
    (hk : ∀ d N, kindN d = some N → kitB N T = some (pr d)) (hk2 : ∀ d N, kindN d = some N → kitB N U = some (qr d))
    (g : Paired (Good S X c) fs l) (h : chkIsi2 T U fs S e = true) : PE X e (tE X.kw c (.op o l)) := by
  unfold chkIsi2 at h
  split at h
  · split at h
    · obtain ⟨x, rfl, p⟩ := paired1 g
      simp only [Bool.and_eq_true, decide_eq_true_eq] at h
      obtain ⟨⟨⟨⟨⟨⟨⟨rfl, rfl⟩, rfl⟩, h1⟩, h2⟩, h2'⟩, h3⟩, h4⟩ := h
      obtain ⟨g1, g2, g3, g4⟩ := bl_of ok h1
      refine pe_op1 hix (pe_callB call_isiT g1 g2 PyProof.Rows.boot_isinstance (pa_cons (p _ h3) (pa_cons (pe_tup (pa_cons (pe_ty ok ht h2) (pa_cons (pe_ty ok hu h2') pa_nil rfl) rfl)) pa_nil rfl) (star_of h4)) g3 g4 (star_of h4) rfl) (k_isi2 ho hm hk hk2) fun σ H Q q => ?_
      exact tE_mono q fun v H' z => ⟨by show 2 ≤ sizeLine; decide, fun tp htp => z _ rfl tp htp⟩
    · cases h
  · cases h
/-! slices -/
theorem slr_all : SlR X (rSlc X.kw) := sl_str.or (sl_list.or sl_tupP)
theorem snd_sl {lo hi : Bool} {o : Op} (ho : o = if lo then (if hi then .slAB else .slA) else (if hi then .slB else .slN)) (g : Paired (Good S X c) fs l) (h : chkSl lo hi fs S e = true) : PE X e (tE X.kw c (.op o l)) := by
  unfold chkSl at h
  split at h
  · split at h
    · obtain ⟨x, y, rfl, p, q⟩ := paired2 g
      simp only [Bool.and_eq_true] at h
      subst ho
      refine pe_op2 (by decide) (pe_slice slr_all (p _ h.1) (po_some (q _ h.2)) po_none) k_slA fun σ H Q z => ?_
      exact tE_mono z fun v H1 z => tE_mono z fun w H2 z => z _ _ rfl
    · obtain ⟨x, y, rfl, p, q⟩ := paired2 g
      simp only [Bool.and_eq_true] at h
      subst ho
      refine pe_op2 (by decide) (pe_slice slr_all (p _ h.1) po_none (po_some (q _ h.2))) k_slB fun σ H Q z => ?_
      exact tE_mono z fun v H1 z => tE_mono z fun w H2 z => z _ _ rfl
    · obtain ⟨x, rfl, p⟩ := paired1 g
      subst ho
      refine pe_op1 (by decide) (pe_slice slr_all (p _ h) po_none po_none) k_slN fun σ H Q z => ?_
      exact tE_mono z fun v H1 z => z _ rfl
    · cases h
  · cases h
theorem snd_slc {f g k : Ck} {a lo hi : E} (hf : Good S X c f a) (hg : Good S X c g lo) (hk : Good S X c k hi) (h : chkSlc f g k S e = true) : PE X e (tE X.kw c (.slc a lo hi)) := by
  unfold chkSlc at h
  split at h
  · simp only [Bool.and_eq_true] at h
    refine PE.weak (pe_slice slr_all (hf _ h.1.1) (po_some (hg _ h.1.2)) (po_some (hk _ h.2))) fun σ H Q z => ?_
    refine tE_mono (slc_step k_slAB z) fun v H1 z => tE_mono z fun x H2 ⟨i, e, z⟩ => ⟨i, e, tE_mono z fun y H3 ⟨j, e2, z⟩ => ⟨j, e2, ?_⟩⟩
    obtain ⟨i', e3, j', e4, z⟩ := z _ _ _ rfl
    cases e3; cases e4
    exact z
  · cases h
/-! a[i] -/
theorem keyB_flat {ks : List D} {k : D} (h : keyB ks k = true) : k.isC = false := by
  cases k <;> first | rfl | (simp [keyB, bk, hk] at h)
theorem ix_step {a b : E} {σ : Sg} {H : Hp} {Q : VK} {K : KW} (h : tE K c (.op .ix [a, b]) σ H Q) : tEs K c [a, b] σ H fun vs H' => r2 (fun x y H Q => rIx K x y H Q ∨ rIxD K x y H Q) vs H' Q := by
  obtain ⟨F, As, env, r0, env', rep, ev, post⟩ := h
  simp only [evE] at ev
  obtain ⟨⟨rs, env1⟩, e1, ev⟩ := Res.bind_eq_ok.mp ev
  obtain ⟨r1, e2, ev⟩ := Res.bind_eq_ok.mp ev
  have e2 := Res.ofO_eq_ok.mp e2
  cases ev
  refine ⟨F, As, env, rs, env1, rep, e1, fun vs F1 H1 As1 A1 x1 rep1 rr1 nd1 out1 q1 => ?_⟩
  replace e2 : opR .ix rs = some r0 := e2
  unfold opR at e2
  split at e2
  · rename_i hc
    obtain ⟨dd, g, rfl⟩ := Option.map_eq_some_iff.mp e2
    exact op_postK k_ix ⟨dd, g, rfl, fun _ => by simpa [Op.prop] using hc⟩ ⟨x1, rep1, rr1, nd1, out1, q1⟩ still_op post
  · split at e2
    · rename_i i n ds s2 n2 k _ _ _ _
      obtain ⟨d, hd, rfl⟩ := Option.map_eq_some_iff.mp e2
      intro x y ev
      subst ev
      cases rr1 with
      | cons ra rt =>
        cases rt with
        | cons rb rt =>
          cases rt
          rename_i Aa Ab
          have hb : RD K H1 _ (.int k) := RR.read rb rep1
          cases hb
          obtain ⟨rfl, sv, gs⟩ := (show _ ∧ _ ∧ _ from ra)
          obtain ⟨w, B, C, e1', pm, ro, rep2⟩ := rep1.focus gs
          rw [sv] at e1'; cases e1'
          obtain ⟨rbd, hAb⟩ : True ∧ Ab = [] := by
            refine ⟨trivial, ?_⟩
            cases s2 with
            | fr => exact ((show RO _ _ _ _ _ _ _ from rb).rdf rfl).2
            | sl _ => exact (show _ ∧ _ ∧ _ from rb).1
            | inn _ => exact (show _ ∧ _ from rb).1
          subst hAb
          have fin : ∀ (B' : List Addr) (m : Nat) (v : V), (∀ a ∈ B', a ∈ As1) → RO K F1 H1 m v d B' → (d.isC = false ∨ m = n - 1) → Q v H1 := by
            intro B' m v hB r hm
            by_cases hc : d.isC = true
            · have hm : m = n - 1 := hm.resolve_left (by rw [hc]; simp)
              subst hm
              refine post v F1 H1 As1 [] x1 rep1 ?_ List.nodup_nil (fun _ m => nomatch m) fun s => q1 (still_op s)
              rw [if_pos hc]
              exact ⟨rfl, B', hB, r⟩
            · refine post v F1 H1 As1 [] x1 rep1 ?_ List.nodup_nil (fun _ m => nomatch m) fun s => q1 (still_op s)
              rw [if_neg hc]
              exact .zero (r.rdf (by simpa using hc)).1
          cases ro with
          | zero r =>
            cases r with
            | lst e q =>
              obtain ⟨v, e3, rd⟩ := at_rds q hd
              refine .inl (.inl ⟨_, _, _, v, rfl, rfl, SqL.of (rep1.le _ _ e), e3, ?_⟩)
              by_cases hc : d.isC = true
              · exact fin [] 0 v (fun _ m => nomatch m) (.zero rd) (.inr rfl)
              · exact fin [] 0 v (fun _ m => nomatch m) (.zero rd) (.inl (by simpa using hc))
          | flat r e => cases e
          | lst e q =>
            unfold at' atI at hd
            obtain ⟨j, e3, e4⟩ := Option.bind_eq_some_iff.mp hd
            obtain ⟨v, A1, A2, A3, e5, e6, r, _, _⟩ := q.at e4
            refine .inl (.inl ⟨_, _, _, v, rfl, rfl, SqL.of e, by unfold atI; rw [q.length, e3]; exact e5, ?_⟩)
            exact fin A2 _ v (fun a m => pm.mem_iff.mpr (List.mem_append_left _ (List.mem_cons_of_mem _ (by rw [e6]; simp [m])))) r (.inr rfl)
    · rename_i i n ks ds s2 n2 k _ _ _ _
      obtain ⟨d, hd, rfl⟩ := Option.map_eq_some_iff.mp e2
      obtain ⟨hkb, j, hj, hv⟩ := dget_some hd
      intro x y ev
      subst ev
      cases rr1 with
      | cons ra rt =>
        cases rt with
        | cons rb rt =>
          cases rt
          rename_i Aa Ab
          have hb : RD K H1 _ k := RR.read rb rep1
          obtain ⟨rfl, sv, gs⟩ := (show _ ∧ _ ∧ _ from ra)
          obtain ⟨w, B, C, e1', pm, ro, rep2⟩ := rep1.focus gs
          rw [sv] at e1'; cases e1'
          have hAb : Ab = [] := by
            cases s2 with
            | fr => exact ((show RO _ _ _ _ _ _ _ from rb).rdf (keyB_flat hkb)).2
            | sl _ => exact (show _ ∧ _ ∧ _ from rb).1
            | inn _ => exact (show _ ∧ _ from rb).1
          subst hAb
          have fin : ∀ (B' : List Addr) (m : Nat) (v : V), (∀ a ∈ B', a ∈ As1) → RO K F1 H1 m v d B' → (d.isC = false ∨ m = n - 1) → Q v H1 := by
            intro B' m v hB r hm
            by_cases hc : d.isC = true
            · have hm : m = n - 1 := hm.resolve_left (by rw [hc]; simp)
              subst hm
              refine post v F1 H1 As1 [] x1 rep1 ?_ List.nodup_nil (fun _ m => nomatch m) fun s => q1 (still_op s)
              rw [if_pos hc]
              exact ⟨rfl, B', hB, r⟩
            · refine post v F1 H1 As1 [] x1 rep1 ?_ List.nodup_nil (fun _ m => nomatch m) fun s => q1 (still_op s)
              rw [if_neg hc]
              exact .zero (r.rdf (by simpa using hc)).1
          cases ro with
          | zero r =>
            cases r with
            | dic e h r1 q =>
              obtain ⟨v, e3, rd⟩ := q.get hv
              refine .inr ⟨_, k, _, _, _, _, v, ⟨rfl, rep1.le _ _ e, h, r1.up rep1.le, hb, hkb⟩, by unfold dAt; rw [hj]; exact e3, ?_⟩
              by_cases hc : d.isC = true
              · exact fin [] 0 v (fun _ m => nomatch m) (.zero rd) (.inr rfl)
              · exact fin [] 0 v (fun _ m => nomatch m) (.zero rd) (.inl (by simpa using hc))
          | flat r e => cases e
          | dic e h r1 q =>
            obtain ⟨v, A1, A2, A3, e5, e6, r, _, _⟩ := q.at hv
            refine .inr ⟨_, k, _, _, _, _, v, ⟨rfl, e, h, r1.up rep1.le, hb, hkb⟩, by unfold dAt; rw [hj]; exact e5, ?_⟩
            exact fin A2 _ v (fun a m => pm.mem_iff.mpr (List.mem_append_left _ (List.mem_cons_of_mem _ (by rw [e6]; simp [m])))) r (.inr rfl)
    · cases e2
theorem snd_ix (ok : XOk S X) (g : Paired (Good S X c) fs l) (h : chkIx fs S e = true) : PE X e (tE X.kw c (.op .ix l)) := by
  unfold chkIx at h
  split at h
  · split at h
    · obtain ⟨x, y, rfl, p, q⟩ := paired2 g
      simp only [Bool.and_eq_true] at h
      refine PE.weak (pe_ix (ix_seq.or (ix_dict ok.hu)) (p _ h.1.1) (q _ h.1.2) (plain_of h.2)) fun σ H Q z => tEs_two (tEs_mono (ix_step z) fun vs H1 z => z)
    · cases h
  · cases h
end
end Ck

set_option Elab.async false
set_option linter.all false
set_option maxRecDepth 100000
/-! Ck9: operators all together; constants, names, displays, calls. -/
namespace Ck
open PySem PySem.Spec PyProof.Rows L2
section
variable {S : Ss} {X : Cx} {c : Cal} {fs : List Ck} {l : List E} {e : Expr}
theorem snd_op (ok : XOk S X) {o : Op} (g : Paired (Good S X c) fs l) (h : chkOp o fs S e = true) : PE X e (tE X.kw c (.op o l)) := by
  unfold chkOp at h
  split at h
  · exact snd_rev ok g h
  · rw [Bool.and_eq_true] at h; exact (snd_rg ok (.inl ⟨rfl, rfl, rfl⟩) g h.1).1 (by simpa using h.2)
  · rw [Bool.and_eq_true] at h; exact (snd_rg ok (.inr ⟨rfl, rfl, rfl⟩) g h.1).1 (by simpa using h.2)
  · rw [Bool.and_eq_true] at h; exact (snd_rg ok (.inl ⟨rfl, rfl, rfl⟩) g h.1).2 (by simpa using h.2)
  · rw [Bool.and_eq_true] at h; exact (snd_rg ok (.inr ⟨rfl, rfl, rfl⟩) g h.1).2 (by simpa using h.2)
  · exact snd_isi ok (T := "bool") (by decide) PyProof.Rows.boot_bool rfl rfl (fun d N h => by cases d <;> cases h <;> first | (show kitB _ _ = some true; decide +kernel) | (show kitB _ _ = some false; decide +kernel)) g h
  · exact snd_isi ok (T := "int") (by decide) PyProof.Rows.boot_int rfl rfl (fun d N h => by cases d <;> cases h <;> first | (show kitB _ _ = some true; decide +kernel) | (show kitB _ _ = some false; decide +kernel)) g h
  · exact snd_isi ok (T := "str") (by decide) PyProof.Rows.boot_str rfl rfl (fun d N h => by cases d <;> cases h <;> first | (show kitB _ _ = some true; decide +kernel) | (show kitB _ _ = some false; decide +kernel)) g h
  · exact snd_isi ok (T := "tuple") (by decide) PyProof.Rows.boot_tuple rfl rfl (fun d N h => by cases d <;> cases h <;> first | (show kitB _ _ = some true; decide +kernel) | (show kitB _ _ = some false; decide +kernel)) g h
  · exact snd_isi ok (T := "list") (by decide) PyProof.Rows.boot_list rfl rfl (fun d N h => by cases d <;> cases h <;> first | (show kitB _ _ = some true; decide +kernel) | (show kitB _ _ = some false; decide +kernel)) g h
  · exact snd_isi2 ok (T := "tuple") (U := "list") (pr := fun d => match d with | .tup _ => true | _ => false) (qr := fun d => match d with | .lst _ => true | _ => false) (by decide) PyProof.Rows.boot_tuple PyProof.Rows.boot_list
      (by show one (kindD _) = one (kindD _); congr 2; funext d; cases d <;> rfl) rfl (fun d N h => by cases d <;> cases h <;> first | (show kitB _ _ = some true; decide +kernel) | (show kitB _ _ = some false; decide +kernel)) (fun d N h => by cases d <;> cases h <;> first | (show kitB _ _ = some true; decide +kernel) | (show kitB _ _ = some false; decide +kernel)) g h
  · exact snd_ix ok g h
  · exact snd_sl (lo := true) (hi := false) rfl g h
  · exact snd_sl (lo := false) (hi := true) rfl g h
  · exact snd_sl (lo := false) (hi := false) rfl g h
  · exact snd_slRev ok g h
  · exact snd_un (not := true) rfl g h
  · exact snd_un (not := false) rfl g h
  · exact snd_isN (neg := false) rfl g h
  · exact snd_isN (neg := true) rfl g h
  · unfold chkD0 at h
    split at h
    · cases fs with
      | nil =>
        cases g
        refine PE.weak pe_dic0 fun σ H Q z p hp => ?_
        have := op_step k_dic0 (Q := Q) still_op (by decide) z
        exact tEs_nil this rfl p hp
      | cons _ _ => cases h
    · cases h
  · unfold chkD1 at h
    split at h
    · split at h
      · obtain ⟨x, y, rfl, p, q⟩ := paired2 g
        simp only [Bool.and_eq_true] at h
        exact PE.weak (pe_dic1 (tk := tE X.kw c x) (tv := tE X.kw c y) (fun h w => tE_mono h w) (fun h w => tE_mono h w) ok.hu (p _ h.1) (q _ h.2)) fun σ H Q z => dic1_step z
      · cases h
    · cases h
  · simp only [Bool.or_eq_true] at h
    rcases h with (h | h) | h
    · exact snd_bin g h
    · exact snd_cmp ok g h
    · exact snd_cal ok g h

/-! ### constants, names -/
def cstB : Const → D → Bool
  | .none, .non => true
  | .bool a, .bl b => a == b
  | .int a, .int b => decide (a = b)
  | .str a, .str b => decide (a = b)
  | _, _ => false
theorem Ext0 {F H : Hp} {As : List Addr} : Ext F H As F H ([] ++ As) := Ext.refl
theorem cst_step {K : KW} {v : V} {d : D} (hv : ∀ F, RD K F v d) {σ : Sg} {H : Hp} {Q : VK} {e : E} (he : ∀ env, evE c e env = .ok (⟨.fr, 0, d⟩, env)) (h : tE K c e σ H Q) : Q v H := by
  obtain ⟨F, As, env, r0, env', rep, ev, post⟩ := h
  rw [he] at ev
  cases ev
  exact post v F H As [] Ext0 rep (.zero (hv F)) List.nodup_nil (fun _ m => nomatch m) fun _ => ⟨rfl, rfl, fun _ _ h => h⟩
theorem snd_cst {k : Const} {j : Nat} {pos : Pos} {d : D} (h : cstB k d = true) : PE X (.Constant k j pos) (tE X.kw c (.cst d)) := by
  unfold cstB at h
  split at h
  · exact PE.weak pe_non fun σ H Q q => cst_step (fun _ => .non) (fun _ => rfl) q
  · obtain rfl := eq_of_beq h
    exact PE.weak pe_bl fun σ H Q q => cst_step (fun _ => .bl _) (fun _ => rfl) q
  · obtain rfl := of_decide_eq_true h
    exact PE.weak pe_int fun σ H Q q => cst_step (fun _ => .int _) (fun _ => rfl) q
  · obtain rfl := of_decide_eq_true h
    exact PE.weak pe_str fun σ H Q q => cst_step (fun _ => .str _) (fun _ => rfl) q
  · cases h
mutual
theorem beq_eq : ∀ a b : D, D.beq a b = true → a = b
  | .non, b, h => by cases b <;> first | rfl | cases h
  | .bl x, b, h => by cases b <;> first | cases h; done | (simp only [D.beq] at h; rw [eq_of_beq h]) | (simp [D.beq] at h)
  | .int x, b, h => by cases b <;> first | cases h; done | (simp only [D.beq] at h; rw [eq_of_beq h]) | (simp [D.beq] at h)
  | .str x, b, h => by cases b <;> first | cases h; done | (simp only [D.beq, decide_eq_true_eq] at h; rw [h]) | (simp [D.beq] at h)
  | .tup x, b, h => by cases b <;> first | (simp only [D.beq] at h; rw [beqs_eq x _ h]) | (simp [D.beq] at h)
  | .lst x, b, h => by cases b <;> first | (simp only [D.beq] at h; rw [beqs_eq x _ h]) | (simp [D.beq] at h)
  | .scr x, b, h => by cases b <;> first | (simp only [D.beq] at h; rw [beqs_eq x _ h]) | (simp [D.beq] at h)
  | .dic x y, b, h => by cases b <;> first | (simp only [D.beq, Bool.and_eq_true] at h; rw [beqs_eq x _ h.1, beqs_eq y _ h.2]) | (simp [D.beq] at h)
  | .obj i n x, b, h => by cases b <;> first | (simp only [D.beq, Bool.and_eq_true, beq_iff_eq, decide_eq_true_eq] at h; rw [h.1.1, h.1.2, beqs_eq x _ h.2]) | (simp [D.beq] at h)
theorem beqs_eq : ∀ a b : List D, D.beqs a b = true → a = b
  | [], [], _ => rfl
  | [], _ :: _, h => by simp [D.beqs] at h
  | _ :: _, [], h => by simp [D.beqs] at h
  | x :: a, y :: b, h => by
    simp only [D.beqs, Bool.and_eq_true] at h
    rw [beq_eq x y h.1, beqs_eq a b h.2]
end
def csB (l : List (Str × D)) (x : Str) (d : D) : Bool := l.any fun p => decide (p.1 = x) && D.beq p.2 d
theorem snd_glo (ok : XOk S X) {x y : Str} {p : Pos} {d : D} (h : (decide (y = x) && glB S.sc y && !dbgB y && csB S.cs x d) = true) : PE X (.Name y p) (tE X.kw c (.glo x d)) := by
  simp only [Bool.and_eq_true, decide_eq_true_eq, Bool.not_eq_true'] at h
  obtain ⟨⟨⟨rfl, h1⟩, h2⟩, h3⟩ := h
  obtain ⟨q, m, hq⟩ := List.any_eq_true.mp h3
  simp only [Bool.and_eq_true, decide_eq_true_eq] at hq
  obtain ⟨e1, e2⟩ := hq
  have e2 := beq_eq _ _ e2
  obtain ⟨v, u, g1, g2, g3⟩ := ok.cs q m
  subst e2
  rw [e1] at g1
  exact PE.weak (pe_glob (ok.gl h1) g1 g2 (dbg_f h2).1) fun σ H Q z => cst_step g3 (fun _ => rfl) z
theorem snd_var (ok : XOk S X) {i : Nat} {x : Str} {p : Pos} (h : (decide (S.N[i]? = some x) && visB S.sc x && !dbgB x) = true) : PE X (.Name x p) (tE X.kw c (.var i)) := by
  simp only [Bool.and_eq_true, decide_eq_true_eq, Bool.not_eq_true'] at h
  obtain ⟨⟨h1, h2⟩, h3⟩ := h
  obtain ⟨d1, d2, d3⟩ := dbg_f h3
  refine PE.weak (pe_var (i := i) (by rw [ok.N]; exact h1) (by rw [ok.sc]; exact vis_of h2) d1 d2) fun σ H Q q => ?_
  obtain ⟨F, As, env, r0, env', rep, ev, post⟩ := q
  simp only [evE] at ev
  obtain ⟨⟨n, d⟩, e1, ev⟩ := Res.bind_eq_ok.mp ev
  have e1 := Res.ofO_eq_ok.mp e1
  obtain ⟨rfl, rfl⟩ : slotR i (n, d) = r0 ∧ env = env' := Prod.mk.inj (Res.ok.inj ev)
  obtain ⟨v, A, B, sv, pm, ro, _⟩ := rep.focus e1
  refine ⟨v, sv, post v F H As [] Ext0 rep ?_ List.nodup_nil (fun _ m => nomatch m) fun _ => ⟨rfl, rfl, fun _ _ h => h⟩⟩
  show RR X.kw F H σ env As v (slotR i (n, d)) []
  by_cases hc : 1 ≤ n ∧ d.isC = true
  · rw [slotR, if_pos hc]
    exact ⟨rfl, sv, e1⟩
  · rw [slotR, if_neg hc]
    show RO X.kw F H 0 v d []
    have : n = 0 ∨ d.isC = false := by
      by_cases hd : d.isC = true
      · left
        rw [not_and] at hc
        by_cases h1 : 1 ≤ n
        · exact absurd hd (hc h1)
        · omega
      · right; simpa using hd
    rcases this with h | h
    · subst h; exact .zero ro.rd0.1
    · exact .zero (ro.rdf h).1
end
end Ck

set_option Elab.async false
set_option linter.all false
set_option maxRecDepth 100000
/-! Ck10: taking values; displays. -/
namespace Ck
open PySem PySem.Spec PyProof.Rows L2
variable {K : KW} {F F' H H' : Hp} {σ : Sg} {env env' : Env} {As As' : List Addr} {c : Cal}

/-- values of one's own, each to its depth -/
inductive RSs (K : KW) (F H : Hp) : List V → List SV → List Addr → Prop
  | nil : RSs K F H [] [] []
  | cons {v : V} {vs : List V} {n : Nat} {d : D} {svs : List SV} {A B : List Addr} : RO K F H n v d A → RSs K F H vs svs B → RSs K F H (v :: vs) ((n, d) :: svs) (A ++ B)
theorem RSs.stay (l : Le F F') : ∀ {vs : List V} {svs : List SV} {A : List Addr}, RSs K F H vs svs A → (∀ a ∈ A, ∀ o, H a = some o → H' a = some o) → RSs K F' H' vs svs A
  | _, _, _, .nil, _ => .nil
  | _, _, _, .cons p r, k => .cons (p.stay l fun a m => k a (List.mem_append_left _ m)) (RSs.stay l r fun a m => k a (List.mem_append_right _ m))
theorem RSs.freeze (l : Le F F') : ∀ {vs : List V} {svs : List SV} {A : List Addr}, RSs K F H vs svs A → (∀ a ∈ A, ∀ o, H a = some o → F' a = some o) → RDs K F' vs (svs.map (·.2))
  | _, _, _, .nil, _ => .nil
  | _, _, _, .cons p r, k => .cons (p.freeze l fun a m => k a (List.mem_append_left _ m)) (RSs.freeze l r fun a m => k a (List.mem_append_right _ m))
theorem RSs.there : ∀ {vs : List V} {svs : List SV} {A : List Addr}, RSs K F H vs svs A → ∀ a ∈ A, ∃ o, H a = some o
  | _, _, _, .nil, a, h => by cases h
  | _, _, _, .cons p r, a, m => (List.mem_append.mp m).elim (p.there a) (RSs.there r a)
theorem RSs.length : ∀ {vs : List V} {svs : List SV} {A : List Addr}, RSs K F H vs svs A → vs.length = svs.length
  | _, _, _, .nil => rfl
  | _, _, _, .cons p r => by rw [List.length_cons, List.length_cons, RSs.length r]
theorem RSs.lower (l : Le F H) : ∀ {m : Nat} {vs : List V} {svs : List SV} {A : List Addr}, RSs K F H vs svs A → (∀ sv ∈ svs, sv.2.isC = true → m ≤ sv.1) → ∃ Z B : List Addr, (∀ a, a ∈ A ↔ a ∈ Z ∨ a ∈ B) ∧ (A.Nodup → B.Nodup ∧ ∀ a ∈ Z, a ∉ B) ∧
    ∀ F', Le F F' → (∀ a ∈ Z, ∀ o, H a = some o → F' a = some o) → ROs K F' H m vs (svs.map (·.2)) B
  | _, _, _, _, .nil, _ => ⟨[], [], by simp, fun _ => ⟨List.nodup_nil, fun _ h => nomatch h⟩, fun _ _ _ => .nil⟩
  | m, _, _, _, .cons (v := v) (n := n) (d := d) (A := A1) (B := A2) p r, hm => by
    have h1 : ∃ Z B : List Addr, (∀ a, a ∈ A1 ↔ a ∈ Z ∨ a ∈ B) ∧ (A1.Nodup → B.Nodup ∧ ∀ a ∈ Z, a ∉ B) ∧
        ∀ F', Le F F' → (∀ a ∈ Z, ∀ o, H a = some o → F' a = some o) → RO K F' H m v d B := by
      by_cases hd : d.isC = true
      · exact RO.lower l p (hm (n, d) (List.mem_cons_self ..) hd)
      · obtain ⟨rd, rfl⟩ := p.rdf (by simpa using hd)
        exact ⟨[], [], by simp, fun _ => ⟨List.nodup_nil, fun _ h => nomatch h⟩, fun F' l' _ => .flat (rd.up l') (by simpa using hd)⟩
    obtain ⟨Z1, B1, e1, nd1, k1⟩ := h1
    obtain ⟨Z2, B2, e2, nd2, k2⟩ := RSs.lower l (m := m) r fun sv h => hm sv (List.mem_cons_of_mem _ h)
    refine ⟨Z1 ++ Z2, B1 ++ B2, fun a => by simp only [List.mem_append, e1, e2]; constructor <;> (intro h; rcases h with (h | h) | (h | h) <;> simp [h]), fun q => ?_, fun F' l' k => ?_⟩
    · rw [List.nodup_append] at q
      obtain ⟨qa, qb, qc⟩ := q
      obtain ⟨n1, z1⟩ := nd1 qa
      obtain ⟨n2, z2⟩ := nd2 qb
      refine ⟨List.nodup_append.mpr ⟨n1, n2, fun a ha b hb => qc a ((e1 a).mpr (.inr ha)) b ((e2 b).mpr (.inr hb))⟩, fun a m => ?_⟩
      rw [List.mem_append, not_or]
      rcases List.mem_append.mp m with m | m
      · exact ⟨z1 a m, fun h => qc a ((e1 a).mpr (.inl m)) a ((e2 a).mpr (.inr h)) rfl⟩
      · exact ⟨fun h => qc a ((e1 a).mpr (.inr h)) a ((e2 a).mpr (.inl m)) rfl, z2 a m⟩
    · exact .cons (k1 F' l' fun a m => k a (List.mem_append_left _ m)) (k2 F' l' fun a m => k a (List.mem_append_right _ m))
theorem depOf_le : ∀ {svs : List SV}, (∀ sv ∈ svs, sv.2.isC = true → depOf svs ≤ sv.1 + 1) ∧ 1 ≤ depOf svs
  | [] => ⟨fun _ h => (nomatch h), by decide⟩
  | (n, d) :: l => by
    obtain ⟨h1, h2⟩ := depOf_le (svs := l)
    have e : depOf ((n, d) :: l) = min (if d.isC then n + 1 else BIG) (depOf l) := rfl
    refine ⟨fun sv m hc => ?_, ?_⟩
    · rw [e]
      rcases List.mem_cons.mp m with rfl | m
      · simp only at hc
        rw [if_pos hc]
        exact Nat.min_le_left _ _
      · exact Nat.le_trans (Nat.min_le_right _ _) (h1 sv m hc)
    · rw [e]
      have : 1 ≤ if d.isC = true then n + 1 else BIG := by
        split
        · omega
        · decide
      omega
/-- answers, where slots' depths may have changed since -/
def RRw (K : KW) (F H : Hp) (σ : Sg) (env : Env) (v : V) (r : R) (Ar : List Addr) : Prop :=
  match r.src with
  | .fr => RO K F H r.n v r.d Ar
  | .sl i => Ar = [] ∧ σ[i]? = some (some v) ∧ ∃ m, getS env i = some (m, r.d)
  | .inn _ => Ar = []
inductive RRws (K : KW) (F H : Hp) (σ : Sg) (env : Env) : List V → List R → List Addr → Prop
  | nil : RRws K F H σ env [] [] []
  | cons {v : V} {vs : List V} {r : R} {rs : List R} {A B : List Addr} : RRw K F H σ env v r A → RRws K F H σ env vs rs B → RRws K F H σ env (v :: vs) (r :: rs) (A ++ B)
theorem RR.w {v : V} {r : R} {A : List Addr} (h : RR K F H σ env As v r A) : RRw K F H σ env v r A := by
  unfold RR at h
  unfold RRw
  cases hs : r.src with
  | fr => rw [hs] at h; exact h
  | sl i => rw [hs] at h; exact ⟨h.1, h.2.1, _, h.2.2⟩
  | inn i => rw [hs] at h; exact h.1
theorem RRs.w {vs : List V} {rs : List R} {A : List Addr} (h : RRs K F H σ env As vs rs A) : RRws K F H σ env vs rs A := by
  induction h with
  | nil => exact .nil
  | cons a _ ih => exact .cons a.w ih
theorem RRws.up {env1 : Env} (l : Le F F') (g : ∀ j m d, getS env j = some (m, d) → ∃ m', getS env1 j = some (m', d)) {vs : List V} {rs : List R} {A : List Addr} (h : RRws K F H σ env vs rs A) : RRws K F' H σ env1 vs rs A := by
  induction h with
  | nil => exact .nil
  | @cons v vs r rs A B b t ih =>
    refine .cons ?_ ih
    unfold RRw at b ⊢
    cases hs : r.src with
    | fr => rw [hs] at b; exact RO.stay l b fun _ _ _ h => h
    | sl i =>
      rw [hs] at b
      obtain ⟨z1, z2, m, z3⟩ := b
      exact ⟨z1, z2, g _ _ _ z3⟩
    | inn i => rw [hs] at b; exact b
theorem getS_set {env : Env} {i j : Nat} {x : SV} (hi : i < env.length) : getS (env.set i (some x)) j = if i = j then some x else getS env j := by
  unfold getS
  rw [List.getElem?_set]
  by_cases h : i = j
  · subst h; simp [hi]
  · simp [h]
theorem getS_hid {env : Env} {i j : Nat} : getS (env.set i none) j = if i = j then none else getS env j := by
  unfold getS
  rw [List.getElem?_set]
  by_cases h : i = j
  · subst h
    by_cases h2 : i < env.length <;> simp [h2]
  · simp [h]
theorem getS_lt {env : Env} {i : Nat} {x : SV} (h : getS env i = some x) : i < env.length := by
  unfold getS at h
  by_cases h2 : i < env.length
  · exact h2
  · rw [List.getElem?_eq_none (by omega)] at h; cases h
/-- a slot's own thing, shared from now on -/
theorem Rep.share {i n : Nat} {d : D} (r : Rep K F H σ env As) (h : getS env i = some (n, d)) : ∃ v F2 As2, σ[i]? = some (some v) ∧ Le F F2 ∧ (∀ a o, F2 a = some o → F a = some o ∨ a ∈ As) ∧ (∀ a ∈ As2, a ∈ As) ∧
    Rep K F2 H σ (env.set i (some (0, d))) As2 ∧ RD K F2 v d := by
  obtain ⟨v, A, B, sv, pm, ro, rep⟩ := r.focus h
  have nd := (pm.nodup_iff).mp r.nd
  have dis : ∀ a ∈ B, a ∉ A := fun a hb ha => (List.nodup_append.mp nd).2.2 a ha a hb rfl
  have rd : RD K (frz F H A) v d := ro.frozen r.le fun a m => m
  refine ⟨v, frz F H A, B, sv, le_frz r.le, fun a o e => (frz_new e).imp id fun m => pm.mem_iff.mpr (List.mem_append_left _ m), fun a m => pm.mem_iff.mpr (List.mem_append_right _ m), ?_, rd⟩
  have rep2 : Rep K (frz F H A) H σ (env.set i none) B := by
    obtain ⟨A0, p, q⟩ := rep.env
    exact ⟨frz_le r.le, rep.nd, fun a m => by rw [frz_out (dis a m)]; exact rep.out a m, A0, p, q.stay (le_frz r.le) fun _ _ _ h => h⟩
  have e : (env.set i none).set i (some (0, d)) = env.set i (some (0, d)) := by simp
  rw [← e]
  exact rep2.fill (A := []) sv (.zero rd) rep2.nd (fun _ m => nomatch m) (by rw [getS_hid, if_pos rfl])
theorem claim_ok {v : V} {r : R} {A : List Addr} {sv : SV} {env2 : Env} (h : RRw K F H σ env v r A) (rep : Rep K F H σ env As) (ap : ∀ a ∈ A, a ∉ As) (e : claim r env = some (sv, env2)) :
    ∃ F2 As2, Le F F2 ∧ (∀ a o, F2 a = some o → F a = some o ∨ a ∈ As) ∧ (∀ a ∈ As2, a ∈ As) ∧ Rep K F2 H σ env2 As2 ∧ RO K F2 H sv.1 v sv.2 A ∧ (∀ j m d, getS env j = some (m, d) → ∃ m', getS env2 j = some (m', d)) := by
  unfold claim at e
  unfold RRw at h
  split at e
  · cases e
    rename_i hs
    rw [hs] at h
    exact ⟨F, As, Le.refl, fun _ _ h => .inl h, fun _ h => h, rep, h, fun j m d g => ⟨m, g⟩⟩
  · cases e
    rename_i i hs
    rw [hs] at h
    obtain ⟨rfl, s1, m, g⟩ := h
    obtain ⟨w, F2, As2, s2, l2, n2, o2, rep2, rd⟩ := rep.share g
    rw [s1] at s2; cases s2
    refine ⟨F2, As2, l2, n2, o2, rep2, .zero rd, fun j m' d' g' => ?_⟩
    rw [getS_set (getS_lt g)]
    by_cases hj : i = j
    · subst hj
      rw [g] at g'; cases g'
      exact ⟨0, by rw [if_pos rfl]⟩
    · exact ⟨m', by rw [if_neg hj]; exact g'⟩
  · cases e
theorem claims_ok : ∀ {vs : List V} {rs : List R} {A : List Addr} {F : Hp} {env env2 : Env} {As : List Addr} {svs : List SV}, RRws K F H σ env vs rs A → Rep K F H σ env As → (∀ a ∈ A, a ∉ As) → claims rs env = some (svs, env2) →
    ∃ F2 As2, Le F F2 ∧ (∀ a o, F2 a = some o → F a = some o ∨ a ∈ As) ∧ (∀ a ∈ As2, a ∈ As) ∧ Rep K F2 H σ env2 As2 ∧ RSs K F2 H vs svs A ∧ (∀ j m d, getS env j = some (m, d) → ∃ m', getS env2 j = some (m', d))
  | _, _, _, F, env, _, As, _, .nil, rep, _, e => by
    cases e
    exact ⟨F, As, Le.refl, fun _ _ h => .inl h, fun _ h => h, rep, .nil, fun j m d g => ⟨m, g⟩⟩
  | _, _, _, F, env, _, As, svs, .cons (vs := vs) (A := A1) (B := A2) (rs := rs) a t, rep, ap, e => by
    simp only [claims] at e
    obtain ⟨⟨sv, env1⟩, e1, e⟩ := Option.bind_eq_some_iff.mp e
    obtain ⟨⟨svs2, env2⟩, e2, e⟩ := Option.bind_eq_some_iff.mp e
    cases e
    obtain ⟨F1, As1, l1, n1, o1, rep1, ro1, g1⟩ := claim_ok a rep (fun a m => ap a (List.mem_append_left _ m)) e1
    have t1 : RRws K F1 H σ env1 vs rs A2 := t.up l1 g1
    obtain ⟨F2, As2, l2, n2, o2, rep2, rs2, g2⟩ := claims_ok t1 rep1 (fun a m z => ap a (List.mem_append_right _ m) (o1 a z)) e2
    refine ⟨F2, As2, l1.trans l2, fun a o h => ?_, fun a m => o1 a (o2 a m), rep2, ?_, fun j m d g => ?_⟩
    · rcases n2 a o h with h | h
      · exact n1 a o h
      · exact .inr (o1 a h)
    · obtain ⟨n, d⟩ := sv
      exact .cons (ro1.stay l2 fun _ _ _ h => h) rs2
    · obtain ⟨m', g'⟩ := g1 j m d g
      exact g2 j m' d g'
end Ck

set_option Elab.async false
set_option linter.all false
set_option maxRecDepth 100000
/-! Ck11: displays, methods that change a list. -/
namespace Ck
open PySem PySem.Spec PyProof.Rows L2
variable {K : KW} {F F' H H' : Hp} {σ : Sg} {env env' : Env} {As As' : List Addr} {c : Cal}

/-- values taken -/
structure Cl (K : KW) (F H : Hp) (σ : Sg) (As : List Addr) (F' H' : Hp) (env' : Env) (As' : List Addr) (vs : List V) (svs : List SV) (A : List Addr) : Prop where
  x : Ext F H As F' H' (A ++ As')
  rep : Rep K F' H' σ env' As'
  rs : RSs K F' H' vs svs A
  nd : A.Nodup
  out : ∀ a ∈ A, a ∉ As' ∧ F' a = none
theorem claims_post {F1 H1 : Hp} {env1 env2 : Env} {As1 A : List Addr} {vs : List V} {rs : List R} {svs : List SV} {st : Bool} (p : Post K F H σ env env1 As F1 H1 As1 vs rs A st) (e : claims rs env1 = some (svs, env2)) :
    ∃ F2 As2, Cl K F H σ As F2 H1 env2 As2 vs svs A := by
  obtain ⟨x, rep, rr, nd, out, q⟩ := p
  obtain ⟨F2, As2, l2, n2, o2, rep2, rs2, g2⟩ := claims_ok rr.w rep (fun a m => (out a m).1) e
  refine ⟨F2, As2, ⟨x.le.trans l2, fun a o h => ?_, fun a m => ?_, x.keep⟩, rep2, rs2, nd, fun a m => ⟨fun z => (out a m).1 (o2 a z), ?_⟩⟩
  · rcases n2 a o h with h | h
    · exact x.new a o h
    · exact .inr (x.own a (List.mem_append_right _ h))
  · rcases List.mem_append.mp m with m | m
    · exact x.own a (List.mem_append_left _ m)
    · exact x.own a (List.mem_append_right _ (o2 a m))
  · cases q : F2 a with
    | none => rfl
    | some o =>
      rcases n2 a o q with h | h
      · rw [(out a m).2] at h; cases h
      · exact absurd h (out a m).1
/-- addresses Z of what was taken are shared -/
theorem Cl.frz {env' : Env} {vs : List V} {svs : List SV} {A : List Addr} (p : Cl K F H σ As F' H' env' As' vs svs A) {Z : List Addr} (hz : ∀ a ∈ Z, a ∈ A) {B : List Addr} (hb : ∀ a ∈ B, a ∈ A ∧ a ∉ Z) :
    Ext F H As (frz F' H' Z) H' (B ++ As') ∧ Rep K (Ck.frz F' H' Z) H' σ env' As' ∧ ∀ a ∈ B, a ∉ As' ∧ Ck.frz F' H' Z a = none := by
  obtain ⟨x, rep, rs, nd, out⟩ := p
  refine ⟨⟨x.le.trans (le_frz rep.le), fun a o h => ?_, fun a m => ?_, x.keep⟩, ?_, fun a m => ⟨(out a (hb a m).1).1, by rw [frz_out (hb a m).2]; exact (out a (hb a m).1).2⟩⟩
  · rcases frz_new h with h | h
    · exact x.new a o h
    · exact .inr (x.own a (List.mem_append_left _ (hz a h)))
  · rcases List.mem_append.mp m with m | m
    · exact x.own a (List.mem_append_left _ (hb a m).1)
    · exact x.own a (List.mem_append_right _ m)
  · obtain ⟨A0, pp, q⟩ := rep.env
    exact ⟨frz_le rep.le, rep.nd, fun a m => by rw [frz_out fun z => (out a (hz a z)).1 m]; exact rep.out a m, A0, pp, q.stay (le_frz rep.le) fun _ _ _ h => h⟩
/-- the answer's post, for what is made next -/
theorem then_of {F3 H1 : Hp} {env2 : Env} {As2 : List Addr} {n : Nat} {dd : D} {Q : VK} {e : E} (he : e.still = false) (x : Ext F H As F3 H1 As2) (rep : Rep K F3 H1 σ env2 As2)
    (post : ∀ v F' H' As' Ar, Ext F H As F' H' (Ar ++ As') → Rep K F' H' σ env2 As' → RR K F' H' σ env2 As' v ⟨.fr, n, dd⟩ Ar → Ar.Nodup → (∀ a ∈ Ar, a ∉ As' ∧ F' a = none) → (e.still = true → Quiet As As' env env2 H H') → Q v H') : Then K F3 H1 n dd Q := by
  intro v F2 H2 A2 x2 l2 ro nd2 out2
  have x12 : Ext F H As F2 H2 (A2 ++ As2) := x.trans
    ⟨x2.le, fun a o h => (x2.new a o h).imp id fun h => h.elim (fun m => nomatch m) .inr, fun a m => (List.mem_append.mp m).elim (fun m => (x2.own a m).elim (fun m => nomatch m) .inr) .inl, fun a o h _ => x2.keep a o h fun m => nomatch m⟩
  have rep2 : Rep K F2 H2 σ env2 As2 := rep.frame x2 l2 fun _ _ m => nomatch m
  refine post v F2 H2 As2 A2 x12 rep2 ro nd2 (fun a m => ⟨fun z => ?_, out2 a m⟩) fun s => by rw [he] at s; cases s
  rcases x2.own a m with q | q
  · cases q
  · obtain ⟨o, e⟩ := rep.there a z
    rw [e] at q; cases q
/-- a new list of what was taken -/
theorem Cl.newList {env' : Env} {vs : List V} {svs : List SV} {A : List Addr} {p : Addr} {Q : VK} {e : E} (he : e.still = false) (q : Cl K F H σ As F' H' env' As' vs svs A) (hp : H' p = none)
    (post : ∀ v F1 H1 As1 Ar, Ext F H As F1 H1 (Ar ++ As1) → Rep K F1 H1 σ env' As1 → RR K F1 H1 σ env' As1 v ⟨.fr, depOf svs, .lst (svs.map (·.2))⟩ Ar → Ar.Nodup → (∀ a ∈ Ar, a ∉ As1 ∧ F1 a = none) → (e.still = true → Quiet As As1 env env' H H1) → Q v H1) : Q (.ref p) (upd H' p (.lst vs)) := by
  obtain ⟨d1, d2⟩ := depOf_le (svs := svs)
  obtain ⟨m, hm⟩ : ∃ m, depOf svs = m + 1 := ⟨depOf svs - 1, by omega⟩
  obtain ⟨Z, B, e1, nd, k⟩ := q.rs.lower q.rep.le (m := m) fun sv h hc => by have := d1 sv h hc; omega
  obtain ⟨n1, n2⟩ := nd q.nd
  obtain ⟨x3, rep3, out3⟩ := q.frz (Z := Z) (fun a m => (e1 a).mpr (.inl m)) (B := B) fun a m => ⟨(e1 a).mpr (.inr m), fun z => n2 a z m⟩
  have ro := k (Ck.frz F' H' Z) (le_frz q.rep.le) fun a m o h => by rw [frz_in m]; exact h
  have pB : p ∉ B := fun z => by
    obtain ⟨o, e⟩ := q.rs.there p ((e1 p).mpr (.inr z))
    rw [e] at hp; cases hp
  have pA : p ∉ As' := fun z => by
    obtain ⟨o, e⟩ := q.rep.there p z
    rw [e] at hp; cases hp
  have fp : Ck.frz F' H' Z p = none := by
    cases r : Ck.frz F' H' Z p with
    | none => rfl
    | some o => rw [frz_le q.rep.le p o r] at hp; cases hp
  have x4 : Ext (Ck.frz F' H' Z) H' (B ++ As') (Ck.frz F' H' Z) (upd H' p (.lst vs)) ((p :: B) ++ As') := by
    refine ⟨Le.refl, fun _ _ h => .inl h, fun a m => ?_, fun a o h _ => by rw [upd_ne (ne_of_none h hp)]; exact h⟩
    rcases List.mem_cons.mp m with m | m
    · rw [m]; exact .inr hp
    · exact .inl m
  have rep4 : Rep K (Ck.frz F' H' Z) (upd H' p (.lst vs)) σ env' As' := by
    obtain ⟨A0, pp, r⟩ := rep3.env
    exact ⟨fun a o h => by rw [upd_ne (ne_of_none h fp)]; exact rep3.le a o h, rep3.nd, rep3.out, A0, pp, r.stay Le.refl fun a m o h => by rw [upd_ne (ne_of_none h hp)]; exact h⟩
  refine post (.ref p) (Ck.frz F' H' Z) _ As' (p :: B) (x3.trans x4) rep4 ?_ (List.nodup_cons.mpr ⟨pB, n1⟩) (fun a m => ?_) fun s => by rw [he] at s; cases s
  · show RO K _ _ (depOf svs) _ _ _
    rw [hm]
    exact .lst upd_same (ro.stay Le.refl fun a m o h => by rw [upd_ne (ne_of_none h hp)]; exact h)
  · rcases List.mem_cons.mp m with m | m
    · rw [m]; exact ⟨pA, fp⟩
    · exact out3 a m
theorem tupd_step {l : List E} {Q : VK} (h : tE K c (.tupd l) σ H Q) : tEs K c l σ H fun xs H1 => xs.length ≤ sizeLine ∧ NewT H1 xs Q := by
  obtain ⟨F, As, env, r0, env', rep, ev, post⟩ := h
  simp only [evE] at ev
  obtain ⟨⟨rs, env1⟩, e1, ev⟩ := Res.bind_eq_ok.mp ev
  obtain ⟨⟨svs, env2⟩, e2, ev⟩ := Res.bind_eq_ok.mp ev
  have e2 := Res.ofO_eq_ok.mp e2
  simp only at ev
  split at ev
  · rename_i hz
    cases ev
    refine ⟨F, As, env, rs, env1, rep, e1, fun vs F1 H1 As1 A1 x1 rep1 rr1 nd1 out1 q1 => ?_⟩
    obtain ⟨F2, As2, q⟩ := claims_post ⟨x1, rep1, rr1, nd1, out1, q1⟩ e2
    refine ⟨by rw [q.rs.length]; exact hz, fun p o hp ho => ?_⟩
    obtain ⟨x3, rep3, _⟩ := q.frz (Z := A1) (fun a m => m) (B := []) fun a m => nomatch m
    exact Then.newT (then_of (e := .tupd l) rfl x3 rep3 post) (frz_le q.rep.le) (q.rs.freeze (le_frz q.rep.le) fun a m o h => by rw [frz_in m]; exact h) hp ho
  · cases ev
theorem lstd_step {l : List E} {Q : VK} (h : tE K c (.lstd l) σ H Q) : tEs K c l σ H fun xs H1 => xs.length ≤ sizeLine ∧ ∀ p, H1 p = none → Q (.ref p) (upd H1 p (.lst xs)) := by
  obtain ⟨F, As, env, r0, env', rep, ev, post⟩ := h
  simp only [evE] at ev
  obtain ⟨⟨rs, env1⟩, e1, ev⟩ := Res.bind_eq_ok.mp ev
  obtain ⟨⟨svs, env2⟩, e2, ev⟩ := Res.bind_eq_ok.mp ev
  have e2 := Res.ofO_eq_ok.mp e2
  simp only at ev
  split at ev
  · rename_i hz
    cases ev
    refine ⟨F, As, env, rs, env1, rep, e1, fun vs F1 H1 As1 A1 x1 rep1 rr1 nd1 out1 q1 => ?_⟩
    obtain ⟨F2, As2, q⟩ := claims_post ⟨x1, rep1, rr1, nd1, out1, q1⟩ e2
    exact ⟨by rw [q.rs.length]; exact hz, fun p hp => q.newList (e := .lstd l) rfl hp post⟩
  · cases ev
section
variable {S : Ss} {X : Cx} {l : List E} {e : Expr}
/-- a list of expressions -/
def chkAll (S : Ss) : List Ck → List Expr → Bool
  | [], [] => true
  | f :: fs, e :: es => f S e && notStar e && chkAll S fs es
  | _, _ => false
theorem snd_all {fs : List Ck} : ∀ {l : List E} {es : List Expr}, Paired (Good S X c) fs l → chkAll S fs es = true → PA X es (tEs X.kw c l) := by
  induction fs with
  | nil =>
    intro l es g h
    cases g
    cases es with
    | nil => exact PA.weak pa_nil fun σ H Q q => tEs_nil q
    | cons _ _ => cases h
  | cons f fs ih =>
    intro l es g h
    cases g with
    | cons p t =>
      cases es with
      | nil => cases h
      | cons e es =>
        simp only [chkAll, Bool.and_eq_true] at h
        exact PA.weak (pa_cons (p _ h.1.1) (ih t h.2) (star_of h.1.2)) fun σ H Q q => tEs_cons q
theorem snd_tupd {fs : List Ck} {es : List Expr} {k : Nat} {pos : Pos} (g : Paired (Good S X c) fs l) (h : chkAll S fs es = true) : PE X (.Tuple es k pos) (tE X.kw c (.tupd l)) :=
  PE.weak (pe_tupP (snd_all g h)) fun σ H Q q => tupd_step q
theorem snd_lstd {fs : List Ck} {es : List Expr} {pos : Pos} (g : Paired (Good S X c) fs l) (h : chkAll S fs es = true) : PE X (.List es pos) (tE X.kw c (.lstd l)) :=
  PE.weak (pe_lst (snd_all g h)) fun σ H Q q => lstd_step q
end
end Ck

set_option Elab.async false
set_option linter.all false
set_option maxRecDepth 100000
/-! Ck12: methods that change a list. -/
namespace Ck
open PySem PySem.Spec PyProof.Rows L2
variable {K : KW} {F F' H H' : Hp} {σ : Sg} {env env' : Env} {As As' : List Addr} {c : Cal}

/-- the thing of the slot i is written anew; an answer is handed on -/
theorem slot_writeG {F2 H1 : Hp} {env2 : Env} {As2 A1 B A' Z B' Ar : List Addr} {vs ys : List V} {svs : List SV} {i m nr : Nat} {a : Addr} {es : List D} {vr : V} {dr : D} {ob : HO} {dd : D} {Q : VK} {e : E}
    (he : e.still = false) (q : Cl K F H σ As F2 H1 env2 As2 vs svs A1) (sv : σ[i]? = some (some (.ref a))) (hi : i < env2.length) (pm : As2.Perm ((a :: A') ++ B)) (repB : Rep K F2 H1 σ (env2.set i none) B)
    (mk : ∀ {G Hx : Hp}, Le F2 G → Hx a = some ob → ROs K G Hx m ys es B' → RO K G Hx (m + 1) (.ref a) dd (a :: B'))
    (hz : ∀ b ∈ Z, b ∈ A' ++ A1) (hb : ∀ b ∈ B', b ∈ A' ++ A1 ∧ b ∉ Z) (hr : ∀ b ∈ Ar, b ∈ A' ++ A1 ∧ b ∉ Z ∧ b ∉ B') (nb : B'.Nodup) (nr' : Ar.Nodup)
    (new : ROs K (frz F2 H1 Z) H1 m ys es B') (res : RO K (frz F2 H1 Z) H1 nr vr dr Ar)
    (post : ∀ v F1 H1 As1 Ar, Ext F H As F1 H1 (Ar ++ As1) → Rep K F1 H1 σ (env2.set i (some (m + 1, dd))) As1 → RR K F1 H1 σ (env2.set i (some (m + 1, dd))) As1 v ⟨.fr, nr, dr⟩ Ar → Ar.Nodup → (∀ a ∈ Ar, a ∉ As1 ∧ F1 a = none) → (e.still = true → Quiet As As1 env (env2.set i (some (m + 1, dd))) H H1) → Q v H1) :
    Q vr (upd H1 a ob) := by
  have nd2 := (pm.nodup_iff).mp q.rep.nd
  obtain ⟨ndl, ndB, dis⟩ := List.nodup_append.mp nd2
  obtain ⟨aA', ndA'⟩ := List.nodup_cons.mp ndl
  have inA : ∀ b, b ∈ A' → b ∈ As2 := fun b h => pm.mem_iff.mpr (List.mem_append_left _ (List.mem_cons_of_mem _ h))
  have inB : ∀ b, b ∈ B → b ∈ As2 := fun b h => pm.mem_iff.mpr (List.mem_append_right _ h)
  have inAa : a ∈ As2 := pm.mem_iff.mpr (List.mem_append_left _ (List.mem_cons_self ..))
  have aA1 : a ∉ A1 := fun z => (q.out a z).1 inAa
  have aN : a ∉ A' ++ A1 := fun z => (List.mem_append.mp z).elim aA' aA1
  have BN : ∀ b ∈ B, b ∉ A' ++ A1 := fun b hb z => (List.mem_append.mp z).elim (fun h => dis b (List.mem_cons_of_mem _ h) b hb rfl) fun h => (q.out b h).1 (inB b hb)
  have noF : ∀ b ∈ A' ++ A1, F2 b = none := fun b h => (List.mem_append.mp h).elim (fun h => q.rep.out b (inA b h)) fun h => (q.out b h).2
  have st : ∀ b, b ≠ a → ∀ o, H1 b = some o → upd H1 a ob b = some o := fun b n o h => by rw [upd_ne n]; exact h
  have lF : Le (frz F2 H1 Z) (upd H1 a ob) := fun b o h => by
    have n : b ≠ a := fun z => by
      rw [z, frz_out fun h => aN (hz a h), q.rep.out a inAa] at h; cases h
    rw [upd_ne n]; exact frz_le q.rep.le b o h
  have ro1 : RO K (frz F2 H1 Z) (upd H1 a ob) (m + 1) (.ref a) dd (a :: B') := mk (le_frz q.rep.le) upd_same (new.stay Le.refl fun b h o e => st b (fun z => aN (z ▸ (hb b h).1)) o e)
  have repB2 : Rep K (frz F2 H1 Z) (upd H1 a ob) σ (env2.set i none) B := by
    obtain ⟨A0, pp, r⟩ := repB.env
    refine ⟨lF, repB.nd, fun b h => by rw [frz_out fun z => BN b h (hz b z)]; exact repB.out b h, A0, pp, r.stay (le_frz q.rep.le) fun b h o e => st b (fun z => ?_) o e⟩
    subst z
    exact dis b (List.mem_cons_self ..) b (pp.mem_iff.mp h) rfl
  have nd3 : ((a :: B') ++ B).Nodup := by
    refine List.nodup_append.mpr ⟨List.nodup_cons.mpr ⟨fun z => aN (hb a z).1, nb⟩, ndB, fun x hx y hy z => ?_⟩
    subst z
    rcases List.mem_cons.mp hx with h | h
    · rw [h] at hy; exact dis a (List.mem_cons_self ..) a hy rfl
    · exact BN x hy (hb x h).1
  have out3 : ∀ b ∈ a :: B', frz F2 H1 Z b = none := fun b h => by
    rcases List.mem_cons.mp h with h | h
    · rw [h, frz_out fun z => aN (hz a z)]; exact q.rep.out a inAa
    · rw [frz_out (hb b h).2]; exact noF b (hb b h).1
  have rep4 := repB2.fill sv ro1 nd3 out3 (by rw [getS_hid, if_pos rfl])
  have eqs : (env2.set i none).set i (some (m + 1, dd)) = env2.set i (some (m + 1, dd)) := by simp
  rw [eqs] at rep4
  have big : ∀ b ∈ A' ++ A1, b ∈ A1 ++ As2 := fun b h => (List.mem_append.mp h).elim (fun h => List.mem_append_right _ (inA b h)) fun h => List.mem_append_left _ h
  have x5 : Ext F2 H1 (A1 ++ As2) (frz F2 H1 Z) (upd H1 a ob) (Ar ++ ((a :: B') ++ B)) := by
    refine ⟨le_frz q.rep.le, fun b o h => (frz_new h).imp id fun h => .inl (big b (hz b h)), fun b h => .inl ?_, fun b o h n => st b (fun z => n (z ▸ List.mem_append_right _ inAa)) o h⟩
    rcases List.mem_append.mp h with h | h
    · exact big b (hr b h).1
    · rcases List.mem_append.mp h with h | h
      · rcases List.mem_cons.mp h with h | h
        · rw [h]; exact List.mem_append_right _ inAa
        · exact big b (hb b h).1
      · exact List.mem_append_right _ (inB b h)
  refine post vr _ _ _ Ar (q.x.trans x5) rep4 (res.stay Le.refl fun b h o e => st b (fun z => aN (z ▸ (hr b h).1)) o e) nr' (fun b h => ⟨fun z => ?_, by rw [frz_out (hr b h).2.1]; exact noF b (hr b h).1⟩) fun s => by rw [he] at s; cases s
  rcases List.mem_append.mp z with z | z
  · rcases List.mem_cons.mp z with z | z
    · exact aN (z ▸ (hr b h).1)
    · exact (hr b h).2.2 z
  · exact BN b z (hr b h).1

abbrev rInsert : V → List V → Hp → VK → Prop := fun x vs H Q => ∃ (l : Addr) (xs : List V) (i : Int) (y : V), x = .ref l ∧ vs = [.int i, y] ∧ H l = some (.lst xs) ∧ xs.length < sizeLine ∧ 0 ≤ i ∧ i < 2 ^ 63 ∧
    Q .non (upd H l (.lst (xs.take i.toNat ++ [y] ++ xs.drop i.toNat)))
/-- the method's rule -/
abbrev rMut : Mt → V → List V → Hp → VK → Prop
  | .append => rAppend
  | .pop => rPop
  | .popAt => rPopAt
  | .extend => rExtend
  | .insert => rInsert
  | .clear => rClear
  | .reverse => rReverse
  | _ => fun _ _ _ _ => False
/-- the list of the slot i is written anew; an answer is handed on -/
theorem slot_write {F2 H1 : Hp} {env2 : Env} {As2 A1 B A' Z B' Ar : List Addr} {vs ys : List V} {svs : List SV} {i m nr : Nat} {a : Addr} {es : List D} {vr : V} {dr : D} {xs : List V} {Q : VK} {e : E}
    (he : e.still = false) (q : Cl K F H σ As F2 H1 env2 As2 vs svs A1) (sv : σ[i]? = some (some (.ref a))) (hi : i < env2.length) (pm : As2.Perm ((a :: A') ++ B)) (repB : Rep K F2 H1 σ (env2.set i none) B) (ha : H1 a = some (.lst xs))
    (hz : ∀ b ∈ Z, b ∈ A' ++ A1) (hb : ∀ b ∈ B', b ∈ A' ++ A1 ∧ b ∉ Z) (hr : ∀ b ∈ Ar, b ∈ A' ++ A1 ∧ b ∉ Z ∧ b ∉ B') (nb : B'.Nodup) (nr' : Ar.Nodup)
    (new : ROs K (frz F2 H1 Z) H1 m ys es B') (res : RO K (frz F2 H1 Z) H1 nr vr dr Ar)
    (post : ∀ v F1 H1 As1 Ar, Ext F H As F1 H1 (Ar ++ As1) → Rep K F1 H1 σ (env2.set i (some (m + 1, .lst es))) As1 → RR K F1 H1 σ (env2.set i (some (m + 1, .lst es))) As1 v ⟨.fr, nr, dr⟩ Ar → Ar.Nodup → (∀ a ∈ Ar, a ∉ As1 ∧ F1 a = none) → (e.still = true → Quiet As As1 env (env2.set i (some (m + 1, .lst es))) H H1) → Q v H1) :
    Q vr (upd H1 a (.lst ys)) :=
  slot_writeG he q sv hi pm repB (fun _ e r => .lst e r) hz hb hr nb nr' new res post

theorem RO.lst_inv {n : Nat} {v : V} {ds : List D} {A : List Addr} (h : RO K F H n v (.lst ds) A) (hn : n ≠ 0) : ∃ k a vs A', n = k + 1 ∧ v = .ref a ∧ A = a :: A' ∧ H a = some (.lst vs) ∧ ROs K F H k vs ds A' := by
  cases h with
  | zero _ => exact absurd rfl hn
  | flat _ e => cases e
  | lst e q => exact ⟨_, _, _, _, rfl, rfl, rfl, e, q⟩
theorem RSs.one {vs : List V} {sv : SV} {A : List Addr} (h : RSs K F H vs [sv] A) : ∃ v, vs = [v] ∧ RO K F H sv.1 v sv.2 A := by
  cases h with
  | cons p t => cases t; rw [List.append_nil]; exact ⟨_, rfl, p⟩
theorem RSs.zero {vs : List V} {A : List Addr} (h : RSs K F H vs [] A) : vs = [] ∧ A = [] := by cases h; exact ⟨rfl, rfl⟩
theorem RSs.int2 {vs : List V} {m : Nat} {i : Int} {sv : SV} {A : List Addr} (h : RSs K F H vs [(m, .int i), sv] A) : ∃ v, vs = [.int i, v] ∧ RSs K F H [v] [sv] A := by
  cases h with
  | cons p t =>
    obtain ⟨r, rfl⟩ := p.rdf rfl
    cases r
    obtain ⟨v, rfl, q⟩ := t.one
    refine ⟨v, rfl, ?_⟩
    have := RSs.cons q (RSs.nil (K := K) (F := F) (H := H))
    simpa using this
theorem mut_write {F2 H1 : Hp} {env2 : Env} {As2 A1 : List Addr} {vs : List V} {svs : List SV} {i n : Nat} {m : Mt} {d : D} {sv r : SV} {v : V} {Q : VK} {e : E} (he : e.still = false) (q : Cl K F H σ As F2 H1 env2 As2 vs svs A1) (sv0 : σ[i]? = some (some v)) (g : getS env2 i = some (n, d)) (hm : mutF m n d svs = some (sv, r))
    (post : ∀ v F1 H1 As1 Ar, Ext F H As F1 H1 (Ar ++ As1) → Rep K F1 H1 σ (env2.set i (some sv)) As1 → RR K F1 H1 σ (env2.set i (some sv)) As1 v ⟨.fr, r.1, r.2⟩ Ar → Ar.Nodup → (∀ a ∈ Ar, a ∉ As1 ∧ F1 a = none) → (e.still = true → Quiet As As1 env (env2.set i (some sv)) H H1) → Q v H1) : rMut m v vs H1 Q := by
  obtain ⟨w, A, B, sv1, pm, ro, repB⟩ := q.rep.focus g
  rw [sv0] at sv1; cases sv1
  have hi := getS_lt g
  unfold mutF at hm
  split at hm
  · cases hm
  rename_i hn
  split at hm
  · -- append
    split at hm
    · rename_i l a hz
      cases hm
      obtain ⟨k, p, xs, A', rfl, rfl, rfl, e, ros⟩ := ro.lst_inv hn
      obtain ⟨y, rfl, ra⟩ := q.rs.one
      obtain ⟨d1, d2⟩ := depOf_le (svs := [a])
      obtain ⟨j, hj⟩ : ∃ j, min (k + 1) (depOf [a]) = j + 1 := ⟨min (k + 1) (depOf [a]) - 1, by omega⟩
      obtain ⟨Z1, B1, z1, nd1, k1⟩ := ros.lower q.rep.le (m := j) (by omega)
      obtain ⟨Z2, B2, z2, nd2, k2⟩ := q.rs.lower q.rep.le (m := j) fun sv h hc => by have := d1 sv h hc; omega
      obtain ⟨n2, n2'⟩ := nd2 q.nd
      have nd3 := (pm.nodup_iff).mp q.rep.nd
      obtain ⟨n1, n1'⟩ := nd1 (List.nodup_cons.mp (List.nodup_append.mp nd3).1).2
      have sep : ∀ b, b ∈ A' → b ∉ A1 := fun b h z => (q.out b z).1 (pm.mem_iff.mpr (List.mem_append_left _ (List.mem_cons_of_mem _ h)))
      refine ⟨p, xs, y, rfl, rfl, e, by rw [ros.length]; exact hz, ?_⟩
      have k1' := k1 (frz F2 H1 (Z1 ++ Z2)) (le_frz q.rep.le) fun b h o e => by rw [frz_in (List.mem_append_left _ h)]; exact e
      have k2' := k2 (frz F2 H1 (Z1 ++ Z2)) (le_frz q.rep.le) fun b h o e => by rw [frz_in (List.mem_append_right _ h)]; exact e
      have c1 : ∀ b ∈ Z1, b ∉ B2 := fun b h z => sep b ((z1 b).mpr (.inl h)) ((z2 b).mpr (.inr z))
      have c2 : ∀ b ∈ Z2, b ∉ B1 := fun b h z => sep b ((z1 b).mpr (.inr z)) ((z2 b).mpr (.inl h))
      have c3 : ∀ b ∈ B1, b ∉ B2 := fun b h z => sep b ((z1 b).mpr (.inr h)) ((z2 b).mpr (.inr z))
      refine slot_write (env := env) (m := j) (nr := 0) (vr := .non) (dr := .non) (Z := Z1 ++ Z2) (B' := B1 ++ B2) (Ar := []) he q sv0 hi pm repB e (fun b h => ?_) (fun b h => ⟨?_, fun z => ?_⟩) (fun _ h => nomatch h) ?_ List.nodup_nil (k1'.app k2') (.zero .non) ?_
      · exact (List.mem_append.mp h).elim (fun h => List.mem_append_left _ ((z1 b).mpr (.inl h))) fun h => List.mem_append_right _ ((z2 b).mpr (.inl h))
      · exact (List.mem_append.mp h).elim (fun h => List.mem_append_left _ ((z1 b).mpr (.inr h))) fun h => List.mem_append_right _ ((z2 b).mpr (.inr h))
      · rcases List.mem_append.mp h with h | h <;> rcases List.mem_append.mp z with z | z
        · exact n1' b z h
        · exact c2 b z h
        · exact c1 b z h
        · exact n2' b z h
      · exact List.nodup_append.mpr ⟨n1, n2, fun x hx y hy z => c3 x hx (z ▸ hy)⟩
      · rw [← hj]; exact post
    · cases hm
  · -- pop
    split at hm
    · rename_i _ _ _ l _ x hx
      cases hm
      obtain ⟨k, p, xs, A', rfl, rfl, rfl, e, ros⟩ := ro.lst_inv hn
      obtain ⟨rfl, rfl⟩ := q.rs.zero
      have hx' : l[l.length - 1]? = some x := by rw [← List.getLast?_eq_getElem?]; exact hx
      obtain ⟨y, C1, C2, C3, e1, e2, ry, r1, r3⟩ := ros.at hx'
      have e3 : l.drop (l.length - 1 + 1) = [] := List.drop_eq_nil_of_le (by omega)
      have e4 : xs.drop (l.length - 1 + 1) = [] := List.drop_eq_nil_of_le (by rw [ros.length]; omega)
      rw [e3, e4] at r3
      cases r3
      have hl := ros.length
      have nd3 := (pm.nodup_iff).mp q.rep.nd
      have ndA := (List.nodup_cons.mp (List.nodup_append.mp nd3).1).2
      subst e2
      rw [List.append_nil] at ndA
      obtain ⟨na1, na2, na3⟩ := List.nodup_append.mp ndA
      refine ⟨p, xs, y, rfl, rfl, e, by rw [hl]; exact e1, ?_⟩
      have r1' : ROs K F2 H1 k xs.dropLast l.dropLast C1 := by
        rw [List.dropLast_eq_take, List.dropLast_eq_take, hl]; exact r1
      have fe : frz F2 H1 [] = F2 := by funext b; exact frz_out (fun h => nomatch h)
      by_cases hc : x.isC = true
      · refine slot_write (env := env) (m := k) (nr := k) (vr := y) (dr := x) (Z := []) (B' := C1) (Ar := C2) he q sv0 hi pm repB e (fun _ h => nomatch h) (fun b h => ⟨by simp [h], fun z => nomatch z⟩) (fun b h => ⟨by simp [h], fun z => (nomatch z), fun z => na3 b z b h rfl⟩) na1 na2 (by rw [fe]; exact r1') (by rw [fe]; exact ry) ?_
        simp only [hc, if_true, Nat.add_sub_cancel] at post
        exact post
      · have hc' : x.isC = false := by simpa using hc
        refine slot_write (env := env) (m := k) (nr := 0) (vr := y) (dr := x) (Z := []) (B' := C1) (Ar := []) he q sv0 hi pm repB e (fun _ h => nomatch h) (fun b h => ⟨by simp [h], fun z => nomatch z⟩) (fun b h => nomatch h) na1 List.nodup_nil (by rw [fe]; exact r1') (by rw [fe]; exact .zero (ry.rdf hc').1) ?_
        simp only [hc', Bool.false_eq_true, if_false] at post
        exact post
    · cases hm
  · -- popAt
    split at hm
    · rename_i l kd i0 hb
      split at hm
      · rename_i kk hk
        split at hm
        · rename_i x hx
          cases hm
          obtain ⟨k, p, xs, A', rfl, rfl, rfl, e, ros⟩ := ro.lst_inv hn
          obtain ⟨yi, rfl, ra⟩ := q.rs.one
          obtain ⟨ri, rfl⟩ := ra.rdf rfl
          cases ri
          obtain ⟨y, C1, C2, C3, e1, e2, ry, r1, r3⟩ := ros.at hx
          have hl := ros.length
          have nd3 := (pm.nodup_iff).mp q.rep.nd
          have ndA := (List.nodup_cons.mp (List.nodup_append.mp nd3).1).2
          subst e2
          obtain ⟨na1, na2, na3⟩ := List.nodup_append.mp ndA
          obtain ⟨na4, na5, na6⟩ := List.nodup_append.mp na2
          refine ⟨p, xs, i0, kk, y, rfl, rfl, e, hb.1, hb.2, by rw [hl]; exact hk, e1, ?_⟩
          have r1' : ROs K F2 H1 k (xs.eraseIdx kk) (l.eraseIdx kk) (C1 ++ C3) := by
            rw [List.eraseIdx_eq_take_drop_succ, List.eraseIdx_eq_take_drop_succ]; exact r1.app r3
          have fe : frz F2 H1 [] = F2 := by funext b; exact frz_out (fun h => nomatch h)
          have ndC : (C1 ++ C3).Nodup := List.nodup_append.mpr ⟨na1, na5, fun x hx y hy z => na3 x hx y (List.mem_append_right _ hy) z⟩
          have mem : ∀ b ∈ C1 ++ C3, b ∈ C1 ++ (C2 ++ C3) := fun b h => (List.mem_append.mp h).elim (fun h => List.mem_append_left _ h) fun h => List.mem_append_right _ (List.mem_append_right _ h)
          by_cases hc : x.isC = true
          · refine slot_write (env := env) (m := k) (nr := k) (vr := y) (dr := x) (Z := []) (B' := C1 ++ C3) (Ar := C2) he q sv0 hi pm repB e (fun _ h => nomatch h) (fun b h => ⟨List.mem_append_left _ (mem b h), fun z => nomatch z⟩) (fun b h => ⟨List.mem_append_left _ (List.mem_append_right _ (List.mem_append_left _ h)), fun z => (nomatch z), fun z => ?_⟩) ndC na4 (by rw [fe]; exact r1') (by rw [fe]; exact ry) ?_
            · rcases List.mem_append.mp z with z | z
              · exact na3 b z b (List.mem_append_left _ h) rfl
              · exact na6 b h b z rfl
            · simp only [hc, if_true, Nat.add_sub_cancel] at post
              exact post
          · have hc' : x.isC = false := by simpa using hc
            refine slot_write (env := env) (m := k) (nr := 0) (vr := y) (dr := x) (Z := []) (B' := C1 ++ C3) (Ar := []) he q sv0 hi pm repB e (fun _ h => nomatch h) (fun b h => ⟨List.mem_append_left _ (mem b h), fun z => nomatch z⟩) (fun b h => nomatch h) ndC List.nodup_nil (by rw [fe]; exact r1') (by rw [fe]; exact .zero (ry.rdf hc').1) ?_
            simp only [hc', Bool.false_eq_true, if_false] at post
            exact post
        · cases hm
      · cases hm
    · cases hm
  · -- extend
    split at hm
    · rename_i l kz z hz
      cases hm
      obtain ⟨k, p, xs, A', rfl, rfl, rfl, e, ros⟩ := ro.lst_inv hn
      obtain ⟨y, rfl, ra⟩ := q.rs.one
      have fr1 : ∃ b zs, y = .ref b ∧ H1 b = some (.lst zs) ∧ RDs K F2 zs z := by
        have ra : RO K F2 H1 kz y (.lst z) A1 := ra
        cases ra with
        | zero r => cases r with | lst e r => exact ⟨_, _, rfl, q.rep.le _ _ e, r⟩
        | flat r e => cases e
        | @lst k0 a0 vs0 ds0 A0 e r =>
          rcases hz.2 with h2 | h2
          · have k00 : k0 = 0 := by omega
            subst k00
            exact ⟨_, _, rfl, e, r.rd0.1⟩
          · simp only [D.shalD, List.all_eq_true, Bool.not_eq_true'] at h2
            exact ⟨_, _, rfl, e, (r.rdf0 h2).rd0.1⟩
      obtain ⟨b, zs, rfl, e2, rz⟩ := fr1
      obtain ⟨Z1, B1, z1, nd1, k1⟩ := ros.lower q.rep.le (m := 0) (Nat.zero_le _)
      have nd3 := (pm.nodup_iff).mp q.rep.nd
      obtain ⟨n1, n1'⟩ := nd1 (List.nodup_cons.mp (List.nodup_append.mp nd3).1).2
      have k1' := k1 (frz F2 H1 Z1) (le_frz q.rep.le) fun b h o e => by rw [frz_in h]; exact e
      obtain ⟨rd1, rfl⟩ := k1'.rd0
      refine ⟨p, b, xs, zs, rfl, rfl, e, e2, by rw [ros.length, rz.length]; exact hz.1, ?_⟩
      exact slot_write (env := env) (m := 0) (nr := 0) (vr := .non) (dr := .non) (Z := Z1) (B' := []) (Ar := []) he q sv0 hi pm repB e (fun b h => List.mem_append_left _ ((z1 b).mpr (.inl h))) (fun _ h => nomatch h) (fun _ h => nomatch h) List.nodup_nil List.nodup_nil
        (.of_rd (rd1.app (rz.up (le_frz q.rep.le))) (.inl rfl)) (.zero .non) post
    · cases hm
  · -- insert
    split at hm
    · rename_i l mi i0 a hz
      cases hm
      obtain ⟨k, p, xs, A', rfl, rfl, rfl, e, ros⟩ := ro.lst_inv hn
      obtain ⟨y, rfl, rs1⟩ := q.rs.int2
      obtain ⟨d1, d2⟩ := depOf_le (svs := [a])
      obtain ⟨j, hj⟩ : ∃ j, min (k + 1) (depOf [a]) = j + 1 := ⟨min (k + 1) (depOf [a]) - 1, by omega⟩
      obtain ⟨Z1, B1, z1, nd1, k1⟩ := ros.lower q.rep.le (m := j) (by omega)
      obtain ⟨Z2, B2, z2, nd2, k2⟩ := rs1.lower q.rep.le (m := j) fun sv h hc => by have := d1 sv h hc; omega
      obtain ⟨n2, n2'⟩ := nd2 q.nd
      have nd3 := (pm.nodup_iff).mp q.rep.nd
      obtain ⟨n1, n1'⟩ := nd1 (List.nodup_cons.mp (List.nodup_append.mp nd3).1).2
      have sep : ∀ b, b ∈ A' → b ∉ A1 := fun b h z => (q.out b z).1 (pm.mem_iff.mpr (List.mem_append_left _ (List.mem_cons_of_mem _ h)))
      refine ⟨p, xs, i0, y, rfl, rfl, e, by rw [ros.length]; exact hz.1, hz.2.1, hz.2.2, ?_⟩
      have k1' := k1 (frz F2 H1 (Z1 ++ Z2)) (le_frz q.rep.le) fun b h o e => by rw [frz_in (List.mem_append_left _ h)]; exact e
      have k2' := k2 (frz F2 H1 (Z1 ++ Z2)) (le_frz q.rep.le) fun b h o e => by rw [frz_in (List.mem_append_right _ h)]; exact e
      obtain ⟨C1, C2, rfl, kl, kr⟩ := k1'.split i0.toNat
      have c1 : ∀ b ∈ Z1, b ∉ B2 := fun b h z => sep b ((z1 b).mpr (.inl h)) ((z2 b).mpr (.inr z))
      have c2 : ∀ b ∈ Z2, b ∉ C1 ++ C2 := fun b h z => sep b ((z1 b).mpr (.inr z)) ((z2 b).mpr (.inl h))
      have c3 : ∀ b ∈ C1 ++ C2, b ∉ B2 := fun b h z => sep b ((z1 b).mpr (.inr h)) ((z2 b).mpr (.inr z))
      have pB : ((C1 ++ B2) ++ C2).Perm ((C1 ++ C2) ++ B2) := by
        rw [List.append_assoc, List.append_assoc]
        exact List.Perm.append_left C1 List.perm_append_comm
      refine slot_write (env := env) (m := j) (nr := 0) (vr := .non) (dr := .non) (Z := Z1 ++ Z2) (B' := (C1 ++ B2) ++ C2) (Ar := []) he q sv0 hi pm repB e (fun b h => ?_) (fun b h => ⟨?_, fun z => ?_⟩) (fun _ h => nomatch h) ?_ List.nodup_nil ((kl.app k2').app kr) (.zero .non) ?_
      · exact (List.mem_append.mp h).elim (fun h => List.mem_append_left _ ((z1 b).mpr (.inl h))) fun h => List.mem_append_right _ ((z2 b).mpr (.inl h))
      · exact (List.mem_append.mp (pB.mem_iff.mp h)).elim (fun h => List.mem_append_left _ ((z1 b).mpr (.inr h))) fun h => List.mem_append_right _ ((z2 b).mpr (.inr h))
      · rcases List.mem_append.mp (pB.mem_iff.mp h) with h | h <;> rcases List.mem_append.mp z with z | z
        · exact n1' b z h
        · exact c2 b z h
        · exact c1 b z h
        · exact n2' b z h
      · exact (pB.nodup_iff).mpr (List.nodup_append.mpr ⟨n1, n2, fun x hx y hy z => c3 x hx (z ▸ hy)⟩)
      · rw [← hj]; exact post
    · cases hm
  · -- clear
    cases hm
    obtain ⟨k, p, xs, A', rfl, rfl, rfl, e, ros⟩ := ro.lst_inv hn
    obtain ⟨rfl, rfl⟩ := q.rs.zero
    refine ⟨p, xs, rfl, rfl, e, ?_⟩
    exact slot_write (env := env) (m := 999) (nr := 0) (vr := .non) (dr := .non) (Z := []) (B' := []) (Ar := []) he q sv0 hi pm repB e (fun _ h => nomatch h) (fun _ h => nomatch h) (fun _ h => nomatch h) List.nodup_nil List.nodup_nil .nil (.zero .non) post
  · -- reverse
    cases hm
    obtain ⟨k, p, xs, A', rfl, rfl, rfl, e, ros⟩ := ro.lst_inv hn
    obtain ⟨rfl, rfl⟩ := q.rs.zero
    refine ⟨p, xs, rfl, rfl, e, ?_⟩
    have fe : frz F2 H1 [] = F2 := by funext b; exact frz_out (fun h => nomatch h)
    have nd3 := (pm.nodup_iff).mp q.rep.nd
    have ndA := (List.nodup_cons.mp (List.nodup_append.mp nd3).1).2
    obtain ⟨C, cp, rr⟩ := ros.rev
    exact slot_write (env := env) (m := k) (nr := 0) (vr := .non) (dr := .non) (Z := []) (B' := C) (Ar := []) he q sv0 hi pm repB e (fun _ h => nomatch h) (fun b h => ⟨List.mem_append_left _ (cp.mem_iff.mp h), fun z => nomatch z⟩) (fun _ h => nomatch h) ((cp.nodup_iff).mpr ndA) List.nodup_nil (by rw [fe]; exact rr) (.zero .non) post
  · cases hm
end Ck

set_option Elab.async false
set_option linter.all false
set_option maxRecDepth 100000
/-! Ck13: i.append(..) and the like; a if t else b; and, or as values. -/
namespace Ck
open PySem PySem.Spec PyProof.Rows L2
variable {K : KW} {F F' H H' : Hp} {σ : Sg} {env env' : Env} {As As' : List Addr} {c : Cal}

/-- the walk: the slot's list is there, the arguments, the rule -/
theorem mut_step {i : Nat} {m : Mt} {l : List E} {Q : VK} (h : tE K c (.mut i m l) σ H Q) :
    ∃ v, σ[i]? = some (some v) ∧ tyV K "list" v H ∧ tEs K c l σ H fun vs H1 => rMut m v vs H1 Q := by
  obtain ⟨F, As, env, r0, env', rep, ev, post⟩ := h
  simp only [evE] at ev
  obtain ⟨⟨n0, d0⟩, e0, ev⟩ := Res.bind_eq_ok.mp ev
  have e0 := Res.ofO_eq_ok.mp e0
  simp only at ev
  split at ev
  · cases ev
  rename_i hk
  obtain ⟨⟨rs, env1⟩, e1, ev⟩ := Res.bind_eq_ok.mp ev
  obtain ⟨⟨svs, env2⟩, e2, ev⟩ := Res.bind_eq_ok.mp ev
  obtain ⟨⟨n, d⟩, e3, ev⟩ := Res.bind_eq_ok.mp ev
  obtain ⟨⟨sv, r⟩, e4, ev⟩ := Res.bind_eq_ok.mp ev
  have e2 := Res.ofO_eq_ok.mp e2
  have e3 := Res.ofO_eq_ok.mp e3
  have e4 := Res.ofO_eq_ok.mp e4
  cases ev
  obtain ⟨v, A, B, sv0, pm, ro, _⟩ := rep.focus e0
  have rd := ro.read rep.le
  have hl : ∃ ds, d0 = .lst ds := by
    cases d0 with
    | lst ds => exact ⟨ds, rfl⟩
    | _ => exact absurd rfl hk
  obtain ⟨ds, rfl⟩ := hl
  refine ⟨v, sv0, ?_, F, As, env, rs, env1, rep, e1, fun vs F1 H1 As1 A1 x1 rep1 rr1 nd1 out1 q1 => ?_⟩
  · cases rd with
    | lst e q => exact .inl ⟨rfl, _, SqL.of e⟩
  · obtain ⟨F2, As2, q⟩ := claims_post ⟨x1, rep1, rr1, nd1, out1, q1⟩ e2
    exact mut_write (e := .mut i m l) (env := env) rfl q sv0 e3 e4 post
section
variable {S : Ss} {X : Cx} {l : List E} {e : Expr} {fs : List Ck}
def mutN0 : Mt → Option Str
  | .pop => some "pop"
  | .clear => some "clear"
  | .reverse => some "reverse"
  | _ => none
def mutN1 : Mt → Option Str
  | .append => some "append"
  | .popAt => some "pop"
  | .extend => some "extend"
  | _ => none
def mutN2 : Mt → Option Str
  | .insert => some "insert"
  | _ => none
def nmB (S : Ss) (i : Nat) (x : Str) : Bool := decide (S.N[i]? = some x) && visB S.sc x && !dbgB x
def chkMut (i : Nat) (m : Mt) (fs : List Ck) (S : Ss) : Expr → Bool
  | .Call (.Attribute (.Name x _) f p1) [b] [] p2 => (match fs with | [g] => decide (mutN1 m = some f) && nmB S i x && g S b && notStar b && (p1.endLine == p2.line) | _ => false)
  | .Call (.Attribute (.Name x _) f p1) [b, d] [] p2 => (match fs with | [g, k] => decide (mutN2 m = some f) && nmB S i x && g S b && notStar b && k S d && notStar d && (p1.endLine == p2.line) | _ => false)
  | .Call (.Attribute (.Name x _) f p1) [] [] p2 => (match fs with | [] => decide (mutN0 m = some f) && nmB S i x && (p1.endLine == p2.line) | _ => false)
  | _ => false
theorem pe_nm (ok : XOk S X) {i : Nat} {x : Str} {p : Pos} (h : nmB S i x = true) : PE X (.Name x p) (tVar i) := by
  unfold nmB at h
  simp only [Bool.and_eq_true, decide_eq_true_eq, Bool.not_eq_true'] at h
  obtain ⟨⟨h1, h2⟩, h3⟩ := h
  obtain ⟨d1, d2, d3⟩ := dbg_f h3
  exact pe_var (i := i) (by rw [ok.N]; exact h1) (by rw [ok.sc]; exact vis_of h2) d1 d2
theorem snd_mut (ok : XOk S X) {i : Nat} {m : Mt} (g : Paired (Good S X c) fs l) (h : chkMut i m fs S e = true) : PE X e (tE X.kw c (.mut i m l)) := by
  unfold chkMut at h
  split at h
  · split at h
    · obtain ⟨y, rfl, q⟩ := paired1 g
      simp only [Bool.and_eq_true, decide_eq_true_eq] at h
      obtain ⟨⟨⟨⟨hm, h1⟩, h2⟩, h3⟩, h5⟩ := h
      have fin : ∀ {σ H Q} {r : V → List V → Hp → VK → Prop}, (∀ v vs H Q, rMut m v vs H Q → r v vs H Q) → tE X.kw c (.mut i m [y]) σ H Q → tBM X.K "list" r (tVar i) (tCons (tE X.kw c y) tNil) σ H Q := by
        intro σ H Q r w z
        obtain ⟨v, s, ty, z⟩ := mut_step z
        refine ⟨v, s, ty, ?_⟩
        have z := tEs_cons (tEs_mono z fun vs H2 z => w _ _ _ _ z)
        exact tE_mono z fun v H1 z => tEs_nil z
      unfold mutN1 at hm
      split at hm
      · cases hm
        exact PE.weak (pe_bm PySem.F.plainAttrs_list PySem.F.slot_list_append PySem.F.type_list_append mt_append (pe_nm ok h1) (pa_cons (q _ h2) pa_nil (star_of h3)) rfl (by rw [star_of h3]; rfl) h5 (star_of h3) rfl) fun σ H Q z => fin (fun _ _ _ _ z => z) z
      · cases hm
        exact PE.weak (pe_bm PySem.F.plainAttrs_list PySem.F.slot_list_pop PySem.F.type_list_pop mt_popAt (pe_nm ok h1) (pa_cons (q _ h2) pa_nil (star_of h3)) rfl (by rw [star_of h3]; rfl) h5 (star_of h3) rfl) fun σ H Q z => fin (fun _ _ _ _ z => z) z
      · cases hm
        exact PE.weak (pe_bm PySem.F.plainAttrs_list PySem.F.slot_list_extend PySem.F.type_list_extend mt_extend (pe_nm ok h1) (pa_cons (q _ h2) pa_nil (star_of h3)) rfl (by rw [star_of h3]; rfl) h5 (star_of h3) rfl) fun σ H Q z => fin (fun _ _ _ _ z => z) z
      · cases hm
    · cases h
  · split at h
    · obtain ⟨y, y2, rfl, q, q2⟩ := paired2 g
      simp only [Bool.and_eq_true, decide_eq_true_eq] at h
      obtain ⟨⟨⟨⟨⟨⟨hm, h1⟩, h2⟩, h3⟩, h2'⟩, h3'⟩, h5⟩ := h
      have fin : ∀ {σ H Q} {r : V → List V → Hp → VK → Prop}, (∀ v vs H Q, rMut m v vs H Q → r v vs H Q) → tE X.kw c (.mut i m [y, y2]) σ H Q → tBM X.K "list" r (tVar i) (tCons (tE X.kw c y) (tCons (tE X.kw c y2) tNil)) σ H Q := by
        intro σ H Q r w z
        obtain ⟨v, s, ty, z⟩ := mut_step z
        refine ⟨v, s, ty, ?_⟩
        have z := tEs_cons (tEs_mono z fun vs H2 z => w _ _ _ _ z)
        exact tE_mono z fun v H1 z => tE_mono (tEs_cons z) fun v H1 z => tEs_nil z
      unfold mutN2 at hm
      split at hm
      · cases hm
        exact PE.weak (pe_bm PySem.F.plainAttrs_list PySem.F.slot_list_insert PySem.F.type_list_insert mt_insert (pe_nm ok h1) (pa_cons (q _ h2) (pa_cons (q2 _ h2') pa_nil (star_of h3')) (star_of h3)) rfl (by rw [star_of h3, star_of h3']; rfl) h5 (star_of h3) (by rw [star_of h3']; rfl)) fun σ H Q z => fin (fun _ _ _ _ z => z) z
      · cases hm
    · cases h
  · split at h
    · cases g
      simp only [Bool.and_eq_true, decide_eq_true_eq] at h
      obtain ⟨⟨hm, h1⟩, h5⟩ := h
      have fin : ∀ {σ H Q} {r : V → List V → Hp → VK → Prop}, (∀ v vs H Q, rMut m v vs H Q → r v vs H Q) → tE X.kw c (.mut i m []) σ H Q → tBM0 X.K "list" r (tVar i) σ H Q := by
        intro σ H Q r w z
        obtain ⟨v, s, ty, z⟩ := mut_step z
        exact ⟨v, s, ty, tEs_nil (tEs_mono z fun vs H2 z => w _ _ _ _ z)⟩
      unfold mutN0 at hm
      split at hm
      · cases hm
        exact PE.weak (pe_bm0 PySem.F.plainAttrs_list PySem.F.slot_list_pop PySem.F.type_list_pop mt_pop (pe_nm ok h1) rfl h5) fun σ H Q z => fin (fun _ _ _ _ z => z) z
      · cases hm
        exact PE.weak (pe_bm0 PySem.F.plainAttrs_list PySem.F.slot_list_clear PySem.F.type_list_clear mt_clear (pe_nm ok h1) rfl h5) fun σ H Q z => fin (fun _ _ _ _ z => z) z
      · cases hm
        exact PE.weak (pe_bm0 PySem.F.plainAttrs_list PySem.F.slot_list_reverse PySem.F.type_list_reverse mt_reverse (pe_nm ok h1) rfl h5) fun σ H Q z => fin (fun _ _ _ _ z => z) z
      · cases hm
    · cases h
  · cases h

/-! ### one thing after another -/
theorem Ext.seq {F1 H1 F2 H2 : Hp} {As1 As2 Ar : List Addr} (x1 : Ext F H As F1 H1 As1) (x2 : Ext F1 H1 As1 F2 H2 As2) : Ext F H As F2 H2 As2 := x1.trans x2
/-- a test, then one of two -/
theorem ifx_step {t : T} {a b : E} {Q : VK} (h : tE K c (.ifx t a b) σ H Q) : tT K c t σ H fun k H1 => if k = true then tE K c a σ H1 Q else tE K c b σ H1 Q := by
  obtain ⟨F, As, env, r0, env', rep, ev, post⟩ := h
  simp only [evE] at ev
  obtain ⟨⟨k, env1⟩, e1, ev⟩ := Res.bind_eq_ok.mp ev
  refine ⟨F, As, env, k, env1, rep, e1, fun F1 H1 As1 x1 rep1 => ?_⟩
  cases k with
  | true => exact ⟨F1, As1, env1, r0, env', rep1, ev, fun v F2 H2 As2 A2 x2 rep2 rr2 nd2 out2 q2 => post v F2 H2 As2 A2 (x1.trans x2) rep2 rr2 nd2 out2 fun s => by simp [E.still] at s⟩
  | false => exact ⟨F1, As1, env1, r0, env', rep1, ev, fun v F2 H2 As2 A2 x2 rep2 rr2 nd2 out2 q2 => post v F2 H2 As2 A2 (x1.trans x2) rep2 rr2 nd2 out2 fun s => by simp [E.still] at s⟩
theorem bop_step {k : Bool} {a b : E} {Q : VK} (h : tE K c (.bop k a b) σ H Q) : tE K c a σ H fun x H1 => ∃ d, x = .bl d ∧ if d = k then tE K c b σ H1 Q else Q (.bl d) H1 := by
  obtain ⟨F, As, env, r0, env', rep, ev, post⟩ := h
  simp only [evE] at ev
  obtain ⟨⟨r, env1⟩, e1, ev⟩ := Res.bind_eq_ok.mp ev
  obtain ⟨s, n, d⟩ := r
  cases d with
  | bl d =>
    refine ⟨F, As, env, _, env1, rep, e1, fun v F1 H1 As1 A1 x1 rep1 rr1 nd1 out1 q1 => ?_⟩
    have rd := rr1.read rep1
    cases rd
    refine ⟨d, rfl, ?_⟩
    have x1' : Ext F H As F1 H1 As1 := x1.sub fun a m => List.mem_append_right _ m
    simp only at ev
    split at ev
    · rename_i hd
      rw [if_pos hd]
      exact ⟨F1, As1, env1, r0, env', rep1, ev, fun v F2 H2 As2 A2 x2 rep2 rr2 nd2 out2 q2 => post v F2 H2 As2 A2 (x1'.trans x2) rep2 rr2 nd2 out2 fun s => by simp [E.still] at s⟩
    · rename_i hd
      rw [if_neg hd]
      cases ev
      exact post _ F1 H1 As1 [] x1' rep1 (show RO K F1 H1 0 (.bl d) (.bl d) [] from .zero (.bl _)) List.nodup_nil (fun _ m => nomatch m) fun s => by simp [E.still] at s
  | _ => cases ev
def chkIfx (ft : Ck) (f g : Ck) (S : Ss) : Expr → Bool
  | .IfExp t a b _ => ft S t && f S a && g S b
  | _ => false
def GoodT (S : Ss) (X : Cx) (c : Cal) (f : Ck) (t : T) : Prop := ∀ a, f S a = true → PT X a (tT X.kw c t)
theorem snd_ifx {ft f g : Ck} {t : T} {a b : E} (ht : GoodT S X c ft t) (hf : Good S X c f a) (hg : Good S X c g b) (h : chkIfx ft f g S e = true) : PE X e (tE X.kw c (.ifx t a b)) := by
  unfold chkIfx at h
  split at h
  · simp only [Bool.and_eq_true] at h
    exact PE.weak (pe_ifExp (ht _ h.1.1) (hf _ h.1.2) (hg _ h.2)) fun σ H Q z => ifx_step z
  · cases h
/-- and, or of several, as values -/
def chkBop (k : Bool) (f g : Ck) (S : Ss) : Expr → Bool
  | .BoolOp op [a, b] _ => (match k, op with | true, .And => true | false, .Or => true | _, _ => false) && f S a && g S b
  | .BoolOp op (a :: b :: rest) p => (match k, op with | true, .And => true | false, .Or => true | _, _ => false) && f S a && g S (.BoolOp op (b :: rest) p)
  | _ => false
theorem snd_bop {k : Bool} {f g : Ck} {a b : E} (hf : Good S X c f a) (hg : Good S X c g b) (h : chkBop k f g S e = true) : PE X e (tE X.kw c (.bop k a b)) := by
  unfold chkBop at h
  split at h
  · simp only [Bool.and_eq_true] at h
    obtain ⟨⟨h1, h2⟩, h3⟩ := h
    split at h1
    · refine PE.weak (pe_and (hf _ h2) (pe_one (hg _ h3))) fun σ H Q z => tE_mono (bop_step z) fun v H1 ⟨d, e, z⟩ => ⟨d, e, ?_⟩
      cases d with
      | true => exact z
      | false => exact z
    · refine PE.weak (pe_or (hf _ h2) (pe_one (hg _ h3))) fun σ H Q z => tE_mono (bop_step z) fun v H1 ⟨d, e, z⟩ => ⟨d, e, ?_⟩
      cases d with
      | true => exact z
      | false => exact z
    · cases h1
  · simp only [Bool.and_eq_true] at h
    obtain ⟨⟨h1, h2⟩, h3⟩ := h
    split at h1
    · refine PE.weak (pe_and (hf _ h2) (hg _ h3)) fun σ H Q z => tE_mono (bop_step z) fun v H1 ⟨d, e, z⟩ => ⟨d, e, ?_⟩
      cases d with
      | true => exact z
      | false => exact z
    · refine PE.weak (pe_or (hf _ h2) (hg _ h3)) fun σ H Q z => tE_mono (bop_step z) fun v H1 ⟨d, e, z⟩ => ⟨d, e, ?_⟩
      cases d with
      | true => exact z
      | false => exact z
    · cases h1
  · cases h
end
end Ck

set_option Elab.async false
set_option linter.all false
set_option maxRecDepth 100000
/-! Ck13b: i[j].append(..) and the like. -/
namespace Ck
open PySem PySem.Spec PyProof.Rows L2
variable {K : KW} {F F' H H' : Hp} {σ : Sg} {env env' : Env} {As As' : List Addr} {c : Cal}

theorem mutF_lst {m : Mt} {n : Nat} {d : D} {svs : List SV} {z : SV × SV} (h : mutF m n d svs = some z) : n ≠ 0 ∧ ∃ ys, d = .lst ys := by
  unfold mutF at h
  split at h
  · cases h
  · rename_i hn
    refine ⟨hn, ?_⟩
    split at h <;> first | exact ⟨_, rfl⟩ | cases h
theorem REnv.snoc {v : V} {n : Nat} {d : D} {C : List Addr} (ro : RO K F H n v d C) : ∀ {σ : Sg} {env : Env} {A : List Addr}, REnv K F H σ env A → ∃ A0, A0.Perm (C ++ A) ∧ REnv K F H (σ ++ [some v]) (env ++ [some (n, d)]) A0
  | _, _, _, .nil => ⟨C ++ [], .refl _, .has ro .nil⟩
  | _, _, _, .hid r => by
    obtain ⟨A0, p, q⟩ := REnv.snoc ro r
    exact ⟨A0, p, .hid q⟩
  | _, _, _, .has (A := A) (B := B) a r => by
    obtain ⟨A0, p, q⟩ := REnv.snoc ro r
    refine ⟨A ++ A0, ?_, .has a q⟩
    refine (List.Perm.append_left A p).trans ?_
    rw [← List.append_assoc, ← List.append_assoc]
    exact List.perm_append_comm.append_right B
theorem REnv.unsnoc {x : Option V} : ∀ {σ : Sg} {env : Env} {A : List Addr}, σ.length = env.length → REnv K F H (σ ++ [x]) (env ++ [none]) A → REnv K F H σ env A
  | [], [], _, _, r => by
    cases r with
    | hid r => cases r; exact .nil
  | y :: σ, none :: env, _, hl, r => by
    cases r with
    | hid r => exact .hid (REnv.unsnoc (by simpa using hl) r)
  | _ :: σ, some (n, d) :: env, _, hl, r => by
    cases r with
    | has a r => exact .has a (REnv.unsnoc (by simpa using hl) r)
  | [], _ :: _, _, hl, _ => by simp at hl
  | _ :: _, [], _, hl, _ => by simp at hl
theorem Rep.snoc {v : V} {n : Nat} {d : D} {C : List Addr} (r : Rep K F H σ env As) (ro : RO K F H n v d C) (nd : (C ++ As).Nodup) (out : ∀ a ∈ C, F a = none) : Rep K F H (σ ++ [some v]) (env ++ [some (n, d)]) (C ++ As) := by
  obtain ⟨A0, p, q⟩ := r.env
  obtain ⟨A1, p1, q1⟩ := q.snoc ro
  exact ⟨r.le, nd, fun a m => (List.mem_append.mp m).elim (out a) (r.out a), A1, p1.trans (List.Perm.append_left C p), q1⟩
theorem ix_of {xs : List D} {k : Int} {x : D} {kk : Nat} (h : at' xs k = some x) (e : L2.ixN xs.length k = some kk) : xs[kk]? = some x := by
  unfold at' atI at h
  rw [e] at h
  exact h
theorem atI_of {vs : List V} {k : Int} {w : V} {kk : Nat} {m : Nat} (hl : vs.length = m) (e : L2.ixN m k = some kk) (h : vs[kk]? = some w) : atI vs k = some w := by
  unfold atI
  rw [hl, e]
  exact h
theorem set_split {α : Type} {l : List α} {k : Nat} {x y : α} (h : l[k]? = some y) : l.set k x = l.take k ++ ([x] ++ l.drop (k + 1)) := by
  have hk : k < l.length := by
    rcases Nat.lt_or_ge k l.length with h1 | h1
    · exact h1
    · rw [List.getElem?_eq_none h1] at h; cases h
  rw [List.set_eq_take_append_cons_drop, if_pos hk]
  rfl
theorem self_split {α : Type} {l : List α} {k : Nat} {y : α} (h : l[k]? = some y) : l = l.take k ++ ([y] ++ l.drop (k + 1)) := by
  have hk : k < l.length := by
    rcases Nat.lt_or_ge k l.length with h1 | h1
    · exact h1
    · rw [List.getElem?_eq_none h1] at h; cases h
  rw [← set_split h]
  rw [List.getElem?_eq_getElem hk] at h
  cases h
  simp
theorem mutI_step {i : Nat} {j : E} {m : Mt} {l : List E} {Q : VK} (h : tE K c (.mutI i j m l) σ H Q) :
    ∃ v, σ[i]? = some (some v) ∧ tE K c j σ H fun y H1 => ∃ a vs k w, v = .ref a ∧ y = .int k ∧ SqL K H1 a vs ∧ atI vs k = some w ∧ tyV K "list" w H1 ∧ tEs K c l σ H1 fun us H2 => rMut m w us H2 Q := by
  obtain ⟨F, As, env, r0, env', rep, ev, post⟩ := h
  simp only [evE] at ev
  obtain ⟨sv0, e0, ev⟩ := Res.bind_eq_ok.mp ev
  have e0 := Res.ofO_eq_ok.mp e0
  obtain ⟨⟨rj, env1⟩, ej, ev⟩ := Res.bind_eq_ok.mp ev
  obtain ⟨⟨n, d⟩, e1, ev⟩ := Res.bind_eq_ok.mp ev
  have e1 := Res.ofO_eq_ok.mp e1
  simp only at ev
  split at ev
  case h_2 => cases ev
  rename_i nj k xs _ _
  obtain ⟨x, hx, ev⟩ := Res.bind_eq_ok.mp ev
  have hx := Res.ofO_eq_ok.mp hx
  obtain ⟨kk, hkk, ev⟩ := Res.bind_eq_ok.mp ev
  have hkk := Res.ofO_eq_ok.mp hkk
  obtain ⟨⟨rs, env2⟩, el, ev⟩ := Res.bind_eq_ok.mp ev
  obtain ⟨⟨svs, env3⟩, ec, ev⟩ := Res.bind_eq_ok.mp ev
  have ec := Res.ofO_eq_ok.mp ec
  obtain ⟨⟨sv, r⟩, em, ev⟩ := Res.bind_eq_ok.mp ev
  have em := Res.ofO_eq_ok.mp em
  simp only at ev
  split at ev
  · cases ev
  rename_i h3
  cases ev
  obtain ⟨v, _, _, sv1, _, _, _⟩ := rep.focus e0
  refine ⟨v, sv1, F, As, env, _, env1, rep, ej, fun y F1 H1 As1 A1 x1 rep1 rr1 nd1 out1 q1 => ?_⟩
  obtain ⟨rfl, rfl⟩ := rr1.int
  obtain ⟨v', A, B, sv2, pm, ro, repB⟩ := rep1.focus e1
  rw [sv1] at sv2
  cases sv2
  obtain ⟨hn, ys, rfl⟩ := mutF_lst em
  obtain ⟨k', a, vs, A', rfl, rfl, rfl, ea, ros⟩ := ro.lst_inv (by omega)
  have hxk := ix_of hx hkk
  obtain ⟨w, C1, C2, C3, hw, rfl, rw', r1, r3⟩ := ros.at hxk
  have hvl := ros.length
  rw [Nat.add_sub_cancel] at em hn
  obtain ⟨k'', p, ws, C2', hk'', rfl, hC2, ep, _⟩ := rw'.lst_inv hn
  refine ⟨a, vs, k, _, rfl, rfl, SqL.of ea, atI_of hvl hkk hw, .inl ⟨rfl, _, SqL.of ep⟩, F1, B, _, rs, env2, repB, el, fun us F2 H2 As2 A2 x2 rep2 rr2 nd2 out2 q2 => ?_⟩
  obtain ⟨F3, As3, q⟩ := claims_post ⟨x2, rep2, rr2, nd2, out2, q2⟩ ec
  -- what stands where
  have nd0 := (pm.nodup_iff).mp rep1.nd
  obtain ⟨ndA, ndB, dAB⟩ := List.nodup_append.mp nd0
  obtain ⟨haA, ndA'⟩ := List.nodup_cons.mp ndA
  obtain ⟨nC1, nC23, d123⟩ := List.nodup_append.mp ndA'
  obtain ⟨nC2, nC3, d23⟩ := List.nodup_append.mp nC23
  have inA : ∀ b, b ∈ C1 ++ (C2 ++ C3) → b ∈ As1 := fun b h => pm.mem_iff.mpr (List.mem_append_left _ (List.mem_cons_of_mem _ h))
  have ina : a ∈ As1 := pm.mem_iff.mpr (List.mem_append_left _ (List.mem_cons_self ..))
  have inB : ∀ b, b ∈ B → b ∈ As1 := fun b h => pm.mem_iff.mpr (List.mem_append_right _ h)
  have m1 : ∀ b, b ∈ C1 → b ∈ C1 ++ (C2 ++ C3) := fun b h => List.mem_append_left _ h
  have m2 : ∀ b, b ∈ C2 → b ∈ C1 ++ (C2 ++ C3) := fun b h => List.mem_append_right _ (List.mem_append_left _ h)
  have m3 : ∀ b, b ∈ C3 → b ∈ C1 ++ (C2 ++ C3) := fun b h => List.mem_append_right _ (List.mem_append_right _ h)
  have C2B : ∀ b, b ∈ C2 → b ∉ B := fun b h z => dAB b (List.mem_cons_of_mem _ (m2 b h)) b z rfl
  have C2ap : ∀ b ∈ C2, b ∉ A2 ++ As3 ∧ F3 b = none := fun b h => q.x.apart (rw'.there b h) (C2B b h) (rep1.out b (inA b (m2 b h)))
  -- the inner thing, in a slot of its own
  have rep3 : Rep K F3 H2 (σ ++ [some (.ref p)]) (env3 ++ [some (k', .lst ys)]) (C2 ++ As3) :=
    q.rep.snoc (rw'.frame q.x C2B) (List.nodup_append.mpr ⟨nC2, q.rep.nd, fun b hb b' hb' z => (C2ap b hb).1 (z ▸ List.mem_append_right _ hb')⟩) fun b h => (C2ap b h).2
  have q' : Cl K F1 H1 (σ ++ [some (.ref p)]) (C2 ++ B) F3 H2 (env3 ++ [some (k', .lst ys)]) (C2 ++ As3) us svs A2 := by
    refine ⟨⟨q.x.le, fun b o h => (q.x.new b o h).imp id (Or.imp (fun h => List.mem_append_right _ h) id), fun b h => ?_, fun b o h n => q.x.keep b o h fun z => n (List.mem_append_right _ z)⟩, rep3, q.rs, q.nd, fun b h => ⟨fun z => ?_, (q.out b h).2⟩⟩
    · rcases List.mem_append.mp h with h | h
      · exact (q.x.own b (List.mem_append_left _ h)).imp (fun h => List.mem_append_right _ h) id
      · rcases List.mem_append.mp h with h | h
        · exact .inl (List.mem_append_left _ h)
        · exact (q.x.own b (List.mem_append_right _ h)).imp (fun h => List.mem_append_right _ h) id
    · rcases List.mem_append.mp z with z | z
      · exact (C2ap b z).1 (List.mem_append_left _ h)
      · exact (q.out b h).1 z
  have hlen := q.rep.len
  have sl : (σ ++ [some (V.ref p)])[σ.length]? = some (some (.ref p)) := by simp
  have gl : getS (env3 ++ [some (k', D.lst ys)]) σ.length = some (k', .lst ys) := by unfold getS; rw [hlen]; simp
  refine mut_write (e := .mutI i j m l) (env := env) rfl q' sl gl em fun v4 F4 H4 As4 Ar x4 rep4 rr4 nd4 out4 _ => ?_
  have es : (env3 ++ [some (k', D.lst ys)]).set σ.length (some sv) = env3 ++ [some sv] := by rw [hlen]; simp
  rw [es] at rep4
  have g4 : getS (env3 ++ [some sv]) σ.length = some (sv.1, sv.2) := by unfold getS; rw [hlen]; simp
  obtain ⟨w', D1, D2, sw, pm4, ro4, rep5⟩ := rep4.focus g4
  rw [sl] at sw
  cases sw
  have es2 : (env3 ++ [some sv]).set σ.length none = env3 ++ [none] := by rw [hlen]; simp
  rw [es2] at rep5
  have rep6 : Rep K F4 H4 σ env3 D2 := by
    obtain ⟨A0, pp, rr⟩ := rep5.env
    exact ⟨rep5.le, rep5.nd, rep5.out, A0, pp, rr.unsnoc hlen⟩
  have nd5 := (pm4.nodup_iff).mp rep4.nd
  obtain ⟨nD1, nD2, dD⟩ := List.nodup_append.mp nd5
  have inD1 : ∀ b, b ∈ D1 → b ∈ As4 := fun b h => pm4.mem_iff.mpr (List.mem_append_left _ h)
  have inD2 : ∀ b, b ∈ D2 → b ∈ As4 := fun b h => pm4.mem_iff.mpr (List.mem_append_right _ h)
  -- the outer list's own places are apart
  have aC2B : a ∉ C2 ++ B := fun z => (List.mem_append.mp z).elim (fun z => haA (m2 a z)) fun z => dAB a (List.mem_cons_self ..) a z rfl
  have C1n : ∀ b, b ∈ C1 → b ∉ C2 ++ B := fun b h z => (List.mem_append.mp z).elim (fun z => d123 b h b (List.mem_append_left _ z) rfl) fun z => dAB b (List.mem_cons_of_mem _ (m1 b h)) b z rfl
  have C3n : ∀ b, b ∈ C3 → b ∉ C2 ++ B := fun b h z => (List.mem_append.mp z).elim (fun z => d23 b z b h rfl) fun z => dAB b (List.mem_cons_of_mem _ (m3 b h)) b z rfl
  have apa : a ∉ Ar ++ As4 ∧ F4 a = none := x4.apart ⟨_, ea⟩ aC2B (rep1.out a ina)
  have ap1 : ∀ b ∈ C1, b ∉ Ar ++ As4 ∧ F4 b = none := fun b h => x4.apart (r1.there b h) (C1n b h) (rep1.out b (inA b (m1 b h)))
  have ap3 : ∀ b ∈ C3, b ∉ Ar ++ As4 ∧ F4 b = none := fun b h => x4.apart (r3.there b h) (C3n b h) (rep1.out b (inA b (m3 b h)))
  have r1' := r1.frame x4 C1n
  have r3' := r3.frame x4 C3n
  obtain ⟨jj, hj⟩ : ∃ jj, min (k' + 1) (sv.1 + 1) = jj + 1 := ⟨min k' sv.1, by omega⟩
  obtain ⟨Z1, B1, z1, n1, k1⟩ := r1'.lower rep4.le (m := jj) (by omega)
  obtain ⟨Z2, B2, z2, n2, k2⟩ := ro4.lower rep4.le (m := jj) (by omega)
  obtain ⟨Z3, B3, z3, n3, k3⟩ := r3'.lower rep4.le (m := jj) (by omega)
  obtain ⟨n1, n1'⟩ := n1 nC1
  obtain ⟨n2, n2'⟩ := n2 nD1
  obtain ⟨n3, n3'⟩ := n3 nC3
  generalize hZ : Z1 ++ (Z2 ++ Z3) = Z
  have zZ : ∀ b, b ∈ Z ↔ b ∈ Z1 ∨ b ∈ Z2 ∨ b ∈ Z3 := fun b => by rw [← hZ]; simp
  have f1 := k1 (frz F4 H4 Z) (le_frz rep4.le) fun b h o e => by rw [frz_in ((zZ b).mpr (.inl h))]; exact e
  have f2 := k2 (frz F4 H4 Z) (le_frz rep4.le) fun b h o e => by rw [frz_in ((zZ b).mpr (.inr (.inl h)))]; exact e
  have f3 := k3 (frz F4 H4 Z) (le_frz rep4.le) fun b h o e => by rw [frz_in ((zZ b).mpr (.inr (.inr h)))]; exact e
  have i1 : ∀ b, b ∈ B1 → b ∈ C1 := fun b h => (z1 b).mpr (.inr h)
  have i2 : ∀ b, b ∈ B2 → b ∈ D1 := fun b h => (z2 b).mpr (.inr h)
  have i3 : ∀ b, b ∈ B3 → b ∈ C3 := fun b h => (z3 b).mpr (.inr h)
  have y1 : ∀ b, b ∈ Z1 → b ∈ C1 := fun b h => (z1 b).mpr (.inl h)
  have y2 : ∀ b, b ∈ Z2 → b ∈ D1 := fun b h => (z2 b).mpr (.inl h)
  have y3 : ∀ b, b ∈ Z3 → b ∈ C3 := fun b h => (z3 b).mpr (.inl h)
  have c1D : ∀ b, b ∈ C1 → b ∉ As4 := fun b h z => (ap1 b h).1 (List.mem_append_right _ z)
  have c3D : ∀ b, b ∈ C3 → b ∉ As4 := fun b h z => (ap3 b h).1 (List.mem_append_right _ z)
  have c13 : ∀ b, b ∈ C1 → b ∉ C3 := fun b h z => d123 b h b (List.mem_append_right _ z) rfl
  have ea4 : H4 a = some (.lst vs) := x4.keep a _ ea aC2B
  have ros5 : ROs K (frz F4 H4 Z) H4 jj vs (xs.set kk sv.2) (B1 ++ (B2 ++ B3)) := by
    rw [self_split hw, set_split hxk]
    have one : ROs K (frz F4 H4 Z) H4 jj [V.ref p] [sv.2] (B2 ++ []) := .cons f2 .nil
    rw [List.append_nil] at one
    exact f1.app (one.app f3)
  have ro5 : RO K (frz F4 H4 Z) H4 (jj + 1) (.ref a) (.lst (xs.set kk sv.2)) (a :: (B1 ++ (B2 ++ B3))) := .lst ea4 ros5
  have aZ : a ∉ Z := fun z => by
    rcases (zZ a).mp z with z | z | z
    · exact haA (m1 a (y1 a z))
    · exact apa.1 (List.mem_append_right _ (inD1 a (y2 a z)))
    · exact haA (m3 a (y3 a z))
  have D2Z : ∀ b ∈ D2, b ∉ Z := fun b h z => by
    rcases (zZ b).mp z with z | z | z
    · exact c1D b (y1 b z) (inD2 b h)
    · exact dD b (y2 b z) b h rfl
    · exact c3D b (y3 b z) (inD2 b h)
  have rep7 : Rep K (frz F4 H4 Z) H4 σ env3 D2 := by
    obtain ⟨A0, pp, rr⟩ := rep6.env
    exact ⟨frz_le rep6.le, rep6.nd, fun b h => by rw [frz_out (D2Z b h)]; exact rep6.out b h, A0, pp, rr.stay (le_frz rep6.le) fun _ _ _ h => h⟩
  have hBs : ∀ b, b ∈ B1 ++ (B2 ++ B3) ↔ b ∈ B1 ∨ b ∈ B2 ∨ b ∈ B3 := fun b => by simp
  have BZ : ∀ b, b ∈ B1 ++ (B2 ++ B3) → b ∉ Z := fun b h z => by
    rcases (hBs b).mp h with h | h | h <;> rcases (zZ b).mp z with z | z | z
    · exact n1' b z h
    · exact c1D b (i1 b h) (inD1 b (y2 b z))
    · exact c13 b (i1 b h) (y3 b z)
    · exact c1D b (y1 b z) (inD1 b (i2 b h))
    · exact n2' b z h
    · exact c3D b (y3 b z) (inD1 b (i2 b h))
    · exact c13 b (y1 b z) (i3 b h)
    · exact c3D b (i3 b h) (inD1 b (y2 b z))
    · exact n3' b z h
  have out5 : ∀ b ∈ a :: (B1 ++ (B2 ++ B3)), frz F4 H4 Z b = none := fun b h => by
    rcases List.mem_cons.mp h with rfl | h
    · rw [frz_out aZ]; exact apa.2
    · rw [frz_out (BZ b h)]
      rcases (hBs b).mp h with h | h | h
      · exact (ap1 b (i1 b h)).2
      · exact rep4.out b (inD1 b (i2 b h))
      · exact (ap3 b (i3 b h)).2
  have nd6 : ((a :: (B1 ++ (B2 ++ B3))) ++ D2).Nodup := by
    refine List.nodup_append.mpr ⟨List.nodup_cons.mpr ⟨fun h => ?_, List.nodup_append.mpr ⟨n1, List.nodup_append.mpr ⟨n2, n3, fun b hb b' hb' z => c3D b' (i3 b' hb') (inD1 b' (z ▸ i2 b hb))⟩, fun b hb b' hb' z => ?_⟩⟩, nD2, fun b hb b' hb' z => ?_⟩
    · rcases (hBs a).mp h with h | h | h
      · exact haA (m1 a (i1 a h))
      · exact apa.1 (List.mem_append_right _ (inD1 a (i2 a h)))
      · exact haA (m3 a (i3 a h))
    · subst z
      rcases List.mem_append.mp hb' with h | h
      · exact c1D b (i1 b hb) (inD1 b (i2 b h))
      · exact c13 b (i1 b hb) (i3 b h)
    · subst z
      rcases List.mem_cons.mp hb with rfl | hb
      · exact apa.1 (List.mem_append_right _ (inD2 _ hb'))
      · rcases (hBs b).mp hb with h | h | h
        · exact c1D b (i1 b h) (inD2 b hb')
        · exact dD b (i2 b h) b hb' rfl
        · exact c3D b (i3 b h) (inD2 b hb')
  have rep8 := rep7.fill sv1 ro5 nd6 out5 (by cases h : getS env3 i with | none => rfl | some _ => rw [h] at h3; simp at h3)
  rw [hj] at post
  have x5 : Ext F1 H1 As1 (frz F4 H4 Z) H4 (Ar ++ ((a :: (B1 ++ (B2 ++ B3))) ++ D2)) := by
    have big : ∀ b, b ∈ C2 ++ B → b ∈ As1 := fun b h => (List.mem_append.mp h).elim (fun h => inA b (m2 b h)) (inB b)
    have own4 : ∀ b, b ∈ Ar ++ As4 → b ∈ As1 ∨ H1 b = none := fun b h => (x4.own b h).imp (big b) id
    refine ⟨x4.le.trans (le_frz rep4.le), fun b o h => ?_, fun b h => ?_, fun b o h n => x4.keep b o h fun z => n (big b z)⟩
    · rcases frz_new h with h | h
      · exact (x4.new b o h).imp id (Or.imp (big b) id)
      · rcases (zZ b).mp h with h | h | h
        · exact .inr (.inl (inA b (m1 b (y1 b h))))
        · exact .inr (own4 b (List.mem_append_right _ (inD1 b (y2 b h))))
        · exact .inr (.inl (inA b (m3 b (y3 b h))))
    · rcases List.mem_append.mp h with h | h
      · exact own4 b (List.mem_append_left _ h)
      · rcases List.mem_append.mp h with h | h
        · rcases List.mem_cons.mp h with rfl | h
          · exact .inl ina
          · rcases (hBs b).mp h with h | h | h
            · exact .inl (inA b (m1 b (i1 b h)))
            · exact own4 b (List.mem_append_right _ (inD1 b (i2 b h)))
            · exact .inl (inA b (m3 b (i3 b h)))
        · exact own4 b (List.mem_append_right _ (inD2 b h))
  have xx := (x1.sub (Bs' := As1) fun b h => List.mem_append_right _ h).trans x5
  have rr4' : RO K F4 H4 r.1 v4 r.2 Ar := rr4
  have ArZ : ∀ b ∈ Ar, b ∉ Z := fun b h z => by
    rcases (zZ b).mp z with z | z | z
    · exact (ap1 b (y1 b z)).1 (List.mem_append_left _ h)
    · exact (out4 b h).1 (inD1 b (y2 b z))
    · exact (ap3 b (y3 b z)).1 (List.mem_append_left _ h)
  refine post v4 (frz F4 H4 Z) H4 _ Ar xx rep8 (show RO K _ _ _ _ _ _ from rr4'.stay (le_frz rep4.le) fun _ _ _ h => h) nd4 (fun b h => ⟨fun z => ?_, by rw [frz_out (ArZ b h)]; exact (out4 b h).2⟩) fun s => by simp [E.still] at s
  rcases List.mem_append.mp z with z | z
  · rcases List.mem_cons.mp z with rfl | z
    · exact apa.1 (List.mem_append_left _ h)
    · rcases (hBs b).mp z with z | z | z
      · exact (ap1 b (i1 b z)).1 (List.mem_append_left _ h)
      · exact (out4 b h).1 (inD1 b (i2 b z))
      · exact (ap3 b (i3 b z)).1 (List.mem_append_left _ h)
  · exact (out4 b h).1 (inD2 b z)
section
variable {S : Ss} {X : Cx} {l : List E} {e : Expr} {fs : List Ck}
def chkMutI (i : Nat) (gj : Ck) (m : Mt) (fs : List Ck) (S : Ss) : Expr → Bool
  | .Call (.Attribute (.Subscript (.Name x _) b0 _) f p1) [b] [] p2 => (match fs with | [g] => decide (mutN1 m = some f) && nmB S i x && gj S b0 && plainIx b0 && g S b && notStar b && (p1.endLine == p2.line) | _ => false)
  | .Call (.Attribute (.Subscript (.Name x _) b0 _) f p1) [b, d] [] p2 => (match fs with | [g, k] => decide (mutN2 m = some f) && nmB S i x && gj S b0 && plainIx b0 && g S b && notStar b && k S d && notStar d && (p1.endLine == p2.line) | _ => false)
  | _ => false
theorem snd_mutI (ok : XOk S X) {i : Nat} {j : E} {gj : Ck} {m : Mt} (hj : Good S X c gj j) (g : Paired (Good S X c) fs l) (h : chkMutI i gj m fs S e = true) : PE X e (tE X.kw c (.mutI i j m l)) := by
  unfold chkMutI at h
  split at h
  · split at h
    · obtain ⟨y, rfl, q⟩ := paired1 g
      simp only [Bool.and_eq_true, decide_eq_true_eq] at h
      obtain ⟨⟨⟨⟨⟨⟨hm, h1⟩, h0⟩, h0'⟩, h2⟩, h3⟩, h5⟩ := h
      have fin : ∀ {σ H Q} {r : V → List V → Hp → VK → Prop}, (∀ v vs H Q, rMut m v vs H Q → r v vs H Q) → tE X.kw c (.mutI i j m [y]) σ H Q → tBM X.K "list" r (tOp (rIxL X.K) (tVar i) (tE X.kw c j)) (tCons (tE X.kw c y) tNil) σ H Q := by
        intro σ H Q r w z
        obtain ⟨v, s, z⟩ := mutI_step z
        refine ⟨v, s, tE_mono z fun y H1 ⟨a, vs, k, w0, e1, e2, e3, e4, ty, z⟩ => ⟨a, vs, k, w0, e1, e2, e3, e4, ty, ?_⟩⟩
        have z := tEs_cons (tEs_mono z fun vs H2 z => w _ _ _ _ z)
        exact tE_mono z fun v H1 z => tEs_nil z
      unfold mutN1 at hm
      split at hm
      · cases hm
        exact PE.weak (pe_bm PySem.F.plainAttrs_list PySem.F.slot_list_append PySem.F.type_list_append mt_append (pe_ix ix_list (pe_nm ok h1) (hj _ h0) (plain_of h0')) (pa_cons (q _ h2) pa_nil (star_of h3)) rfl (by rw [star_of h3]; rfl) h5 (star_of h3) rfl) fun σ H Q z => fin (fun _ _ _ _ z => z) z
      · cases hm
        exact PE.weak (pe_bm PySem.F.plainAttrs_list PySem.F.slot_list_pop PySem.F.type_list_pop mt_popAt (pe_ix ix_list (pe_nm ok h1) (hj _ h0) (plain_of h0')) (pa_cons (q _ h2) pa_nil (star_of h3)) rfl (by rw [star_of h3]; rfl) h5 (star_of h3) rfl) fun σ H Q z => fin (fun _ _ _ _ z => z) z
      · cases hm
        exact PE.weak (pe_bm PySem.F.plainAttrs_list PySem.F.slot_list_extend PySem.F.type_list_extend mt_extend (pe_ix ix_list (pe_nm ok h1) (hj _ h0) (plain_of h0')) (pa_cons (q _ h2) pa_nil (star_of h3)) rfl (by rw [star_of h3]; rfl) h5 (star_of h3) rfl) fun σ H Q z => fin (fun _ _ _ _ z => z) z
      · cases hm
    · cases h
  · split at h
    · obtain ⟨y, y2, rfl, q, q2⟩ := paired2 g
      simp only [Bool.and_eq_true, decide_eq_true_eq] at h
      obtain ⟨⟨⟨⟨⟨⟨⟨⟨hm, h1⟩, h0⟩, h0'⟩, h2⟩, h3⟩, h2'⟩, h3'⟩, h5⟩ := h
      have fin : ∀ {σ H Q} {r : V → List V → Hp → VK → Prop}, (∀ v vs H Q, rMut m v vs H Q → r v vs H Q) → tE X.kw c (.mutI i j m [y, y2]) σ H Q → tBM X.K "list" r (tOp (rIxL X.K) (tVar i) (tE X.kw c j)) (tCons (tE X.kw c y) (tCons (tE X.kw c y2) tNil)) σ H Q := by
        intro σ H Q r w z
        obtain ⟨v, s, z⟩ := mutI_step z
        refine ⟨v, s, tE_mono z fun y H1 ⟨a, vs, k, w0, e1, e2, e3, e4, ty, z⟩ => ⟨a, vs, k, w0, e1, e2, e3, e4, ty, ?_⟩⟩
        have z := tEs_cons (tEs_mono z fun vs H2 z => w _ _ _ _ z)
        exact tE_mono z fun v H1 z => tE_mono (tEs_cons z) fun v H1 z => tEs_nil z
      unfold mutN2 at hm
      split at hm
      · cases hm
        exact PE.weak (pe_bm PySem.F.plainAttrs_list PySem.F.slot_list_insert PySem.F.type_list_insert mt_insert (pe_ix ix_list (pe_nm ok h1) (hj _ h0) (plain_of h0')) (pa_cons (q _ h2) (pa_cons (q2 _ h2') pa_nil (star_of h3')) (star_of h3)) rfl (by rw [star_of h3, star_of h3']; rfl) h5 (star_of h3) (by rw [star_of h3']; rfl)) fun σ H Q z => fin (fun _ _ _ _ z => z) z
      · cases hm
    · cases h
  · cases h
end
end Ck

set_option Elab.async false
set_option linter.all false
set_option maxRecDepth 100000
/-! Ck14: calls of defs. -/
namespace Ck
open PySem PySem.Spec PyProof.Rows L2
variable {K : KW} {F F' H H' : Hp} {σ : Sg} {env env' : Env} {As As' : List Addr} {c : Cal}

/-- what a lent argument has come to, by the arguments' places -/
inductive RPs (K : KW) (F H : Hp) (vs : List V) (ps : List SV) : List Nat → List Addr → Prop
  | nil : RPs K F H vs ps [] []
  | cons {k : Nat} {ks : List Nat} {v : V} {A B : List Addr} : vs[k]? = some v → RO K F H (ps.getD k (0, .non)).1 v (ps.getD k (0, .non)).2 A → RPs K F H vs ps ks B → RPs K F H vs ps (k :: ks) (A ++ B)
theorem RPs.stay {vs : List V} {ps : List SV} {ks : List Nat} {A : List Addr} (l : Le F F') (h : RPs K F H vs ps ks A) : (∀ a ∈ A, ∀ o, H a = some o → H' a = some o) → RPs K F' H' vs ps ks A := by
  induction h with
  | nil => exact fun _ => .nil
  | cons e p _ ih => exact fun k => .cons e (p.stay l fun a m => k a (List.mem_append_left _ m)) (ih fun a m => k a (List.mem_append_right _ m))

theorem lentK_map {k : Nat} {rs : List R} : ∀ p ∈ lentK k rs, ∃ r, rs[p.1 - k]? = some r ∧ r.src = .sl p.2 ∧ k ≤ p.1 := by
  induction rs generalizing k with
  | nil => intro p h; cases h
  | cons r rs ih =>
    intro p h
    unfold lentK at h
    have step : p ∈ lentK (k + 1) rs → ∃ r', (r :: rs)[p.1 - k]? = some r' ∧ r'.src = .sl p.2 ∧ k ≤ p.1 := fun h => by
      obtain ⟨r', e, s, l⟩ := ih p h
      refine ⟨r', ?_, s, by omega⟩
      have : p.1 - k = (p.1 - (k + 1)) + 1 := by omega
      rw [this, List.getElem?_cons_succ]; exact e
    split at h
    · rename_i i hs
      rcases List.mem_cons.mp h with rfl | h
      · exact ⟨r, by simp, hs, Nat.le_refl _⟩
      · exact step h
    · exact step h
theorem RRs.reenv {As0 As1 : List Addr} {vs : List V} {rs : List R} {Ar : List Addr} {env' : Env} (h : RRs K F H σ env As0 vs rs Ar) : ∀ k, rs.any isInn = false → (∀ i ∈ (lentK k rs).map (·.2), getS env' i = getS env i) → RRs K F H σ env' As1 vs rs Ar := by
  induction h with
  | nil => exact fun _ _ _ => .nil
  | @cons v vs r rs A B a t ih =>
    intro k hi hg
    simp only [List.any_cons, Bool.or_eq_false_iff] at hi
    unfold lentK at hg
    cases hs : r.src with
    | fr =>
      rw [hs] at hg
      refine .cons ?_ (ih (k + 1) hi.2 hg)
      rw [RR, hs] at a ⊢
      exact a
    | sl i =>
      rw [hs] at hg
      refine .cons ?_ (ih (k + 1) hi.2 fun j hj => hg j (List.mem_cons_of_mem _ hj))
      rw [RR, hs] at a ⊢
      exact ⟨a.1, a.2.1, (hg i (List.mem_cons_self ..)).trans a.2.2⟩
    | inn i => rw [isInn, hs] at hi; cases hi.1
theorem perm_mid {α : Type} (a b e : List α) : (a ++ (b ++ e)).Perm (b ++ (a ++ e)) := by
  rw [← List.append_assoc, ← List.append_assoc]
  exact List.perm_append_comm.append_right e
/-- the arguments taken out of their slots -/
theorem RRs.hide {As0 : List Addr} {vs : List V} {rs : List R} {Ar : List Addr} {env : Env} (h : RRs K F H σ env As0 vs rs Ar) : ∀ (k : Nat) (As : List Addr), Rep K F H σ env As → rs.any isInn = false → ((lentK k rs).map (·.2)).Nodup →
    ∃ A B, Rep K F H σ (hideL (lentK k rs) env) B ∧ RSs K F H vs (rs.map fun r => (r.n, r.d)) A ∧ (A ++ B).Perm (Ar ++ As) := by
  generalize hl : rs.length = len
  induction len generalizing vs rs Ar env As0 with
  | zero =>
    intro k As rep _ _
    cases h with
    | nil => exact ⟨[], As, rep, .nil, .refl _⟩
    | cons _ _ => cases hl
  | succ len ih =>
    intro k As rep hi nd
    cases h with
    | nil => cases hl
    | @cons v vs r rs A B a t =>
      have hl : rs.length = len := Nat.succ.inj hl
      simp only [List.any_cons, Bool.or_eq_false_iff] at hi
      cases hs : r.src with
      | fr =>
        have el : lentK k (r :: rs) = lentK (k + 1) rs := by rw [lentK, hs]
        rw [el] at nd ⊢
        rw [RR, hs] at a
        obtain ⟨A1, B1, rep1, rs1, pm⟩ := ih t hl (k + 1) As rep hi.2 nd
        refine ⟨A ++ A1, B1, rep1, .cons a rs1, ?_⟩
        rw [List.append_assoc, List.append_assoc]
        exact pm.append_left A
      | sl i =>
        have el : lentK k (r :: rs) = (k, i) :: lentK (k + 1) rs := by rw [lentK, hs]
        rw [el] at nd ⊢
        rw [RR, hs] at a
        obtain ⟨rfl, sv, g⟩ := a
        obtain ⟨w, C, D, sv', pm, ro, rep2⟩ := rep.focus g
        rw [sv] at sv'; cases sv'
        obtain ⟨n1, n2⟩ := List.nodup_cons.mp (show ((i :: (lentK (k + 1) rs).map (·.2))).Nodup from nd)
        have t2 : RRs K F H σ (env.set i none) As0 vs rs B := t.reenv (k + 1) hi.2 fun j hj => by
          rw [getS_hid, if_neg fun e => n1 (by rw [e]; exact hj)]
        obtain ⟨A1, B1, rep1, rs1, pm1⟩ := ih t2 hl (k + 1) D rep2 hi.2 n2
        refine ⟨C ++ A1, B1, rep1, .cons ro rs1, ?_⟩
        rw [List.append_assoc]
        refine (pm1.append_left C).trans ((perm_mid C B D).trans ?_)
        show (B ++ (C ++ D)).Perm (B ++ As)
        exact pm.symm.append_left B
      | inn i => rw [isInn, hs] at hi; cases hi.1
theorem hideL_get {l : List (Nat × Nat)} : ∀ {env : Env} {j : Nat}, getS (hideL l env) j = if j ∈ l.map (·.2) then none else getS env j := by
  induction l with
  | nil => intro env j; simp [hideL]
  | cons p l ih =>
    intro env j
    obtain ⟨k, i⟩ := p
    rw [hideL, ih, getS_hid]
    by_cases h : j ∈ l.map (·.2)
    · simp [h]
    · by_cases h2 : i = j
      · subst h2; simp
      · simp [h, h2, Ne.symm h2]
theorem hideL_len {l : List (Nat × Nat)} : ∀ {env : Env}, (hideL l env).length = env.length := by
  induction l with
  | nil => intro env; rfl
  | cons p l ih => intro env; obtain ⟨k, i⟩ := p; rw [hideL, ih, List.length_set]
/-- .. and put back -/
theorem back_ok {vs : List V} {ps : List SV} {l : List (Nat × Nat)} : ∀ {env : Env} {B Ap : List Addr}, Rep K F H σ env B → RPs K F H vs ps (l.map (·.1)) Ap → (∀ p ∈ l, ∃ v, vs[p.1]? = some v ∧ σ[p.2]? = some (some v)) → (∀ p ∈ l, getS env p.2 = none) → (∀ p ∈ l, p.2 < env.length) →
    (l.map (·.2)).Nodup → (Ap ++ B).Nodup → (∀ a ∈ Ap, F a = none) → ∃ B', Rep K F H σ (backIn ps l env) B' ∧ B'.Perm (Ap ++ B) := by
  induction l with
  | nil =>
    intro env B Ap rep rp _ _ _ _ _ _
    cases rp
    exact ⟨B, rep, .refl _⟩
  | cons p l ih =>
    intro env B Ap rep rp hv hn hl nd nda out
    obtain ⟨k, i⟩ := p
    cases rp with
    | @cons _ _ v A1 A2 e ro t =>
      obtain ⟨v', e1, e2⟩ := hv (k, i) (List.mem_cons_self ..)
      rw [e] at e1; cases e1
      obtain ⟨n1, n2⟩ := List.nodup_cons.mp (show (i :: l.map (·.2)).Nodup from nd)
      have hi : i < env.length := hl (k, i) (List.mem_cons_self ..)
      rw [List.append_assoc] at nda
      have nda2 : (A1 ++ B).Nodup := nda.sublist (List.Sublist.append_left (List.sublist_append_right ..) _)
      have rep1 := rep.fill e2 ro nda2 (fun a m => out a (List.mem_append_left _ m)) (hn (k, i) (List.mem_cons_self ..))
      obtain ⟨B', rep2, pm⟩ := ih rep1 t (fun p h => hv p (List.mem_cons_of_mem _ h)) (fun p h => by
        rw [getS_set hi, if_neg fun e => n1 (by rw [e]; exact List.mem_map_of_mem h)]
        exact hn p (List.mem_cons_of_mem _ h)) (fun p h => by rw [List.length_set]; exact hl p (List.mem_cons_of_mem _ h)) n2 (((perm_mid A1 A2 B).nodup_iff).mp nda) fun a m => out a (List.mem_append_right _ m)
      refine ⟨B', rep2, ?_⟩
      rw [List.append_assoc]
      exact pm.trans (perm_mid A2 A1 B)

/-- the promise of a def -/
def spC (K : KW) (c : Cal) (f np : Nat) : Sp := fun vs H Q _ => vs.length = np ∧ ∃ F A args pins r ps, Le F H ∧ RSs K F H vs args A ∧ A.Nodup ∧ (∀ a ∈ A, F a = none) ∧ c f args pins = .ok r ps ∧ pins.Nodup ∧ (∀ k ∈ pins, k < np) ∧
  ∀ v F' H' Ar Ap, Ext F H A F' H' (Ar ++ Ap) → Le F' H' → RO K F' H' r.1 v r.2 Ar → RPs K F' H' vs ps pins Ap → (Ar ++ Ap).Nodup → (∀ a ∈ Ar ++ Ap, F' a = none) → Q v H'
theorem RRs.length {As0 : List Addr} {vs : List V} {rs : List R} {Ar : List Addr} (h : RRs K F H σ env As0 vs rs Ar) : vs.length = rs.length := by
  induction h with
  | nil => rfl
  | cons _ _ ih => rw [List.length_cons, List.length_cons, ih]
theorem RRs.get {As0 : List Addr} {vs : List V} {rs : List R} {Ar : List Addr} (h : RRs K F H σ env As0 vs rs Ar) : ∀ {k : Nat} {r : R} {i : Nat}, rs[k]? = some r → r.src = .sl i → ∃ v, vs[k]? = some v ∧ σ[i]? = some (some v) ∧ getS env i = some (r.n, r.d) := by
  induction h with
  | nil => intro k r i e; simp at e
  | @cons v vs r rs A B a t ih =>
    intro k r' i e s
    cases k with
    | zero =>
      simp at e; subst e
      rw [RR, s] at a
      exact ⟨v, rfl, a.2.1, a.2.2⟩
    | succ k => exact ih (k := k) (by simpa using e) s
theorem lent_nd1 {k : Nat} {rs : List R} : ((lentK k rs).map (·.1)).Nodup ∧ (∀ j ∈ (lentK k rs).map (·.1), k ≤ j ∧ j < k + rs.length) := by
  induction rs generalizing k with
  | nil => exact ⟨List.nodup_nil, fun j h => nomatch h⟩
  | cons r rs ih =>
    obtain ⟨n, b⟩ := ih (k := k + 1)
    unfold lentK
    have up : ∀ j ∈ (lentK (k + 1) rs).map (·.1), k ≤ j ∧ j < k + (r :: rs).length := fun j h => by
      obtain ⟨x, y⟩ := b j h
      rw [List.length_cons]
      exact ⟨by omega, by omega⟩
    split
    · refine ⟨List.nodup_cons.mpr ⟨fun h => ?_, n⟩, fun j h => ?_⟩
      · have := (b k h).1; omega
      · rcases List.mem_cons.mp h with rfl | h
        · rw [List.length_cons]; exact ⟨Nat.le_refl _, by omega⟩
        · exact up j h
    · exact ⟨n, up⟩
theorem call_step {f np : Nat} {l : List E} {Q : VK} {E0 : XK} (hlen : ∀ args pins r ps, c f args pins = .ok r ps → args.length = np) (h : tE K c (.call f l) σ H Q) : tEs K c l σ H fun vs H1 => spC K c f np vs H1 Q E0 := by
  obtain ⟨F, As, env, r0, env', rep, ev, post⟩ := h
  simp only [evE] at ev
  obtain ⟨⟨rs, env1⟩, e1, ev⟩ := Res.bind_eq_ok.mp ev
  simp only [callR] at ev
  split at ev
  · cases ev
  rename_i hc
  simp only [Bool.or_eq_true, not_or, Bool.not_eq_true, Bool.not_eq_false', Bool.not_eq_eq_eq_not, Bool.not_true, decide_eq_false_iff_not, Bool.not_false, decide_eq_true_eq] at hc
  obtain ⟨hi, nd⟩ := hc
  replace nd := Classical.not_not.mp nd
  split at ev
  · rename_i r ps hr
    cases ev
    refine ⟨F, As, env, rs, env1, rep, e1, fun vs F1 H1 As1 A1 x1 rep1 rr1 nd1 out1 q1 => ?_⟩
    obtain ⟨A, B, rep2, rs2, pm⟩ := rr1.hide 0 As1 rep1 hi nd
    have hal : vs.length = np := by
      have := hlen _ _ _ _ hr
      rw [List.length_map] at this
      rw [rr1.length, this]
    have ndAll : (A1 ++ As1).Nodup := List.nodup_append.mpr ⟨nd1, rep1.nd, fun a ha b hb e => (out1 a ha).1 (e ▸ hb)⟩
    have ndAB := (pm.nodup_iff).mpr ndAll
    obtain ⟨ndA, ndB, dis⟩ := List.nodup_append.mp ndAB
    have outA : ∀ a ∈ A, F1 a = none := fun a m => (List.mem_append.mp (pm.mem_iff.mp (List.mem_append_left _ m))).elim (fun h => (out1 a h).2) (rep1.out a)
    obtain ⟨pn1, pn2⟩ := lent_nd1 (k := 0) (rs := rs)
    refine ⟨hal, F1, A, _, _, r, ps, rep1.le, rs2, ndA, outA, hr, pn1, fun k hk => by have := (pn2 k hk).2; rw [Nat.zero_add, ← rr1.length, hal] at this; exact this, ?_⟩
    intro v F' H' Ar Ap x2 l2 ro rp nd2 out2
    have rep3 : Rep K F' H' σ (hideL (lent rs) env1) B := rep2.frame x2 l2 fun a hb ha => dis a ha a hb rfl
    have apB : ∀ a ∈ B, a ∉ Ar ++ Ap := fun a hb => (x2.apart (rep2.there a hb) (fun ha => dis a ha a hb rfl) (rep2.out a hb)).1
    obtain ⟨n3, n4, n5⟩ := List.nodup_append.mp nd2
    have ndp : (Ap ++ B).Nodup := List.nodup_append.mpr ⟨n4, ndB, fun a ha b hb e => apB b hb (by rw [← e]; exact List.mem_append_right _ ha)⟩
    obtain ⟨B', rep4, pm4⟩ := back_ok rep3 rp (fun p hp => by
        obtain ⟨r', e, s, _⟩ := lentK_map p hp
        obtain ⟨v', a, b, _⟩ := rr1.get e s
        exact ⟨v', a, b⟩) (fun p hp => by rw [hideL_get, if_pos (List.mem_map_of_mem hp)]) (fun p hp => by
        obtain ⟨r', e, s, _⟩ := lentK_map p hp
        obtain ⟨v', a, b, g⟩ := rr1.get e s
        rw [hideL_len]
        exact getS_lt g) nd ndp fun a m => out2 a (List.mem_append_right _ m)
    have memA : ∀ a ∈ A, a ∈ A1 ++ As1 := fun a m => pm.mem_iff.mp (List.mem_append_left _ m)
    have memB : ∀ a ∈ B, a ∈ A1 ++ As1 := fun a m => pm.mem_iff.mp (List.mem_append_right _ m)
    have x3 : Ext F1 H1 (A1 ++ As1) F' H' (Ar ++ B') := by
      have y := x2.more memA
      refine ⟨y.le, y.new, fun a m => ?_, y.keep⟩
      rcases List.mem_append.mp m with m | m
      · exact y.own a (List.mem_append_left _ m)
      · rcases List.mem_append.mp (pm4.mem_iff.mp m) with m | m
        · exact y.own a (List.mem_append_right _ m)
        · exact .inl (memB a m)
    refine post v F' H' B' Ar (x1.trans x3) rep4 ro n3 (fun a m => ⟨fun z => ?_, out2 a (List.mem_append_left _ m)⟩) fun s => by simp [E.still] at s
    rcases List.mem_append.mp (pm4.mem_iff.mp z) with z | z
    · exact n5 a m a z rfl
    · exact apB a z (List.mem_append_left _ m)
  · cases ev
  · cases ev
/-- what is known of the defs -/
structure COk (S : Ss) (X : Cx) (c : Cal) : Prop where
  len : ∀ f args pins r ps, c f args pins = .ok r ps → args.length = (S.np.getD f 0)
  cal : ∀ f x, S.nm[f]? = some x → ∃ k, C8.Cal X.prog X.w X.K X.mg X.base k x (spC X.kw c f (S.np.getD f 0)) [] ∧ Room k X.A
section
variable {S : Ss} {X : Cx} {l : List E} {e : Expr} {fs : List Ck}
def chkCall (f : Nat) (fs : List Ck) (S : Ss) : Expr → Bool
  | .Call (.Name x _) es [] _ => decide (S.nm[f]? = some x) && glB S.sc x && !dbgB x && chkAll S fs es
  | _ => false
theorem back_plain {pos : Pos} {fs : List Ck} : ∀ {es : List Expr}, chkAll S fs es = true → (backTo pos (starEach es X.env)).any (·.1) = false := by
  induction fs with
  | nil => intro es h; cases es with
    | nil => rfl
    | cons _ _ => cases h
  | cons f fs ih => intro es h; cases es with
    | nil => cases h
    | cons e es =>
      simp only [chkAll, Bool.and_eq_true] at h
      rw [star_of h.1.2]
      show (false || (backTo pos (starEach es X.env)).any (·.1)) = false
      rw [ih h.2]; rfl
theorem snd_call (ok : XOk S X) (co : COk S X c) {f : Nat} (g : Paired (Good S X c) fs l) (h : chkCall f fs S e = true) : PE X e (tE X.kw c (.call f l)) := by
  unfold chkCall at h
  split at h
  · simp only [Bool.and_eq_true, decide_eq_true_eq, Bool.not_eq_true'] at h
    obtain ⟨⟨⟨h1, h2⟩, h3⟩, h4⟩ := h
    obtain ⟨d1, d2, d3⟩ := dbg_f h3
    obtain ⟨k, hc, hr⟩ := co.cal f _ h1
    obtain ⟨fa, fd, ps, ds, Fn, hm, kp, b, d⟩ := hc.ex
    have pa := snd_all (c := c) g h4
    have w : ∀ σ H Q, tE X.kw c (.call f l) σ H Q → tCall (spC X.kw c f (S.np.getD f 0)) [] C8.E0 (tEs X.kw c l) σ H Q := fun σ H Q z =>
      tEs_mono (call_step (E0 := C8.E0) (co.len f) z) fun vs H1 z => by rw [List.append_nil]; exact z
    rename_i x p es pos
    cases es with
    | nil =>
      cases fs with
      | nil =>
        cases g
        refine PE.weak (pe_call0 (E := C8.E0) Fn hr (ok.gl h2) hm kp b d C8.pass0 d1) fun σ H Q z => ?_
        exact tEs_nil (w σ H Q z)
      | cons _ _ => cases h4
    | cons e es =>
      cases fs with
      | nil => cases h4
      | cons f' fs' =>
        have h5 := h4
        simp only [chkAll, Bool.and_eq_true] at h5
        exact PE.weak (pe_call (E := C8.E0) Fn hr (ok.gl h2) hm kp b d C8.pass0 pa d1 (star_of h5.1.2) (back_plain h5.2)) w
  · cases h
end
end Ck

set_option Elab.async false
set_option linter.all false
set_option maxRecDepth 100000
/-! Ck15: tests. -/
namespace Ck
open PySem PySem.Spec PyProof.Rows L2
variable {K : KW} {F F' H H' : Hp} {σ : Sg} {env env' : Env} {As As' : List Addr} {c : Cal}

theorem two_eq {a b : E} : two (evE c a) (evE c b) b.still env = evEs c [a, b] env := by
  unfold two
  simp only [evEs]
  cases h1 : evE c a env with
  | ex x e => rfl
  | no => rfl
  | ok p =>
    obtain ⟨r, env1⟩ := p
    simp only [Res.bind_ok, List.all_cons, List.all_nil, Bool.and_true]
    split
    · rfl
    · cases h2 : evE c b env1 with
      | ex x e => rfl
      | no => rfl
      | ok p =>
        obtain ⟨r2, env2⟩ := p
        simp only [Res.bind_ok, Bool.not_true, Bool.and_false, Bool.false_eq_true, if_false]
        cases h3 : reR r2 env2 with
        | none => rfl
        | some r2' =>
          simp only [Res.ofO_some, Res.bind_ok, Res.pure_ok]
/-- a comparison's answer, a bool -/
theorem bl_of_opR {o : Op} {rs : List R} {k : Bool} {s : Src} {n : Nat} (hix : o ≠ .ix) (h : opR o rs = some ⟨s, n, .bl k⟩) : s = .fr := by
  obtain ⟨dd, _, e, _⟩ := opR_key hix h
  cases e
  rfl
theorem cmp_step {o : Op} {a b : E} {r : List V → Hp → VK → Prop} (hk : OpOk K r o) (hix : o ≠ .ix) {Q : Bool → Hp → Prop} (h : tT K c (.cmp o a b) σ H Q) : tEs K c [a, b] σ H fun vs H1 => r vs H1 fun x H2 => ∃ k, x = .bl k ∧ Q k H2 := by
  obtain ⟨F, As, env, k0, env', rep, ev, post⟩ := h
  simp only [evT] at ev
  rw [two_eq] at ev
  obtain ⟨⟨rs, env1⟩, e1, ev⟩ := Res.bind_eq_ok.mp ev
  simp only at ev
  split at ev
  · rename_i s n k hop
    obtain ⟨rfl, rfl⟩ := Prod.mk.inj (Res.ok.inj ev)
    refine ⟨F, As, env, rs, env1, rep, e1, fun vs F1 H1 As1 A1 x1 rep1 rr1 nd1 out1 q1 => ?_⟩
    refine op_post (st' := false) hk hix hop ⟨x1, rep1, rr1, nd1, out1, q1⟩ (fun h => nomatch h) fun v F2 H2 As2 A2 x2 rep2 rr2 nd2 out2 _ => ?_
    have rd := rr2.read rep2
    cases rd
    exact ⟨k, rfl, post F2 H2 As2 (x2.sub fun a m => List.mem_append_right _ m) rep2⟩
  · cases ev
theorem isn_step {neg : Bool} {a : E} {r : List V → Hp → VK → Prop} (hk : OpOk K r (if neg then .notN else .isN)) {Q : Bool → Hp → Prop} (h : tT K c (.isn neg a) σ H Q) : tE K c a σ H fun v H1 => r [v] H1 fun x H2 => ∃ k, x = .bl k ∧ Q k H2 := by
  obtain ⟨F, As, env, k0, env', rep, ev, post⟩ := h
  simp only [evT] at ev
  obtain ⟨⟨r1, env1⟩, e1, ev⟩ := Res.bind_eq_ok.mp ev
  simp only at ev
  split at ev
  · rename_i s n k hop
    obtain ⟨rfl, rfl⟩ := Prod.mk.inj (Res.ok.inj ev)
    refine ⟨F, As, env, r1, env1, rep, e1, fun v F1 H1 As1 A1 x1 rep1 rr1 nd1 out1 q1 => ?_⟩
    have p1 : Post K F H σ env env1 As F1 H1 As1 [v] [r1] (A1 ++ []) a.still := ⟨by rw [List.append_nil]; exact x1, rep1, .cons rr1 .nil, by rw [List.append_nil]; exact nd1, by rw [List.append_nil]; exact out1, q1⟩
    refine op_post (st' := false) hk (by cases neg <;> decide) hop p1 (fun h => nomatch h) fun v F2 H2 As2 A2 x2 rep2 rr2 nd2 out2 _ => ?_
    have rd := rr2.read rep2
    cases rd
    exact ⟨k, rfl, post F2 H2 As2 (x2.sub fun a m => List.mem_append_right _ m) rep2⟩
  · cases ev
theorem tT_mono {t : T} {Q Q' : Bool → Hp → Prop} (h : tT K c t σ H Q) (w : ∀ v H', Q v H' → Q' v H') : tT K c t σ H Q' := by
  obtain ⟨F, As, env, rs, env', a, b, k⟩ := h
  exact ⟨F, As, env, rs, env', a, b, fun F' H' As' x1 x2 => w _ _ (k F' H' As' x1 x2)⟩
theorem conj_step {a b : T} {Q : Bool → Hp → Prop} (h : tT K c (.conj a b) σ H Q) : tT K c a σ H fun k H1 => if k = true then tT K c b σ H1 Q else Q false H1 := by
  obtain ⟨F, As, env, k0, env', rep, ev, post⟩ := h
  simp only [evT] at ev
  obtain ⟨⟨k, env1⟩, e1, ev⟩ := Res.bind_eq_ok.mp ev
  refine ⟨F, As, env, k, env1, rep, e1, fun F1 H1 As1 x1 rep1 => ?_⟩
  cases k with
  | true => exact ⟨F1, As1, env1, k0, env', rep1, ev, fun F2 H2 As2 x2 rep2 => post F2 H2 As2 (x1.trans x2) rep2⟩
  | false =>
    cases ev
    exact post F1 H1 As1 x1 rep1
theorem disj_step {a b : T} {Q : Bool → Hp → Prop} (h : tT K c (.disj a b) σ H Q) : tT K c a σ H fun k H1 => if k = true then Q true H1 else tT K c b σ H1 Q := by
  obtain ⟨F, As, env, k0, env', rep, ev, post⟩ := h
  simp only [evT] at ev
  obtain ⟨⟨k, env1⟩, e1, ev⟩ := Res.bind_eq_ok.mp ev
  refine ⟨F, As, env, k, env1, rep, e1, fun F1 H1 As1 x1 rep1 => ?_⟩
  cases k with
  | false => exact ⟨F1, As1, env1, k0, env', rep1, ev, fun F2 H2 As2 x2 rep2 => post F2 H2 As2 (x1.trans x2) rep2⟩
  | true =>
    cases ev
    exact post F1 H1 As1 x1 rep1
theorem not_step {a : T} {Q : Bool → Hp → Prop} (h : tT K c (.not a) σ H Q) : tT K c a σ H fun k H1 => Q (!k) H1 := by
  obtain ⟨F, As, env, k0, env', rep, ev, post⟩ := h
  simp only [evT] at ev
  obtain ⟨⟨k, env1⟩, e1, ev⟩ := Res.bind_eq_ok.mp ev
  cases ev
  exact ⟨F, As, env, k, env1, rep, e1, post⟩
theorem tru_of {v : V} {d : D} {k : Bool} (r : RD K H v d) (h : truthD d = some k) : TruV K v H k := by
  cases d with
  | non => cases r; cases h; rfl
  | bl b => cases r; cases h; rfl
  | int i => cases r; cases h; rfl
  | str z =>
    cases r
    simp only [truthD] at h
    split at h
    · rename_i hz
      cases h
      exact ⟨hz, by rw [Bool.eq_iff_iff]; simp⟩
    · cases h
  | lst l =>
    cases r with
    | lst e q =>
      cases h
      refine .inl ⟨_, SqL.of e, ?_⟩
      cases q <;> rfl
  | tup l =>
    cases r with
    | tup e q =>
      cases h
      refine .inr (.inl ⟨_, e.t, ?_⟩)
      cases q <;> rfl
  | scr l =>
    cases r with
    | scr e q =>
      cases h
  | dic _ _ => cases h
  | obj _ _ _ => cases h
theorem val_step {a : E} {Q : Bool → Hp → Prop} (h : tT K c (.val a) σ H Q) : tE K c a σ H fun v H1 => ∃ k, TruV K v H1 k ∧ Q k H1 := by
  obtain ⟨F, As, env, k0, env', rep, ev, post⟩ := h
  simp only [evT] at ev
  obtain ⟨⟨r, env1⟩, e1, ev⟩ := Res.bind_eq_ok.mp ev
  obtain ⟨k, e2, ev⟩ := Res.bind_eq_ok.mp ev
  have e2 := Res.ofO_eq_ok.mp e2
  cases ev
  refine ⟨F, As, env, r, env1, rep, e1, fun v F1 H1 As1 A1 x1 rep1 rr1 nd1 out1 q1 => ⟨_, tru_of (rr1.read rep1) e2, ?_⟩⟩
  exact post F1 H1 As1 (x1.sub fun a m => List.mem_append_right _ m) rep1
/-- a chain: the middle is a whole number of its own -/
theorem chn_step {o o' : Op} {a b e : E} {r r' : R2} (hk : OpOk K (r2 r) o) (hk' : OpOk K (r2 r') o') (hix : o ≠ .ix) (hix' : o' ≠ .ix) {Q : Bool → Hp → Prop} (h : tT K c (.chn o o' a b e) σ H Q) :
    tE K c a σ H fun x H1 => tE K c b σ H1 fun y H2 => r x y H2 fun z H3 => ∃ k, z = .bl k ∧ (if k = true then tE K c e σ H3 fun w H4 => r' y w H4 (fun z H5 => ∃ k, z = .bl k ∧ Q k H5) else ∃ k, V.bl false = .bl k ∧ Q k H3) := by
  obtain ⟨F, As, env, k0, env', rep, ev, post⟩ := h
  simp only [evT] at ev
  rw [two_eq] at ev
  obtain ⟨⟨rs, env1⟩, e1, ev⟩ := Res.bind_eq_ok.mp ev
  simp only at ev
  split at ev
  · rename_i rx m y
    refine tEs_two (c := c) ⟨F, As, env, _, env1, rep, e1, fun vs F1 H1 As1 A1 x1 rep1 rr1 nd1 out1 q1 => ?_⟩
    intro vx vy hv
    subst hv
    have hy : vy = .int y := by
      cases rr1 with
      | cons _ t =>
        cases t with
        | cons p _ => exact p.int.1
    subst hy
    split at ev
    · rename_i s n k hop
      refine op_post (st' := false) hk hix hop ⟨x1, rep1, rr1, nd1, out1, q1⟩ (fun h => nomatch h) (fun v F2 H2 As2 A2 x2 rep2 rr2 nd2 out2 _ => ?_) _ _ rfl
      have rd := rr2.read rep2
      cases rd
      have x2' : Ext F H As F2 H2 As2 := x2.sub fun a m => List.mem_append_right _ m
      refine ⟨k, rfl, ?_⟩
      cases k with
      | false =>
        rw [if_neg (by decide)] at ev ⊢
        cases ev
        exact ⟨false, rfl, post F2 H2 As2 x2' rep2⟩
      | true =>
        rw [if_pos rfl] at ev ⊢
        obtain ⟨⟨r3, env2⟩, e3, ev⟩ := Res.bind_eq_ok.mp ev
        simp only at ev
        split at ev
        · rename_i s' n' k' hop'
          obtain ⟨rfl, rfl⟩ := Prod.mk.inj (Res.ok.inj ev)
          refine ⟨F2, As2, env1, r3, env2, rep2, e3, fun w F3 H3 As3 A3 x3 rep3 rr3 nd3 out3 q3 => ?_⟩
          have p3 : Post K F2 H2 σ env1 env2 As2 F3 H3 As3 [.int y, w] [⟨.fr, m, .int y⟩, r3] ([] ++ (A3 ++ [])) e.still :=
            ⟨by rw [List.nil_append, List.append_nil]; exact x3, rep3, .cons (show RO K F3 H3 m (.int y) (.int y) [] from .flat (.int _) rfl) (.cons rr3 .nil), by rw [List.nil_append, List.append_nil]; exact nd3, by rw [List.nil_append, List.append_nil]; exact out3, q3⟩
          refine op_post (st' := false) hk' hix' hop' p3 (fun h => nomatch h) (fun v F4 H4 As4 A4 x4 rep4 rr4 nd4 out4 _ => ?_) _ _ rfl
          have rd := rr4.read rep4
          cases rd
          exact ⟨k', rfl, post F4 H4 As4 (x2'.trans (x4.sub fun a m => List.mem_append_right _ m)) rep4⟩
        · cases ev
    · cases ev
  · cases ev

section
variable {S : Ss} {X : Cx}
def plainTest : Expr → Bool
  | .UnaryOp _ _ _ => false
  | .BoolOp _ _ _ => false
  | .IfExp _ _ _ _ => false
  | .Compare _ _ _ _ => false
  | _ => true
theorem test_of {a : Expr} {env : PySem.Env} (h : plainTest a = true) : ∀ whole, isTrue a env whole = (do let v ← whole; standAt a.pos; holding [v] (truthy v)) := by
  intro w
  cases a <;> first | rfl | cases h
def chkTC (o : Op) (f g : Ck) (S : Ss) : Expr → Bool
  | .Compare a [op] [b] _ => cmpB o op && f S a && g S b && notSet b
  | _ => false
def chkTN (neg : Bool) (f : Ck) (S : Ss) : Expr → Bool
  | .Compare a [op] [.Constant .none _ _] _ => (match neg, op with | false, .Is => true | true, .IsNot => true | _, _ => false) && f S a
  | _ => false
def ordB : CmpOp → Bool
  | .Lt => true
  | .LtE => true
  | .Gt => true
  | .GtE => true
  | _ => false
def chkTCh (o o' : Op) (f g k : Ck) (S : Ss) : Expr → Bool
  | .Compare a [op, op'] [b, e] _ => cmpB o op && cmpB o' op' && f S a && g S b && k S e && !lastMarks [op, op'] [b, e]
  | _ => false
def chkTB (k : Bool) (f g : Ck) (S : Ss) : Expr → Bool
  | .BoolOp op [a, b] _ => (match k, op with | true, .And => true | false, .Or => true | _, _ => false) && f S a && g S b
  | .BoolOp op (a :: b :: rest) p => (match k, op with | true, .And => true | false, .Or => true | _, _ => false) && f S a && g S (.BoolOp op (b :: rest) p) && !rest.isEmpty
  | _ => false
def chkTNot (f : Ck) (S : Ss) : Expr → Bool
  | .UnaryOp .Not a _ => f S a
  | _ => false
theorem snd_tc (ok : XOk S X) {o : Op} {f g : Ck} {a b : E} {e : Expr} (hf : Good S X c f a) (hg : Good S X c g b) (h : chkTC o f g S e = true) : PT X e (tT X.kw c (.cmp o a b)) := by
  unfold chkTC at h
  split at h
  · simp only [Bool.and_eq_true] at h
    obtain ⟨r, h1, h2, h3⟩ := cmp_rule ok h.1.1.1
    refine PT.weak (pt_cmpR h1 (hf _ h.1.1.2) (hg _ h.1.2) (behind_of _ h.2)) fun σ H Q z => ?_
    exact tEs_two (tEs_mono (cmp_step h2 h3 z) fun vs H1 z x y e => by subst e; exact z _ _ rfl)
  · cases h
theorem snd_tn (ok : XOk S X) {neg : Bool} {f : Ck} {a : E} {e : Expr} (hf : Good S X c f a) (h : chkTN neg f S e = true) : PT X e (tT X.kw c (.isn neg a)) := by
  unfold chkTN at h
  split at h
  · simp only [Bool.and_eq_true] at h
    obtain ⟨h1, h2⟩ := h
    split at h1
    · refine PT.weak (pt_cmp (pc_isN (hf _ h2)) (behind_of _ rfl)) fun σ H Q z => ?_
      exact tE_mono (isn_step (neg := false) k_isN z) fun v H1 z => z _ rfl
    · refine PT.weak (pt_cmp (pc_notN (hf _ h2)) (behind_of _ rfl)) fun σ H Q z => ?_
      exact tE_mono (isn_step (neg := true) k_notN z) fun v H1 z => z _ rfl
    · cases h1
  · cases h
theorem snd_tch (ok : XOk S X) {o o' : Op} {f g k : Ck} {a b e' : E} {e : Expr} (hf : Good S X c f a) (hg : Good S X c g b) (hk : Good S X c k e') (h : chkTCh o o' f g k S e = true) : PT X e (tT X.kw c (.chn o o' a b e')) := by
  unfold chkTCh at h
  split at h
  · simp only [Bool.and_eq_true, Bool.not_eq_true'] at h
    obtain ⟨⟨⟨⟨⟨h1, h2⟩, h3⟩, h4⟩, h5⟩, h6⟩ := h
    obtain ⟨r, p1, p2, p3⟩ := cmp_rule ok h1
    obtain ⟨r', q1, q2, q3⟩ := cmp_rule ok h2
    exact PT.weak (pt_chain p1 q1 (hf _ h3) (hg _ h4) (hk _ h5) h6) fun σ H Q z => chn_step p2 q2 p3 q3 z
  · cases h
theorem ptw {X : Cx} {op : BoolOp} {l : List Expr} {p : Pos} {t : TT} (h : PT X (.BoolOp op l p) t) : PW X (.BoolOp op l p) t := ⟨fun wh pins s σ H Q I q => by have := h.run pins s σ H Q I q; simp only [PySem.isTrue] at this ⊢; exact this⟩
theorem snd_tb {k : Bool} {f g : Ck} {a b : T} {e : Expr} (hf : GoodT S X c f a) (hg : GoodT S X c g b) (h : chkTB k f g S e = true) : PT X e (tT X.kw c (if k then .conj a b else .disj a b)) := by
  unfold chkTB at h
  split at h
  · simp only [Bool.and_eq_true] at h
    obtain ⟨⟨h1, h2⟩, h3⟩ := h
    split at h1
    · exact PT.weak ((pw_and (hf _ h2) (pw_and1 (hg _ h3))).pt) fun σ H Q z => conj_step z
    · exact PT.weak ((pw_or (hf _ h2) (pw_or1 (hg _ h3))).pt) fun σ H Q z => disj_step z
    · cases h1
  · simp only [Bool.and_eq_true] at h
    obtain ⟨⟨⟨h1, h2⟩, h3⟩, _⟩ := h
    split at h1
    · exact PT.weak ((pw_and (hf _ h2) (ptw (hg _ h3))).pt) fun σ H Q z => conj_step z
    · exact PT.weak ((pw_or (hf _ h2) (ptw (hg _ h3))).pt) fun σ H Q z => disj_step z
    · cases h1
  · cases h
theorem snd_tnot {f : Ck} {a : T} {e : Expr} (hf : GoodT S X c f a) (h : chkTNot f S e = true) : PT X e (tT X.kw c (.not a)) := by
  unfold chkTNot at h
  split at h
  · exact PT.weak (pt_not (hf _ h)) fun σ H Q z => not_step z
  · cases h
theorem snd_tval {f : Ck} {a : E} {e : Expr} (hf : Good S X c f a) (h : (plainTest e && f S e) = true) : PT X e (tT X.kw c (.val a)) := by
  simp only [Bool.and_eq_true] at h
  exact PT.weak (pt_truth (hf _ h.2) (test_of h.1)) fun σ H Q z => val_step z
end
end Ck

set_option Elab.async false
set_option linter.all false
set_option maxRecDepth 100000
/-! Ck16: what is walked. -/
namespace Ck
open PySem PySem.Spec PyProof.Rows L2
variable {K : KW} {F F' H H' : Hp} {σ : Sg} {env env' : Env} {As As' : List Addr} {c : Cal}

/-- the items are new pairs -/
def Wk.isPair : Wk → Bool
  | .enum _ | .zip _ _ => true
  | _ => false
def Tg.isT : Tg → Bool
  | .tup _ => true
  | _ => false
/-- an item: shared data, or a pair to be taken apart -/
def RI (K : KW) (t : Bool) (F : Hp) (v : V) (d : D) : Prop := RD K F v d ∨ (t = true ∧ ∃ a vs ds, v = .ref a ∧ d = .tup ds ∧ SqT K F a vs ∧ RDs K F vs ds)
def ItOk (K : KW) (J : L2.It) (w : Wk) (σ0 : Sg) (F0 : Hp) : Prop := ∀ σ F H env As n, Le F0 F → (∀ i ∈ w.slots, σ[i]? = σ0[i]?) → Rep K F H σ env As → w.size env = some n →
  J.stop n H ∧ ∀ k, k < n → J.go k H ∧ ∀ x H', J.yld k H x H' → ∃ d F', w.item env k = some d ∧ Ext F H [] F' H' [] ∧ Le F' H' ∧ RI K w.isPair F' x d
/-- the list at a is what l tells -/
def LiveL (K : KW) (a : Addr) (l : Live) (σ0 : Sg) (F0 : Hp) : Prop := ∀ σ F H env As ds, Le F0 F → (∀ i ∈ l.slots, σ[i]? = σ0[i]?) → Rep K F H σ env As → l.now env = some ds → ∃ vs, SqL K H a vs ∧ RDs K F vs ds
def LiveT (K : KW) (a : Addr) (l : Live) (σ0 : Sg) (F0 : Hp) : Prop := ∀ σ F H env As ds, Le F0 F → (∀ i ∈ l.slots, σ[i]? = σ0[i]?) → Rep K F H σ env As → l.now env = some ds → ∃ vs, SqT K H a vs ∧ RDs K F vs ds
theorem Ext.same {F H : Hp} : Ext F H [] F H [] := Ext.refl
theorem ROs.rdf : ∀ {n : Nat} {vs : List V} {ds : List D} {A : List Addr}, ROs K F H n vs ds A → (∀ d ∈ ds, d.isC = false) → RDs K F vs ds
  | _, _, _, _, .nil, _ => .nil
  | _, _, _, _, .cons p t, h => .cons (p.rdf (h _ (List.mem_cons_self ..))).1 (ROs.rdf t fun d m => h d (List.mem_cons_of_mem _ m))
theorem live_sl {i : Nat} {a : Addr} (sv : σ[i]? = some (some (.ref a))) : LiveL K a (.slot i) σ F := by
  intro σ' F' H env As ds l hs rep h
  simp only [Live.now] at h
  split at h
  · rename_i n l' g
    split at h
    · rename_i hc
      cases h
      obtain ⟨w, A, B, e, _, ro, _⟩ := rep.focus g
      rw [hs i (by simp [Live.slots]), sv] at e
      cases e
      cases ro with
      | zero r => exact absurd hc.1 (by decide)
      | flat r e => cases e
      | lst e q =>
        refine ⟨_, SqL.of e, ?_⟩
        rcases hc.2 with h1 | h1
        · have h0 := Nat.le_of_succ_le_succ h1
          obtain rfl := Nat.le_zero.mp h0
          exact q.rd0.1
        · exact q.rdf (by simpa [List.all_eq_true] using h1)
    · cases h
  · cases h
theorem live_fixL {a : Addr} {vs : List V} {ds : List D} (e : SqL K F a vs) (r : RDs K F vs ds) : LiveL K a (.fix ds) σ F := by
  intro σ' F' H env As ds' l hs rep h
  obtain rfl := Option.some.inj h
  exact ⟨vs, SqL.up (l.trans rep.le) e, r.up l⟩
theorem live_fixT {a : Addr} {vs : List V} {ds : List D} (e : SqT K F a vs) (r : RDs K F vs ds) : LiveT K a (.fix ds) σ F := by
  intro σ' F' H env As ds' l hs rep h
  obtain rfl := Option.some.inj h
  exact ⟨vs, SqT.up (l.trans rep.le) e, r.up l⟩
/-- what stands behind an answer that is walked -/
theorem live_ok {v : V} {r : R} {l : Live} {Ar : List Addr} (rr : RR K F H σ env As v r Ar) (rep : Rep K F H σ env As) (out : ∀ a ∈ Ar, a ∉ As ∧ F a = none) (h : liveOf r = some l) :
    ∃ F2, Le F F2 ∧ (∀ a o, F2 a = some o → F a = some o ∨ a ∈ Ar) ∧ Rep K F2 H σ env As ∧ ((r.d.isL = true ∧ ∃ a, v = .ref a ∧ LiveL K a l σ F2) ∨ (r.d.isT = true ∧ ∃ a, v = .ref a ∧ LiveT K a l σ F2) ∨
      (r.d.isL = false ∧ r.d.isT = false ∧ ∃ z, v = .str z ∧ l = .fix (z.cps.toList.map fun c => .str ⟨#[c]⟩))) := by
  unfold liveOf at h
  have hfr : ∀ {n : Nat} {d : D}, r.src = .fr → r.d = d → ∃ F2, Le F F2 ∧ (∀ a o, F2 a = some o → F a = some o ∨ a ∈ Ar) ∧ Rep K F2 H σ env As ∧ RD K F2 v d := fun {n d} hs hd => by
    rw [RR, hs] at rr
    refine ⟨frz F H Ar, le_frz rep.le, fun a o h => frz_new h, ?_, ?_⟩
    · obtain ⟨A0, p, q⟩ := rep.env
      exact ⟨frz_le rep.le, rep.nd, fun a m => by rw [frz_out fun z => (out a z).1 m]; exact rep.out a m, A0, p, q.stay (le_frz rep.le) fun _ _ _ h => h⟩
    · rw [← hd]
      exact RO.frozen rr rep.le fun a m => m
  split at h
  · rename_i hs hd
    cases h
    obtain ⟨F2, l2, n2, rep2, rd⟩ := hfr (n := 0) hs hd
    refine ⟨F2, l2, n2, rep2, .inl ⟨by rw [hd]; rfl, ?_⟩⟩
    cases rd with
    | lst e q => exact ⟨_, rfl, live_fixL (SqL.of e) q⟩
  · rename_i hs hd
    cases h
    obtain ⟨F2, l2, n2, rep2, rd⟩ := hfr (n := 0) hs hd
    refine ⟨F2, l2, n2, rep2, .inl ⟨by rw [hd]; rfl, ?_⟩⟩
    cases rd with
    | scr e q => exact ⟨_, rfl, live_fixL e q⟩
  · rename_i hs hd
    cases h
    obtain ⟨F2, l2, n2, rep2, rd⟩ := hfr (n := 0) hs hd
    refine ⟨F2, l2, n2, rep2, .inr (.inl ⟨by rw [hd]; rfl, ?_⟩)⟩
    cases rd with
    | tup e q => exact ⟨_, rfl, live_fixT e q⟩
  · rename_i z hs hd
    split at h
    · cases h
      obtain ⟨F2, l2, n2, rep2, rd⟩ := hfr (n := 0) hs hd
      refine ⟨F2, l2, n2, rep2, .inr (.inr ⟨by rw [hd]; rfl, by rw [hd]; rfl, ?_⟩)⟩
      cases rd with
      | str => exact ⟨_, rfl, rfl⟩
    · cases h
  · rename_i i l' hs hd
    cases h
    refine ⟨F, Le.refl, fun _ _ h => .inl h, rep, .inl ⟨by rw [hd]; rfl, ?_⟩⟩
    have rd := RR.read rr rep
    rw [hd] at rd
    rw [RR, hs] at rr
    cases rd with
    | lst e q => exact ⟨_, rfl, live_sl rr.2.1⟩
  · cases h

/-! ### the walks -/
theorem it_seqL {a : Addr} {l : Live} (h : LiveL K a l σ F) : ItOk K (Itl K a) (.seq l) σ F := by
  intro σ' F' H env As n hl hs rep hn
  obtain ⟨ds, hd, rfl⟩ := Option.map_eq_some_iff.mp (show (l.now env).map List.length = some n from hn)
  obtain ⟨vs, sq, rds⟩ := h σ' F' H env As ds hl hs rep hd
  have hlen := rds.length
  refine ⟨⟨vs, sq, by omega⟩, fun k hk => ?_⟩
  obtain ⟨v, e, rd⟩ := rds.get (List.getElem?_eq_getElem hk)
  refine ⟨⟨vs, v, sq, e⟩, fun x H' y => ?_⟩
  obtain ⟨rfl, y⟩ := y
  have e2 := y vs sq
  rw [e] at e2; cases e2
  refine ⟨_, F', ?_, Ext.refl, rep.le, .inl rd⟩
  show (l.now env).bind (fun x => x[k]?) = _
  rw [hd]
  exact List.getElem?_eq_getElem hk
theorem it_seqT {a : Addr} {l : Live} (h : LiveT K a l σ F) : ItOk K (Itt K a) (.seq l) σ F := by
  intro σ' F' H env As n hl hs rep hn
  obtain ⟨ds, hd, rfl⟩ := Option.map_eq_some_iff.mp (show (l.now env).map List.length = some n from hn)
  obtain ⟨vs, sq, rds⟩ := h σ' F' H env As ds hl hs rep hd
  have hlen := rds.length
  refine ⟨⟨vs, sq, by omega⟩, fun k hk => ?_⟩
  obtain ⟨v, e, rd⟩ := rds.get (List.getElem?_eq_getElem hk)
  refine ⟨⟨vs, v, sq, e⟩, fun x H' y => ?_⟩
  obtain ⟨rfl, y⟩ := y
  have e2 := y vs sq
  rw [e] at e2; cases e2
  refine ⟨_, F', ?_, Ext.refl, rep.le, .inl rd⟩
  show (l.now env).bind (fun x => x[k]?) = _
  rw [hd]
  exact List.getElem?_eq_getElem hk
theorem it_str {z : Str} : ItOk K (Its z) (.seq (.fix (z.cps.toList.map fun c => .str ⟨#[c]⟩))) σ F := by
  intro σ' F' H env As n hl hs rep hn
  obtain ⟨ds, hd, rfl⟩ := Option.map_eq_some_iff.mp (show ((Live.fix _).now env).map List.length = some n from hn)
  cases hd
  rw [List.length_map, Array.length_toList]
  refine ⟨Nat.le_refl _, fun k hk => ⟨hk, fun x H' y => ?_⟩⟩
  obtain ⟨rfl, cc, e, rfl⟩ := y
  refine ⟨_, F', ?_, Ext.refl, rep.le, .inl (.str _)⟩
  show ((Live.fix _).now env).bind (fun x => x[k]?) = _
  show (List.map _ z.cps.toList)[k]? = _
  rw [List.getElem?_map, Array.getElem?_toList, e]
  rfl
theorem it_rng {lo cc : Int} {n : Nat} : ItOk K (Itc lo cc n) (.rng lo cc n) σ F := by
  intro σ' F' H env As m hl hs rep hn
  cases hn
  exact ⟨Nat.le_refl _, fun k hk => ⟨hk, fun x H' ⟨e1, e2⟩ => by subst e1; subst e2; exact ⟨_, F', rfl, Ext.refl, rep.le, .inl (.int _)⟩⟩⟩
theorem it_rng1 {lo : Int} {n : Nat} : ItOk K (Itr lo n) (.rng lo 1 n) σ F := by
  intro σ' F' H env As m hl hs rep hn
  cases hn
  refine ⟨Nat.le_refl _, fun k hk => ⟨hk, fun x H' ⟨e1, e2⟩ => ?_⟩⟩
  subst e1; subst e2
  refine ⟨_, F', rfl, Ext.refl, rep.le, ?_⟩
  rw [Int.mul_one]
  exact .inl (.int _)
/-- a new pair -/
theorem pair_new {T : Addr} {x y : V} {d e : D} (l : Le F H) (n : H T = none) (rx : RD K F x d) (ry : RD K F y e) :
    ∃ F', Ext F H [] F' (upd H T (.tup [x, y])) [] ∧ Le F' (upd H T (.tup [x, y])) ∧ RI K true F' (.ref T) (.tup [d, e]) := by
  have fT : F T = none := by
    cases q : F T with
    | none => rfl
    | some o => rw [l T o q] at n; cases n
  have up : Le F (upd F T (.tup [x, y])) := fun a o h => by rw [upd_ne (ne_of_none h fT)]; exact h
  refine ⟨upd F T (.tup [x, y]), ⟨up, fun a o h => ?_, fun _ m => (nomatch m), fun a o h _ => by rw [upd_ne (ne_of_none h n)]; exact h⟩, fun a o h => ?_, .inr ⟨rfl, _, _, _, rfl, rfl, SqT.of upd_same, .cons (rx.up up) (.cons (ry.up up) .nil)⟩⟩
  · by_cases z : a = T
    · subst z; exact .inr (.inr n)
    · rw [upd_ne z] at h; exact .inl h
  · by_cases z : a = T
    · subst z; rw [upd_same] at h ⊢; exact h
    · rw [upd_ne z] at h ⊢; exact l a o h
theorem it_enum {a : Addr} {l : Live} (h : LiveL K a l σ F) : ItOk K (Ite K a) (.enum l) σ F := by
  intro σ' F' H env As n hl hs rep hn
  obtain ⟨ds, hd, rfl⟩ := Option.map_eq_some_iff.mp (show (l.now env).map List.length = some n from hn)
  obtain ⟨vs, sq, rds⟩ := h σ' F' H env As ds hl hs rep hd
  have hlen := rds.length
  refine ⟨⟨vs, sq, by omega⟩, fun k hk => ?_⟩
  obtain ⟨v, e, rd⟩ := rds.get (List.getElem?_eq_getElem hk)
  refine ⟨⟨vs, v, sq, e⟩, fun x H' y => ?_⟩
  obtain ⟨T, w, rfl, hT, rfl, y⟩ := y
  have e2 := y vs sq
  rw [e] at e2; cases e2
  obtain ⟨F2, x2, l2, rd2⟩ := pair_new (K := K) rep.le hT (.int (k : Nat)) rd
  refine ⟨_, F2, ?_, x2, l2, rd2⟩
  show (l.now env).bind (fun x => (x[k]?).map fun d => D.tup [.int (k : Nat), d]) = _
  rw [hd]
  show Option.map _ _ = _
  rw [List.getElem?_eq_getElem hk]
  rfl
theorem it_zip {a b : Addr} {l m : Live} {J : L2.It} (hJ : (J = Itz K a b ∧ LiveL K a l σ F ∧ LiveL K b m σ F) ∨ (J = RZ.ItzT K a b ∧ LiveT K a l σ F ∧ LiveT K b m σ F)) : ItOk K J (.zip l m) σ F := by
  intro σ' F' H env As n hl hs rep hn
  replace hn : (match l.now env, m.now env with | some x, some y => some (min x.length y.length) | _, _ => none) = some n := hn
  split at hn
  · rename_i xs ys e1 e2
    cases hn
    have s1 : ∀ i ∈ l.slots, σ'[i]? = σ[i]? := fun i h => hs i (List.mem_append_left _ h)
    have s2 : ∀ i ∈ m.slots, σ'[i]? = σ[i]? := fun i h => hs i (List.mem_append_right _ h)
    have fin : ∀ k (hk : k < min xs.length ys.length) (vs ws : List V) (rv : RDs K F' vs xs) (rw' : RDs K F' ws ys) x H', (∃ T x1 y1, x = .ref T ∧ H T = none ∧ H' = upd H T (.tup [x1, y1]) ∧ vs[k]? = some x1 ∧ ws[k]? = some y1) →
        ∃ d F'', (Wk.zip l m).item env k = some d ∧ Ext F' H [] F'' H' [] ∧ Le F'' H' ∧ RI K true F'' x d := by
      intro k hk vs ws rv rw' x H' ⟨T, x1, y1, e3, hT, e4, e5, e6⟩
      subst e3; subst e4
      obtain ⟨v, f1, rd1⟩ := rv.get (List.getElem?_eq_getElem (show k < xs.length by omega))
      obtain ⟨w, f2, rd2⟩ := rw'.get (List.getElem?_eq_getElem (show k < ys.length by omega))
      rw [e5] at f1; cases f1
      rw [e6] at f2; cases f2
      obtain ⟨F2, x2, l2, rd⟩ := pair_new (K := K) rep.le hT rd1 rd2
      refine ⟨_, F2, ?_, x2, l2, rd⟩
      simp only [Wk.item, e1, e2]
      rw [List.getElem?_eq_getElem (show k < xs.length by omega), List.getElem?_eq_getElem (show k < ys.length by omega)]
    rcases hJ with ⟨rfl, la, lb⟩ | ⟨rfl, la, lb⟩
    · obtain ⟨vs, q1, r1⟩ := la σ' F' H env As xs hl s1 rep e1
      obtain ⟨ws, q2, r2⟩ := lb σ' F' H env As ys hl s2 rep e2
      have n1 := r1.length
      have n2 := r2.length
      refine ⟨⟨vs, ws, q1, q2, by omega⟩, fun k hk => ⟨⟨vs, ws, vs[k]'(by omega), ws[k]'(by omega), q1, q2, by simp, by simp⟩, fun x H' y => ?_⟩⟩
      obtain ⟨T, x1, y1, e3, hT, e4, y1', y2'⟩ := y
      exact fin k hk vs ws r1 r2 x H' ⟨T, x1, y1, e3, hT, e4, y1' vs q1, y2' ws q2⟩
    · obtain ⟨vs, q1, r1⟩ := la σ' F' H env As xs hl s1 rep e1
      obtain ⟨ws, q2, r2⟩ := lb σ' F' H env As ys hl s2 rep e2
      have n1 := r1.length
      have n2 := r2.length
      refine ⟨⟨vs, ws, q1, q2, by omega⟩, fun k hk => ⟨⟨vs, ws, vs[k]'(by omega), ws[k]'(by omega), q1, q2, by simp, by simp⟩, fun x H' y => ?_⟩⟩
      obtain ⟨T, x1, y1, e3, hT, e4, y1', y2'⟩ := y
      exact fin k hk vs ws r1 r2 x H' ⟨T, x1, y1, e3, hT, e4, y1' vs q1, y2' ws q2⟩
  · cases hn
theorem it_rev {a : Addr} {l : Live} {J : L2.It} {n0 : Nat} (hJ : (J = Itv K a n0 ∧ LiveL K a l σ F) ∨ (J = RT.ItvT K a n0 ∧ LiveT K a l σ F)) : ItOk K J (.rev n0 l) σ F := by
  intro σ' F' H env As n hl hs rep hn
  replace hn : (match l.now env with | some x => if x.length = n0 then some n0 else none | none => none) = some n := hn
  split at hn
  · rename_i xs e1
    split at hn
    · rename_i e2
      cases hn
      have fin : ∀ k (hk : k < n0) (vs : List V) (rv : RDs K F' vs xs) (x : V), vs[n0 - 1 - k]? = some x → ∃ d F'', (Wk.rev n0 l).item env k = some d ∧ Ext F' H [] F'' H [] ∧ Le F'' H ∧ RI K false F'' x d := by
        intro k hk vs rv x hx
        obtain ⟨v, f1, rd1⟩ := rv.get (List.getElem?_eq_getElem (show n0 - 1 - k < xs.length by omega))
        rw [hx] at f1; cases f1
        refine ⟨_, F', ?_, Ext.refl, rep.le, .inl rd1⟩
        simp only [Wk.item, e1]
        exact List.getElem?_eq_getElem (show n0 - 1 - k < xs.length by omega)
      rcases hJ with ⟨rfl, la⟩ | ⟨rfl, la⟩
      · obtain ⟨vs, q1, r1⟩ := la σ' F' H env As xs hl hs rep e1
        have n1 := r1.length
        refine ⟨Nat.le_refl _, fun k hk => ⟨⟨hk, vs, vs[n0 - 1 - k]'(by omega), q1, by simp⟩, fun x H' y => ?_⟩⟩
        obtain ⟨rfl, y⟩ := y
        exact fin k hk vs r1 x (y vs q1)
      · obtain ⟨vs, q1, r1⟩ := la σ' F' H env As xs hl hs rep e1
        have n1 := r1.length
        refine ⟨Nat.le_refl _, fun k hk => ⟨⟨hk, vs, vs[n0 - 1 - k]'(by omega), q1, by simp⟩, fun x H' y => ?_⟩⟩
        obtain ⟨rfl, y⟩ := y
        exact fin k hk vs r1 x (y vs q1)
    · cases hn
  · cases hn
end Ck

set_option Elab.async false
set_option linter.all false
set_option maxRecDepth 100000
/-! Ck17: what is walked, our syntax against the row's. -/
namespace Ck
open PySem PySem.Spec PyProof.Rows L2
def tI (K : KW) (c : Cal) (it : It) : TI := fun σ H R => ∃ F As env w env', Rep K F H σ env As ∧ evIt c it env = .ok (w, env') ∧
  ∀ J F' H' As', Ext F H As F' H' As' → Rep K F' H' σ env' As' → ItOk K J w σ F' → R J H'
def _root_.Ck.It.isPair : It → Bool
  | .enum _ | .zip _ _ => true
  | _ => false
theorem evIt_pair {c : Cal} {it : It} {env env1 : Env} {w : Wk} (h : evIt c it env = .ok (w, env1)) (hp : w.isPair = true) : it.isPair = true := by
  cases it with
  | enum _ => rfl
  | zip _ _ => rfl
  | seq e =>
    simp only [evIt] at h
    obtain ⟨⟨r, e1⟩, _, h⟩ := Res.bind_eq_ok.mp h
    obtain ⟨l, _, h⟩ := Res.bind_eq_ok.mp h
    cases h; cases hp
  | rev e =>
    simp only [evIt] at h
    obtain ⟨⟨r, e1⟩, _, h⟩ := Res.bind_eq_ok.mp h
    simp only at h
    split at h
    · cases h
    obtain ⟨l, _, h⟩ := Res.bind_eq_ok.mp h
    obtain ⟨l', _, h⟩ := Res.bind_eq_ok.mp h
    cases h; cases hp
  | rng1 a =>
    simp only [evIt] at h
    obtain ⟨⟨r, e1⟩, _, h⟩ := Res.bind_eq_ok.mp h
    simp only at h
    split at h
    · split at h
      · cases h; cases hp
      · cases h
    · cases h
  | rng2 a b =>
    simp only [evIt] at h
    obtain ⟨⟨r, e1⟩, _, h⟩ := Res.bind_eq_ok.mp h
    simp only at h
    split at h
    · split at h
      · cases h; cases hp
      · cases h
    · cases h
  | rng3 a b d =>
    simp only [evIt] at h
    obtain ⟨⟨r, e1⟩, _, h⟩ := Res.bind_eq_ok.mp h
    obtain ⟨⟨r3, e3⟩, _, h⟩ := Res.bind_eq_ok.mp h
    simp only at h
    split at h
    · split at h
      · cases h; cases hp
      · cases h
    · cases h
variable {K : KW} {F F' H H' : Hp} {σ : Sg} {env env' : Env} {As As' : List Addr} {c : Cal}

/-- a list, a tuple, a str -/
def iAny (K : KW) (te : TE) : TI := fun σ H R => te σ H fun v H1 => (∃ a, v = .ref a ∧ (∃ xs, SqL K H1 a xs) ∧ R (Itl K a) H1) ∨ (∃ a, v = .ref a ∧ (∃ xs, SqT K H1 a xs) ∧ R (Itt K a) H1) ∨ ∃ x, v = .str x ∧ R (Its x) H1
theorem pi_any {X : Cx} {tg e : Expr} {te : TE} (he : PE X e te) : PI X tg e (iAny X.kw te) := by
  refine ⟨fun pins s σ H R I h => ?_⟩
  refine thn (he.run pins s σ H _ I h) fun v s1 ⟨y, H1, I1, r1, q⟩ => ?_
  rcases q with ⟨a, ex, ⟨xs, hq⟩, q⟩ | ⟨a, ex, ⟨xs, hq⟩, q⟩ | ⟨x, ex, q⟩
  · subst ex
    cases r1
    obtain ⟨its, rv, p, hz⟩ := I1.list hq
    exact wpAny_pyIter_list p.isList (pi_one (tk := s1.toks) I1 _ (turn_list a _) ⟨_, Heap.get?_push_size _ rfl, rfl, rfl⟩ q)
  · subst ex
    cases r1
    obtain ⟨its, rv, p, hz⟩ := I1.tuple hq
    exact wpAny_pyIter_tuple (show s1.heap.IsTuple a its.toArray from p) (pi_one (tk := s1.toks) I1 _ (turn_tuple a _) ⟨_, Heap.get?_push_size _ rfl, rfl, rfl⟩ q)
  · subst ex
    obtain ⟨t, rfl⟩ := r1
    cases ha : x.cps.all (· < 128)
    · exact wpAny_pyIter_wide ha (pi_one (tk := s1.toks) I1 _ (turn_str _ x t "str_iterator" (.inr rfl)) ⟨_, Heap.get?_push_size _ rfl, rfl, rfl⟩ q)
    · exact wpAny_pyIter_ascii ha (pi_one (tk := s1.toks) I1 _ (turn_str _ x t "str_ascii_iterator" (.inl rfl)) ⟨_, Heap.get?_push_size _ rfl, rfl, rfl⟩ q)

/-! ### the steps -/
theorem isL_read {v : V} {d : D} (r : RD K H v d) (h : d.isL = true) : ∃ a xs, v = .ref a ∧ SqL K H a xs := by
  cases d <;> first | cases h; done | skip
  · cases r with | lst e _ => exact ⟨_, _, rfl, SqL.of e⟩
  · cases r with | scr e _ => exact ⟨_, _, rfl, e⟩
theorem isT_read {v : V} {d : D} (r : RD K H v d) (h : d.isT = true) : ∃ a xs, v = .ref a ∧ SqT K H a xs := by
  cases d <;> first | cases h; done | skip
  cases r with | tup e _ => exact ⟨_, _, rfl, e.t⟩
theorem int_read {v : V} {i : Int} (r : RD K H v (.int i)) : v = .int i := by cases r; rfl
theorem RRs.inv2 {As : List Addr} {v w : V} {r s : R} {A : List Addr} (h : RRs K F H σ env As [v, w] [r, s] A) : ∃ A1 A2, A = A1 ++ A2 ∧ RR K F H σ env As v r A1 ∧ RR K F H σ env As w s A2 := by
  cases h with
  | cons p t => cases t with
    | cons q t => cases t; exact ⟨_, _, by rw [List.append_nil], p, q⟩
theorem sub_ext {F1 H1 F2 : Hp} {As1 A1 : List Addr} (x1 : Ext F H As F1 H1 (A1 ++ As1)) (l : Le F1 F2) (n : ∀ a o, F2 a = some o → F1 a = some o ∨ a ∈ A1) : Ext F H As F2 H1 As1 :=
  ⟨x1.le.trans l, fun a o h => (n a o h).elim (fun h => x1.new a o h) fun h => .inr (x1.own a (List.mem_append_left _ h)), fun a h => x1.own a (List.mem_append_right _ h), x1.keep⟩
theorem seq_step {e : E} {R : L2.It → Hp → Prop} (h : tI K c (.seq e) σ H R) : iAny K (tE K c e) σ H R := by
  obtain ⟨F, As, env, w, env', rep, ev, post⟩ := h
  simp only [evIt] at ev
  obtain ⟨⟨r, env1⟩, e1, ev⟩ := Res.bind_eq_ok.mp ev
  obtain ⟨l, e2, ev⟩ := Res.bind_eq_ok.mp ev
  have e2 := Res.ofO_eq_ok.mp e2
  obtain ⟨rfl, rfl⟩ := Prod.mk.inj (Res.ok.inj ev)
  refine ⟨F, As, env, r, env1, rep, e1, fun v F1 H1 As1 A1 x1 rep1 rr1 nd1 out1 q1 => ?_⟩
  obtain ⟨F2, l2, n2, rep2, h⟩ := live_ok rr1 rep1 out1 e2
  have x2 := sub_ext x1 l2 n2
  have rd := rr1.read rep1
  rcases h with ⟨hl, a, rfl, lv⟩ | ⟨ht, a, rfl, lv⟩ | ⟨_, _, z, rfl, rfl⟩
  · obtain ⟨a', xs, e, sq⟩ := isL_read rd hl
    cases e
    exact .inl ⟨a, rfl, ⟨xs, sq⟩, post _ F2 H1 As1 x2 rep2 (it_seqL lv)⟩
  · obtain ⟨a', xs, e, sq⟩ := isT_read rd ht
    cases e
    exact .inr (.inl ⟨a, rfl, ⟨xs, sq⟩, post _ F2 H1 As1 x2 rep2 (it_seqT lv)⟩)
  · exact .inr (.inr ⟨z, rfl, post _ F2 H1 As1 x2 rep2 it_str⟩)
theorem rng1_step {a : E} {R : L2.It → Hp → Prop} (h : tI K c (.rng1 a) σ H R) : iRng1 (tCons (tE K c a) tNil) σ H R := by
  obtain ⟨F, As, env, w, env', rep, ev, post⟩ := h
  simp only [evIt] at ev
  obtain ⟨⟨r, env1⟩, e1, ev⟩ := Res.bind_eq_ok.mp ev
  simp only at ev
  split at ev
  · rename_i j hd
    split at ev
    · rename_i hj
      obtain ⟨rfl, rfl⟩ := Prod.mk.inj (Res.ok.inj ev)
      refine ⟨F, As, env, r, env1, rep, e1, fun v F1 H1 As1 A1 x1 rep1 rr1 nd1 out1 q1 => ?_⟩
      have rd := rr1.read rep1
      rw [hd] at rd
      rw [int_read rd]
      exact ⟨j, rfl, hj.1, hj.2, post _ F1 H1 As1 (x1.sub fun a m => List.mem_append_right _ m) rep1 it_rng1⟩
    · cases ev
  · cases ev
theorem rng2_step {a b : E} {R : L2.It → Hp → Prop} (h : tI K c (.rng2 a b) σ H R) : iRng2 (tCons (tE K c a) (tCons (tE K c b) tNil)) σ H R := by
  obtain ⟨F, As, env, w, env', rep, ev, post⟩ := h
  simp only [evIt] at ev
  rw [two_eq] at ev
  obtain ⟨⟨rs, env1⟩, e1, ev⟩ := Res.bind_eq_ok.mp ev
  simp only at ev
  split at ev
  · rename_i s1 n1 i s2 n2 j
    split at ev
    · rename_i hj
      obtain ⟨rfl, rfl⟩ := Prod.mk.inj (Res.ok.inj ev)
      have g : tEs K c [a, b] σ H fun vs H' => ∀ x y, vs = [x, y] → ∃ i j : Int, [x, y] = [.int i, .int j] ∧ (-(2 ^ 62) ≤ i ∧ i < 2 ^ 62 ∧ -(2 ^ 62) ≤ j ∧ j < 2 ^ 62) ∧ R (Itr i (j - i).toNat) H' := by
        refine ⟨F, As, env, _, env1, rep, e1, fun vs F1 H1 As1 A1 x1 rep1 rr1 nd1 out1 q1 x y hv => ?_⟩
        subst hv
        obtain ⟨B1, B2, _, p, q⟩ := rr1.inv2
        rw [int_read (RR.read p rep1), int_read (RR.read q rep1)]
        exact ⟨i, j, rfl, hj, post _ F1 H1 As1 (x1.sub fun a m => List.mem_append_right _ m) rep1 it_rng1⟩
      exact tEs_two g
    · cases ev
  · cases ev
theorem rng3_step {a b d : E} {R : L2.It → Hp → Prop} (h : tI K c (.rng3 a b d) σ H R) : iRng3 (tCons (tE K c a) (tCons (tE K c b) (tCons (tE K c d) tNil))) σ H R := by
  obtain ⟨F, As, env, w, env', rep, ev, post⟩ := h
  simp only [evIt] at ev
  rw [two_eq] at ev
  obtain ⟨⟨rs, env1⟩, e1, ev⟩ := Res.bind_eq_ok.mp ev
  obtain ⟨⟨r3, env2⟩, e3, ev⟩ := Res.bind_eq_ok.mp ev
  simp only at ev
  split at ev
  · rename_i s1 n1 i s2 n2 j s3 n3 s _
    split at ev
    · rename_i hj
      obtain ⟨rfl, hj⟩ := hj
      obtain ⟨rfl, rfl⟩ := Prod.mk.inj (Res.ok.inj ev)
      have g : tEs K c [a, b] σ H fun vs H' => ∀ x y, vs = [x, y] → tE K c d σ H' fun z H2 => ∃ (i j c : Int) (n : Nat), [x, y, z] = [.int i, .int j, .int c] ∧ RgC i j c n ∧ R (Itc i c n) H2 := by
        refine ⟨F, As, env, _, env1, rep, e1, fun vs F1 H1 As1 A1 x1 rep1 rr1 nd1 out1 q1 x y hv => ?_⟩
        subst hv
        obtain ⟨B1, B2, _, p, q⟩ := rr1.inv2
        rw [int_read (RR.read p rep1), int_read (RR.read q rep1)]
        have x1' : Ext F H As F1 H1 As1 := x1.sub fun a m => List.mem_append_right _ m
        refine ⟨F1, As1, env1, _, env2, rep1, e3, fun z F2 H2 As2 A2 x2 rep2 rr2 nd2 out2 q2 => ?_⟩
        rw [int_read (RR.read rr2 rep2)]
        exact ⟨i, j, -1, (i - j).toNat, rfl, RgC.neg hj.1 hj.2.1 hj.2.2.1 hj.2.2.2, post _ F2 H2 As2 (x1'.trans (x2.sub fun a m => List.mem_append_right _ m)) rep2 it_rng⟩
      exact tEs_two g
    · cases ev
  · cases ev
theorem enum_step {e : E} {R : L2.It → Hp → Prop} (h : tI K c (.enum e) σ H R) : iEnum K (tCons (tE K c e) tNil) σ H R := by
  obtain ⟨F, As, env, w, env', rep, ev, post⟩ := h
  simp only [evIt] at ev
  obtain ⟨⟨r, env1⟩, e1, ev⟩ := Res.bind_eq_ok.mp ev
  simp only at ev
  split at ev
  · cases ev
  rename_i hl0
  replace hl0 : r.d.isL = true := by simpa using hl0
  obtain ⟨l, e2, ev⟩ := Res.bind_eq_ok.mp ev
  have e2 := Res.ofO_eq_ok.mp e2
  obtain ⟨rfl, rfl⟩ := Prod.mk.inj (Res.ok.inj ev)
  refine ⟨F, As, env, r, env1, rep, e1, fun v F1 H1 As1 A1 x1 rep1 rr1 nd1 out1 q1 => ?_⟩
  obtain ⟨F2, l2, n2, rep2, h⟩ := live_ok rr1 rep1 out1 e2
  have x2 := sub_ext x1 l2 n2
  have rd := rr1.read rep1
  rcases h with ⟨hl, a, rfl, lv⟩ | ⟨ht, _⟩ | ⟨ht, _⟩
  · obtain ⟨a', xs, e, sq⟩ := isL_read rd hl
    cases e
    exact ⟨a, xs, rfl, sq, post _ F2 H1 As1 x2 rep2 (it_enum lv)⟩
  · exfalso
    revert hl0 ht
    cases r.d <;> simp [D.isL, D.isT]
  · rw [hl0] at ht; cases ht
theorem rev_step {e : E} {R : L2.It → Hp → Prop} (h : tI K c (.rev e) σ H R) : RT.iRevA K (tE K c e) σ H R := by
  obtain ⟨F, As, env, w, env', rep, ev, post⟩ := h
  simp only [evIt] at ev
  obtain ⟨⟨r, env1⟩, e1, ev⟩ := Res.bind_eq_ok.mp ev
  simp only at ev
  split at ev
  · cases ev
  rename_i hl0
  obtain ⟨l, e2, ev⟩ := Res.bind_eq_ok.mp ev
  obtain ⟨x, e3, ev⟩ := Res.bind_eq_ok.mp ev
  have e2 := Res.ofO_eq_ok.mp e2
  have e3 := Res.ofO_eq_ok.mp e3
  obtain ⟨rfl, rfl⟩ := Prod.mk.inj (Res.ok.inj ev)
  refine ⟨F, As, env, r, env1, rep, e1, fun v F1 H1 As1 A1 x1 rep1 rr1 nd1 out1 q1 => ?_⟩
  obtain ⟨F2, l2, n2, rep2, h⟩ := live_ok rr1 rep1 out1 e2
  have x2 := sub_ext x1 l2 n2
  have rd := rr1.read rep1
  rcases h with ⟨hl, a, rfl, lv⟩ | ⟨ht, a, rfl, lv⟩ | ⟨ht, ht2, _⟩
  · obtain ⟨vs, sq, rds⟩ := lv σ F2 H1 env1 As1 x Le.refl (fun _ _ => rfl) rep2 e3
    refine ⟨a, vs, rfl, .inl ⟨sq, post _ F2 H1 As1 x2 rep2 ?_⟩⟩
    rw [rds.length]
    exact it_rev (.inl ⟨rfl, lv⟩)
  · obtain ⟨vs, sq, rds⟩ := lv σ F2 H1 env1 As1 x Le.refl (fun _ _ => rfl) rep2 e3
    refine ⟨a, vs, rfl, .inr ⟨sq, post _ F2 H1 As1 x2 rep2 ?_⟩⟩
    rw [rds.length]
    exact it_rev (.inr ⟨rfl, lv⟩)
  · rw [ht, ht2] at hl0; exact absurd rfl hl0
theorem LiveL.up {a : Addr} {l : Live} (h : LiveL K a l σ F) (u : Le F F') : LiveL K a l σ F' := fun σ' F2 H env As ds l2 hs rep e => h σ' F2 H env As ds (u.trans l2) hs rep e
theorem LiveT.up {a : Addr} {l : Live} (h : LiveT K a l σ F) (u : Le F F') : LiveT K a l σ F' := fun σ' F2 H env As ds l2 hs rep e => h σ' F2 H env As ds (u.trans l2) hs rep e
theorem RR.grow {v : V} {r : R} {Ar : List Addr} (h : RR K F H σ env As v r Ar) (u : Le F F') : RR K F' H σ env As v r Ar := by
  unfold RR at h ⊢
  cases hs : r.src with
  | fr => rw [hs] at h; exact RO.stay u h fun _ _ _ h => h
  | sl i => rw [hs] at h; exact h
  | inn i =>
    rw [hs] at h
    obtain ⟨z, A, s, q⟩ := h
    exact ⟨z, A, s, q.stay u fun _ _ _ h => h⟩
theorem zip_step {a b : E} {R : L2.It → Hp → Prop} (h : tI K c (.zip a b) σ H R) : RZ.iZipA K (tCons (tE K c a) (tCons (tE K c b) tNil)) σ H R := by
  obtain ⟨F, As, env, w, env', rep, ev, post⟩ := h
  simp only [evIt] at ev
  rw [two_eq] at ev
  obtain ⟨⟨rs, env1⟩, e1, ev⟩ := Res.bind_eq_ok.mp ev
  simp only at ev
  split at ev
  · rename_i rx ry
    split at ev
    · cases ev
    rename_i hk
    replace hk : ((rx.d.isL && ry.d.isL) || (rx.d.isT && ry.d.isT)) = true := by
      cases z : ((rx.d.isL && ry.d.isL) || (rx.d.isT && ry.d.isT)) with
      | true => rfl
      | false => rw [z] at hk; exact absurd rfl hk
    obtain ⟨l, e2, ev⟩ := Res.bind_eq_ok.mp ev
    obtain ⟨m, e3, ev⟩ := Res.bind_eq_ok.mp ev
    have e2 := Res.ofO_eq_ok.mp e2
    have e3 := Res.ofO_eq_ok.mp e3
    obtain ⟨rfl, rfl⟩ := Prod.mk.inj (Res.ok.inj ev)
    have no : ∀ d : D, d.isL = true → d.isT = true → False := fun d => by cases d <;> simp [D.isL, D.isT]
    have g : tEs K c [a, b] σ H fun vs H' => ∀ x y, vs = [x, y] → ∃ a b xs ys, [x, y] = [.ref a, .ref b] ∧ ((SqL K H' a xs ∧ SqL K H' b ys ∧ R (Itz K a b) H') ∨ (SqT K H' a xs ∧ SqT K H' b ys ∧ R (RZ.ItzT K a b) H')) := by
      refine ⟨F, As, env, _, env1, rep, e1, fun vs F1 H1 As1 A1 x1 rep1 rr1 nd1 out1 q1 x y hv => ?_⟩
      subst hv
      obtain ⟨B1, B2, rfl, p, q⟩ := rr1.inv2
      obtain ⟨F2, l2, n2, rep2, h2⟩ := live_ok p rep1 (fun a m => out1 a (List.mem_append_left _ m)) e2
      have outB : ∀ a ∈ B2, a ∉ As1 ∧ F2 a = none := fun a m => by
        refine ⟨(out1 a (List.mem_append_right _ m)).1, ?_⟩
        cases z : F2 a with
        | none => rfl
        | some o =>
          rcases n2 a o z with z | z
          · rw [(out1 a (List.mem_append_right _ m)).2] at z; cases z
          · exact absurd rfl ((List.nodup_append.mp nd1).2.2 a z a m)
      obtain ⟨F3, l3, n3, rep3, h3⟩ := live_ok (q.grow l2) rep2 outB e3
      have x3 : Ext F H As F3 H1 As1 := sub_ext x1 (l2.trans l3) fun a o h => by
        rcases n3 a o h with h | h
        · exact (n2 a o h).imp id fun h => List.mem_append_left _ h
        · exact .inr (List.mem_append_right _ h)
      have rdx := p.read rep1
      have rdy := q.read rep1
      rw [Bool.or_eq_true, Bool.and_eq_true, Bool.and_eq_true] at hk
      rcases hk with ⟨k1, k2⟩ | ⟨k1, k2⟩
      · rcases h2 with ⟨_, a1, rfl, lv1⟩ | ⟨t, _⟩ | ⟨t, _⟩
        · rcases h3 with ⟨_, a2, rfl, lv2⟩ | ⟨t, _⟩ | ⟨t, _⟩
          · obtain ⟨a', xs, e, sq⟩ := isL_read rdx k1
            cases e
            obtain ⟨b', ys, e, sq2⟩ := isL_read rdy k2
            cases e
            exact ⟨a1, a2, xs, ys, rfl, .inl ⟨sq, sq2, post _ F3 H1 As1 x3 rep3 (it_zip (.inl ⟨rfl, lv1.up l3, lv2⟩))⟩⟩
          · exact (no _ k2 t).elim
          · rw [k2] at t; cases t
        · exact (no _ k1 t).elim
        · rw [k1] at t; cases t
      · rcases h2 with ⟨t, _⟩ | ⟨_, a1, rfl, lv1⟩ | ⟨_, t, _⟩
        · exact (no _ t k1).elim
        · rcases h3 with ⟨t, _⟩ | ⟨_, a2, rfl, lv2⟩ | ⟨_, t, _⟩
          · exact (no _ t k2).elim
          · obtain ⟨a', xs, e, sq⟩ := isT_read rdx k1
            cases e
            obtain ⟨b', ys, e, sq2⟩ := isT_read rdy k2
            cases e
            exact ⟨a1, a2, xs, ys, rfl, .inr ⟨sq, sq2, post _ F3 H1 As1 x3 rep3 (it_zip (.inr ⟨rfl, lv1.up l3, lv2⟩))⟩⟩
          · rw [k2] at t; cases t
        · rw [k1] at t; cases t
    exact tEs_two g
  · cases ev

/-! ### against the row's -/
section
variable {S : Ss} {X : Cx} {tg e : Expr} {f g k : Ck} {a b d : E}
/-- a target, a source -/
abbrev CkI := Ss → Expr → Expr → Bool
def GoodI (S : Ss) (X : Cx) (c : Cal) (f : CkI) (it : It) : Prop := ∀ tg e, f S tg e = true → PI X tg e (tI X.kw c it) ∧ ∀ x, foldedSetIterable e X.env x = pure x
def isTup : Expr → Bool
  | .Tuple _ _ _ => true
  | _ => false
def chkSeq (f : Ck) (S : Ss) (e : Expr) : Bool := notSet e && f S e
def chkR1 (f : Ck) (S : Ss) : Expr → Bool
  | .Call (.Name x _) [a] [] _ => decide (x = "range") && blB S x && f S a && notStar a
  | _ => false
def chkR2 (f g : Ck) (S : Ss) : Expr → Bool
  | .Call (.Name x _) [a, b] [] _ => decide (x = "range") && blB S x && f S a && notStar a && g S b && notStar b
  | _ => false
def chkR3 (f g k : Ck) (S : Ss) : Expr → Bool
  | .Call (.Name x _) [a, b, d] [] _ => decide (x = "range") && blB S x && f S a && notStar a && g S b && notStar b && k S d && notStar d
  | _ => false
def chkN1 (n : Str) (f : Ck) (S : Ss) : Expr → Bool
  | .Call (.Name x _) [a] [] _ => decide (x = n) && blB S x && f S a && notStar a
  | _ => false
def chkZip (f g : Ck) (S : Ss) : Expr → Bool
  | .Call (.Name x _) [a, b] [] _ => decide (x = "zip") && blB S x && f S a && notStar a && g S b && notStar b
  | _ => false
theorem fold_call {o : Expr} {l : List Expr} {kw : List Keyword} {p : Pos} {env : PySem.Env} : ∀ x, foldedSetIterable (.Call o l kw p) env x = pure x := fun _ => rfl
theorem snd_seq (hf : Good S X c f a) (h : chkSeq f S e = true) : PI X tg e (tI X.kw c (.seq a)) ∧ ∀ x, foldedSetIterable e X.env x = pure x := by
  unfold chkSeq at h
  rw [Bool.and_eq_true] at h
  exact ⟨PI.weak (pi_any (hf _ h.2)) fun σ H R z => seq_step z, folded_of _ h.1⟩
theorem star1 {e : Expr} {env : PySem.Env} (h : notStar e = true) : starEach [e] env = [(false, eval e env)] := star_of h
theorem snd_r1 (ok : XOk S X) (hf : Good S X c f a) (h : chkR1 f S e = true) : PI X tg e (tI X.kw c (.rng1 a)) ∧ ∀ x, foldedSetIterable e X.env x = pure x := by
  unfold chkR1 at h
  split at h
  · simp only [Bool.and_eq_true, decide_eq_true_eq] at h
    obtain ⟨⟨⟨rfl, h1⟩, h2⟩, h3⟩ := h
    obtain ⟨g1, g2, g3, g4⟩ := bl_of ok h1
    exact ⟨PI.weak (pi_range1 g1 g2 (pa_cons (hf _ h2) pa_nil (star_of h3)) (star1 h3)) fun σ H R z => rng1_step z, fold_call⟩
  · cases h
theorem snd_r2 (ok : XOk S X) (hf : Good S X c f a) (hg : Good S X c g b) (h : chkR2 f g S e = true) : PI X tg e (tI X.kw c (.rng2 a b)) ∧ ∀ x, foldedSetIterable e X.env x = pure x := by
  unfold chkR2 at h
  split at h
  · simp only [Bool.and_eq_true, decide_eq_true_eq] at h
    obtain ⟨⟨⟨⟨⟨rfl, h1⟩, h2⟩, h3⟩, h4⟩, h5⟩ := h
    obtain ⟨g1, g2, g3, g4⟩ := bl_of ok h1
    exact ⟨PI.weak (pi_range2 g1 g2 (pa_cons (hf _ h2) (pa_cons (hg _ h4) pa_nil (star_of h5)) (star_of h3)) (by rw [star_of h3, star1 h5]) (star1 h5)) fun σ H R z => rng2_step z, fold_call⟩
  · cases h
theorem snd_r3 (ok : XOk S X) (hf : Good S X c f a) (hg : Good S X c g b) (hk : Good S X c k d) (h : chkR3 f g k S e = true) : PI X tg e (tI X.kw c (.rng3 a b d)) ∧ ∀ x, foldedSetIterable e X.env x = pure x := by
  unfold chkR3 at h
  split at h
  · simp only [Bool.and_eq_true, decide_eq_true_eq] at h
    obtain ⟨⟨⟨⟨⟨⟨⟨rfl, h1⟩, h2⟩, h3⟩, h4⟩, h5⟩, h6⟩, h7⟩ := h
    obtain ⟨g1, g2, g3, g4⟩ := bl_of ok h1
    exact ⟨PI.weak (pi_range3 g1 g2 (pa_cons (hf _ h2) (pa_cons (hg _ h4) (pa_cons (hk _ h6) pa_nil (star_of h7)) (star_of h5)) (star_of h3)) (star_of h3) (by rw [star_of h5, star1 h7]; rfl)) fun σ H R z => rng3_step z, fold_call⟩
  · cases h
theorem snd_enum (ok : XOk S X) (ht : isTup tg = true) (hf : Good S X c f a) (h : chkN1 "enumerate" f S e = true) : PI X tg e (tI X.kw c (.enum a)) ∧ ∀ x, foldedSetIterable e X.env x = pure x := by
  unfold chkN1 at h
  split at h
  · simp only [Bool.and_eq_true, decide_eq_true_eq] at h
    obtain ⟨⟨⟨rfl, h1⟩, h2⟩, h3⟩ := h
    obtain ⟨g1, g2, g3, g4⟩ := bl_of ok h1
    cases tg <;> first | cases ht; done | skip
    exact ⟨PI.weak (pi_enum g1 g2 (pa_cons (hf _ h2) pa_nil (star_of h3)) (star1 h3)) fun σ H R z => enum_step z, fold_call⟩
  · cases h
theorem snd_revI (ok : XOk S X) (hf : Good S X c f a) (h : chkN1 "reversed" f S e = true) : PI X tg e (tI X.kw c (.rev a)) ∧ ∀ x, foldedSetIterable e X.env x = pure x := by
  unfold chkN1 at h
  split at h
  · simp only [Bool.and_eq_true, decide_eq_true_eq] at h
    obtain ⟨⟨⟨rfl, h1⟩, h2⟩, h3⟩ := h
    obtain ⟨g1, g2, g3, g4⟩ := bl_of ok h1
    exact ⟨PI.weak (RT.pi_revA g1 g2 (hf _ h2) (star_of h3)) fun σ H R z => rev_step z, fold_call⟩
  · cases h
theorem snd_zip (ok : XOk S X) (ht : isTup tg = true) (hf : Good S X c f a) (hg : Good S X c g b) (h : chkZip f g S e = true) : PI X tg e (tI X.kw c (.zip a b)) ∧ ∀ x, foldedSetIterable e X.env x = pure x := by
  unfold chkZip at h
  split at h
  · simp only [Bool.and_eq_true, decide_eq_true_eq] at h
    obtain ⟨⟨⟨⟨⟨rfl, h1⟩, h2⟩, h3⟩, h4⟩, h5⟩ := h
    obtain ⟨g1, g2, g3, g4⟩ := bl_of ok h1
    cases tg <;> first | cases ht; done | skip
    exact ⟨PI.weak (RZ.pi_zipA g1 g2 (pa_cons (hf _ h2) (pa_cons (hg _ h4) pa_nil (star_of h5)) (star_of h3)) (star_of h3) (by rw [star1 h5]; rfl)) fun σ H R z => zip_step z, fold_call⟩
  · cases h
end
end Ck

set_option Elab.async false
set_option linter.all false
set_option maxRecDepth 100000
/-! Ck18: targets. -/
namespace Ck
open PySem PySem.Spec PyProof.Rows L2
mutual
def Tg.slots : Tg → List Nat
  | .nm i => [i]
  | .tup l => Tg.slotsS l
termination_by structural x => x
def Tg.slotsS : List Tg → List Nat
  | [] => []
  | t :: l => Tg.slots t ++ Tg.slotsS l
termination_by structural x => x
end
variable {K : KW} {F F' H H' : Hp} {σ : Sg} {env env' : Env} {As As' : List Addr} {c : Cal}
theorem setTg_tup {l : List Tg} {n : Nat} {d : D} {pin : List Nat} (h : setTg (.tup l) (n, d) pin env = some env') : ∃ ds, d = .tup ds ∧ setTgs l ds pin env = some env' := by
  cases d with
  | tup ds => exact ⟨ds, rfl, by simpa only [setTg] using h⟩
  | _ => simp only [setTg] at h; cases h
mutual
theorem setTg_pin : ∀ (t : Tg) (sv : SV) (pin : List Nat) (env env' : Env), setTg t sv pin env = some env' → ∀ i ∈ t.slots, i ∉ pin
  | .nm i, sv, pin, env, env', h => by
    simp only [setTg] at h
    split at h
    · cases h
    · rename_i hc
      rw [not_or] at hc
      intro j hj
      rw [Tg.slots, List.mem_singleton] at hj
      subst hj; exact hc.1
  | .tup l, (n, d), pin, env, env', h => by
    obtain ⟨ds, rfl, h⟩ := setTg_tup h
    rw [Tg.slots]
    exact setTgs_pin l _ pin env env' h
theorem setTgs_pin : ∀ (l : List Tg) (ds : List D) (pin : List Nat) (env env' : Env), setTgs l ds pin env = some env' → ∀ i ∈ Tg.slotsS l, i ∉ pin
  | [], ds, pin, env, env', h => by intro i hi; simp [Tg.slotsS] at hi
  | t :: l, [], pin, env, env', h => by simp [setTgs] at h
  | t :: l, d :: ds, pin, env, env', h => by
    simp only [setTgs] at h
    obtain ⟨env1, e1, h⟩ := Option.bind_eq_some_iff.mp h
    intro i hi
    rw [Tg.slotsS] at hi
    rcases List.mem_append.mp hi with hi | hi
    · exact setTg_pin t _ pin env env1 e1 i hi
    · exact setTgs_pin l ds pin env1 env' h i hi
end
/-- a store, by values -/
def tG (K : KW) (t : Tg) (pin : List Nat) : TG := fun v σ H Q => ∃ F As env n d A env', Rep K F H σ env As ∧ (RO K F H n v d A ∨ (t.isT = true ∧ A = [] ∧ RI K true F v d)) ∧ (A ++ As).Nodup ∧ (∀ a ∈ A, F a = none) ∧ setTg t (n, d) pin env = some env' ∧
  ∀ σ' As', Rep K F H σ' env' As' → (∀ a ∈ As', a ∈ A ∨ a ∈ As) → (∀ i, i ∉ t.slots → σ'[i]? = σ[i]?) → Q σ' H
def tGs (K : KW) (l : List Tg) (pin : List Nat) : TGs := fun vs σ H Q => ∃ F As env ds env', Rep K F H σ env As ∧ RDs K F vs ds ∧ setTgs l ds pin env = some env' ∧
  ∀ σ' As', Rep K F H σ' env' As' → (∀ a ∈ As', a ∈ As) → (∀ i, i ∉ Tg.slotsS l → σ'[i]? = σ[i]?) → Q σ' H
section
variable {S : Ss} {X : Cx}
mutual
def chkTg : Tg → Ss → Expr → Bool
  | .nm i => fun S e => (match e with | .Name x _ => decide (S.N[i]? = some x) && decide (x ∈ S.st) | _ => false)
  | .tup l => fun S e => (match e with | .Tuple es _ _ => chkTgs l S es | _ => false)
termination_by structural x => x
def chkTgs : List Tg → Ss → List Expr → Bool
  | [] => fun S es => (match es with | [] => true | _ => false)
  | t :: l => fun S es => (match es with | e :: es => notStar e && chkTg t S e && chkTgs l S es | [] => false)
termination_by structural x => x
end
theorem assign_of {e : Expr} {es : List Expr} {env : PySem.Env} (h : notStar e = true) : assignEach (e :: es) env = (false, assign e env) :: assignEach es env := by
  cases e <;> first | rfl | cases h
theorem chkTgs_plain : ∀ (l : List Tg) (S : Ss) (es : List Expr), chkTgs l S es = true → (assignEach es X.env).length = l.length ∧ (assignEach es X.env).findIdx? (·.1) = none
  | [], S, es, h => by
    cases es with
    | nil => exact ⟨rfl, rfl⟩
    | cons _ _ => simp [chkTgs] at h
  | t :: l, S, es, h => by
    cases es with
    | nil => simp [chkTgs] at h
    | cons e es =>
      simp only [chkTgs, Bool.and_eq_true] at h
      obtain ⟨h1, h2⟩ := chkTgs_plain l S es h.2
      rw [assign_of h.1.1]
      refine ⟨by rw [List.length_cons, List.length_cons, h1], ?_⟩
      rw [List.findIdx?_cons, h2]
      rfl
theorem name_pg (ok : XOk S X) {i : Nat} {x : Str} {p : Pos} {pin : List Nat} (h1 : S.N[i]? = some x) (h2 : x ∈ S.st) : PG X (.Name x p) (tG X.kw (.nm i) pin) := by
  obtain ⟨l, f⟩ := ok.st x h2
  have pg : PG X (.Name x p) (gName i) := pg_name (by rw [ok.N]; exact ok.nd) (by rw [ok.N]; exact h1) (by rw [ok.sc]; exact l) f
  refine ⟨fun pins s σ H v u Q I r q => pg.run pins s σ H v u Q I r ?_⟩
  obtain ⟨F, As, env, n, d, A, env', rep, ro, nd, out, e, post⟩ := q
  simp only [setTg] at e
  split at e
  · cases e
  rename_i hc
  rw [not_or] at hc
  cases e
  replace ro := ro.resolve_right fun z => nomatch z.1
  obtain ⟨B, hB, rep2⟩ := rep.store (Nat.lt_of_not_le hc.2) ro nd out
  exact post _ B rep2 hB fun j hj => by
    rw [Tg.slots, List.mem_singleton] at hj
    rw [List.getElem?_set_ne (Ne.symm hj)]
mutual
theorem snd_tg (ok : XOk S X) : ∀ (t : Tg) (e : Expr) (pin : List Nat), chkTg t S e = true → PG X e (tG X.kw t pin)
  | .nm i, e, pin, h => by
    simp only [chkTg] at h
    split at h
    · simp only [Bool.and_eq_true, decide_eq_true_eq] at h
      exact name_pg ok h.1 h.2
    · cases h
  | .tup l, e, pin, h => by
    simp only [chkTg] at h
    split at h
    · rename_i es k p
      have pg := pg_tup (pos := p) (k := k) ok.calm (snd_tgs ok l es pin h) (chkTgs_plain l S es h).1 (chkTgs_plain l S es h).2
      refine ⟨fun pins s σ H v u Q I r q => pg.run pins s σ H v u Q I r ?_⟩
      obtain ⟨F, As, env, n, d, A, env', rep, ro, nd, out, e, post⟩ := q
      obtain ⟨ds, rfl, e⟩ := setTg_tup e
      have ri : A = [] ∧ ∃ a vs, v = .ref a ∧ SqT X.kw F a vs ∧ RDs X.kw F vs ds := by
        rcases ro with ro | ⟨_, rfl, ri⟩
        · obtain ⟨rd, rfl⟩ := ro.rdf rfl
          cases rd with
          | @tup a vs _ sq q => exact ⟨rfl, a, vs, rfl, sq.t, q⟩
        · refine ⟨rfl, ?_⟩
          rcases ri with rd | ⟨_, a, vs, ds', rfl, e, sq, q⟩
          · cases rd with
            | @tup a vs _ sq q => exact ⟨a, vs, rfl, sq.t, q⟩
          · cases e
            exact ⟨a, vs, rfl, sq, q⟩
      obtain ⟨rfl, a, vs, rfl, sq, q⟩ := ri
      · refine ⟨a, vs, rfl, SqT.up rep.le sq, ?_, F, As, env, ds, env', rep, q, e, fun σ' As' r1 r2 r3 => post σ' As' r1 (fun a m => .inr (r2 a m)) fun i hi => r3 i (by rw [Tg.slots] at hi; exact hi)⟩
        rw [q.length]
        exact (setTgs_len l ds pin env env' e).symm
    · cases h
theorem snd_tgs (ok : XOk S X) : ∀ (l : List Tg) (es : List Expr) (pin : List Nat), chkTgs l S es = true → PGs X es (tGs X.kw l pin)
  | [], es, pin, h => by
    cases es with
    | cons _ _ => simp [chkTgs] at h
    | nil =>
      refine ⟨fun pins s σ H vs us Q I r q => pgs_nil.run pins s σ H vs us Q I r ?_⟩
      obtain ⟨F, As, env, ds, env', rep, rd, e, post⟩ := q
      cases ds with
      | nil =>
        cases rd
        simp only [setTgs] at e
        cases e
        exact ⟨rfl, post σ As rep (fun _ m => m) fun _ _ => rfl⟩
      | cons _ _ => simp [setTgs] at e
  | t :: l, es, pin, h => by
    cases es with
    | nil => simp [chkTgs] at h
    | cons e es =>
      simp only [chkTgs, Bool.and_eq_true] at h
      have pg := pgs_cons (snd_tg ok t e pin h.1.2) (snd_tgs ok l es pin h.2) (by rw [assign_of h.1.1]; rfl)
      refine ⟨fun pins s σ H vs us Q I r q => pg.run pins s σ H vs us Q I r ?_⟩
      obtain ⟨F, As, env, ds, env', rep, rd, e, post⟩ := q
      cases ds with
      | nil => simp [setTgs] at e
      | cons d ds =>
        cases rd with
        | cons p q =>
          simp only [setTgs] at e
          obtain ⟨env1, e1, e⟩ := Option.bind_eq_some_iff.mp e
          refine ⟨_, _, rfl, F, As, env, 0, d, [], env1, rep, .inl (.zero p), rep.nd, fun _ m => (nomatch m), e1, fun σ1 As1 r1 r2 r3 => ?_⟩
          refine ⟨F, As1, env1, ds, env', r1, q, e, fun σ2 As2 s1 s2 s3 => post σ2 As2 s1 (fun a m => (r2 a (s2 a m)).elim (fun m => nomatch m) id) fun i hi => ?_⟩
          rw [Tg.slotsS, List.mem_append, not_or] at hi
          rw [s3 i hi.2, r3 i hi.1]
theorem setTgs_len : ∀ (l : List Tg) (ds : List D) (pin : List Nat) (env env' : Env), setTgs l ds pin env = some env' → l.length = ds.length
  | [], [], _, _, _, _ => rfl
  | [], _ :: _, _, _, _, h => by simp [setTgs] at h
  | _ :: _, [], _, _, _, h => by simp [setTgs] at h
  | t :: l, d :: ds, pin, env, env', h => by
    simp only [setTgs] at h
    obtain ⟨env1, e1, h⟩ := Option.bind_eq_some_iff.mp h
    rw [List.length_cons, List.length_cons, setTgs_len l ds pin env1 env' h]
end
end
end Ck

set_option Elab.async false
set_option linter.all false
set_option maxRecDepth 100000
/-! Ck19: comprehensions. -/
namespace Ck
open PySem PySem.Spec PyProof.Rows L2
variable {K : KW} {F F' H H' : Hp} {σ : Sg} {env env' : Env} {As As' : List Addr} {c : Cal}

theorem wipe_get (σ : Sg) (vs : List Nat) (j : Nat) : (wipe σ vs)[j]? = if j ∈ vs ∧ j < σ.length then some none else σ[j]? := by
  induction vs with
  | nil => simp [wipe]
  | cons v vs ih =>
    unfold wipe
    rw [List.getElem?_set, wipe_length]
    by_cases h : v = j
    · subst h
      by_cases hl : v < σ.length
      · simp [hl]
      · simp [hl, List.getElem?_eq_none (Nat.le_of_not_lt hl)]
    · rw [if_neg h, ih]
      have : (j ∈ v :: vs) ↔ j ∈ vs := by simp [Ne.symm h]
      simp [this]
/-- the slots whose data lie in the open -/
theorem Rep.hide0 {i : Nat} (r : Rep K F H σ env As) (h : asideB env i = true) : ∃ B, B.Perm As ∧ Rep K F H σ (env.set i none) B := by
  unfold asideB at h
  split at h
  · rename_i n d g
    obtain ⟨v, A, B, sv, pm, ro, rep⟩ := r.focus g
    have : A = [] := by
      rw [Bool.or_eq_true, beq_iff_eq] at h
      rcases h with h | h
      · subst h; exact ro.rd0.2
      · exact (ro.rdf (by simpa using h)).2
    subst this
    exact ⟨B, pm.symm, rep⟩
  · rename_i g
    have e : env.set i none = env := by
      apply List.ext_getElem?
      intro j
      rw [List.getElem?_set]
      by_cases hj : i = j
      · subst hj
        unfold getS at g
        by_cases hl : i < env.length
        · rw [List.getElem?_eq_getElem hl] at g
          rw [if_pos rfl, if_pos hl, List.getElem?_eq_getElem hl]
          exact congrArg some (Eq.symm g)
        · rw [if_pos rfl, if_neg hl, List.getElem?_eq_none (Nat.le_of_not_lt hl)]
      · rw [if_neg hj]
    rw [e]
    exact ⟨As, .refl _, r⟩
theorem Rep.setNone {i : Nat} (r : Rep K F H σ env As) (h : getS env i = none) : Rep K F H (σ.set i none) env As := by
  obtain ⟨B, s, r2⟩ := r.drop i none
  have e : env.set i none = env := by
    apply List.ext_getElem?
    intro j
    rw [List.getElem?_set]
    by_cases hj : i = j
    · subst hj
      unfold getS at h
      by_cases hl : i < env.length
      · rw [List.getElem?_eq_getElem hl] at h
        rw [if_pos rfl, if_pos hl, List.getElem?_eq_getElem hl]
        exact congrArg some (Eq.symm h)
      · rw [if_pos rfl, if_neg hl, List.getElem?_eq_none (Nat.le_of_not_lt hl)]
    · rw [if_neg hj]
  obtain ⟨A0, p, q⟩ := r.env
  have key : ∀ {σ : Sg} {env : Env} {A : List Addr}, REnv K F H σ env A → ∀ {i : Nat}, getS env i = none → REnv K F H (σ.set i none) env A := by
    intro σ env A q
    induction q with
    | nil => intro i _; exact .nil
    | hid q ih =>
      intro i h
      cases i with
      | zero => exact .hid q
      | succ i => exact .hid (ih (by simpa [getS] using h))
    | has p q ih =>
      intro i h
      cases i with
      | zero => simp [getS] at h
      | succ i => exact .has p (ih (by simpa [getS] using h))
  exact ⟨r.le, r.nd, r.out, A0, p, key q h⟩
theorem wipeE_get {own : List Nat} {j : Nat} : getS (wipeE env own) j = if j ∈ own then none else getS env j := by
  induction own with
  | nil => simp [wipeE]
  | cons i l ih =>
    rw [wipeE, getS_hid, ih]
    by_cases h : i = j
    · subst h; simp
    · simp [h, Ne.symm h]
theorem asideB_hid {i j : Nat} (h : asideB env j = true) : asideB (env.set i none) j = true := by
  unfold asideB at h ⊢
  rw [getS_hid]
  by_cases e : i = j
  · rw [if_pos e]
  · rw [if_neg e]; exact h
theorem wipe_rep {own : List Nat} : (own.all (asideB env) = true) → Rep K F H σ env As → ∃ B, B.Perm As ∧ Rep K F H (wipe σ own) (wipeE env own) B := by
  induction own with
  | nil => intro _ r; exact ⟨As, .refl _, r⟩
  | cons i l ih =>
    intro h r
    rw [List.all_cons, Bool.and_eq_true] at h
    obtain ⟨B, p, r2⟩ := ih h.2 r
    have h1 : asideB (wipeE env l) i = true := by
      unfold asideB
      rw [wipeE_get]
      by_cases e : i ∈ l
      · rw [if_pos e]
      · rw [if_neg e]; exact h.1
    obtain ⟨C, p2, r3⟩ := r2.hide0 h1
    exact ⟨C, p2.trans p, by rw [wipe, wipeE]; exact r3.setNone (by rw [getS_hid, if_pos rfl])⟩
/-- the own slots as they were -/
def mix (σ σ2 : Sg) : List Nat → Sg
  | [] => σ2
  | i :: l => (mix σ σ2 l).set i (σ[i]?).join
theorem mix_len (σ σ2 : Sg) : ∀ l, (mix σ σ2 l).length = σ2.length
  | [] => rfl
  | i :: l => by rw [mix, List.length_set, mix_len σ σ2 l]
theorem mix_get (σ σ2 : Sg) (hl : σ.length = σ2.length) (j : Nat) : ∀ l, (mix σ σ2 l)[j]? = if j ∈ l then σ[j]? else σ2[j]?
  | [] => by simp [mix]
  | i :: l => by
    rw [mix, List.getElem?_set, mix_len, mix_get σ σ2 hl j l]
    by_cases e : i = j
    · subst e
      by_cases h : i < σ2.length
      · rw [if_pos rfl, if_pos h, if_pos (List.mem_cons_self ..)]
        have h2 : i < σ.length := by omega
        rw [List.getElem?_eq_getElem h2]
        rfl
      · rw [if_pos rfl, if_neg h, if_pos (List.mem_cons_self ..), List.getElem?_eq_none (by omega)]
    · rw [if_neg e]
      have : (j ∈ i :: l) ↔ j ∈ l := by simp [Ne.symm e]
      simp [this]
theorem unwipe_rep {was : Env} {own : List Nat} {σ2 : Sg} {env2 : Env} {As2 : List Addr} (hw : σ.length = σ2.length) (hd : ∀ i ∈ own, ∀ n d, getS was i = some (n, d) → ∃ v, σ[i]? = some (some v) ∧ RD K F v d) (r : Rep K F H σ2 env2 As2) :
    ∃ As3, (∀ a ∈ As3, a ∈ As2) ∧ Rep K F H (mix σ σ2 own) (unwipe was env2 own) As3 := by
  induction own with
  | nil => exact ⟨As2, fun _ h => h, r⟩
  | cons i l ih =>
    obtain ⟨As3, s, r3⟩ := ih fun j h => hd j (List.mem_cons_of_mem _ h)
    rw [mix, unwipe]
    cases g : getS was i with
    | none =>
      obtain ⟨B, sb, r4⟩ := r3.drop i (σ[i]?).join
      exact ⟨B, fun a m => s a (sb.subset m), r4⟩
    | some sv =>
      obtain ⟨n, d⟩ := sv
      obtain ⟨v, e, rd⟩ := hd i (List.mem_cons_self ..) n d g
      have hi : i < (unwipe was env2 l).length := by
        rw [← r3.len, mix_len, ← hw]
        exact (List.getElem?_eq_some_iff.mp e).1
      obtain ⟨B, hB, r4⟩ := r3.store (A := []) (n := 0) hi (.zero rd) r3.nd fun _ m => nomatch m
      rw [e]
      exact ⟨B, fun a m => s a ((hB a m).elim (fun m => nomatch m) id), r4⟩
theorem unwipe_get {was : Env} {own : List Nat} : ∀ {i : Nat}, i ∈ own → asideB (unwipe was env own) i = true := by
  induction own with
  | nil => intro i h; cases h
  | cons j l ih =>
    intro i h
    rw [unwipe]
    unfold asideB getS
    rw [List.getElem?_set]
    by_cases e : j = i
    · subst e
      rw [if_pos rfl]
      by_cases hl : j < (unwipe was env l).length
      · rw [if_pos hl]
        generalize (was[j]?).join = z
        cases z <;> rfl
      · rw [if_neg hl]; rfl
    · rw [if_neg e]
      have := ih (List.mem_of_ne_of_mem (Ne.symm e) h)
      unfold asideB getS at this
      exact this

mutual
theorem setTg_length' : ∀ (t : Tg) (sv : SV) (pin : List Nat) (env env' : Env), setTg t sv pin env = some env' → env'.length = env.length
  | .nm i, sv, pin, env, env', h => by
    simp only [setTg] at h
    split at h
    · cases h
    · cases h; rw [List.length_set]
  | .tup l, (n, d), pin, env, env', h => by
    obtain ⟨ds, rfl, h⟩ := setTg_tup h
    exact setTgs_length' l ds pin env env' h
theorem setTgs_length' : ∀ (l : List Tg) (ds : List D) (pin : List Nat) (env env' : Env), setTgs l ds pin env = some env' → env'.length = env.length
  | [], [], pin, env, env', h => by simp only [setTgs] at h; cases h; rfl
  | [], _ :: _, pin, env, env', h => by simp [setTgs] at h
  | t :: l, [], pin, env, env', h => by simp [setTgs] at h
  | t :: l, d :: ds, pin, env, env', h => by
    simp only [setTgs] at h
    obtain ⟨env1, e1, h⟩ := Option.bind_eq_some_iff.mp h
    rw [setTgs_length' l ds pin env1 env' h, setTg_length' t _ pin env env1 e1]
end
theorem setTg_length {t : Tg} {sv : SV} {pin : List Nat} (h : setTg t sv pin env = some env') : env'.length = env.length := setTg_length' t sv pin env env' h
theorem RSs.snoc {vs : List V} {svs : List SV} {A B : List Addr} {v : V} {sv : SV} (h : RSs K F H vs svs A) (r : RO K F H sv.1 v sv.2 B) : RSs K F H (vs ++ [v]) (svs ++ [sv]) (A ++ B) := by
  induction h with
  | nil =>
    have := RSs.cons r RSs.nil
    rw [List.append_nil] at this
    exact this
  | cons p _ ih =>
    rw [List.append_assoc]
    exact .cons p ih
/-- a turn's state: the list at D so far, apart from all else -/
structure CI (K : KW) (F1 H1 : Hp) (As1 : List Addr) (σ : Sg) (p : Addr) (own : List Nat) (w : Wk) (n : Nat) (f : D → Env → Res (Option SV × Env)) (svs : List SV) (env2 : Env) (i : Nat) (H : Hp) (F : Hp) (As : List Addr) (env : Env) (acc : List SV) (vs : List V) (A : List Addr) : Prop where
  x : Ext F1 H1 As1 F H ((p :: A) ++ As)
  rep : Rep K F H σ env As
  at_ : H p = some (.lst vs)
  rs : RSs K F H vs acc A
  dA : p ∉ A ++ As
  fD : F p = none
  nd : (A ++ As).Nodup
  out : ∀ a ∈ A, F a = none
  sz : w.size env = some n
  as : own.all (asideB env) = true
  go : compL w n own f (n - i) i env acc = .ok (svs, env2)
theorem ri_tg {K : KW} {F H : Hp} {t : Bool} {tg : Tg} {v : V} {d : D} (h : t = true → tg.isT = true) (r : RI K t F v d) : RO K F H 0 v d [] ∨ (tg.isT = true ∧ ([] : List Addr) = [] ∧ RI K true F v d) := by
  cases t with
  | true => exact .inr ⟨h rfl, rfl, r⟩
  | false =>
    rcases r with r | ⟨e, _⟩
    · exact .inl (.zero r)
    · cases e
theorem comp_step {elt : E} {tg : Tg} {it : It} {tst : T} {own : List Nat} {Q : VK} (hpair : it.isPair = true → tg.isT = true) (ht : ∀ i ∈ tg.slots, i ∈ own) (h : tE K c (.comp elt tg it tst own) σ H Q) : tLc (tI K c it) (tG K tg []) (tT K c tst) (tE K c elt) own σ H Q := by
  obtain ⟨F, As, env, r0, env', rep, ev, post⟩ := h
  simp only [evE] at ev
  obtain ⟨⟨w, env1⟩, e1, ev⟩ := Res.bind_eq_ok.mp ev
  obtain ⟨n, e2, ev⟩ := Res.bind_eq_ok.mp ev
  have e2 := Res.ofO_eq_ok.mp e2
  simp only at ev
  split at ev
  · cases ev
  rename_i has
  replace has : own.all (asideB env1) = true := by simpa using has
  obtain ⟨⟨svs, env2⟩, e3, ev⟩ := Res.bind_eq_ok.mp ev
  cases ev
  refine ⟨F, As, env, w, env1, rep, e1, fun J F1 H1 As1 x1 rep1 itk D hD => ?_⟩
  generalize hf : (fun (d : Ck.D) (e : Env) => (do
      let e1 ← Res.ofO (setTg tg (0, d) [] e)
      let (b, e2) ← evT c tst e1
      if b then do
        let (r, e3) ← evE c elt e2
        let (sv, e4) ← Res.ofO (claim r e3)
        pure (some sv, e4)
      else pure (none, e2) : Res (Option SV × Env))) = f at e3
  have dF : F1 D = none := by
    cases q : F1 D with
    | none => rfl
    | some o => rw [rep1.le D o q] at hD; cases hD
  have dA1 : D ∉ As1 := fun z => by
    obtain ⟨o, e⟩ := rep1.there D z
    rw [e] at hD; cases hD
  have init : CI K F1 H1 As1 σ D own w n f svs env2 0 (upd H1 D (.lst [])) F1 As1 env1 [] [] [] := by
    refine ⟨⟨Le.refl, fun _ _ h => .inl h, fun a m => ?_, fun a o h _ => by rw [upd_ne (ne_of_none h hD)]; exact h⟩, ?_, upd_same, .nil, dA1, dF, rep1.nd, fun _ m => (nomatch m), e2, has, e3⟩
    · rcases List.mem_cons.mp m with m | m
      · rw [m]; exact .inr hD
      · exact .inl m
    · obtain ⟨A0, pp, r⟩ := rep1.env
      exact ⟨fun a o h => by rw [upd_ne (ne_of_none h dF)]; exact rep1.le a o h, rep1.nd, rep1.out, A0, pp, r.stay Le.refl fun a m o h => by rw [upd_ne (ne_of_none h hD)]; exact h⟩
  refine ⟨fun i m H => m = n - i ∧ i ≤ n ∧ ∃ F As env acc vs A, CI K F1 H1 As1 σ D own w n f svs env2 i H F As env acc vs A, ⟨n, rfl, Nat.zero_le _, F1, As1, env1, [], [], [], init⟩, ?_⟩
  rintro i m H2 ⟨rfl, hi, F2, As2, envi, acc, vs, A, ci⟩
  obtain ⟨stop, turn⟩ := itk σ F2 H2 envi As2 n ci.x.le (fun _ _ => rfl) ci.rep ci.sz
  by_cases hlt : i < n
  · obtain ⟨go, yld⟩ := turn i hlt
    refine .inr ⟨go, fun H => ∃ F As env acc vs A, CI K F1 H1 As1 σ D own w n f svs env2 (i + 1) H F As env acc vs A, fun H' p => ⟨n - (i + 1), by omega, rfl, hlt, p⟩, fun x H3 y => ?_⟩
    obtain ⟨d, F3, hd, x3, l3, rdx⟩ := yld x H3 y
    -- the turn in the evaluator
    have go := ci.go
    have en : n - i = (n - (i + 1)) + 1 := by omega
    rw [en] at go
    simp only [compL] at go
    obtain ⟨d', e4, go⟩ := Res.bind_eq_ok.mp go
    rw [hd] at e4
    cases e4
    obtain ⟨⟨o, envt⟩, e5, go⟩ := Res.bind_eq_ok.mp go
    simp only at go
    split at go
    rotate_left
    · cases go
    rename_i hsz
    rw [← hf] at e5
    obtain ⟨en1, e6, e5⟩ := Res.bind_eq_ok.mp e5
    have e6 := Res.ofO_eq_ok.mp e6
    obtain ⟨⟨b, en2⟩, e7, e5⟩ := Res.bind_eq_ok.mp e5
    -- the state at the turn
    have rep3 : Rep K F3 H3 σ envi As2 := ci.rep.frame x3 l3 fun _ _ m => nomatch m
    obtain ⟨B, pB, repw⟩ := wipe_rep ci.as rep3
    have hB : ∀ a ∈ B, a ∈ As2 := fun a m => pB.mem_iff.mp m
    have x3' : Ext F2 H2 As2 F3 H3 B := ⟨x3.le, fun a o h => (x3.new a o h).imp id fun h => h.elim (fun m => nomatch m) .inr, fun a m => .inl (hB a m), fun a o h _ => x3.keep a o h fun m => nomatch m⟩
    -- the own slots' data
    have own0 : ∀ j ∈ own, ∀ n d, getS envi j = some (n, d) → ∃ v, σ[j]? = some (some v) ∧ RD K F3 v d := fun j hj n d g => by
      obtain ⟨v, A', B', sv, _, ro, _⟩ := rep3.focus g
      have ha := List.all_eq_true.mp ci.as j hj
      unfold asideB at ha
      rw [g] at ha
      rw [Bool.or_eq_true, beq_iff_eq] at ha
      refine ⟨v, sv, ?_⟩
      rcases ha with h | h
      · subst h; exact ro.rd0.1
      · exact (ro.rdf (by simpa using h)).1
    refine ⟨F3, B, wipeE envi own, 0, d, [], en1, repw, ri_tg (fun z => hpair (evIt_pair e1 z)) rdx, repw.nd, fun _ m => (nomatch m), e6, fun σ2 As4 rep4 s4 a4 => ?_⟩
    have lw : (wipe σ own).length = σ2.length := by
      have h1 := repw.len
      have h2 := rep4.len
      have : (wipe σ own).length = (wipeE envi own).length := h1
      have hq : σ.length = envi.length := ci.rep.len
      have : en1.length = (wipeE envi own).length := setTg_length e6
      omega
    have lw2 : σ.length = σ2.length := by rw [← lw, wipe_length]
    have hwipe : wipe σ2 own = wipe σ own := by
      apply List.ext_getElem?
      intro j
      rw [wipe_get, wipe_get, lw2]
      by_cases hj : j ∈ own
      · by_cases hl : j < σ2.length
        · simp [hj, hl]
        · simp [hl, List.getElem?_eq_none (Nat.le_of_not_lt hl), List.getElem?_eq_none (show σ.length ≤ j by omega)]
      · have := a4 j fun z => hj (ht j z)
        rw [wipe_get] at this
        simp [hj] at this ⊢
        exact this
    have hmix : mix σ σ2 own = σ := by
      apply List.ext_getElem?
      intro j
      rw [mix_get σ σ2 lw2]
      by_cases hj : j ∈ own
      · rw [if_pos hj]
      · rw [if_neg hj, a4 j fun z => hj (ht j z), wipe_get]
        simp [hj]
    refine ⟨hwipe, F3, As4, en1, b, en2, rep4, e7, fun F5 H5 As5 x5 rep5 => ?_⟩
    have x4 : Ext F2 H2 As2 F3 H3 As4 := x3'.sub fun a m => (s4 a m).elim (fun m => nomatch m) id
    have x25 := x4.trans x5
    -- what stands apart
    have apart : ∀ {F6 H6 : Hp} {As6 : List Addr}, Ext F2 H2 As2 F6 H6 As6 → H6 D = some (.lst vs) ∧ D ∉ As6 ∧ F6 D = none ∧ (∀ a ∈ A, a ∉ As6 ∧ F6 a = none) ∧ RSs K F6 H6 vs acc A := fun x6 => by
      have h1 : D ∉ As2 := fun z => ci.dA (List.mem_append_right _ z)
      obtain ⟨p1, p2⟩ := x6.apart ⟨_, ci.at_⟩ h1 ci.fD
      have dis : ∀ a ∈ A, a ∉ As2 := fun a ha z => (List.nodup_append.mp ci.nd).2.2 a ha a z rfl
      exact ⟨x6.keep D _ ci.at_ h1, p1, p2, fun a ha => x6.apart (ci.rs.there a ha) (dis a ha) (ci.out a ha), ci.rs.stay x6.le fun a ha o h => x6.keep a o h (dis a ha)⟩
    cases b with
    | false =>
      simp only [Bool.false_eq_true, if_false] at e5 ⊢
      obtain ⟨rfl, rfl⟩ := Prod.mk.inj (Res.ok.inj e5)
      obtain ⟨As6, s6, rep6⟩ := unwipe_rep (was := envi) (own := own) lw2 (fun j hj n d g => let ⟨v, a, b⟩ := own0 j hj n d g; ⟨v, a, b.up x5.le⟩) rep5
      rw [hmix] at rep6
      have x6 : Ext F2 H2 As2 F5 H5 As6 := x25.sub s6
      obtain ⟨q1, q2, q3, q4, q5⟩ := apart x6
      refine ⟨F5, As6, _, acc, vs, A, ?_, rep6, q1, q5, ?_, q3, ?_, fun a ha => (q4 a ha).2, hsz, ?_, go⟩
      · refine ci.x.trans ⟨x6.le, fun a o h => (x6.new a o h).imp id (Or.imp (fun m => List.mem_append_right _ m) id), fun a m => ?_, fun a o h n => x6.keep a o h fun m => n (List.mem_append_right _ m)⟩
        rcases List.mem_append.mp m with m | m
        · exact .inl (List.mem_append_left _ m)
        · exact (x6.own a m).imp (fun m => List.mem_append_right _ m) id
      · intro z
        rcases List.mem_append.mp z with z | z
        · exact ci.dA (List.mem_append_left _ z)
        · exact q2 z
      · exact List.nodup_append.mpr ⟨(List.nodup_append.mp ci.nd).1, rep6.nd, fun a ha b hb e => (q4 a ha).1 (e ▸ hb)⟩
      · rw [List.all_eq_true]; exact fun j hj => unwipe_get hj
    | true =>
      simp only [if_true] at e5 ⊢
      obtain ⟨⟨r, en3⟩, e8, e5⟩ := Res.bind_eq_ok.mp e5
      obtain ⟨⟨sv, en4⟩, e9, e5⟩ := Res.bind_eq_ok.mp e5
      have e9 := Res.ofO_eq_ok.mp e9
      obtain ⟨rfl, rfl⟩ := Prod.mk.inj (Res.ok.inj e5)
      simp only at go
      split at go
      rotate_left
      · cases go
      rename_i hz
      refine ⟨F5, As5, en2, r, en3, rep5, e8, fun v F6 H6 As6 A6 x6 rep6 rr6 nd6 out6 _ => ?_⟩
      obtain ⟨F7, As7, l7, n7, s7, rep7, ro7, _⟩ := claim_ok rr6.w rep6 (fun a m => (out6 a m).1) e9
      obtain ⟨As8, s8, rep8⟩ := unwipe_rep (was := envi) (own := own) lw2 (fun j hj n d g => let ⟨v, a, b⟩ := own0 j hj n d g; ⟨v, a, b.up ((x5.le.trans x6.le).trans l7)⟩) rep7
      rw [hmix] at rep8
      have x67 : Ext F5 H5 As5 F7 H6 (A6 ++ As8) := ⟨x6.le.trans l7, fun a o h => (n7 a o h).elim (fun h => x6.new a o h) fun h => .inr (x6.own a (List.mem_append_right _ h)), fun a m => by
        rcases List.mem_append.mp m with m | m
        · exact x6.own a (List.mem_append_left _ m)
        · exact x6.own a (List.mem_append_right _ (s7 a (s8 a m))), x6.keep⟩
      have x28 := x25.trans x67
      obtain ⟨q1, q2, q3, q4, q5⟩ := apart x28
      have out7 : ∀ a ∈ A6, a ∉ As8 ∧ F7 a = none := fun a m => ⟨fun z => (out6 a m).1 (s7 a (s8 a z)), by
        cases q : F7 a with
        | none => rfl
        | some o =>
          rcases n7 a o q with h | h
          · rw [(out6 a m).2] at h; cases h
          · exact absurd h (out6 a m).1⟩
      have hD6 : D ∉ A6 := fun z => q2 (List.mem_append_left _ z)
      have hD8 : D ∉ As8 := fun z => q2 (List.mem_append_right _ z)
      have hDA : D ∉ A := fun z => ci.dA (List.mem_append_left _ z)
      have st : ∀ a, a ≠ D → ∀ o, H6 a = some o → upd H6 D (.lst (vs ++ [v])) a = some o := fun a n o h => by rw [upd_ne n]; exact h
      have ndA := (List.nodup_append.mp ci.nd).1
      refine ⟨vs, q1, by rw [q5.length]; exact hz, F7, As8, _, acc ++ [sv], vs ++ [v], A ++ A6, ?_, ?_, upd_same, ?_, ?_, q3, ?_, ?_, hsz, ?_, go⟩
      · refine ci.x.trans ⟨x28.le, fun a o h => (x28.new a o h).imp id (Or.imp (fun m => List.mem_append_right _ m) id), fun a m => ?_, fun a o h n => st a (fun z => n (by rw [z]; exact List.mem_append_left _ (List.mem_cons_self ..))) o (x28.keep a o h fun m => n (List.mem_append_right _ m))⟩
        rcases List.mem_append.mp m with m | m
        · rcases List.mem_cons.mp m with m | m
          · rw [m]; exact .inl (List.mem_append_left _ (List.mem_cons_self ..))
          · rcases List.mem_append.mp m with m | m
            · exact .inl (List.mem_append_left _ (List.mem_cons_of_mem _ m))
            · exact (x28.own a (List.mem_append_left _ m)).imp (fun m => List.mem_append_right _ m) id
        · exact (x28.own a (List.mem_append_right _ m)).imp (fun m => List.mem_append_right _ m) id
      · obtain ⟨A0, pp, r⟩ := rep8.env
        exact ⟨fun a o h => by rw [upd_ne (ne_of_none h q3)]; exact rep8.le a o h, rep8.nd, rep8.out, A0, pp, r.stay Le.refl fun a m o h => st a (fun z => hD8 (z ▸ pp.mem_iff.mp m)) o h⟩
      · have r1 := q5.stay (F' := F7) (H' := upd H6 D (.lst (vs ++ [v]))) Le.refl fun a m o h => st a (fun z => hDA (z ▸ m)) o h
        have r2 := ro7.stay (F' := F7) (H' := upd H6 D (.lst (vs ++ [v]))) Le.refl fun a m o h => st a (fun z => hD6 (z ▸ m)) o h
        exact r1.snoc r2
      · intro z
        rcases List.mem_append.mp z with z | z
        · rcases List.mem_append.mp z with z | z
          · exact hDA z
          · exact hD6 z
        · exact hD8 z
      · refine List.nodup_append.mpr ⟨List.nodup_append.mpr ⟨ndA, nd6, fun a ha b hb e => (q4 a ha).1 (by rw [e]; exact List.mem_append_left _ hb)⟩, rep8.nd, fun a ha b hb e => ?_⟩
        subst e
        rcases List.mem_append.mp ha with ha | ha
        · exact (q4 a ha).1 (List.mem_append_right _ hb)
        · exact (out7 a ha).1 hb
      · intro a ha
        rcases List.mem_append.mp ha with ha | ha
        · exact (q4 a ha).2
        · exact (out7 a ha).2
      · rw [List.all_eq_true]; exact fun j hj => unwipe_get hj
  · have e : i = n := by omega
    subst e
    refine .inl ⟨stop, ?_⟩
    have go := ci.go
    rw [Nat.sub_self] at go
    simp only [compL] at go
    rw [if_pos ci.sz] at go
    cases go
    obtain ⟨d1, d2⟩ := depOf_le (svs := svs)
    obtain ⟨m, hm⟩ : ∃ m, depOf svs = m + 1 := ⟨depOf svs - 1, by omega⟩
    obtain ⟨Z, B, z1, nd, k⟩ := ci.rs.lower ci.rep.le (m := m) fun sv h hc => by have := d1 sv h hc; omega
    obtain ⟨ndA, ndAs, dis⟩ := List.nodup_append.mp ci.nd
    obtain ⟨n1, n2⟩ := nd ndA
    have ro := k (frz F2 H2 Z) (le_frz ci.rep.le) fun a m o h => by rw [frz_in m]; exact h
    have hDA : D ∉ A := fun z => ci.dA (List.mem_append_left _ z)
    have hDs : D ∉ As2 := fun z => ci.dA (List.mem_append_right _ z)
    have hDZ : D ∉ Z := fun z => hDA ((z1 D).mpr (.inl z))
    have hDB : D ∉ B := fun z => hDA ((z1 D).mpr (.inr z))
    have xx : Ext F1 H1 As1 (frz F2 H2 Z) H2 ((D :: B) ++ As2) := by
      refine ⟨ci.x.le.trans (le_frz ci.rep.le), fun a o h => ?_, fun a m => ?_, ci.x.keep⟩
      · rcases frz_new h with h | h
        · exact ci.x.new a o h
        · exact .inr (ci.x.own a (List.mem_append_left _ (List.mem_cons_of_mem _ ((z1 a).mpr (.inl h)))))
      · rcases List.mem_append.mp m with m | m
        · rcases List.mem_cons.mp m with m | m
          · rw [m]; exact ci.x.own D (List.mem_append_left _ (List.mem_cons_self ..))
          · exact ci.x.own a (List.mem_append_left _ (List.mem_cons_of_mem _ ((z1 a).mpr (.inr m))))
        · exact ci.x.own a (List.mem_append_right _ m)
    have rep9 : Rep K (frz F2 H2 Z) H2 σ env2 As2 := by
      obtain ⟨A0, pp, r⟩ := ci.rep.env
      exact ⟨frz_le ci.rep.le, ci.rep.nd, fun a m => by rw [frz_out fun z => dis a ((z1 a).mpr (.inl z)) a m rfl]; exact ci.rep.out a m, A0, pp, r.stay (le_frz ci.rep.le) fun _ _ _ h => h⟩
    refine post (.ref D) _ H2 As2 (D :: B) (x1.trans xx) rep9 ?_ (List.nodup_cons.mpr ⟨hDB, n1⟩) (fun a m => ?_) fun s => by simp [E.still] at s
    · show RO K _ _ (depOf svs) _ _ _
      rw [hm]
      exact .lst ci.at_ ro
    · rcases List.mem_cons.mp m with m | m
      · rw [m, frz_out hDZ]; exact ⟨hDs, ci.fD⟩
      · rw [frz_out fun z => n2 a z m]
        exact ⟨fun z => dis a ((z1 a).mpr (.inr m)) a z rfl, ci.out a ((z1 a).mpr (.inr m))⟩
end Ck

set_option Elab.async false
set_option linter.all false
set_option maxRecDepth 100000
/-! Ck20: expressions, tests, sources all together. -/
namespace Ck
open PySem PySem.Spec PyProof.Rows L2
def ownOf (N : List Str) (own : List Nat) : List (Str × Nat) := own.map fun i => (N.getD i "", i)
def blkS (S : Ss) (scope : Scope) (own : List Nat) : Ss := { S with sc := relS scope S.sc, st := (ownOf S.N own).map (·.1) }
def stoB (S : Ss) (scope : Scope) (x : Str) : Bool :=
  decide ((relS scope S.sc).names.lookup x = some .local) || (decide ((relS scope S.sc).names.lookup x = some .cell) && decide (scope.names.lookup x = some .cell))
def T.isTT : T → Bool
  | .tt => true
  | _ => false
def chkComp (f : Ck) (tg : Tg) (fi : CkI) (ft : Ck) (tt : Bool) (own : List Nat) (S : Ss) : Expr → Bool
  | .ListComp e [⟨t, iter, ifs, a⟩] scope _ => decide (a = 0) && blkC S.N S.sc scope (ownOf S.N own) && ((ownOf S.N own).all fun p => stoB S scope p.1) && tg.slots.all (fun i => decide (i ∈ own)) && fi S t iter && chkTg tg (blkS S scope own) t &&
      (match ifs with | [] => tt | [d] => ft (blkS S scope own) d | _ => false) && f (blkS S scope own) e
  | _ => false
mutual
def chkE : E → Ck
  | .cst d => fun _ e => (match e with | .Constant k _ _ => cstB k d | _ => false)
  | .glo x d => fun S e => (match e with | .Name y _ => decide (y = x) && glB S.sc y && !dbgB y && csB S.cs x d | _ => false)
  | .var i => fun S e => (match e with | .Name x _ => decide (S.N[i]? = some x) && visB S.sc x && !dbgB x | _ => false)
  | .op o l => chkOp o (chkEs l)
  | .met k o a l => chkMet k o (chkE a) (chkEs l)
  | .slc a lo hi => chkSlc (chkE a) (chkE lo) (chkE hi)
  | .tupd l => fun S e => (match e with | .Tuple es _ _ => chkAll S (chkEs l) es | _ => false)
  | .lstd l => fun S e => (match e with | .List es _ => chkAll S (chkEs l) es | _ => false)
  | .call f l => chkCall f (chkEs l)
  | .comp elt tg it tst own => chkComp (chkE elt) tg (chkI it) (chkT tst) tst.isTT own
  | .mut i m l => chkMut i m (chkEs l)
  | .mutI i j m l => chkMutI i (chkE j) m (chkEs l)
  | .ifx t a b => chkIfx (chkT t) (chkE a) (chkE b)
  | .bop k a b => chkBop k (chkE a) (chkE b)
termination_by structural x => x
def chkEs : List E → List Ck
  | [] => []
  | e :: es => chkE e :: chkEs es
termination_by structural x => x
def chkT : T → Ck
  | .tt => fun _ _ => false
  | .cmp o a b => chkTC o (chkE a) (chkE b)
  | .chn o o' a b e => chkTCh o o' (chkE a) (chkE b) (chkE e)
  | .conj a b => chkTB true (chkT a) (chkT b)
  | .disj a b => chkTB false (chkT a) (chkT b)
  | .not a => chkTNot (chkT a)
  | .isn k a => chkTN k (chkE a)
  | .val e => fun S a => plainTest a && chkE e S a
termination_by structural x => x
def chkI : It → CkI
  | .seq e => fun S _ a => chkSeq (chkE e) S a
  | .rng1 e => fun S _ a => chkR1 (chkE e) S a
  | .rng2 e f => fun S _ a => chkR2 (chkE e) (chkE f) S a
  | .rng3 e f g => fun S _ a => chkR3 (chkE e) (chkE f) (chkE g) S a
  | .enum e => fun S t a => isTup t && chkN1 "enumerate" (chkE e) S a
  | .zip e f => fun S t a => isTup t && chkZip (chkE e) (chkE f) S a
  | .rev e => fun S _ a => chkN1 "reversed" (chkE e) S a
termination_by structural x => x
end
variable {c : Cal}
theorem blk_ok {S : Ss} {X : Cx} {scope : Scope} {own : List Nat} (ok : XOk S X) (h : ((ownOf S.N own).all fun p => stoB S scope p.1) = true) (s : Shared) (H : Hp) (C : Addr) (cl : List (Str × Addr)) (fp : List Addr) : XOk (blkS S scope own) (X.blk s H scope (compEnvC scope cl C X.env) fp) := by
  have hsc : (X.blk s H scope (compEnvC scope cl C X.env) fp).env.scope = relS scope S.sc := by
    show relS scope X.env.scope = _
    rw [ok.sc]
  refine ⟨ok.N, hsc, ok.nd, ok.calm, ok.hu, fun x hx => ?_, ok.cs, ok.bl⟩
  obtain ⟨p, hp, rfl⟩ := List.mem_map.mp hx
  have := List.all_eq_true.mp h p hp
  unfold stoB at this
  simp only [Bool.or_eq_true, Bool.and_eq_true, decide_eq_true_eq] at this
  rcases this with h | ⟨h, h2⟩
  · exact ⟨.inl h, .inr (by rw [hsc]; exact h)⟩
  · exact ⟨.inr h, .inl (by show (scope.names.lookup p.1 == some .cell) = true; rw [h2]; rfl)⟩
theorem blk_cok {S : Ss} {X : Cx} {scope : Scope} {own : List Nat} (co : COk S X c) (s : Shared) (H : Hp) (C : Addr) (cl : List (Str × Addr)) (fp : List Addr) : COk (blkS S scope own) (X.blk s H scope (compEnvC scope cl C X.env) fp) c := ⟨co.len, co.cal⟩
def GoodA (c : Cal) (f : Ck) (e : E) : Prop := ∀ S X, XOk S X → COk S X c → Good S X c f e
def GoodTA (c : Cal) (f : Ck) (e : T) : Prop := ∀ S X, XOk S X → COk S X c → GoodT S X c f e
def GoodIA (c : Cal) (f : CkI) (e : It) : Prop := ∀ S X, XOk S X → COk S X c → GoodI S X c f e
theorem ptsWeak {X : Cx} {e : List Expr} {t t' : TT} (h : PTs X e t) (w : ∀ σ H Q, t' σ H Q → t σ H Q) : PTs X e t' := ⟨fun pins s σ H Q I q => h.run pins s σ H Q I (w σ H Q q)⟩
theorem tt_step {K : KW} {σ : Sg} {H : Hp} {Q : Bool → Hp → Prop} (h : tT K c .tt σ H Q) : Q true H := by
  obtain ⟨F, As, env, k0, env', rep, ev, post⟩ := h
  simp only [evT] at ev
  cases ev
  exact post F H As Ext.refl rep
theorem own_snd {N : List Str} {own : List Nat} : (ownOf N own).map (·.2) = own := by
  unfold ownOf
  rw [List.map_map]
  exact List.map_id own
/-- the parts of a comprehension -/
theorem comp_bits {S : Ss} {X : Cx} {f : Ck} {tg : Tg} {fi : CkI} {ft : Ck} {own : List Nat} {elt : E} {it : It} {tst : T} {e : Expr} (ok : XOk S X) (co : COk S X c) (hf : GoodA c f elt) (hi : GoodIA c fi it) (ht : GoodTA c ft tst) (h : chkComp f tg fi ft tst.isTT own S e = true) :
    ∃ e' t iter ifs scope pos, e = .ListComp e' [⟨t, iter, ifs, 0⟩] scope pos ∧ (∃ S', fi S t iter = true ∧ chkTg tg S' t = true) ∧ PI X t iter (tI X.kw c it) ∧ BlkOk X.N X.env.scope scope (ownOf S.N own) ∧ (∀ i ∈ tg.slots, i ∈ own) ∧
      (∀ (s : Shared) (H : Hp) (C : Addr) (cl : List (Str × Addr)) (fp : List Addr), PG (X.blk s H scope (compEnvC scope cl C X.env) fp) t (tG X.kw tg [])) ∧
      (∀ (s : Shared) (H : Hp) (C : Addr) (cl : List (Str × Addr)) (fp : List Addr), PTs (X.blk s H scope (compEnvC scope cl C X.env) fp) ifs (tT X.kw c tst)) ∧
      (∀ (s : Shared) (H : Hp) (C : Addr) (cl : List (Str × Addr)) (fp : List Addr), PE (X.blk s H scope (compEnvC scope cl C X.env) fp) e' (tE X.kw c elt)) ∧ ∀ x, foldedSetIterable iter X.env x = pure x := by
  unfold chkComp at h
  split at h
  · rename_i e' t iter ifs a scope pos
    simp only [Bool.and_eq_true, decide_eq_true_eq] at h
    obtain ⟨⟨⟨⟨⟨⟨⟨rfl, h1⟩, h2⟩, h3⟩, h4⟩, h5⟩, h6⟩, h7⟩ := h
    obtain ⟨pi, hfold⟩ := hi S X ok co t iter h4
    refine ⟨e', t, iter, ifs, scope, pos, rfl, ⟨_, h4, h5⟩, pi, ?_, fun i hi => by have := List.all_eq_true.mp h3 i hi; simpa using this, fun s H C cl fp => ?_, fun s H C cl fp => ?_, fun s H C cl fp => ?_, hfold⟩
    · rw [ok.N, ok.sc]; exact blkOk_by h1
    · exact snd_tg (blk_ok ok h2 s H C cl fp) tg t [] h5
    · split at h6
      · refine ptsWeak pts_nil fun σ H Q z => ?_
        cases tst <;> first | cases h6; done | skip
        exact tt_step z
      · exact pts_one (ht _ _ (blk_ok ok h2 s H C cl fp) (blk_cok co s H C cl fp) _ h6)
      · cases h6
    · exact hf _ _ (blk_ok ok h2 s H C cl fp) (blk_cok co s H C cl fp) _ h7
  · cases h
theorem tg_isT {tg : Tg} {S : Ss} {t : Expr} (h : chkTg tg S t = true) (ht : isTup t = true) : tg.isT = true := by
  cases tg with
  | tup _ => rfl
  | nm i =>
    cases t <;> first | (cases ht; done) | skip
    simp [chkTg] at h
theorem chkI_pair {it : It} {S : Ss} {t i : Expr} (h : chkI it S t i = true) (hp : it.isPair = true) : isTup t = true := by
  cases it <;> first | (cases hp; done) | skip
  all_goals
    simp only [chkI, Bool.and_eq_true] at h
    exact h.1
theorem snd_comp {S : Ss} {X : Cx} {f : Ck} {tg : Tg} {fi : CkI} {ft : Ck} {own : List Nat} {elt : E} {it : It} {tst : T} {e : Expr} (ok : XOk S X) (co : COk S X c) (hf : GoodA c f elt) (hi : GoodIA c fi it) (ht : GoodTA c ft tst) (hpair : ∀ t i, fi S t i = true → it.isPair = true → isTup t = true) (h : chkComp f tg fi ft tst.isTT own S e = true) : PE X e (tE X.kw c (.comp elt tg it tst own)) := by
  obtain ⟨e', t, iter, ifs, scope, pos, rfl, ⟨S', q1, q2⟩, pi, bo, hs, pg, pt, pe, fo⟩ := comp_bits ok co hf hi ht h
  refine PE.weak (pe_lc ok.calm (by rw [ok.N]; exact ok.nd) pi bo pg pt pe fo) fun σ H Q z => ?_
  rw [own_snd]
  exact comp_step (fun z => tg_isT q2 (hpair _ _ q1 z)) hs z
mutual
theorem sndE (c : Cal) : ∀ e : E, GoodA c (chkE e) e
  | .cst d => fun S X ok co a h => by
    simp only [chkE] at h
    split at h
    · exact snd_cst h
    · cases h
  | .glo x d => fun S X ok co a h => by
    simp only [chkE] at h
    split at h
    · exact snd_glo ok h
    · cases h
  | .var i => fun S X ok co a h => by
    simp only [chkE] at h
    split at h
    · exact snd_var ok h
    · cases h
  | .op o l => fun S X ok co a h => by
    simp only [chkE] at h
    exact snd_op ok (sndEs c l S X ok co) h
  | .met k o a l => fun S X ok co b h => by
    simp only [chkE] at h
    exact snd_met ok (sndE c a S X ok co) (sndEs c l S X ok co) h
  | .slc a lo hi => fun S X ok co b h => by
    simp only [chkE] at h
    exact snd_slc (sndE c a S X ok co) (sndE c lo S X ok co) (sndE c hi S X ok co) h
  | .tupd l => fun S X ok co a h => by
    simp only [chkE] at h
    split at h
    · exact snd_tupd (sndEs c l S X ok co) h
    · cases h
  | .lstd l => fun S X ok co a h => by
    simp only [chkE] at h
    split at h
    · exact snd_lstd (sndEs c l S X ok co) h
    · cases h
  | .call f l => fun S X ok co a h => by
    simp only [chkE] at h
    exact snd_call ok co (sndEs c l S X ok co) h
  | .comp elt tg it tst own => fun S X ok co a h => by
    simp only [chkE] at h
    exact snd_comp ok co (sndE c elt) (sndI c it) (sndT c tst) (fun t i => chkI_pair) h
  | .mut i m l => fun S X ok co a h => by
    simp only [chkE] at h
    exact snd_mut ok (sndEs c l S X ok co) h
  | .mutI i j m l => fun S X ok co a h => by
    simp only [chkE] at h
    exact snd_mutI ok (sndE c j S X ok co) (sndEs c l S X ok co) h
  | .ifx t a b => fun S X ok co e h => by
    simp only [chkE] at h
    exact snd_ifx (sndT c t S X ok co) (sndE c a S X ok co) (sndE c b S X ok co) h
  | .bop k a b => fun S X ok co e h => by
    simp only [chkE] at h
    exact snd_bop (sndE c a S X ok co) (sndE c b S X ok co) h
termination_by structural x => x
theorem sndEs (c : Cal) : ∀ l : List E, ∀ S X, XOk S X → COk S X c → Paired (Good S X c) (chkEs l) l
  | [] => fun S X ok co => .nil
  | e :: es => fun S X ok co => .cons (sndE c e S X ok co) (sndEs c es S X ok co)
termination_by structural x => x
theorem sndT (c : Cal) : ∀ t : T, GoodTA c (chkT t) t
  | .tt => fun S X ok co a h => by
    simp only [chkT] at h
    cases h
  | .cmp o a b => fun S X ok co e h => by
    simp only [chkT] at h
    exact snd_tc ok (sndE c a S X ok co) (sndE c b S X ok co) h
  | .chn o o' a b d => fun S X ok co e h => by
    simp only [chkT] at h
    exact snd_tch ok (sndE c a S X ok co) (sndE c b S X ok co) (sndE c d S X ok co) h
  | .conj a b => fun S X ok co e h => by
    simp only [chkT] at h
    exact snd_tb (k := true) (sndT c a S X ok co) (sndT c b S X ok co) h
  | .disj a b => fun S X ok co e h => by
    simp only [chkT] at h
    exact snd_tb (k := false) (sndT c a S X ok co) (sndT c b S X ok co) h
  | .not a => fun S X ok co e h => by
    simp only [chkT] at h
    exact snd_tnot (sndT c a S X ok co) h
  | .isn k a => fun S X ok co e h => by
    simp only [chkT] at h
    exact snd_tn ok (sndE c a S X ok co) h
  | .val a => fun S X ok co e h => by
    simp only [chkT] at h
    exact snd_tval (sndE c a S X ok co) h
termination_by structural x => x
theorem sndI (c : Cal) : ∀ i : It, GoodIA c (chkI i) i
  | .seq a => fun S X ok co tg e h => by
    simp only [chkI] at h
    exact snd_seq (sndE c a S X ok co) h
  | .rng1 a => fun S X ok co tg e h => by
    simp only [chkI] at h
    exact snd_r1 ok (sndE c a S X ok co) h
  | .rng2 a b => fun S X ok co tg e h => by
    simp only [chkI] at h
    exact snd_r2 ok (sndE c a S X ok co) (sndE c b S X ok co) h
  | .rng3 a b d => fun S X ok co tg e h => by
    simp only [chkI] at h
    exact snd_r3 ok (sndE c a S X ok co) (sndE c b S X ok co) (sndE c d S X ok co) h
  | .enum a => fun S X ok co tg e h => by
    simp only [chkI, Bool.and_eq_true] at h
    exact snd_enum ok h.1 (sndE c a S X ok co) h.2
  | .zip a b => fun S X ok co tg e h => by
    simp only [chkI, Bool.and_eq_true] at h
    exact snd_zip ok h.1 (sndE c a S X ok co) (sndE c b S X ok co) h.2
  | .rev a => fun S X ok co tg e h => by
    simp only [chkI] at h
    exact snd_revI ok (sndE c a S X ok co) h
termination_by structural x => x
end
end Ck

set_option Elab.async false
set_option linter.all false
set_option maxRecDepth 100000
/-! Ck21: statements. -/
namespace Ck
open PySem PySem.Spec PyProof.Rows L2
variable {K : KW} {F F' H H' : Hp} {σ : Sg} {env env' : Env} {As As' : List Addr} {c : Cal}

def PostS (K : KW) (F H : Hp) (σ : Sg) (As : List Addr) (pin : List Nat) (o : Out) (D : Ends) : Prop :=
  match o with
  | .nx env' => ∀ σ' F' H' As', Ext F H As F' H' As' → Rep K F' H' σ' env' As' → (∀ i ∈ pin, σ'[i]? = σ[i]?) → D.nx σ' H'
  | .ct env' => ∀ σ' F' H' As', Ext F H As F' H' As' → Rep K F' H' σ' env' As' → (∀ i ∈ pin, σ'[i]? = σ[i]?) → D.ct σ' H'
  | .bk env' => ∀ σ' F' H' As', Ext F H As F' H' As' → Rep K F' H' σ' env' As' → (∀ i ∈ pin, σ'[i]? = σ[i]?) → D.bk σ' H'
  | .rt r env' => ∀ v σ' F' H' As' Ar, Ext F H As F' H' (Ar ++ As') → Rep K F' H' σ' env' As' → RO K F' H' r.1 v r.2 Ar → (Ar ++ As').Nodup → (∀ a ∈ Ar, F' a = none) → (∀ i ∈ pin, σ'[i]? = σ[i]?) → D.rt v H'
theorem PostS.shift {pin : List Nat} {o : Out} {D : Ends} {F1 H1 : Hp} {σ1 : Sg} {As1 : List Addr} (h : PostS K F H σ As pin o D) (x : Ext F H As F1 H1 As1) (hs : ∀ i ∈ pin, σ1[i]? = σ[i]?) : PostS K F1 H1 σ1 As1 pin o D := by
  cases o with
  | nx e => exact fun σ' F' H' As' x' r p => h σ' F' H' As' (x.trans x') r fun i hi => (p i hi).trans (hs i hi)
  | ct e => exact fun σ' F' H' As' x' r p => h σ' F' H' As' (x.trans x') r fun i hi => (p i hi).trans (hs i hi)
  | bk e => exact fun σ' F' H' As' x' r p => h σ' F' H' As' (x.trans x') r fun i hi => (p i hi).trans (hs i hi)
  | rt r e => exact fun v σ' F' H' As' Ar x' r ro nd out p => h v σ' F' H' As' Ar (x.trans x') r ro nd out fun i hi => (p i hi).trans (hs i hi)
theorem PostS.pins {pin pin' : List Nat} {o : Out} {D : Ends} (h : PostS K F H σ As pin o D) (hp : ∀ i ∈ pin, i ∈ pin') : PostS K F H σ As pin' o D := by
  cases o with
  | nx e => exact fun σ' F' H' As' x' r p => h σ' F' H' As' x' r fun i hi => p i (hp i hi)
  | ct e => exact fun σ' F' H' As' x' r p => h σ' F' H' As' x' r fun i hi => p i (hp i hi)
  | bk e => exact fun σ' F' H' As' x' r p => h σ' F' H' As' x' r fun i hi => p i (hp i hi)
  | rt r e => exact fun v σ' F' H' As' Ar x' r ro nd out p => h v σ' F' H' As' Ar x' r ro nd out fun i hi => p i (hp i hi)
def tS (K : KW) (c : Cal) (s : S) (pin : List Nat) : TS := fun D σ H => ∃ F As env o, Rep K F H σ env As ∧ evS c s pin env = .ok o ∧ PostS K F H σ As pin o D
def tSs (K : KW) (c : Cal) (s : List S) (pin : List Nat) : TS := fun D σ H => ∃ F As env o, Rep K F H σ env As ∧ evSs c s pin env = .ok o ∧ PostS K F H σ As pin o D

def tGx (K : KW) (t : Tg) : TG := fun v σ H Q => ∃ pin, tG K t pin v σ H Q
def tSsx (K : KW) (c : Cal) (s : List S) : TS := fun D σ H => ∃ pin, tSs K c s pin D σ H
variable {pin : List Nat} {D : Ends}
theorem ss_nil (h : tSs K c [] pin D σ H) : tNext D σ H := by
  obtain ⟨F, As, env, o, rep, ev, post⟩ := h
  simp only [evSs] at ev
  cases ev
  exact post σ F H As Ext.refl rep fun _ _ => rfl
theorem ss_cons {s : S} {ss : List S} (h : tSs K c (s :: ss) pin D σ H) : tSeq (tS K c s pin) (tSs K c ss pin) D σ H := by
  obtain ⟨F, As, env, o, rep, ev, post⟩ := h
  simp only [evSs] at ev
  obtain ⟨o1, e1, ev⟩ := Res.bind_eq_ok.mp ev
  refine ⟨F, As, env, o1, rep, e1, ?_⟩
  cases o1 with
  | nx env1 => exact fun σ' F' H' As' x r p => ⟨F', As', env1, o, r, ev, post.shift x p⟩
  | ct env1 => cases ev; exact post
  | bk env1 => cases ev; exact post
  | rt r env1 => cases ev; exact post
theorem exp_step {e : E} (h : tS K c (.exp e) pin D σ H) : tDrop (tE K c e) D σ H := by
  obtain ⟨F, As, env, o, rep, ev, post⟩ := h
  simp only [evS] at ev
  obtain ⟨⟨r, env1⟩, e1, ev⟩ := Res.bind_eq_ok.mp ev
  cases ev
  exact ⟨F, As, env, r, env1, rep, e1, fun v F1 H1 As1 A1 x1 rep1 rr1 nd1 out1 q1 => post σ F1 H1 As1 (x1.sub fun a m => List.mem_append_right _ m) rep1 fun _ _ => rfl⟩
theorem ret_step {e : E} (h : tS K c (.ret e) pin D σ H) : tRet (tE K c e) D σ H := by
  obtain ⟨F, As, env, o, rep, ev, post⟩ := h
  simp only [evS] at ev
  obtain ⟨⟨r, env1⟩, e1, ev⟩ := Res.bind_eq_ok.mp ev
  obtain ⟨⟨sv, env2⟩, e2, ev⟩ := Res.bind_eq_ok.mp ev
  have e2 := Res.ofO_eq_ok.mp e2
  cases ev
  refine ⟨F, As, env, r, env1, rep, e1, fun v F1 H1 As1 A1 x1 rep1 rr1 nd1 out1 q1 => ?_⟩
  unfold retR at e2
  have rr0 := rr1
  split at e2
  · rename_i hs
    cases e2
    rw [RR, hs] at rr1
    exact post v σ F1 H1 As1 A1 x1 rep1 rr1 (List.nodup_append.mpr ⟨nd1, rep1.nd, fun a ha b hb e => (out1 a ha).1 (e ▸ hb)⟩) (fun a m => (out1 a m).2) fun _ _ => rfl
  · rename_i i hs
    rw [RR, hs] at rr1
    obtain ⟨rfl, sv1, g⟩ := rr1
    split at e2
    · cases e2
      obtain ⟨w, F2, As2, s2, l2, n2, o2, rep2, rd⟩ := rep1.share g
      rw [sv1] at s2; cases s2
      refine post v σ F2 H1 As2 [] ⟨x1.le.trans l2, fun a o h => (n2 a o h).elim (fun h => x1.new a o h) fun h => .inr (x1.own a h), fun a m => x1.own a (o2 a m), x1.keep⟩ rep2 (.zero rd) rep2.nd (fun _ m => nomatch m) fun _ _ => rfl
    · cases e2
      obtain ⟨w, A, B, s2, pm, ro, rep2⟩ := rep1.focus g
      rw [sv1] at s2; cases s2
      exact post v σ F1 H1 B A (x1.sub fun a m => pm.mem_iff.mpr m) rep2 ro ((pm.nodup_iff).mp rep1.nd) (fun a m => rep1.out a (pm.mem_iff.mpr (List.mem_append_left _ m))) fun _ _ => rfl
  · cases e2
theorem retN_step (h : tS K c .retN pin D σ H) : tRetN D σ H := by
  obtain ⟨F, As, env, o, rep, ev, post⟩ := h
  simp only [evS] at ev
  cases ev
  exact post .non σ F H As [] Ext.refl rep (.zero .non) rep.nd (fun _ m => nomatch m) fun _ _ => rfl
/-- a value that was taken, for a store -/
theorem claim_post {F1 H1 : Hp} {As1 A1 : List Addr} {env1 env2 : Env} {v : V} {r : R} {sv : SV} (x1 : Ext F H As F1 H1 (A1 ++ As1)) (rep1 : Rep K F1 H1 σ env1 As1) (rr1 : RR K F1 H1 σ env1 As1 v r A1) (nd1 : A1.Nodup) (out1 : ∀ a ∈ A1, a ∉ As1 ∧ F1 a = none) (e : claim r env1 = some (sv, env2)) :
    ∃ F2 As2, Ext F H As F2 H1 (A1 ++ As2) ∧ Rep K F2 H1 σ env2 As2 ∧ RO K F2 H1 sv.1 v sv.2 A1 ∧ (A1 ++ As2).Nodup ∧ (∀ a ∈ A1, F2 a = none) := by
  obtain ⟨F2, As2, l2, n2, o2, rep2, ro, _⟩ := claim_ok rr1.w rep1 (fun a m => (out1 a m).1) e
  refine ⟨F2, As2, ⟨x1.le.trans l2, fun a o h => (n2 a o h).elim (fun h => x1.new a o h) fun h => .inr (x1.own a (List.mem_append_right _ h)), fun a m => ?_, x1.keep⟩, rep2, ro, List.nodup_append.mpr ⟨nd1, rep2.nd, fun a ha b hb e => (out1 a ha).1 (e ▸ o2 b hb)⟩, fun a m => ?_⟩
  · rcases List.mem_append.mp m with m | m
    · exact x1.own a (List.mem_append_left _ m)
    · exact x1.own a (List.mem_append_right _ (o2 a m))
  · cases q : F2 a with
    | none => rfl
    | some o =>
      rcases n2 a o q with h | h
      · rw [(out1 a m).2] at h; cases h
      · exact absurd h (out1 a m).1
theorem set_step {i : Nat} {e : E} (h : tS K c (.set i e) pin D σ H) : tE K c e σ H fun v H1 => D.nx (σ.set i (some v)) H1 := by
  obtain ⟨F, As, env, o, rep, ev, post⟩ := h
  simp only [evS] at ev
  obtain ⟨⟨r, env1⟩, e1, ev⟩ := Res.bind_eq_ok.mp ev
  obtain ⟨⟨sv, env2⟩, e2, ev⟩ := Res.bind_eq_ok.mp ev
  obtain ⟨env3, e3, ev⟩ := Res.bind_eq_ok.mp ev
  have e2 := Res.ofO_eq_ok.mp e2
  have e3 := Res.ofO_eq_ok.mp e3
  cases ev
  refine ⟨F, As, env, r, env1, rep, e1, fun v F1 H1 As1 A1 x1 rep1 rr1 nd1 out1 q1 => ?_⟩
  obtain ⟨F2, As2, x2, rep2, ro, nd, out⟩ := claim_post x1 rep1 rr1 nd1 out1 e2
  simp only [setTg] at e3
  split at e3
  · cases e3
  rename_i hc
  rw [not_or] at hc
  cases e3
  obtain ⟨B, hB, rep3⟩ := rep2.store (Nat.lt_of_not_le hc.2) ro nd out
  exact post _ F2 H1 B (x2.sub fun a m => List.mem_append.mpr (hB a m)) rep3 fun j hj => by
    rw [List.getElem?_set_ne]
    exact fun z => hc.1 (z ▸ hj)
theorem setT_step {tg : Tg} {e : E} (h : tS K c (.setT tg e) pin D σ H) : tAsg (tE K c e) (tG K tg pin) D σ H := by
  obtain ⟨F, As, env, o, rep, ev, post⟩ := h
  simp only [evS] at ev
  obtain ⟨⟨r, env1⟩, e1, ev⟩ := Res.bind_eq_ok.mp ev
  obtain ⟨⟨sv, env2⟩, e2, ev⟩ := Res.bind_eq_ok.mp ev
  obtain ⟨env3, e3, ev⟩ := Res.bind_eq_ok.mp ev
  have e2 := Res.ofO_eq_ok.mp e2
  have e3 := Res.ofO_eq_ok.mp e3
  cases ev
  refine ⟨F, As, env, r, env1, rep, e1, fun v F1 H1 As1 A1 x1 rep1 rr1 nd1 out1 q1 => ?_⟩
  obtain ⟨F2, As2, x2, rep2, ro, nd, out⟩ := claim_post x1 rep1 rr1 nd1 out1 e2
  refine ⟨F2, As2, env2, sv.1, sv.2, A1, env3, rep2, .inl ro, nd, out, e3, fun σ' As' r1 r2 r3 => ?_⟩
  exact post σ' F2 H1 As' (x2.sub fun a m => List.mem_append.mpr (r2 a m)) r1 fun j hj => r3 j fun z => setTg_pin tg sv pin env2 env3 e3 j z hj
/-- several stores in a row -/
def setAll : List (Nat × SV) → List Nat → Option Env → Option Env := fun l pin o => l.foldl (fun (o : Option Env) (p : Nat × SV) => o.bind fun en => setTg (.nm p.1) p.2 pin en) o
theorem setAll_none {l : List (Nat × SV)} : setAll l pin none = none := by
  induction l with
  | nil => rfl
  | cons p l ih => exact ih
def sgAll : List (Nat × V) → Sg → Sg
  | [], σ => σ
  | (i, v) :: l, σ => sgAll l (σ.set i (some v))
theorem set_all : ∀ {vs : List V} {svs : List SV} {A : List Addr} {is : List Nat} {σ : Sg} {env env' : Env} {As : List Addr}, RSs K F H vs svs A → is.length = svs.length → Rep K F H σ env As → (A ++ As).Nodup → (∀ a ∈ A, F a = none) → setAll (is.zip svs) pin (some env) = some env' →
    ∃ B, (∀ a ∈ B, a ∈ A ∨ a ∈ As) ∧ Rep K F H (sgAll (is.zip vs) σ) env' B ∧ ∀ j ∈ pin, (sgAll (is.zip vs) σ)[j]? = σ[j]?
  | _, _, _, [], σ, env, env', As, .nil, _, rep, _, _, e => by
    cases e
    exact ⟨As, fun _ m => .inr m, rep, fun _ _ => rfl⟩
  | _, _, _, i :: is, σ, env, env', As, .cons (v := v) (vs := vs) (n := n) (d := d) (A := A1) (B := A2) ro t, hl, rep, nd, out, e => by
    have e' : setAll (is.zip _) pin ((some env).bind fun en => setTg (.nm i) (n, d) pin en) = some env' := e
    cases q : setTg (.nm i) (n, d) pin env with
    | none =>
      rw [show ((some env).bind fun en => setTg (.nm i) (n, d) pin en) = none from q, setAll_none] at e'
      cases e'
    | some env1 =>
      rw [show ((some env).bind fun en => setTg (.nm i) (n, d) pin en) = some env1 from q] at e'
      simp only [setTg] at q
      split at q
      · cases q
      rename_i hc
      rw [not_or] at hc
      cases q
      rw [List.append_assoc] at nd
      obtain ⟨n1, n2, n3⟩ := List.nodup_append.mp nd
      obtain ⟨n4, n5, n6⟩ := List.nodup_append.mp n2
      obtain ⟨B, hB, rep1⟩ := rep.store (Nat.lt_of_not_le hc.2) ro (List.nodup_append.mpr ⟨n1, n5, fun a ha b hb => n3 a ha b (List.mem_append_right _ hb)⟩) fun a m => out a (List.mem_append_left _ m)
      obtain ⟨C, hC, rep2, hp⟩ := set_all t (Nat.succ.inj hl) rep1 (List.nodup_append.mpr ⟨n4, rep1.nd, fun a ha b hb e => by
        subst e
        rcases hB a hb with h | h
        · exact n3 a h a (List.mem_append_left _ ha) rfl
        · exact n6 a ha a h rfl⟩) (fun a m => out a (List.mem_append_right _ m)) e'
      refine ⟨C, fun a m => ?_, rep2, fun j hj => ?_⟩
      · rcases hC a m with h | h
        · exact .inl (List.mem_append_right _ h)
        · exact (hB a h).imp (fun h => List.mem_append_left _ h) id
      · show (sgAll (is.zip vs) (σ.set i (some v)))[j]? = _
        rw [hp j hj, List.getElem?_set_ne (by intro z; subst z; exact hc.1 hj)]
theorem par_step {is : List Nat} {es : List E} (h : tS K c (.par is es) pin D σ H) : tEs K c es σ H fun vs H1 => vs.length = is.length ∧ D.nx (sgAll (is.zip vs) σ) H1 := by
  obtain ⟨F, As, env, o, rep, ev, post⟩ := h
  simp only [evS] at ev
  obtain ⟨⟨rs, env1⟩, e1, ev⟩ := Res.bind_eq_ok.mp ev
  obtain ⟨⟨svs, env2⟩, e2, ev⟩ := Res.bind_eq_ok.mp ev
  obtain ⟨env3, e3, ev⟩ := Res.bind_eq_ok.mp ev
  have e2 := Res.ofO_eq_ok.mp e2
  have e3 := Res.ofO_eq_ok.mp e3
  simp only at ev
  split at ev
  rotate_left
  · cases ev
  rename_i hl
  cases ev
  refine ⟨F, As, env, rs, env1, rep, e1, fun vs F1 H1 As1 A1 x1 rep1 rr1 nd1 out1 q1 => ?_⟩
  obtain ⟨F2, As2, q⟩ := claims_post ⟨x1, rep1, rr1, nd1, out1, q1⟩ e2
  obtain ⟨B, hB, rep2, hp⟩ := set_all q.rs hl q.rep (List.nodup_append.mpr ⟨q.nd, q.rep.nd, fun a ha b hb e => (q.out a ha).1 (e ▸ hb)⟩) (fun a m => (q.out a m).2) e3
  exact ⟨by rw [q.rs.length, hl], post _ F2 H1 B (q.x.sub fun a m => List.mem_append.mpr (hB a m)) rep2 hp⟩
/-- name op= value -/
def rAug : Op → TIp
  | .add => fun x y H Q => (∃ i j, x = .int i ∧ y = .int j ∧ Q (.int (i + j)) H) ∨ ∃ i j, x = .str i ∧ y = .str j ∧ i.length + j.length ≤ sizeLine ∧ Q (.str (i ++ j)) H
  | .sub => fun x y H Q => ∃ i j, x = .int i ∧ y = .int j ∧ Q (.int (i - j)) H
  | _ => fun _ _ _ _ => False
theorem aug_step {i : Nat} {o : Op} {e : E} (h : tS K c (.aug i o e) pin D σ H) : tAug i (tE K c e) (rAug o) D σ H := by
  obtain ⟨F, As, env, o', rep, ev, post⟩ := h
  simp only [evS] at ev
  obtain ⟨⟨n0, d0⟩, e0, ev⟩ := Res.bind_eq_ok.mp ev
  obtain ⟨⟨r, env1⟩, e1, ev⟩ := Res.bind_eq_ok.mp ev
  obtain ⟨d, e2, ev⟩ := Res.bind_eq_ok.mp ev
  obtain ⟨env2, e3, ev⟩ := Res.bind_eq_ok.mp ev
  have e0 := Res.ofO_eq_ok.mp e0
  have e2 := Res.ofO_eq_ok.mp e2
  have e3 := Res.ofO_eq_ok.mp e3
  cases ev
  obtain ⟨v, A0, B0, sv, _, ro, _⟩ := rep.focus e0
  have rd := ro.read rep.le
  refine ⟨v, sv, F, As, env, r, env1, rep, e1, fun w F1 H1 As1 A1 x1 rep1 rr1 nd1 out1 q1 => ?_⟩
  have rw' := rr1.read rep1
  simp only at e2
  have fin : ∀ u, (∀ F, RD K F u d) → D.nx (σ.set i (some u)) H1 := fun u hu => by
    simp only [setTg] at e3
    split at e3
    · cases e3
    rename_i hc
    rw [not_or] at hc
    cases e3
    obtain ⟨B, hB, rep3⟩ := rep1.store (A := []) (n := 0) (Nat.lt_of_not_le hc.2) (.zero (hu F1)) rep1.nd fun _ m => nomatch m
    exact post _ F1 H1 B (x1.sub fun a m => List.mem_append_right _ ((hB a m).elim (fun m => nomatch m) id)) rep3 fun j hj => by
      rw [List.getElem?_set_ne (by intro z; subst z; exact hc.1 hj)]
  generalize r.d = dr at e2 rw'
  unfold augF at e2
  split at e2
  · cases rd; cases rw'; cases e2
    exact .inl ⟨_, _, rfl, rfl, fin _ fun _ => .int _⟩
  · cases rd; cases rw'; cases e2
    exact ⟨_, _, rfl, rfl, fin _ fun _ => .int _⟩
  · split at e2
    · rename_i hz
      cases rd; cases rw'; cases e2
      exact .inr ⟨_, _, rfl, rfl, hz, fin _ fun _ => .str _⟩
    · cases e2
  · cases e2
theorem ite_step {t : T} {a b : List S} (h : tS K c (.ite t a b) pin D σ H) : tIfS (tT K c t) (tSs K c a pin) (tSs K c b pin) D σ H := by
  obtain ⟨F, As, env, o, rep, ev, post⟩ := h
  simp only [evS] at ev
  obtain ⟨⟨k, env1⟩, e1, ev⟩ := Res.bind_eq_ok.mp ev
  refine ⟨F, As, env, k, env1, rep, e1, fun F1 H1 As1 x1 rep1 => ?_⟩
  cases k with
  | true => exact ⟨F1, As1, env1, o, rep1, ev, post.shift x1 fun _ _ => rfl⟩
  | false => exact ⟨F1, As1, env1, o, rep1, ev, post.shift x1 fun _ _ => rfl⟩
theorem brk_step (h : tS K c .brk pin D σ H) : tBreak D σ H := by
  obtain ⟨F, As, env, o, rep, ev, post⟩ := h
  simp only [evS] at ev
  cases ev
  exact post σ F H As Ext.refl rep fun _ _ => rfl
theorem cnt_step (h : tS K c .cnt pin D σ H) : tCont D σ H := by
  obtain ⟨F, As, env, o, rep, ev, post⟩ := h
  simp only [evS] at ev
  cases ev
  exact post σ F H As Ext.refl rep fun _ _ => rfl
theorem pas_step (h : tS K c .pas pin D σ H) : tNext D σ H := by
  obtain ⟨F, As, env, o, rep, ev, post⟩ := h
  simp only [evS] at ev
  cases ev
  exact post σ F H As Ext.refl rep fun _ _ => rfl
theorem never_step (h : tS K c .never pin D σ H) : tNever D σ H := by
  obtain ⟨F, As, env, o, rep, ev, post⟩ := h
  simp only [evS] at ev
  cases ev
theorem whl_step {t : T} {b : List S} (h : tS K c (.whl t b) pin D σ H) : tWhile (tT K c t) (tSs K c b pin) D σ H := by
  obtain ⟨F, As, env, o, rep, ev, post⟩ := h
  simp only [evS] at ev
  refine ⟨fun m σ H => ∃ F As env, Rep K F H σ env As ∧ whlL (evT c t) (evSs c b pin) m env = .ok o ∧ PostS K F H σ As pin o D, ⟨MANY, F, As, env, rep, ev, post⟩, ?_⟩
  clear ev post rep F As env
  rintro m σ H ⟨F, As, env, rep, ev, post⟩
  cases m with
  | zero => simp only [whlL] at ev; cases ev
  | succ m =>
    simp only [whlL] at ev
    obtain ⟨⟨k, env1⟩, e1, ev⟩ := Res.bind_eq_ok.mp ev
    refine ⟨F, As, env, k, env1, rep, e1, fun F1 H1 As1 x1 rep1 => ?_⟩
    cases k with
    | false =>
      simp only [Bool.false_eq_true, if_false] at ev ⊢
      cases ev
      exact post σ F1 H1 As1 x1 rep1 fun _ _ => rfl
    | true =>
      simp only [if_true] at ev ⊢
      obtain ⟨o1, e2, ev⟩ := Res.bind_eq_ok.mp ev
      refine ⟨fun σ' H' => ∃ F As env, Rep K F H' σ' env As ∧ whlL (evT c t) (evSs c b pin) m env = .ok o ∧ PostS K F H' σ' As pin o D, fun σ' H' p => ⟨m, Nat.lt_succ_self _, p⟩, F1, As1, env1, o1, rep1, e2, ?_⟩
      have post1 := post.shift x1 fun _ _ => rfl
      cases o1 with
      | nx env2 => exact fun σ' F' H' As' x r p => ⟨F', As', env2, r, ev, post1.shift x p⟩
      | ct env2 => exact fun σ' F' H' As' x r p => ⟨F', As', env2, r, ev, post1.shift x p⟩
      | bk env2 => cases ev; exact post1
      | rt r env2 => cases ev; exact post1
theorem for_step {tg : Tg} {it : It} {b : List S} (hpair : it.isPair = true → tg.isT = true) (h : tS K c (.forS tg it b) pin D σ H) : tFor (tI K c it) (tGx K tg) (tSsx K c b) D σ H := by
  obtain ⟨F, As, env, o, rep, ev, post⟩ := h
  simp only [evS] at ev
  obtain ⟨⟨w, env1⟩, e1, ev⟩ := Res.bind_eq_ok.mp ev
  obtain ⟨n, e2, ev⟩ := Res.bind_eq_ok.mp ev
  have e2 := Res.ofO_eq_ok.mp e2
  refine ⟨F, As, env, w, env1, rep, e1, fun J F1 H1 As1 x1 rep1 itk => ?_⟩
  simp only at ev
  generalize hf : (fun (d : Ck.D) (e : Env) => (do
      let e1 ← Res.ofO (setTg tg (0, d) (w.slots ++ pin) e)
      evSs c b (w.slots ++ pin) e1 : Res Out)) = f at ev
  refine ⟨fun i m σ' H => m = n - i ∧ i ≤ n ∧ ∃ F As env, Le F1 F ∧ (∀ j ∈ w.slots, σ'[j]? = σ[j]?) ∧ Rep K F H σ' env As ∧ w.size env = some n ∧ forL w n f (n - i) i env = .ok o ∧ PostS K F H σ' As pin o D,
    ⟨n, rfl, Nat.zero_le _, F1, As1, env1, Le.refl, fun _ _ => rfl, rep1, e2, ev, post.shift x1 fun _ _ => rfl⟩, ?_⟩
  rintro i m σ2 H2 ⟨rfl, hi, F2, As2, envi, l2, hs, rep2, hsz, go, post2⟩
  obtain ⟨stop, turn⟩ := itk σ2 F2 H2 envi As2 n l2 hs rep2 hsz
  by_cases hlt : i < n
  · obtain ⟨jgo, yld⟩ := turn i hlt
    refine .inr ⟨jgo, fun σ' H => ∃ F As env, Le F1 F ∧ (∀ j ∈ w.slots, σ'[j]? = σ[j]?) ∧ Rep K F H σ' env As ∧ w.size env = some n ∧ forL w n f (n - (i + 1)) (i + 1) env = .ok o ∧ PostS K F H σ' As pin o D,
      fun σ' H' p => ⟨n - (i + 1), by omega, rfl, hlt, p⟩, fun x H3 y => ?_⟩
    obtain ⟨d, F3, hd, x3, l3, rdx⟩ := yld x H3 y
    have en : n - i = (n - (i + 1)) + 1 := by omega
    rw [en] at go
    simp only [forL] at go
    obtain ⟨d', e4, go⟩ := Res.bind_eq_ok.mp go
    rw [hd] at e4
    cases e4
    obtain ⟨o1, e5, go⟩ := Res.bind_eq_ok.mp go
    rw [← hf] at e5
    obtain ⟨en1, e6, e5⟩ := Res.bind_eq_ok.mp e5
    have e6 := Res.ofO_eq_ok.mp e6
    have rep3 : Rep K F3 H3 σ2 envi As2 := rep2.frame x3 l3 fun _ _ m => nomatch m
    have x3' : Ext F2 H2 As2 F3 H3 As2 := ⟨x3.le, fun a o h => (x3.new a o h).imp id fun h => h.elim (fun m => nomatch m) .inr, fun a m => .inl m, fun a o h _ => x3.keep a o h fun m => nomatch m⟩
    refine ⟨w.slots ++ pin, F3, As2, envi, 0, d, [], en1, rep3, ri_tg (fun z => hpair (evIt_pair e1 z)) rdx, rep3.nd, fun _ m => (nomatch m), e6, fun σ3 As4 rep4 s4 a4 => ?_⟩
    have x4 : Ext F2 H2 As2 F3 H3 As4 := x3'.sub fun a m => (s4 a m).elim (fun m => nomatch m) id
    have pin4 : ∀ j ∈ w.slots ++ pin, σ3[j]? = σ2[j]? := fun j hj => a4 j fun z => setTg_pin tg _ _ _ _ e6 j z hj
    have post4 := post2.shift x4 fun j hj => pin4 j (List.mem_append_right _ hj)
    refine ⟨w.slots ++ pin, F3, As4, en1, o1, rep4, e5, ?_⟩
    have again : ∀ {env2 : Env}, (w.size env2 = some n → forL w n f (n - (i + 1)) (i + 1) env2 = .ok o) → w.size env2 = some n → ∀ σ' F' H' As', Ext F3 H3 As4 F' H' As' → Rep K F' H' σ' env2 As' → (∀ j ∈ w.slots ++ pin, σ'[j]? = σ3[j]?) →
        ∃ F As env, Le F1 F ∧ (∀ j ∈ w.slots, σ'[j]? = σ[j]?) ∧ Rep K F H' σ' env As ∧ w.size env = some n ∧ forL w n f (n - (i + 1)) (i + 1) env = .ok o ∧ PostS K F H' σ' As pin o D := fun hg hz σ' F' H' As' x r p =>
      ⟨F', As', _, (l2.trans x3.le).trans x.le, fun j hj => ((p j (List.mem_append_left _ hj)).trans (pin4 j (List.mem_append_left _ hj))).trans (hs j hj), r, hz, hg hz, post4.shift x fun j hj => p j (List.mem_append_right _ hj)⟩
    cases o1 with
    | nx env2 =>
      simp only at go
      split at go
      · rename_i hz; exact again (fun _ => go) hz
      · cases go
    | ct env2 =>
      simp only at go
      split at go
      · rename_i hz; exact again (fun _ => go) hz
      · cases go
    | bk env2 =>
      cases go
      exact post4.pins fun j hj => List.mem_append_right _ hj
    | rt r env2 =>
      cases go
      exact post4.pins fun j hj => List.mem_append_right _ hj
  · have e : i = n := by omega
    subst e
    refine .inl ⟨stop, ?_⟩
    rw [Nat.sub_self] at go
    simp only [forL] at go
    rw [if_pos hsz] at go
    cases go
    exact post2 σ2 F2 H2 As2 Ext.refl rep2 fun _ _ => rfl
end Ck

set_option Elab.async false
set_option linter.all false
set_option maxRecDepth 100000
/-! Ck22: i[j] = e. -/
namespace Ck
open PySem PySem.Spec PyProof.Rows L2
variable {K : KW} {F F' H H' : Hp} {σ : Sg} {env env' : Env} {As As' : List Addr} {c : Cal}
theorem Cl.after {F1 H1 F2 H2 : Hp} {env1 env2 : Env} {As1 As2 A : List Addr} {vs : List V} {svs : List SV} (q : Cl K F H σ As F1 H1 env1 As1 vs svs A) (x : Ext F1 H1 As1 F2 H2 As2) (r : Rep K F2 H2 σ env2 As2) : Cl K F H σ As F2 H2 env2 As2 vs svs A := by
  have ap : ∀ a ∈ A, a ∉ As2 ∧ F2 a = none := fun a m => x.apart (q.rs.there a m) (q.out a m).1 (q.out a m).2
  refine ⟨⟨q.x.le.trans x.le, fun a o h => ?_, fun a m => ?_, fun a o h n => x.keep a o (q.x.keep a o h n) fun z => ?_⟩, r, q.rs.stay x.le fun a m o h => x.keep a o h (q.out a m).1, q.nd, ap⟩
  · rcases x.new a o h with h | h | h
    · exact q.x.new a o h
    · exact .inr (q.x.own a (List.mem_append_right _ h))
    · by_cases m : a ∈ As
      · exact .inr (.inl m)
      · refine .inr (.inr ?_)
        cases e : H a with
        | none => rfl
        | some u => rw [q.x.keep a u e m] at h; cases h
  · rcases List.mem_append.mp m with m | m
    · exact q.x.own a (List.mem_append_left _ m)
    · rcases x.own a m with h | h
      · exact q.x.own a (List.mem_append_right _ h)
      · by_cases m : a ∈ As
        · exact .inl m
        · refine .inr ?_
          cases e : H a with
          | none => rfl
          | some u => rw [q.x.keep a u e m] at h; cases h
  · rcases q.x.own a (List.mem_append_right _ z) with z | z
    · exact n z
    · rw [h] at z; cases z
/-- a list of things of one's own, one of them put anew: what is shared now, what stays one's own -/
theorem set_parts {F2 H1 : Hp} {A' A1 : List Addr} {k0 kk : Nat} {sv : SV} {v : V} {xs : List D} {ys : List V} (lF : Le F2 H1) (ndA : A'.Nodup) (apart : ∀ b ∈ A', b ∉ A1) (ndA1 : A1.Nodup) (ros : ROs K F2 H1 k0 ys xs A') (rs : RSs K F2 H1 [v] [sv] A1) (hkk : kk < xs.length) :
    ∃ (j : Nat) (Z B : List Addr), min (k0 + 1) (depOf [sv]) = j + 1 ∧ (∀ b ∈ Z, b ∈ A' ++ A1) ∧ (∀ b ∈ B, b ∈ A' ++ A1 ∧ b ∉ Z) ∧ B.Nodup ∧ ∀ G, (∀ b ∈ Z, ∀ o, H1 b = some o → G b = some o) → Le F2 G → ROs K G H1 j (ys.set kk v) (xs.set kk sv.2) B := by
  have hl := ros.length
  obtain ⟨z, C1, C2, C3, f1, f2, rz, r1, r3⟩ := ros.at (List.getElem?_eq_getElem hkk)
  obtain ⟨d1, d2⟩ := depOf_le (svs := [sv])
  obtain ⟨j, hj⟩ : ∃ j, min (k0 + 1) (depOf [sv]) = j + 1 := ⟨min (k0 + 1) (depOf [sv]) - 1, by omega⟩
  obtain ⟨Z1, B1, z1, nd1, k1⟩ := r1.lower lF (m := j) (by omega)
  obtain ⟨Z3, B3, z3, nd3, k3⟩ := r3.lower lF (m := j) (by omega)
  obtain ⟨Z2, B2, z2, nd2, k2⟩ := rs.lower lF (m := j) fun sv h hc => by have := d1 sv h hc; omega
  subst f2
  obtain ⟨na1, na2, na3⟩ := List.nodup_append.mp ndA
  obtain ⟨na4, na5, na6⟩ := List.nodup_append.mp na2
  obtain ⟨m1, m1'⟩ := nd1 na1
  obtain ⟨m3, m3'⟩ := nd3 na5
  obtain ⟨m2, m2'⟩ := nd2 ndA1
  have sep : ∀ b, b ∈ C1 ++ (C2 ++ C3) → b ∉ A1 := fun b h => apart b h
  have in1 : ∀ b ∈ C1, b ∈ C1 ++ (C2 ++ C3) := fun b h => List.mem_append_left _ h
  have in3 : ∀ b ∈ C3, b ∈ C1 ++ (C2 ++ C3) := fun b h => List.mem_append_right _ (List.mem_append_right _ h)
  have ap13 : ∀ b ∈ C1, b ∉ C3 := fun b h z => na3 b h b (List.mem_append_right _ z) rfl
  have fin : ∀ G, (∀ b ∈ Z1 ++ (Z2 ++ Z3), ∀ o, H1 b = some o → G b = some o) → Le F2 G → ROs K G H1 j (ys.set kk v) (xs.set kk sv.2) (B1 ++ (B2 ++ B3)) := fun G hG lG => by
    have a1 := k1 G lG fun b h o e => hG b (List.mem_append_left _ h) o e
    have a2 := k2 G lG fun b h o e => hG b (List.mem_append_right _ (List.mem_append_left _ h)) o e
    have a3 := k3 G lG fun b h o e => hG b (List.mem_append_right _ (List.mem_append_right _ h)) o e
    have e1 : ys.set kk v = ys.take kk ++ ([v] ++ ys.drop (kk + 1)) := by rw [List.set_eq_take_append_cons_drop, if_pos (by omega)]; rfl
    have e2 : xs.set kk sv.2 = xs.take kk ++ ([sv.2] ++ xs.drop (kk + 1)) := by rw [List.set_eq_take_append_cons_drop, if_pos hkk]; rfl
    rw [e1, e2]
    exact a1.app (a2.app a3)
  have lt : ∀ b, b ∈ Z1 → b ∈ C1 := fun b h => (z1 b).mpr (.inl h)
  refine ⟨j, Z1 ++ (Z2 ++ Z3), B1 ++ (B2 ++ B3), hj, fun b h => ?_, fun b h => ⟨?_, fun z => ?_⟩, ?_, fin⟩
  · rcases List.mem_append.mp h with h | h
    · exact List.mem_append_left _ (in1 b ((z1 b).mpr (.inl h)))
    · rcases List.mem_append.mp h with h | h
      · exact List.mem_append_right _ ((z2 b).mpr (.inl h))
      · exact List.mem_append_left _ (in3 b ((z3 b).mpr (.inl h)))
  · rcases List.mem_append.mp h with h | h
    · exact List.mem_append_left _ (in1 b ((z1 b).mpr (.inr h)))
    · rcases List.mem_append.mp h with h | h
      · exact List.mem_append_right _ ((z2 b).mpr (.inr h))
      · exact List.mem_append_left _ (in3 b ((z3 b).mpr (.inr h)))
  · have hB : b ∈ C1 ∨ b ∈ A1 ∨ b ∈ C3 := by
      rcases List.mem_append.mp h with h | h
      · exact .inl ((z1 b).mpr (.inr h))
      · rcases List.mem_append.mp h with h | h
        · exact .inr (.inl ((z2 b).mpr (.inr h)))
        · exact .inr (.inr ((z3 b).mpr (.inr h)))
    rcases List.mem_append.mp z with z | z
    · have zc := (z1 b).mpr (.inl z)
      rcases List.mem_append.mp h with h | h
      · exact m1' b z h
      · rcases List.mem_append.mp h with h | h
        · exact sep b (in1 b zc) ((z2 b).mpr (.inr h))
        · exact ap13 b zc ((z3 b).mpr (.inr h))
    · rcases List.mem_append.mp z with z | z
      · have zc := (z2 b).mpr (.inl z)
        rcases List.mem_append.mp h with h | h
        · exact sep b (in1 b ((z1 b).mpr (.inr h))) zc
        · rcases List.mem_append.mp h with h | h
          · exact m2' b z h
          · exact sep b (in3 b ((z3 b).mpr (.inr h))) zc
      · have zc := (z3 b).mpr (.inl z)
        rcases List.mem_append.mp h with h | h
        · exact ap13 b ((z1 b).mpr (.inr h)) zc
        · rcases List.mem_append.mp h with h | h
          · exact sep b (in3 b zc) ((z2 b).mpr (.inr h))
          · exact m3' b z h
  · refine List.nodup_append.mpr ⟨m1, List.nodup_append.mpr ⟨m2, m3, fun x hx y hy z => sep x (in3 x ((z3 x).mpr (.inr (z ▸ hy)))) ((z2 x).mpr (.inr hx))⟩, fun x hx y hy z => ?_⟩
    subst z
    have zc := (z1 x).mpr (.inr hx)
    rcases List.mem_append.mp hy with h | h
    · exact sep x (in1 x zc) ((z2 x).mpr (.inr h))
    · exact ap13 x zc ((z3 x).mpr (.inr h))
theorem app_parts {F2 H1 : Hp} {A' A1 : List Addr} {k0 : Nat} {sv : SV} {v : V} {xs : List D} {ys : List V} (lF : Le F2 H1) (ndA : A'.Nodup) (apart : ∀ b ∈ A', b ∉ A1) (ndA1 : A1.Nodup) (ros : ROs K F2 H1 k0 ys xs A') (rs : RSs K F2 H1 [v] [sv] A1) :
    ∃ (j : Nat) (Z B : List Addr), min (k0 + 1) (depOf [sv]) = j + 1 ∧ (∀ b ∈ Z, b ∈ A' ++ A1) ∧ (∀ b ∈ B, b ∈ A' ++ A1 ∧ b ∉ Z) ∧ B.Nodup ∧ ∀ G, (∀ b ∈ Z, ∀ o, H1 b = some o → G b = some o) → Le F2 G → ROs K G H1 j (ys ++ [v]) (xs ++ [sv.2]) B := by
  obtain ⟨d1, d2⟩ := depOf_le (svs := [sv])
  obtain ⟨j, hj⟩ : ∃ j, min (k0 + 1) (depOf [sv]) = j + 1 := ⟨min (k0 + 1) (depOf [sv]) - 1, by omega⟩
  obtain ⟨Z1, B1, z1, nd1, k1⟩ := ros.lower lF (m := j) (by omega)
  obtain ⟨Z2, B2, z2, nd2, k2⟩ := rs.lower lF (m := j) fun sv h hc => by have := d1 sv h hc; omega
  obtain ⟨m1, m1'⟩ := nd1 ndA
  obtain ⟨m2, m2'⟩ := nd2 ndA1
  refine ⟨j, Z1 ++ Z2, B1 ++ B2, hj, fun b h => ?_, fun b h => ⟨?_, fun z => ?_⟩, ?_, fun G hG lG => ?_⟩
  · rcases List.mem_append.mp h with h | h
    · exact List.mem_append_left _ ((z1 b).mpr (.inl h))
    · exact List.mem_append_right _ ((z2 b).mpr (.inl h))
  · rcases List.mem_append.mp h with h | h
    · exact List.mem_append_left _ ((z1 b).mpr (.inr h))
    · exact List.mem_append_right _ ((z2 b).mpr (.inr h))
  · rcases List.mem_append.mp h with h | h
    · rcases List.mem_append.mp z with z | z
      · exact m1' b z h
      · exact apart b ((z1 b).mpr (.inr h)) ((z2 b).mpr (.inl z))
    · rcases List.mem_append.mp z with z | z
      · exact apart b ((z1 b).mpr (.inl z)) ((z2 b).mpr (.inr h))
      · exact m2' b z h
  · exact List.nodup_append.mpr ⟨m1, m2, fun x hx y hy z => apart x ((z1 x).mpr (.inr hx)) (z ▸ (z2 y).mpr (.inr hy))⟩
  · exact (k1 G lG fun b h o e => hG b (List.mem_append_left _ h) o e).app (k2 G lG fun b h o e => hG b (List.mem_append_right _ h) o e)
theorem RO.dic_inv {n : Nat} {v : V} {ks ds : List D} {A : List Addr} (h : RO K F H n v (.dic ks ds) A) (hn : n ≠ 0) : ∃ k a vs kvs o A', n = k + 1 ∧ v = .ref a ∧ A = a :: A' ∧ H a = some o ∧ HD K a ks kvs vs o ∧ RDs K F kvs ks ∧ ROs K F H k vs ds A' := by
  cases h with
  | zero _ => exact absurd rfl hn
  | flat _ e => cases e
  | dic e h r q => exact ⟨_, _, _, _, _, _, rfl, rfl, rfl, e, h, r, q⟩
theorem putKs_rd {ks : List D} {kvs : List V} {k : D} {x : V} (r : RDs K F kvs ks) (rx : RD K F x k) : RDs K F (putKs ks kvs k x).2 (putKs ks kvs k x).1 := by
  unfold putKs
  split
  · exact r
  · exact r.app (.cons rx .nil)
theorem putKs_1 {ks ds : List D} {kvs : List V} {k d : D} {x : V} : (putKs ks kvs k x).1 = (dputD ks ds k d).1 := by
  unfold putKs dputD
  cases dIx ks k <;> rfl
/-- slot i's dict, at the key k: v -/
theorem set_dx {F2 H1 : Hp} {env2 : Env} {As2 A1 : List Addr} {i n : Nat} {sv : SV} {v x : V} {k : D} {ks xs : List D} {Q : Hp → Prop} (q : Cl K F H σ As F2 H1 env2 As2 [v] [sv] A1) (g : getS env2 i = some (n, .dic ks xs)) (hn : n ≠ 0) (hk : keyB ks k = true) (hz : ks.length < sizeLine) (rx : RD K F2 x k)
    (post : ∀ F1 H1 As1, Ext F H As F1 H1 As1 → Rep K F1 H1 σ (env2.set i (some (min n (depOf [sv]), .dic (dputD ks xs k sv.2).1 (dputD ks xs k sv.2).2))) As1 → Q H1) : ∃ o, σ[i]? = some (some o) ∧ rSetD K o x v H1 Q := by
  obtain ⟨w, A, B, sv1, pm, ro, repB⟩ := q.rep.focus g
  have hi := getS_lt g
  obtain ⟨k0, p, ys, kvs, ob, A', rfl, rfl, rfl, e, hd, rk, ros⟩ := ro.dic_inv hn
  have hl := ros.length
  have hkl := hd.len.1
  have ndAB := (pm.nodup_iff).mp q.rep.nd
  have ndA := (List.nodup_cons.mp (List.nodup_append.mp ndAB).1).2
  have sep : ∀ b ∈ A', b ∉ A1 := fun b h z => (q.out b z).1 (pm.mem_iff.mpr (List.mem_append_left _ (List.mem_cons_of_mem _ h)))
  have parts : ∃ (j : Nat) (Z B : List Addr), min (k0 + 1) (depOf [sv]) = j + 1 ∧ (∀ b ∈ Z, b ∈ A' ++ A1) ∧ (∀ b ∈ B, b ∈ A' ++ A1 ∧ b ∉ Z) ∧ B.Nodup ∧ ∀ G, (∀ b ∈ Z, ∀ o, H1 b = some o → G b = some o) → Le F2 G → ROs K G H1 j (putVs ks ys k v) (dputD ks xs k sv.2).2 B := by
    unfold putVs dputD
    cases hq : dIx ks k with
    | some kk => exact set_parts q.rep.le ndA sep q.nd ros q.rs (by have := dIx_lt hq; omega)
    | none => exact app_parts q.rep.le ndA sep q.nd ros q.rs
  obtain ⟨j, Z, B', hj, hZ, hB, nB, fin⟩ := parts
  refine ⟨.ref p, sv1, ks, k, ys, p, ob, kvs, ⟨rfl, e, hd, rk.up q.rep.le, rx.up q.rep.le, hk⟩, by omega, fun o' ho' => ?_⟩
  refine slot_writeG (Q := fun _ H => Q H) (env := env2) (e := .tupd []) (m := j) (nr := 0) (vr := .non) (dr := .non) (Z := Z) (B' := B') (Ar := []) (dd := .dic (dputD ks xs k sv.2).1 (dputD ks xs k sv.2).2) rfl q sv1 hi pm repB (fun lG e r => ?_) hZ hB (fun _ h => nomatch h) nB List.nodup_nil (fin _ (fun b h o e => by rw [frz_in h]; exact e) (le_frz q.rep.le)) (.zero .non) fun v F1 H1 As1 Ar x r _ _ _ _ => ?_
  · have := RO.dic e ho' (putKs_rd (rk.up lG) (rx.up lG)) r
    rw [putKs_1 (ds := xs) (d := sv.2)] at this
    exact this
  · rw [← hj] at r
    exact post F1 H1 As1 (x.sub fun a m => List.mem_append_right _ m) r
theorem set_ix {F2 H1 : Hp} {env2 : Env} {As2 A1 : List Addr} {i n kk : Nat} {sv : SV} {v : V} {k : Int} {xs : List D} {Q : Hp → Prop} (q : Cl K F H σ As F2 H1 env2 As2 [v] [sv] A1) (g : getS env2 i = some (n, .lst xs)) (hn : n ≠ 0) (hk : L2.ixN xs.length k = some kk)
    (post : ∀ F1 H1 As1, Ext F H As F1 H1 As1 → Rep K F1 H1 σ (env2.set i (some (min n (depOf [sv]), .lst (xs.set kk sv.2)))) As1 → Q H1) : ∃ o, σ[i]? = some (some o) ∧ rSetL o (.int k) v H1 Q := by
  obtain ⟨w, A, B, sv1, pm, ro, repB⟩ := q.rep.focus g
  have hi := getS_lt g
  obtain ⟨k0, p, ys, A', rfl, rfl, rfl, e, ros⟩ := ro.lst_inv hn
  obtain ⟨y, he, ra⟩ := q.rs.one
  cases he
  have hl := ros.length
  have hkk : kk < xs.length := by
    obtain ⟨z, _⟩ := L2.ixN_seq hk
    first | exact z | omega
  obtain ⟨z, C1, C2, C3, f1, f2, rz, r1, r3⟩ := ros.at (List.getElem?_eq_getElem hkk)
  obtain ⟨d1, d2⟩ := depOf_le (svs := [sv])
  obtain ⟨j, hj⟩ : ∃ j, min (k0 + 1) (depOf [sv]) = j + 1 := ⟨min (k0 + 1) (depOf [sv]) - 1, by omega⟩
  obtain ⟨Z1, B1, z1, nd1, k1⟩ := r1.lower q.rep.le (m := j) (by omega)
  obtain ⟨Z3, B3, z3, nd3, k3⟩ := r3.lower q.rep.le (m := j) (by omega)
  obtain ⟨Z2, B2, z2, nd2, k2⟩ := q.rs.lower q.rep.le (m := j) fun sv h hc => by have := d1 sv h hc; omega
  have ndAB := (pm.nodup_iff).mp q.rep.nd
  have ndA := (List.nodup_cons.mp (List.nodup_append.mp ndAB).1).2
  subst f2
  obtain ⟨na1, na2, na3⟩ := List.nodup_append.mp ndA
  obtain ⟨na4, na5, na6⟩ := List.nodup_append.mp na2
  obtain ⟨m1, m1'⟩ := nd1 na1
  obtain ⟨m3, m3'⟩ := nd3 na5
  obtain ⟨m2, m2'⟩ := nd2 q.nd
  have sep : ∀ b, b ∈ C1 ++ (C2 ++ C3) → b ∉ A1 := fun b h z => (q.out b z).1 (pm.mem_iff.mpr (List.mem_append_left _ (List.mem_cons_of_mem _ h)))
  have in1 : ∀ b ∈ C1, b ∈ C1 ++ (C2 ++ C3) := fun b h => List.mem_append_left _ h
  have in3 : ∀ b ∈ C3, b ∈ C1 ++ (C2 ++ C3) := fun b h => List.mem_append_right _ (List.mem_append_right _ h)
  have ap13 : ∀ b ∈ C1, b ∉ C3 := fun b h z => na3 b h b (List.mem_append_right _ z) rfl
  have fin : ∀ G, (∀ b ∈ Z1 ++ (Z2 ++ Z3), ∀ o, H1 b = some o → G b = some o) → Le F2 G → ROs K G H1 j (ys.set kk v) (xs.set kk sv.2) (B1 ++ (B2 ++ B3)) := fun G hG lG => by
    have a1 := k1 G lG fun b h o e => hG b (List.mem_append_left _ h) o e
    have a2 := k2 G lG fun b h o e => hG b (List.mem_append_right _ (List.mem_append_left _ h)) o e
    have a3 := k3 G lG fun b h o e => hG b (List.mem_append_right _ (List.mem_append_right _ h)) o e
    have e1 : ys.set kk v = ys.take kk ++ ([v] ++ ys.drop (kk + 1)) := by rw [List.set_eq_take_append_cons_drop, if_pos (by omega)]; rfl
    have e2 : xs.set kk sv.2 = xs.take kk ++ ([sv.2] ++ xs.drop (kk + 1)) := by rw [List.set_eq_take_append_cons_drop, if_pos hkk]; rfl
    rw [e1, e2]
    exact a1.app (a2.app a3)
  refine ⟨.ref p, sv1, p, ys, k, kk, rfl, rfl, e, by rw [hl]; exact hk, ?_⟩
  have lt : ∀ b, b ∈ Z1 → b ∈ C1 := fun b h => (z1 b).mpr (.inl h)
  refine slot_write (Q := fun _ H => Q H) (env := env2) (e := .tupd []) (m := j) (nr := 0) (vr := .non) (dr := .non) (Z := Z1 ++ (Z2 ++ Z3)) (B' := B1 ++ (B2 ++ B3)) (Ar := []) rfl q sv1 hi pm repB e (fun b h => ?_) (fun b h => ⟨?_, fun z => ?_⟩) (fun _ h => nomatch h) ?_ List.nodup_nil (fin _ (fun b h o e => by rw [frz_in h]; exact e) (le_frz q.rep.le)) (.zero .non) fun v F1 H1 As1 Ar x r _ _ _ _ => ?_
  · rcases List.mem_append.mp h with h | h
    · exact List.mem_append_left _ (in1 b ((z1 b).mpr (.inl h)))
    · rcases List.mem_append.mp h with h | h
      · exact List.mem_append_right _ ((z2 b).mpr (.inl h))
      · exact List.mem_append_left _ (in3 b ((z3 b).mpr (.inl h)))
  · rcases List.mem_append.mp h with h | h
    · exact List.mem_append_left _ (in1 b ((z1 b).mpr (.inr h)))
    · rcases List.mem_append.mp h with h | h
      · exact List.mem_append_right _ ((z2 b).mpr (.inr h))
      · exact List.mem_append_left _ (in3 b ((z3 b).mpr (.inr h)))
  · have hB : b ∈ C1 ∨ b ∈ A1 ∨ b ∈ C3 := by
      rcases List.mem_append.mp h with h | h
      · exact .inl ((z1 b).mpr (.inr h))
      · rcases List.mem_append.mp h with h | h
        · exact .inr (.inl ((z2 b).mpr (.inr h)))
        · exact .inr (.inr ((z3 b).mpr (.inr h)))
    rcases List.mem_append.mp z with z | z
    · have zc := (z1 b).mpr (.inl z)
      rcases List.mem_append.mp h with h | h
      · exact m1' b z h
      · rcases List.mem_append.mp h with h | h
        · exact sep b (in1 b zc) ((z2 b).mpr (.inr h))
        · exact ap13 b zc ((z3 b).mpr (.inr h))
    · rcases List.mem_append.mp z with z | z
      · have zc := (z2 b).mpr (.inl z)
        rcases List.mem_append.mp h with h | h
        · exact sep b (in1 b ((z1 b).mpr (.inr h))) zc
        · rcases List.mem_append.mp h with h | h
          · exact m2' b z h
          · exact sep b (in3 b ((z3 b).mpr (.inr h))) zc
      · have zc := (z3 b).mpr (.inl z)
        rcases List.mem_append.mp h with h | h
        · exact ap13 b ((z1 b).mpr (.inr h)) zc
        · rcases List.mem_append.mp h with h | h
          · exact sep b (in3 b zc) ((z2 b).mpr (.inr h))
          · exact m3' b z h
  · refine List.nodup_append.mpr ⟨m1, List.nodup_append.mpr ⟨m2, m3, fun x hx y hy z => sep x (in3 x ((z3 x).mpr (.inr (z ▸ hy)))) ((z2 x).mpr (.inr hx))⟩, fun x hx y hy z => ?_⟩
    subst z
    have zc := (z1 x).mpr (.inr hx)
    rcases List.mem_append.mp hy with h | h
    · exact sep x (in1 x zc) ((z2 x).mpr (.inr h))
    · exact ap13 x zc ((z3 x).mpr (.inr h))
  · rw [← hj] at r
    exact post F1 H1 As1 (x.sub fun a m => List.mem_append_right _ m) r
theorem PSet.or {X : Cx} {t t' : TSet} (h : PSet X t) (h' : PSet X t') : PSet X (fun x y v H Q => t x y v H Q ∨ t' x y v H Q) := by
  intro pins s σ H o i v ov iv u Q I ro ri rv q
  rcases q with q | q
  · exact h pins s σ H o i v ov iv u Q I ro ri rv q
  · exact h' pins s σ H o i v ov iv u Q I ro ri rv q
variable {pin : List Nat} {D : Ends}
theorem setIx_step {i : Nat} {j e : E} (h : tS K c (.setIx i j e) pin D σ H) : tAsg (tE K c e) (gSub (tVar i) (tE K c j) fun x y v H Q => rSetL x y v H Q ∨ rSetD K x y v H Q) D σ H := by
  obtain ⟨F, As, env, o, rep, ev, post⟩ := h
  simp only [evS] at ev
  obtain ⟨⟨r, env1⟩, e1, ev⟩ := Res.bind_eq_ok.mp ev
  obtain ⟨⟨sv, env2⟩, e2, ev⟩ := Res.bind_eq_ok.mp ev
  obtain ⟨⟨n0, d0⟩, e0, ev⟩ := Res.bind_eq_ok.mp ev
  have e0 := Res.ofO_eq_ok.mp e0
  obtain ⟨⟨rj, env3⟩, e3, ev⟩ := Res.bind_eq_ok.mp ev
  obtain ⟨⟨n, d⟩, e4, ev⟩ := Res.bind_eq_ok.mp ev
  have e2 := Res.ofO_eq_ok.mp e2
  have e4 := Res.ofO_eq_ok.mp e4
  simp only at ev
  split at ev
  · cases ev
  rename_i hn
  split at ev
  · rename_i xs k hd _
    obtain ⟨kk, e5, ev⟩ := Res.bind_eq_ok.mp ev
    have e5 := Res.ofO_eq_ok.mp e5
    cases ev
    refine ⟨F, As, env, r, env1, rep, e1, fun v F1 H1 As1 A1 x1 rep1 rr1 nd1 out1 q1 => ?_⟩
    obtain ⟨F2, As2, x2, rep2, ro, nd, out⟩ := claim_post x1 rep1 rr1 nd1 out1 e2
    have q : Cl K F H σ As F2 H1 env2 As2 [v] [sv] A1 := by
      refine ⟨x2, rep2, ?_, nd1, fun a m => ⟨fun z => (List.nodup_append.mp nd).2.2 a m a z rfl, out a m⟩⟩
      have := RSs.cons ro RSs.nil
      rw [List.append_nil] at this
      exact this
    obtain ⟨o, _, _, so, _⟩ := rep2.focus e0
    refine ⟨o, so, F2, As2, env2, rj, env3, rep2, e3, fun x F3 H3 As3 A3 x3 rep3 rr3 nd3 out3 q3 => ?_⟩
    have rx := rr3.read rep3
    rw [hd] at rx
    cases rx
    have q' := q.after (x3.sub fun a m => List.mem_append_right _ m) rep3
    obtain ⟨o', so', z⟩ := set_ix (Q := fun H => D.nx σ H) q' e4 hn e5 fun F4 H4 As4 x4 rep4 => post σ F4 H4 As4 x4 rep4 fun _ _ => rfl
    rw [so] at so'; cases so'
    exact .inl z
  · rename_i ks xs
    split at ev
    · rename_i hc
      simp only [Bool.and_eq_true, decide_eq_true_eq] at hc
      cases ev
      refine ⟨F, As, env, r, env1, rep, e1, fun v F1 H1 As1 A1 x1 rep1 rr1 nd1 out1 q1 => ?_⟩
      obtain ⟨F2, As2, x2, rep2, ro, nd, out⟩ := claim_post x1 rep1 rr1 nd1 out1 e2
      have q : Cl K F H σ As F2 H1 env2 As2 [v] [sv] A1 := by
        refine ⟨x2, rep2, ?_, nd1, fun a m => ⟨fun z => (List.nodup_append.mp nd).2.2 a m a z rfl, out a m⟩⟩
        have := RSs.cons ro RSs.nil
        rw [List.append_nil] at this
        exact this
      obtain ⟨o, _, _, so, _⟩ := rep2.focus e0
      refine ⟨o, so, F2, As2, env2, rj, env3, rep2, e3, fun x F3 H3 As3 A3 x3 rep3 rr3 nd3 out3 q3 => ?_⟩
      obtain ⟨Ax, _, rox⟩ := rr3.ro rep3
      have rx := (rox.rdf (keyB_flat hc.1)).1
      have q' := q.after (x3.sub fun a m => List.mem_append_right _ m) rep3
      obtain ⟨o', so', z⟩ := set_dx (Q := fun H => D.nx σ H) q' e4 hn hc.1 hc.2 rx fun F4 H4 As4 x4 rep4 => post σ F4 H4 As4 x4 rep4 fun _ _ => rfl
      rw [so] at so'; cases so'
      exact .inr z
    · cases ev
  · cases ev
end Ck

set_option Elab.async false
set_option linter.all false
set_option maxRecDepth 100000
/-! Ck22s: i[a:b] = e. -/
namespace Ck
open PySem PySem.Spec PyProof.Rows L2
/-- o[a:c] = a new list -/
def gSls (to tl th : TE) : TG := fun v σ H Q => to σ H fun o H1 => tl σ H1 fun x H2 => th σ H2 fun y H3 => ∃ p b xs ys a d, o = .ref p ∧ v = .ref b ∧ x = .int a ∧ y = .int d ∧ H3 p = some (.lst xs) ∧ H3 b = some (.lst ys) ∧ p ≠ b ∧ 0 ≤ a ∧ a ≤ d ∧ d ≤ xs.length ∧
  xs.length + ys.length ≤ sizeLine ∧ Q σ (upd H3 p (.lst (xs.take a.toNat ++ ys ++ xs.drop d.toNat)))
theorem pg_sls {X : Cx} {o lo hi : Expr} {p2 pos : Pos} {to tl th : TE} (ho : PE X o to) (hl : PE X lo tl) (hh : PE X hi th) : PG X (.Subscript o (.Slice (some lo) (some hi) none p2) pos) (gSls to tl th) := by
  refine ⟨fun pins s σ H v u Q I r h => ?_⟩
  have ha : assign (.Subscript o (.Slice (some lo) (some hi) none p2) pos) X.env u = (do
      let ov ← holding [u] (eval o X.env)
      let iv ← holding [u, ov] (eval (.Slice (some lo) (some hi) none p2) X.env)
      standAt pos
      holding [u, ov, iv] (setItem ov iv u)
      release [iv, u, ov] []) := rfl
  rw [ha]
  refine wpAny_bind (wpAny_holding (thn (ho.run pins s σ H _ I h) fun ov s1 ⟨x0, H1, I1, r1, q1⟩ => ?_))
  refine wpAny_bind (wpAny_holding (wpAny_Slice ?_))
  rw [evalPart_some]
  refine thn (hl.run pins s1 σ H1 _ I1 q1) fun vl s2 ⟨x, H2, I2, r2, q2⟩ => ?_
  rw [evalPart_some]
  refine thn (hh.run pins s2 σ H2 _ I2 q2) fun vu s3 ⟨y, H3, I3, r3, q3⟩ => ?_
  rw [evalPart_none]
  refine wpAny_pure ?_
  obtain ⟨p, b, xs, ys, a, d, rfl, rfl, rfl, rfl, hp, hb, hne, h0, h1, h2, hz, q⟩ := q3
  cases r
  cases r1
  have I4 : Inv X pins σ H3 { s3 with heap := s3.heap.push { cls := .type "slice", data := .fields #[vl, vu, .none] } } := I3.kept (t' := s3.toks) fun b ob q => Heap.get?_push_of_some _ q
  refine wpAny_bind (wpAny_standAt (wpAny_bind (wpAny_holding ?_)))
  refine set_slice (xs := xs) (ys := ys) I4 hp hb hne (Heap.IsSliceOf.new ..) r2 r3 h0 h1 h2 hz fun s' I' => ?_
  exact wpAny_release ⟨σ, _, I', q⟩
variable {K : KW} {F F' H H' : Hp} {σ : Sg} {env env' : Env} {As As' : List Addr} {c : Cal}
theorem ROs.take {n : Nat} {vs : List V} {ds : List D} {A : List Addr} (h : ROs K F H n vs ds A) : ∀ k, ∃ B C, A = B ++ C ∧ ROs K F H n (vs.take k) (ds.take k) B ∧ ROs K F H n (vs.drop k) (ds.drop k) C := by
  intro k
  induction k generalizing vs ds A with
  | zero => exact ⟨[], A, rfl, .nil, h⟩
  | succ k ih =>
    cases h with
    | nil => exact ⟨[], [], rfl, .nil, .nil⟩
    | cons p t =>
      obtain ⟨B, C, e, r1, r2⟩ := ih t
      exact ⟨_ ++ B, C, by rw [e, List.append_assoc], .cons p r1, r2⟩
theorem set_sl {F2 H1 : Hp} {env2 : Env} {As2 A1 : List Addr} {i n m : Nat} {v : V} {a d : Int} {xs ys : List D} {Q : Hp → Prop} (q : Cl K F H σ As F2 H1 env2 As2 [v] [(m + 1, .lst ys)] A1) (g : getS env2 i = some (n, .lst xs)) (hn : n ≠ 0) (hc : 0 ≤ a ∧ a ≤ d ∧ d ≤ xs.length ∧ xs.length + ys.length ≤ sizeLine)
    (post : ∀ F1 H1 As1, Ext F H As F1 H1 As1 → Rep K F1 H1 σ (env2.set i (some (min n (m + 1), .lst (xs.take a.toNat ++ ys ++ xs.drop d.toNat)))) As1 → Q H1) :
    ∃ o, σ[i]? = some (some o) ∧ ∃ p b vs ws, o = .ref p ∧ v = .ref b ∧ H1 p = some (.lst vs) ∧ H1 b = some (.lst ws) ∧ p ≠ b ∧ 0 ≤ a ∧ a ≤ d ∧ d ≤ vs.length ∧ vs.length + ws.length ≤ sizeLine ∧ Q (upd H1 p (.lst (vs.take a.toNat ++ ws ++ vs.drop d.toNat))) := by
  obtain ⟨w, A, B, sv1, pm, ro, repB⟩ := q.rep.focus g
  have hi := getS_lt g
  obtain ⟨k0, p, vs, A', rfl, rfl, rfl, e, ros⟩ := ro.lst_inv hn
  obtain ⟨y, he, ra⟩ := q.rs.one
  cases he
  obtain ⟨m', b, ws, A2, e1, rfl, rfl, e2, rob⟩ := RO.lst_inv ra (Nat.succ_ne_zero m)
  cases e1
  have hl := ros.length
  have hl2 := rob.length
  obtain ⟨h0, h1, h2, hz⟩ := hc
  obtain ⟨C1, C2, f1, r1, rd⟩ := ros.take a.toNat
  obtain ⟨j, hj⟩ : ∃ j, min (k0 + 1) (m + 1) = j + 1 := ⟨min k0 m, by omega⟩
  have ndAB := (pm.nodup_iff).mp q.rep.nd
  have ndA := (List.nodup_cons.mp (List.nodup_append.mp ndAB).1).2
  -- the two cuts lie apart
  obtain ⟨E1, E2, f3, _, r3'⟩ := rd.take (d.toNat - a.toNat)
  rw [List.drop_drop, List.drop_drop, show a.toNat + (d.toNat - a.toNat) = d.toNat by omega] at r3'
  subst f1
  subst f3
  obtain ⟨Z1, B1, z1, nd1, k1⟩ := r1.lower q.rep.le (m := j) (by omega)
  obtain ⟨Z3, B3, z3, nd3, k3⟩ := r3'.lower q.rep.le (m := j) (by omega)
  obtain ⟨Z2, B2, z2, nd2, k2⟩ := rob.lower q.rep.le (m := j) (by omega)
  obtain ⟨na1, na2, na3⟩ := List.nodup_append.mp ndA
  obtain ⟨na4, na5, na6⟩ := List.nodup_append.mp na2
  obtain ⟨m1, m1'⟩ := nd1 na1
  obtain ⟨m3, m3'⟩ := nd3 na5
  obtain ⟨m2, m2'⟩ := nd2 (List.nodup_cons.mp q.nd).2
  have sep : ∀ x, x ∈ C1 ++ (E1 ++ E2) → x ∉ b :: A2 := fun x h z => (q.out x z).1 (pm.mem_iff.mpr (List.mem_append_left _ (List.mem_cons_of_mem _ h)))
  have in1 : ∀ x ∈ C1, x ∈ C1 ++ (E1 ++ E2) := fun b h => List.mem_append_left _ h
  have in3 : ∀ x ∈ E2, x ∈ C1 ++ (E1 ++ E2) := fun b h => List.mem_append_right _ (List.mem_append_right _ h)
  have in2 : ∀ x ∈ A2, x ∈ b :: A2 := fun x h => List.mem_cons_of_mem _ h
  have ap13 : ∀ x ∈ C1, x ∉ E2 := fun x h z => na3 x h x (List.mem_append_right _ z) rfl
  have hpb : p ≠ b := fun z => (q.out b (List.mem_cons_self ..)).1 (by rw [← z]; exact pm.mem_iff.mpr (List.mem_append_left _ (List.mem_cons_self ..)))
  have fin : ∀ G, (∀ b ∈ Z1 ++ (Z2 ++ Z3), ∀ o, H1 b = some o → G b = some o) → Le F2 G → ROs K G H1 j (vs.take a.toNat ++ ws ++ vs.drop d.toNat) (xs.take a.toNat ++ ys ++ xs.drop d.toNat) (B1 ++ (B2 ++ B3)) := fun G hG lG => by
    have a1 := k1 G lG fun b h o e => hG b (List.mem_append_left _ h) o e
    have a2 := k2 G lG fun b h o e => hG b (List.mem_append_right _ (List.mem_append_left _ h)) o e
    have a3 := k3 G lG fun b h o e => hG b (List.mem_append_right _ (List.mem_append_right _ h)) o e
    have := (a1.app a2).app a3
    rw [show (B1 ++ B2) ++ B3 = B1 ++ (B2 ++ B3) from List.append_assoc ..] at this
    exact this
  refine ⟨.ref p, sv1, p, b, vs, ws, rfl, rfl, e, e2, hpb, h0, h1, by omega, by omega, ?_⟩
  refine slot_write (Q := fun _ H => Q H) (env := env2) (e := .tupd []) (m := j) (nr := 0) (vr := .non) (dr := .non) (Z := Z1 ++ (Z2 ++ Z3)) (B' := B1 ++ (B2 ++ B3)) (Ar := []) rfl q sv1 hi pm repB e (fun b h => ?_) (fun b h => ⟨?_, fun z => ?_⟩) (fun _ h => nomatch h) ?_ List.nodup_nil (fin _ (fun b h o e => by rw [frz_in h]; exact e) (le_frz q.rep.le)) (.zero .non) fun v F1 H1 As1 Ar x r _ _ _ _ => ?_
  · rcases List.mem_append.mp h with h | h
    · exact List.mem_append_left _ (in1 b ((z1 b).mpr (.inl h)))
    · rcases List.mem_append.mp h with h | h
      · exact List.mem_append_right _ (in2 b ((z2 b).mpr (.inl h)))
      · exact List.mem_append_left _ (in3 b ((z3 b).mpr (.inl h)))
  · rcases List.mem_append.mp h with h | h
    · exact List.mem_append_left _ (in1 b ((z1 b).mpr (.inr h)))
    · rcases List.mem_append.mp h with h | h
      · exact List.mem_append_right _ (in2 b ((z2 b).mpr (.inr h)))
      · exact List.mem_append_left _ (in3 b ((z3 b).mpr (.inr h)))
  · rcases List.mem_append.mp z with z | z
    · have zc := (z1 b).mpr (.inl z)
      rcases List.mem_append.mp h with h | h
      · exact m1' b z h
      · rcases List.mem_append.mp h with h | h
        · exact sep b (in1 b zc) (in2 b ((z2 b).mpr (.inr h)))
        · exact ap13 b zc ((z3 b).mpr (.inr h))
    · rcases List.mem_append.mp z with z | z
      · have zc := (z2 b).mpr (.inl z)
        rcases List.mem_append.mp h with h | h
        · exact sep b (in1 b ((z1 b).mpr (.inr h))) (in2 b zc)
        · rcases List.mem_append.mp h with h | h
          · exact m2' b z h
          · exact sep b (in3 b ((z3 b).mpr (.inr h))) (in2 b zc)
      · have zc := (z3 b).mpr (.inl z)
        rcases List.mem_append.mp h with h | h
        · exact ap13 b ((z1 b).mpr (.inr h)) zc
        · rcases List.mem_append.mp h with h | h
          · exact sep b (in3 b zc) (in2 b ((z2 b).mpr (.inr h)))
          · exact m3' b z h
  · refine List.nodup_append.mpr ⟨m1, List.nodup_append.mpr ⟨m2, m3, fun x hx y hy z => sep x (in3 x ((z3 x).mpr (.inr (z ▸ hy)))) (in2 x ((z2 x).mpr (.inr hx)))⟩, fun x hx y hy z => ?_⟩
    subst z
    have zc := (z1 x).mpr (.inr hx)
    rcases List.mem_append.mp hy with h | h
    · exact sep x (in1 x zc) (in2 x ((z2 x).mpr (.inr h)))
    · exact ap13 x zc ((z3 x).mpr (.inr h))
  · rw [← hj] at r
    exact post F1 H1 As1 (x.sub fun a m => List.mem_append_right _ m) r
variable {pin : List Nat} {D : Ends}
theorem setSl_step {i : Nat} {lo hi e : E} (h : tS K c (.setSl i lo hi e) pin D σ H) : tAsg (tE K c e) (gSls (tVar i) (tE K c lo) (tE K c hi)) D σ H := by
  obtain ⟨F, As, env, o, rep, ev, post⟩ := h
  simp only [evS] at ev
  obtain ⟨⟨r, env1⟩, e1, ev⟩ := Res.bind_eq_ok.mp ev
  obtain ⟨⟨sv, env2⟩, e2, ev⟩ := Res.bind_eq_ok.mp ev
  obtain ⟨⟨n0, d0⟩, e0, ev⟩ := Res.bind_eq_ok.mp ev
  have e0 := Res.ofO_eq_ok.mp e0
  rw [two_eq] at ev
  obtain ⟨⟨rs, env3⟩, e3, ev⟩ := Res.bind_eq_ok.mp ev
  obtain ⟨⟨n, d⟩, e4, ev⟩ := Res.bind_eq_ok.mp ev
  have e2 := Res.ofO_eq_ok.mp e2
  have e4 := Res.ofO_eq_ok.mp e4
  simp only at ev
  split at ev
  · cases ev
  rename_i hn
  split at ev
  · rename_i xs s1 n1 a s2 n2 b m ys _ _ _ _ _ _
    split at ev
    · rename_i hc
      cases ev
      refine ⟨F, As, env, r, env1, rep, e1, fun v F1 H1 As1 A1 x1 rep1 rr1 nd1 out1 q1 => ?_⟩
      obtain ⟨F2, As2, x2, rep2, ro, nd, out⟩ := claim_post x1 rep1 rr1 nd1 out1 e2
      have q : Cl K F H σ As F2 H1 env2 As2 [v] [(m + 1, .lst ys)] A1 := by
        refine ⟨x2, rep2, ?_, nd1, fun a m => ⟨fun z => (List.nodup_append.mp nd).2.2 a m a z rfl, out a m⟩⟩
        have := RSs.cons ro RSs.nil
        rw [List.append_nil] at this
        exact this
      obtain ⟨o, _, _, so, _⟩ := rep2.focus e0
      refine ⟨o, so, ?_⟩
      refine tEs_two (c := c) ⟨F2, As2, env2, _, env3, rep2, e3, fun vs F3 H3 As3 A3 x3 rep3 rr3 nd3 out3 q3 => ?_⟩
      intro vx vy hv
      subst hv
      obtain ⟨B1, B2, _, p1, p2⟩ := rr3.inv2
      rw [int_read (RR.read p1 rep3), int_read (RR.read p2 rep3)]
      have q' := q.after (x3.sub fun a m => List.mem_append_right _ m) rep3
      obtain ⟨o', so', p, b', vs, ws, e5, e6, e7, e8, e9, e10, e11, e12, e13, z⟩ := set_sl (Q := fun H => D.nx σ H) q' e4 hn hc fun F4 H4 As4 x4 rep4 => post σ F4 H4 As4 x4 rep4 fun _ _ => rfl
      rw [so] at so'; cases so'
      exact ⟨p, b', vs, ws, a, b, e5, e6, rfl, rfl, e7, e8, e9, e10, e11, e12, e13, z⟩
    · cases ev
  · cases ev
end Ck

set_option Elab.async false
set_option linter.all false
set_option maxRecDepth 100000
/-! Ck23: statements against the row's. -/
namespace Ck
open PySem PySem.Spec PyProof.Rows L2
variable {c : Cal}
structure SOk (S : Ss) (X : Cx) (c : Cal) : Prop where
  xo : XOk S X
  co : COk S X c
  kd : S.sc.kind = .function
  po : PassesOwn (model X.prog X.w) X.A X.env X.xe
theorem SOk.bk {S : Ss} {X : Cx} (o : SOk S X c) : X.env.blockKind = .function := by
  unfold Env.blockKind
  rw [o.xo.sc, o.kd]
  rfl
def noTup : Expr → Bool
  | .Tuple _ _ _ => false
  | _ => true
theorem swaps_no {e : Expr} {t : Option Expr} {l : Nat} {env : PySem.Env} (h : noComp e = true) : swapsWith e t l env = pure false := by
  cases e <;> first | rfl | cases h
theorem swaps_tup {e : Expr} {l2 : List Expr} {k : Nat} {p : Pos} {l : Nat} {env : PySem.Env} (h : noComp e = true) : swapsWithSole [.Tuple l2 k p] e l env = pure false := by
  have z : swapsWith e (some (.Tuple l2 k p)) l env = pure false := swaps_no h
  exact z
theorem swaps_sub {e o i : Expr} {p : Pos} {l : Nat} {env : PySem.Env} (h : noComp e = true) : swapsWithSole [.Subscript o i p] e l env = pure false := by
  have z : swapsWith e (some (.Subscript o i p)) l env = pure false := swaps_no h
  exact z
theorem stores_no {t e : Expr} {env : PySem.Env} (h : noTup e = true) : swappedStores [t] e env = pure none := by
  unfold swappedStores
  cases e <;> first | cases h; done | skip
  all_goals cases t <;> rfl
/-- the names that are stored from the right -/
def swNames (S : Ss) (line : Nat) (ts : List Expr) : List Str := ts.filterMap fun t => match t with
  | .Name id pos => if S.sc.names.lookup id == some .local && pos.line == line then some id else none
  | _ => none
def plainVs (vs : List Expr) : Bool := vs.all fun v => match v with | .Starred _ _ => false | _ => true
/-- not swapped: a tuple is made -/
def noSwap (S : Ss) (ts vs : List Expr) : Bool :=
  !(ts.length == 2 || ts.length == 3) || vs.length != ts.length || (plainVs vs && ((swNames S ((ts.head?.map (·.pos.line)).getD 0) ts).length != ts.length)) ||
  (plainVs vs && (swNames S ((ts.head?.map (·.pos.line)).getD 0) ts).eraseDups.length == (swNames S ((ts.head?.map (·.pos.line)).getD 0) ts).length && vs.all (foldedForSure 8))
def isSwap (S : Ss) (ts vs : List Expr) : Bool :=
  (ts.length == 2 || ts.length == 3) && vs.length == ts.length && plainVs vs && ((swNames S ((ts.head?.map (·.pos.line)).getD 0) ts).length == ts.length) &&
  ((swNames S ((ts.head?.map (·.pos.line)).getD 0) ts).eraseDups.length == (swNames S ((ts.head?.map (·.pos.line)).getD 0) ts).length) && !vs.all (foldedForSure 8) && !vs.all (constantsAlone 8)
def starB : Expr → Bool
  | .Starred _ _ => true
  | _ => false
def nmF (X : Cx) (line : Nat) : Expr → Option Str
  | .Name id pos => if X.env.kindOf id == some .local && pos.line == line then some id else none
  | _ => none
theorem swN_eq {S : Ss} {X : Cx} (o : XOk S X) {line : Nat} {ts : List Expr} : ts.filterMap (nmF X line) = swNames S line ts := by
  unfold swNames
  have e : ∀ id, X.env.kindOf id = S.sc.names.lookup id := fun id => by show X.env.scope.names.lookup id = _; rw [o.sc]
  congr 1
  funext t
  cases t <;> first | rfl | (simp only [nmF, e])
theorem any_plain {vs : List Expr} (h : plainVs vs = true) : vs.any starB = false := by
  rw [List.any_eq_false]
  intro v hv
  have := List.all_eq_true.mp h v hv
  cases v <;> first | (cases this; done) | simp [starB]
def lineOf (ts : List Expr) : Nat := (Option.map (fun x => x.pos.line) ts.head?).getD 0
theorem stores_eq {X : Cx} {ts vs : List Expr} {k k2 : Nat} {p p2 : Pos} (hb : X.env.blockKind = .function) : swappedStores [.Tuple ts k p] (.Tuple vs k2 p2) X.env =
    if (!(ts.length == 2 || ts.length == 3) || vs.length != ts.length) = true then pure none
    else if vs.any starB = true then pure none
    else if ((ts.filterMap (nmF X (lineOf ts))).length != ts.length || (ts.filterMap (nmF X (lineOf ts))).eraseDups.length != (ts.filterMap (nmF X (lineOf ts))).length) = true then pure none
    else if vs.all (foldedForSure 8) = true then pure none
    else if vs.all (constantsAlone 8) = true then (do
        let r ← unsupported "assign.tuple-of-constant-expressions:order-of-the-stores"
        (fun _ : PUnit => pure (some (ts.filterMap (nmF X (lineOf ts))))) r)
    else pure (some (ts.filterMap (nmF X (lineOf ts)))) := by
  have e0 : (!(ts.length == 2 || ts.length == 3) || vs.length != ts.length) = (!(ts.length == 2 || ts.length == 3) || vs.length != ts.length || X.env.blockKind != ScopeKind.function) := by
    rw [hb]
    show _ = (_ || false)
    rw [Bool.or_false]
  rw [e0]
  rfl
theorem stores_pair {S : Ss} {X : Cx} (o : SOk S X c) {ts vs : List Expr} {k k2 : Nat} {p p2 : Pos} : (noSwap S ts vs = true → swappedStores [.Tuple ts k p] (.Tuple vs k2 p2) X.env = pure none) ∧
    (isSwap S ts vs = true → swappedStores [.Tuple ts k p] (.Tuple vs k2 p2) X.env = pure (some (swNames S (lineOf ts) ts))) := by
  have ee := stores_eq (X := X) (ts := ts) (vs := vs) (k := k) (k2 := k2) (p := p) (p2 := p2) o.bk
  rw [swN_eq o.xo] at ee
  rw [ee]
  have en : swNames S ((ts.head?.map (·.pos.line)).getD 0) ts = swNames S (lineOf ts) ts := rfl
  constructor
  · intro h
    unfold noSwap at h
    rw [en] at h
    generalize swNames S (lineOf ts) ts = nn at h ⊢
    by_cases h1 : (!(ts.length == 2 || ts.length == 3) || vs.length != ts.length) = true
    · rw [if_pos h1]
    · rw [if_neg h1]
      by_cases h2 : vs.any starB = true
      · rw [if_pos h2]
      · rw [if_neg h2]
        by_cases h3 : (nn.length != ts.length || nn.eraseDups.length != nn.length) = true
        · rw [if_pos h3]
        · rw [if_neg h3]
          have h4 : vs.all (foldedForSure 8) = true := by
            simp only [Bool.not_eq_true] at h1 h3
            rw [Bool.or_eq_false_iff] at h3
            rw [h1, h3.1, Bool.and_false, Bool.false_or, Bool.false_or] at h
            simp only [Bool.and_eq_true] at h
            exact h.2
          rw [if_pos h4]
  · intro h
    unfold isSwap at h
    rw [en] at h
    generalize swNames S (lineOf ts) ts = nn at h ⊢
    simp only [Bool.and_eq_true, Bool.not_eq_true'] at h
    obtain ⟨⟨⟨⟨⟨⟨h1, h2⟩, h3⟩, h4⟩, h5⟩, h6⟩, h7⟩ := h
    have f1 : (!(ts.length == 2 || ts.length == 3) || vs.length != ts.length) = false := by rw [h1, bne, h2]; rfl
    have f3 : (nn.length != ts.length || nn.eraseDups.length != nn.length) = false := by rw [bne, bne, h4, h5]; rfl
    rw [f1, any_plain h3, f3, h6, h7]
    rfl

/-! ### the checker -/
section
variable {S : Ss} {X : Cx}
def isComp : Expr → Bool
  | .ListComp _ _ _ _ => true
  | _ => false
/-- the value of a comprehension goes straight to the name -/
def swB (S : Ss) (y : Str) (py : Pos) : Expr → Bool
  | .ListComp _ _ scope pos => (S.sc.names.lookup y == some .local) && (py.line == pos.line) && !(scope.names.any fun (n, k) => n == y && (k == .local || k == .cell))
  | _ => false
def chkPar (is : List Nat) (fs : List Ck) (S : Ss) : Stmt → Bool
  | .Assign [.Tuple [.Name x px, .Name y py] kt pt] (.Tuple [a, b] k2 pt2) _ => (match is with
    | [i, j] => decide (S.N[i]? = some x) && decide (S.N[j]? = some y) && decide (i ≠ j) && decide (S.sc.names.lookup x = some .local) && decide (S.sc.names.lookup y = some .local) && chkAll S fs [a, b] && isSwap S [.Name x px, .Name y py] [a, b] && (py.line == px.line)
    | _ => false)
  | .Assign [.Tuple [.Name x px, .Name y py, .Name z pz] kt pt] (.Tuple [a, b, d] k2 pt2) _ => (match is with
    | [i, j, l] => decide (S.N[i]? = some x) && decide (S.N[j]? = some y) && decide (S.N[l]? = some z) && decide (i ≠ j) && decide (i ≠ l) && decide (j ≠ l) && decide (S.sc.names.lookup x = some .local) && decide (S.sc.names.lookup y = some .local) && decide (S.sc.names.lookup z = some .local) && chkAll S fs [a, b, d] && isSwap S [.Name x px, .Name y py, .Name z pz] [a, b, d] && (py.line == px.line) && (pz.line == px.line)
    | _ => false)
  | _ => false
mutual
def chkS : Ck.S → Ss → Stmt → Bool
  | .exp e => fun S s => (match s with | .Expr a _ => noComp a && chkE e S a | _ => false)
  | .set i e => fun S s => (match s with
    | .Assign [.Name x px] a _ => decide (S.N[i]? = some x) && decide (x ∈ S.st) && chkE e S a && (noComp a || (isComp a && (!swB S x px a || (match e with | .comp .. => true | _ => false))))
    | _ => false)
  | .setT tg e => fun S s => (match s with
    | .Assign [t] a _ => isTup t && noComp a && chkTg tg S t && chkE e S a && (match t, a with | .Tuple ts _ _, .Tuple vs _ _ => noSwap S ts vs | _, _ => true)
    | _ => false)
  | .par is es => chkPar is (chkEs es)
  | .setIx i j e => fun S s => (match s with
    | .Assign [.Subscript (.Name x _) b _] a _ => nmB S i x && plainIx b && noComp a && chkE j S b && chkE e S a
    | _ => false)
  | .setSl i lo hi e => fun S s => (match s with
    | .Assign [.Subscript (.Name x _) (.Slice (some b) (some d) none _) _] a _ => nmB S i x && noComp a && chkE lo S b && chkE hi S d && chkE e S a
    | _ => false)
  | .aug i o e => fun S s => (match s with
    | .AugAssign (.Name x _) op a _ => decide (S.N[i]? = some x) && decide (x ∈ S.st) && binB o op && chkE e S a
    | _ => false)
  | .ret e => fun S s => (match s with | .Return (some a) _ => chkE e S a | _ => false)
  | .retN => fun _ s => (match s with | .Return none _ => true | _ => false)
  | .ite t a b => fun S s => (match s with | .If d p q _ => chkT t S d && chkSs a S p && chkSs b S q | _ => false)
  | .whl t b => fun S s => (match s with | .While d p [] _ => chkT t S d && chkSs b S p | _ => false)
  | .forS tg it b => fun S s => (match s with | .For t i p [] _ => chkI it S t i && chkTg tg S t && chkSs b S p | _ => false)
  | .brk => fun _ s => (match s with | .Break _ => true | _ => false)
  | .cnt => fun _ s => (match s with | .Continue _ => true | _ => false)
  | .pas => fun _ s => (match s with | .Pass _ => true | _ => false)
  | .never => fun _ _ => true
termination_by structural x => x
def chkSs : List Ck.S → Ss → List Stmt → Bool
  | [] => fun _ l => (match l with | [] => true | _ => false)
  | s :: ss => fun S l => (match l with | st :: sts => chkS s S st && chkSs ss S sts | [] => false)
termination_by structural x => x
end
theorem swaps_comp {S : Ss} (o : SOk S X c) {x : Str} {px : Pos} {a : Expr} {l : Nat} (h : isComp a = true) : swapsWith a (some (.Name x px)) l X.env = pure (swB S x px a) := by
  cases a <;> first | cases h; done | skip
  rename_i elt gs scope pos
  have hb := o.bk
  have hk : X.env.kindOf x = S.sc.names.lookup x := by show X.env.scope.names.lookup x = _; rw [o.xo.sc]
  show (pure (X.env.blockKind == .function && X.env.kindOf x == some .local && px.line == pos.line && !(scope.names.any fun (n, k) => n == x && (k == .local || k == .cell))) : Sem Bool) = _
  rw [hb, hk]
  show (pure (true && _ && _ && _) : Sem Bool) = _
  rw [Bool.true_and]
  rfl
theorem pgx {tg : Tg} {e : Expr} (ok : XOk S X) (h : chkTg tg S e = true) : PG X e (tGx X.kw tg) := ⟨fun pins s σ H v u Q I r q => by
  obtain ⟨pin, q⟩ := q
  exact (snd_tg ok tg e pin h).run pins s σ H v u Q I r q⟩
theorem assign_sub {o i : Expr} {pos : Pos} {env : PySem.Env} (h : plainIx i = true) (v : Value) : assign (.Subscript o i pos) env v = (do
      let ov ← holding [v] (eval o env)
      let iv ← holding [v, ov] (eval i env)
      standAt pos
      holding [v, ov, iv] (setItem ov iv v)
      release [v, ov, iv] []) := by
  cases i <;> first | rfl | cases h
theorem sw_two {x y : Str} {px py : Pos} (hx : S.sc.names.lookup x = some .local) (hy : S.sc.names.lookup y = some .local) (hl : (py.line == px.line) = true) : swNames S (lineOf [.Name x px, .Name y py]) [.Name x px, .Name y py] = [x, y] := by
  unfold swNames lineOf
  simp only [List.head?_cons, Option.map_some, Option.getD_some, Expr.pos, List.filterMap_cons, List.filterMap_nil, hx, hy, hl]
  simp
theorem sw_three {x y z : Str} {px py pz : Pos} (hx : S.sc.names.lookup x = some .local) (hy : S.sc.names.lookup y = some .local) (hz : S.sc.names.lookup z = some .local) (hl : (py.line == px.line) = true) (hl2 : (pz.line == px.line) = true) :
    swNames S (lineOf [.Name x px, .Name y py, .Name z pz]) [.Name x px, .Name y py, .Name z pz] = [x, y, z] := by
  unfold swNames lineOf
  simp only [List.head?_cons, Option.map_some, Option.getD_some, Expr.pos, List.filterMap_cons, List.filterMap_nil, hx, hy, hz, hl, hl2]
  simp
theorem snd_par (o : SOk S X c) {is : List Nat} {es : List E} {fs : List Ck} {s : Stmt} {pin : List Nat} (g : Paired (Good S X c) fs es) (h : chkPar is fs S s = true) : PS X s (tS X.kw c (.par is es) pin) := by
  have ok := o.xo
  have nd : X.N.Nodup := by rw [ok.N]; exact ok.nd
  unfold chkPar at h
  split at h
  · split at h
    · rename_i x px y py kt pt a b k2 pt2 pos i j
      simp only [Bool.and_eq_true, decide_eq_true_eq] at h
      obtain ⟨⟨⟨⟨⟨⟨⟨h1, h2⟩, h3⟩, h4⟩, h5⟩, h6⟩, h7⟩, h8⟩ := h
      have hw := sw_two h4 h5 h8
      refine PS.weak (ps_par ok.calm nd (by rw [ok.N]; exact h1) (by rw [ok.N]; exact h2) h3 (by rw [ok.sc]; exact h4) (by rw [ok.sc]; exact h5) (snd_all g h6) (by rw [(stores_pair o).2 h7, hw])) fun D σ H z => ?_
      refine tEs_mono (par_step z) fun vs H1 ⟨hl, z⟩ => ?_
      match vs, hl, z with
      | [v, w], _, z => exact ⟨v, w, rfl, z⟩
    · cases h
  · split at h
    · rename_i x px y py z pz kt pt a b d k2 pt2 pos i j l
      simp only [Bool.and_eq_true, decide_eq_true_eq] at h
      obtain ⟨⟨⟨⟨⟨⟨⟨⟨⟨⟨⟨⟨h1, h2⟩, h3⟩, h4⟩, h5⟩, h6⟩, h7⟩, h8⟩, h9⟩, h10⟩, h11⟩, h12⟩, h13⟩ := h
      have hw := sw_three h7 h8 h9 h12 h13
      refine PS.weak (ps_par3 ok.calm nd (by rw [ok.N]; exact h1) (by rw [ok.N]; exact h2) (by rw [ok.N]; exact h3) h4 h5 h6 (by rw [ok.sc]; exact h7) (by rw [ok.sc]; exact h8) (by rw [ok.sc]; exact h9) (snd_all g h10) (by rw [(stores_pair o).2 h11, hw])) fun D σ H z => ?_
      refine tEs_mono (par_step z) fun vs H1 ⟨hl, z⟩ => ?_
      match vs, hl, z with
      | [u, v, w], _, z => exact ⟨u, v, w, rfl, z⟩
    · cases h
  · cases h
theorem aug_rule {o : Op} {op : Operator} (h : binB o op = true) : (o = .add ∧ op = .Add) ∨ (o = .sub ∧ op = .Sub) ∨ (rAug o = fun _ _ _ _ => False) := by
  unfold binB at h
  split at h <;> first | exact .inl ⟨rfl, rfl⟩ | exact .inr (.inl ⟨rfl, rfl⟩) | exact .inr (.inr rfl) | cases h
theorem ip_of {o : Op} {op : Operator} (h : binB o op = true) : PIp X op (rAug o) := by
  rcases aug_rule h with ⟨rfl, rfl⟩ | ⟨rfl, rfl⟩ | e
  · intro pins s σ H x y v u Q I rx ry q
    rcases q with q | q
    · exact ip_add pins s σ H x y v u Q I rx ry q
    · exact iop_add_str pins s σ H x y v u Q I rx ry q
  · exact ip_sub
  · rw [e]
    exact fun pins s σ H x y v u Q I rx ry q => False.elim q
mutual
theorem sndS (o : SOk S X c) : ∀ (t : Ck.S) (s : Stmt) (pin : List Nat), chkS t S s = true → PS X s (tS X.kw c t pin)
  | .exp e, s, pin, h => by
    simp only [chkS] at h
    split at h
    · simp only [Bool.and_eq_true] at h
      exact PS.weak (ps_expr (sndE c e S X o.xo o.co _ h.2) (swaps_no h.1)) fun D σ H z => exp_step z
    · cases h
  | .set i e, s, pin, h => by
    have ok := o.xo
    have nd : X.N.Nodup := by rw [ok.N]; exact ok.nd
    simp only [chkS] at h
    split at h
    · rename_i x px a pos
      simp only [Bool.and_eq_true, decide_eq_true_eq] at h
      obtain ⟨⟨⟨h1, h2⟩, h3⟩, h4⟩ := h
      obtain ⟨lo, fn⟩ := ok.st x h2
      have plain : swapsWith a (some (.Name x px)) pos.line X.env = pure false → PS X (.Assign [.Name x px] a pos) (tS X.kw c (.set i e) pin) := fun hs =>
        PS.weak (ps_set nd (by rw [ok.N]; exact h1) (by rw [ok.sc]; exact lo) (sndE c e S X ok o.co _ h3) hs fn) fun D σ H z => set_step z
      rw [Bool.or_eq_true] at h4
      rcases h4 with h4 | h4
      · exact plain (swaps_no h4)
      · rw [Bool.and_eq_true] at h4
        cases hsw : swB S x px a with
        | false => exact plain (by rw [swaps_comp o h4.1, hsw])
        | true =>
          rw [hsw] at h4
          cases e <;> first | (cases h4.2; done) | skip
          rename_i elt tg it tst own
          simp only [chkE] at h3
          obtain ⟨e', t, iter, ifs, scope, cpos, rfl, ⟨S', q1, q2⟩, pi, bo, hs, pg, pt, pe, fo⟩ := comp_bits ok o.co (sndE c elt) (sndI c it) (sndT c tst) h3
          have hx : X.env.scope.names.lookup x = some .local := by
            rw [ok.sc]
            unfold swB at hsw
            simp only [Bool.and_eq_true, beq_iff_eq] at hsw
            exact hsw.1.1
          refine PS.weak (ps_setLc ok.calm nd (by rw [ok.N]; exact h1) hx (by rw [swaps_comp o rfl, hsw]) pi bo pg pt pe fo) fun D σ H z => ?_
          have z := comp_step (fun z => tg_isT q2 (chkI_pair q1 z)) hs (set_step z)
          rw [own_snd]
          exact z
    · cases h
  | .setT tg e, s, pin, h => by
    simp only [chkS] at h
    split at h
    · rename_i t a pos
      simp only [Bool.and_eq_true] at h
      obtain ⟨⟨⟨⟨h1, h2⟩, h3⟩, h4⟩, h5⟩ := h
      cases t <;> first | cases h1; done | skip
      rename_i ts k p
      have hw : swappedStores [.Tuple ts k p] a X.env = pure none := by
        cases a <;> first | exact stores_no rfl | skip
        exact (stores_pair o).1 h5
      exact PS.weak (ps_asg (sndE c e S X o.xo o.co _ h4) (snd_tg o.xo tg _ pin h3) (swaps_tup h2) hw rfl) fun D σ H z => setT_step z
    · cases h
  | .par is es, s, pin, h => by
    simp only [chkS] at h
    exact snd_par o (sndEs c es S X o.xo o.co) h
  | .setIx i j e, s, pin, h => by
    simp only [chkS] at h
    split at h
    · simp only [Bool.and_eq_true] at h
      obtain ⟨⟨⟨⟨h1, h2⟩, h3⟩, h4⟩, h5⟩ := h
      refine PS.weak (ps_asg (sndE c e S X o.xo o.co _ h5) (pg_sub (pe_nm o.xo h1) (sndE c j S X o.xo o.co _ h4) (PSet.or set_list (set_dict o.xo.hu)) (assign_sub h2)) ?_ ?_ rfl) fun D σ H z => setIx_step z
      · exact swaps_sub h3
      · rfl
    · cases h
  | .setSl i lo hi e, s, pin, h => by
    simp only [chkS] at h
    split at h
    · simp only [Bool.and_eq_true] at h
      obtain ⟨⟨⟨⟨h1, h3⟩, h4⟩, h4'⟩, h5⟩ := h
      refine PS.weak (ps_asg (sndE c e S X o.xo o.co _ h5) (pg_sls (pe_nm o.xo h1) (sndE c lo S X o.xo o.co _ h4) (sndE c hi S X o.xo o.co _ h4')) ?_ ?_ rfl) fun D σ H z => setSl_step z
      · exact swaps_sub h3
      · rfl
    · cases h
  | .aug i op e, s, pin, h => by
    have ok := o.xo
    have nd : X.N.Nodup := by rw [ok.N]; exact ok.nd
    simp only [chkS] at h
    split at h
    · simp only [Bool.and_eq_true, decide_eq_true_eq] at h
      obtain ⟨⟨⟨h1, h2⟩, h3⟩, h4⟩ := h
      obtain ⟨lo, fn⟩ := ok.st _ h2
      exact PS.weak (ps_aug nd (by rw [ok.N]; exact h1) (by rw [ok.sc]; exact lo) (sndE c e S X ok o.co _ h4) (ip_of h3) fn) fun D σ H z => aug_step z
    · cases h
  | .ret e, s, pin, h => by
    simp only [chkS] at h
    split at h
    · exact PS.weak (ps_ret (sndE c e S X o.xo o.co _ h)) fun D σ H z => ret_step z
    · cases h
  | .retN, s, pin, h => by
    simp only [chkS] at h
    split at h
    · exact PS.weak ps_retN fun D σ H z => retN_step z
    · cases h
  | .ite t a b, s, pin, h => by
    simp only [chkS] at h
    split at h
    · simp only [Bool.and_eq_true] at h
      exact PS.weak (ps_if (sndT c t S X o.xo o.co _ h.1.1) (sndSs o a _ pin h.1.2) (sndSs o b _ pin h.2)) fun D σ H z => ite_step z
    · cases h
  | .whl t b, s, pin, h => by
    simp only [chkS] at h
    split at h
    · simp only [Bool.and_eq_true] at h
      exact PS.weak (ps_while o.po (sndT c t S X o.xo o.co _ h.1) (sndSs o b _ pin h.2)) fun D σ H z => whl_step z
    · cases h
  | .forS tg it b, s, pin, h => by
    simp only [chkS] at h
    split at h
    · simp only [Bool.and_eq_true] at h
      obtain ⟨pi, fo⟩ := sndI c it S X o.xo o.co _ _ h.1.1
      exact PS.weak (ps_for o.po o.xo.calm pi (pgx o.xo h.1.2) ⟨fun pins s σ H D I ⟨pin, q⟩ => (sndSs o b _ pin h.2).run pins s σ H D I q⟩ fo) fun D σ H z => for_step (fun z => tg_isT h.1.2 (chkI_pair h.1.1 z)) z
    · cases h
  | .brk, s, pin, h => by
    simp only [chkS] at h
    split at h
    · exact PS.weak ps_break fun D σ H z => brk_step z
    · cases h
  | .cnt, s, pin, h => by
    simp only [chkS] at h
    split at h
    · exact PS.weak ps_continue fun D σ H z => cnt_step z
    · cases h
  | .pas, s, pin, h => by
    simp only [chkS] at h
    split at h
    · exact PS.weak ps_pass fun D σ H z => pas_step z
    · cases h
  | .never, s, pin, h => PS.weak ps_never fun D σ H z => never_step z
termination_by structural x => x
theorem sndSs (o : SOk S X c) : ∀ (l : List Ck.S) (ss : List Stmt) (pin : List Nat), chkSs l S ss = true → PSs X ss (tSs X.kw c l pin)
  | [], ss, pin, h => by
    cases ss with
    | nil => exact PSs.weak pss_nil fun D σ H z => ss_nil z
    | cons _ _ => simp [chkSs] at h
  | t :: l, ss, pin, h => by
    cases ss with
    | nil => simp [chkSs] at h
    | cons s ss =>
      simp only [chkSs, Bool.and_eq_true] at h
      exact PSs.weak (pss_cons (sndS o t s pin h.1) (sndSs o l ss pin h.2)) fun D σ H z => ss_cons z
termination_by structural x => x
end
end
end Ck

set_option Elab.async false
set_option linter.all false
set_option maxRecDepth 100000
/-! Ck24: defs, their binding, constants. -/
namespace Ck
open PySem PySem.Spec PyProof.Rows L2

/-! ### binding -/
def simpB (p : Arguments) (ps : List Str) : Bool := p.posonlyargs.isEmpty && decide (p.args.map (·.arg) = ps) && p.vararg.isNone && p.kwonlyargs.isEmpty && p.kwarg.isNone
theorem zip_lookup : ∀ {ps : List Str} {us : List Value} {n : Str}, us.length = ps.length → n ∈ ps → ((ps.zip us).lookup n).isSome = true
  | [], _, _, _, h => nomatch h
  | p :: ps, [], _, h, _ => nomatch h
  | p :: ps, u :: us, n, hl, h => by
    rw [List.zip_cons_cons, List.lookup_cons]
    cases q : n == p with
    | true => rfl
    | false =>
      refine zip_lookup (Nat.succ.inj hl) ?_
      rcases List.mem_cons.mp h with e | h
      · subst e; simp at q
      · exact h
theorem zip_filter {ps : List Str} {us : List Value} (hl : us.length = ps.length) (k : Nat) : ((ps.take k).filter fun n => ((ps.zip us).lookup n).isNone) = [] := by
  rw [List.filter_eq_nil_iff]
  intro n hn
  have := zip_lookup hl (List.mem_of_mem_take hn)
  simp [Option.isSome_iff_ne_none.mp this]
theorem fm_congr {α β : Type} {f g : α → Option β} : ∀ {l : List α}, (∀ x ∈ l, f x = g x) → l.filterMap f = l.filterMap g
  | [], _ => rfl
  | a :: l, h => by rw [List.filterMap_cons, List.filterMap_cons, h a (List.mem_cons_self ..), fm_congr fun x hx => h x (List.mem_cons_of_mem _ hx)]
theorem zip_again : ∀ {ps : List Str} {us : List Value}, us.length = ps.length → ps.Nodup → ps.filterMap (fun n => ((ps.zip us).lookup n).map (n, ·)) = ps.zip us
  | [], [], _, _ => rfl
  | [], _ :: _, h, _ => nomatch h
  | p :: ps, [], h, _ => nomatch h
  | p :: ps, u :: us, hl, nd => by
    obtain ⟨n1, n2⟩ := List.nodup_cons.mp nd
    have ih := zip_again (us := us) (Nat.succ.inj hl) n2
    have e : ∀ n ∈ ps, (((p :: ps).zip (u :: us)).lookup n).map (n, ·) = ((ps.zip us).lookup n).map (n, ·) := fun n hn => by
      rw [List.zip_cons_cons, List.lookup_cons]
      have : (n == p) = false := by
        cases q : n == p with
        | false => rfl
        | true => rw [eq_of_beq q] at hn; exact absurd hn n1
      rw [this]
    rw [List.filterMap_cons, List.zip_cons_cons, List.lookup_cons]
    simp only [beq_self_eq_true]
    show (p, u) :: _ = _
    rw [← List.zip_cons_cons, fm_congr e, ih, List.zip_cons_cons]
theorem bind_simple {x qual : Str} {p : Arguments} {body : List Stmt} {scope : Scope} {kV doc pm : Value} {an : Option Addr} {cdv ct : Value} {ps : List Str} {us : List Value} (h : simpB p ps = true) (nd : ps.Nodup) (hl : us.length = ps.length) :
    bindArgs (PySem.W.fnOf x qual p body scope .none kV doc pm an cdv ct) ⟨us, []⟩ = pure (ps.zip us) := by
  obtain ⟨po, ar, va, ko, kd, kw, df⟩ := p
  unfold simpB at h
  simp only [Bool.and_eq_true, decide_eq_true_eq, List.isEmpty_iff, Option.isNone_iff_eq_none] at h
  obtain ⟨⟨⟨⟨rfl, h2⟩, rfl⟩, rfl⟩, rfl⟩ := h
  unfold bindArgs PySem.W.fnOf
  simp only [List.map_nil, List.nil_append, h2, List.append_nil, List.forIn_nil, pure_bind]
  have e0 : seqItems? Value.none = pure none := rfl
  rw [e0]
  have e1 : (#[] : Array Value).toList = [] := rfl
  simp only [pure_bind, Option.getD_none, e1, List.drop_nil, List.length_nil, Nat.sub_zero, zip_filter hl, List.isEmpty_nil, Bool.not_true, Bool.false_eq_true, if_false, List.zip_nil_right, List.forIn_nil, zip_again hl nd, hl, gt_iff_lt, Nat.lt_irrefl, decide_false, Bool.false_and]

/-! ### constants of the module -/
mutual
def datB (K : PySem.W.Frag) : D → Value → Bool
  | .non, .none => true
  | .bl b, .bool c => b == c
  | .int i, .int j _ => decide (i = j)
  | .str x, .str y _ => decide (x = y)
  | .tup l, .ref a => (match K.lookup a with
    | some ⟨.type t, none, .seq its _, _⟩ => decide (t = "tuple") && decide (its.size ≤ sizeLine) && datsB K l its.toList
    | _ => false)
  | .scr l, .ref a => (match K.lookup a with
    | some ⟨.type t, none, .seq its _, _⟩ => decide (t = "list") && decide (its.size ≤ sizeLine) && datsB K l its.toList
    | _ => false)
  | _, _ => false
termination_by structural x => x
def datsB (K : PySem.W.Frag) : List D → List Value → Bool
  | [], [] => true
  | d :: ds, u :: us => datB K d u && datsB K ds us
  | _, _ => false
termination_by structural x => x
end
mutual
theorem datB_ok {K : PySem.W.Frag} : ∀ (d : D) (u : Value), datB K d u = true → ∃ v, RelV v u ∧ ∀ P w F, RD ⟨K, P, w⟩ F v d
  | .non, u, h => by
    cases u <;> first | exact ⟨.non, rfl, fun _ _ _ => .non⟩ | (simp [datB] at h)
  | .bl b, u, h => by
    cases u <;> first | (simp [datB] at h; done) | skip
    rename_i c
    simp only [datB] at h
    rw [eq_of_beq h]
    exact ⟨.bl c, rfl, fun _ _ _ => .bl _⟩
  | .int i, u, h => by
    cases u <;> first | (simp [datB] at h; done) | skip
    rename_i j t
    simp only [datB, decide_eq_true_eq] at h
    subst h
    exact ⟨.int i, ⟨t, rfl⟩, fun _ _ _ => .int _⟩
  | .str x, u, h => by
    cases u <;> first | (simp [datB] at h; done) | skip
    rename_i j t
    simp only [datB, decide_eq_true_eq] at h
    subst h
    exact ⟨.str x, ⟨t, rfl⟩, fun _ _ _ => .str _⟩
  | .tup l, u, h => by
    cases u <;> first | (simp [datB] at h; done) | skip
    rename_i a
    simp only [datB] at h
    split at h
    · rename_i t its n osl q
      simp only [Bool.and_eq_true, decide_eq_true_eq] at h
      obtain ⟨vs, r, rd⟩ := datsB_ok l _ h.2
      exact ⟨.ref a, rfl, fun P w F => .tup (.inr ⟨_, its, n, q, congrArg Value.type h.1.1, rfl, h.1.2, r, rfl⟩) (rd P w F)⟩
    · cases h
  | .scr l, u, h => by
    cases u <;> first | (simp [datB] at h; done) | skip
    rename_i a
    simp only [datB] at h
    split at h
    · rename_i t its n osl q
      simp only [Bool.and_eq_true, decide_eq_true_eq] at h
      obtain ⟨vs, r, rd⟩ := datsB_ok l _ h.2
      exact ⟨.ref a, rfl, fun P w F => .scr (.inr ⟨_, its, n, q, congrArg Value.type h.1.1, rfl, rfl, h.1.2, r⟩) (rd P w F)⟩
    · cases h
  | .lst l, u, h => by cases u <;> simp [datB] at h
  | .dic _ _, u, h => by cases u <;> simp [datB] at h
  | .obj _ _ _, u, h => by cases u <;> simp [datB] at h
theorem datsB_ok {K : PySem.W.Frag} : ∀ (l : List D) (us : List Value), datsB K l us = true → ∃ vs, Vals vs us ∧ ∀ P w F, RDs ⟨K, P, w⟩ F vs l
  | [], [], _ => ⟨[], .nil, fun _ _ _ => .nil⟩
  | [], _ :: _, h => by simp [datsB] at h
  | _ :: _, [], h => by simp [datsB] at h
  | d :: ds, u :: us, h => by
    simp only [datsB, Bool.and_eq_true] at h
    obtain ⟨v, r, rd⟩ := datB_ok d u h.1
    obtain ⟨vs, rs, rds⟩ := datsB_ok ds us h.2
    exact ⟨v :: vs, .cons r rs, fun P w F => .cons (rd P w F) (rds P w F)⟩
end
def conB (K : PySem.W.Frag) (p : Str × D) : Bool := match PySem.W.nsIn K mainGlobals p.1 with
  | some (some u) => datB K p.2 u
  | _ => false
theorem con_ok {K : PySem.W.Frag} {h : Heap} {mg : Str → Option Value} (X : K.In h) (G : h.Ns mainGlobals mg) {p : Str × D} (c : conB K p = true) : ∃ v u, mg p.1 = some u ∧ RelV v u ∧ ∀ P w F, RD ⟨K, P, w⟩ F v p.2 := by
  unfold conB at c
  split at c
  · rename_i u e
    obtain ⟨v, r, rd⟩ := datB_ok _ _ c
    exact ⟨v, u, PySem.W.mg_of X G e, r, rd⟩
  · cases c
end Ck

set_option Elab.async false
set_option linter.all false
set_option maxRecDepth 100000
/-! Ck25: every def keeps its promise; the head's facts. -/
namespace Ck
open PySem PySem.Spec PyProof.Rows L2
/-- one def against its row -/
def okB (nm : List Str) (np : List Nat) (cs : List (Str × D)) (bl : List Str) (d : He.DefD) (N : List Str) (df : Df) : Bool :=
  decide (d.at_ = (d.name, none)) && d.dfl.isEmpty && d.kwd.isEmpty && C8.scC N (N.take df.np) d.scope && decide (N.length = df.ns) && decide (df.np ≤ df.ns) && simpB d.params (N.take df.np) &&
    chkSs df.body ⟨N, d.scope, nm, np, cs, bl, N.filter (locB d.scope)⟩ d.body
def okL (nm : List Str) (np : List Nat) (cs : List (Str × D)) (bl : List Str) : List He.DefD → List (List Str) → Gt → Bool
  | [], [], [] => true
  | d :: ds, N :: Ns, df :: G => okB nm np cs bl d N df && okL nm np cs bl ds Ns G
  | _, _, _ => false
theorem okL_get {nm : List Str} {np : List Nat} {cs : List (Str × D)} {bl : List Str} : ∀ {fn : List He.DefD} {Ns : List (List Str)} {G : Gt}, okL nm np cs bl fn Ns G = true → ∀ {i : Nat} {d : He.DefD}, fn[i]? = some d → ∃ N df, Ns[i]? = some N ∧ G[i]? = some df ∧ okB nm np cs bl d N df = true
  | [], Ns, G, _, i, d, h => by simp at h
  | d0 :: ds, [], G, h, _, _, _ => by simp [okL] at h
  | d0 :: ds, N :: Ns, [], h, _, _, _ => by simp [okL] at h
  | d0 :: ds, N :: Ns, df :: G, h, i, d, e => by
    simp only [okL, Bool.and_eq_true] at h
    cases i with
    | zero => simp at e; subst e; exact ⟨N, df, rfl, rfl, h.1⟩
    | succ i => exact okL_get h.2 (by simpa using e)
theorem okL_len {nm : List Str} {np : List Nat} {cs : List (Str × D)} {bl : List Str} : ∀ {fn : List He.DefD} {Ns : List (List Str)} {G : Gt}, okL nm np cs bl fn Ns G = true → fn.length = G.length
  | [], [], [], _ => rfl
  | [], _ :: _, _, h => by simp [okL] at h
  | [], [], _ :: _, h => by simp [okL] at h
  | d0 :: ds, [], G, h => by simp [okL] at h
  | d0 :: ds, N :: Ns, [], h => by simp [okL] at h
  | d0 :: ds, N :: Ns, df :: G, h => by
    simp only [okL, Bool.and_eq_true] at h
    rw [List.length_cons, List.length_cons, okL_len h.2]
theorem evC_len (G : Gt) (n : Nat) (f : Nat) (args : List SV) (pins : List Nat) (r : SV) (ps : List SV) (h : evC G n f args pins = .ok r ps) : args.length = (G.map (·.np)).getD f 0 := by
  cases n with
  | zero => simp [evC] at h
  | succ n =>
    simp only [evC] at h
    split at h
    · rename_i df e
      unfold evBody at h
      split at h
      · rename_i hl
        rw [hl, List.getD_eq_getElem?_getD, List.getElem?_map, e]
        rfl
      · cases h
    · cases h
section
variable {K : KW} {F F' H H' : Hp} {σ : Sg} {env env' : Env} {As As' : List Addr}
theorem RSs.envR : ∀ {vs : List V} {svs : List SV} {A : List Addr} (k : Nat), RSs K F H vs svs A → REnv K F H (vs.map some ++ List.replicate k none) (svs.map some ++ List.replicate k none) A
  | _, _, _, k, .nil => by
    induction k with
    | zero => exact .nil
    | succ k ih => exact .hid ih
  | _, _, _, k, .cons p r => .has p (RSs.envR k r)
/-- the lent ones, as they have come to be -/
theorem Rep.pick {vs : List V} {ps : List SV} {pins : List Nat} : ∀ {env : Env} {As : List Addr}, Rep K F H σ env As → pins.Nodup → (∀ k ∈ pins, ∃ v, σ[k]? = some (some v) ∧ vs[k]? = some v ∧ getS env k = some (ps.getD k (0, .non))) → ∃ Ap B, RPs K F H vs ps pins Ap ∧ (Ap ++ B).Perm As := by
  induction pins with
  | nil => intro env As _ _ _; exact ⟨[], As, .nil, .refl _⟩
  | cons k ks ih =>
    intro env As rep nd h
    obtain ⟨n1, n2⟩ := List.nodup_cons.mp nd
    obtain ⟨v, sv, ev, g⟩ := h k (List.mem_cons_self ..)
    obtain ⟨w, A, B, sv', pm, ro, rep2⟩ := rep.focus g
    rw [sv] at sv'; cases sv'
    obtain ⟨Ap, B', rp, pm2⟩ := ih rep2 n2 fun j hj => by
      obtain ⟨v', s', e', g'⟩ := h j (List.mem_cons_of_mem _ hj)
      exact ⟨v', s', e', by rw [getS_hid, if_neg fun z => n1 (by rw [z]; exact hj)]; exact g'⟩
    refine ⟨A ++ Ap, B', .cons ev ro rp, ?_⟩
    rw [List.append_assoc]
    exact (pm2.append_left A).trans pm.symm
end
section
variable {P : Program} {w : World} {K : PySem.W.Frag} {mg : Str → Option Value} {base : Heap} {fn : List He.DefD} {Ns : List (List Str)} {G : Gt} {cs : List (Str × D)} {bl : List Str}
/-- what the head tells -/
structure Told (K : PySem.W.Frag) (mg : Str → Option Value) (fn : List He.DefD) (cs : List (Str × D)) (bl : List Str) : Prop where
  df : ∀ d ∈ fn, ∃ fd, FunD K d.name d.qual d.params d.body d.scope (d.dvs K) (d.kws K) (He.fAd K d.at_) fd
  gl : ∀ d ∈ fn, mg d.name = some (.ref (He.ga K d.name))
  cs : ∀ p ∈ cs, ∃ v u, mg p.1 = some u ∧ RelV v u ∧ ∀ P w F, RD ⟨K, P, w⟩ F v p.2
  bl : ∀ x ∈ bl, mg x = none
theorem pure_body {N : List Str} {i : Nat} {df : Df} {n : Nat} {vs : List V} {H : Hp} {Q : VK} {E : XK} (hg : G[i]? = some df) (hN : N.length = df.ns) (hnp : df.np ≤ df.ns) (h : spC ⟨K, P, w⟩ (evC G (n + 1)) i df.np vs H Q E) :
    ∃ pin, tSs ⟨K, P, w⟩ (evC G n) df.body pin { nx := fun _ H' => Q .non H', rt := Q } (start N vs) H := by
  obtain ⟨hl, F, A, args, pins, r, ps, le, rs, nd, out, hc, pn, pl, post⟩ := h
  simp only [evC, hg] at hc
  unfold evBody at hc
  split at hc
  rotate_left
  · cases hc
  rename_i hal
  have rep : Rep ⟨K, P, w⟩ F H (start N vs) (args.map some ++ List.replicate (df.ns - args.length) none) A := by
    refine ⟨le, nd, out, A, .refl _, ?_⟩
    unfold L2.start
    rw [hN, hl, hal]
    exact rs.envR _
  have sg : ∀ k ∈ pins, ∃ v, (start N vs)[k]? = some (some v) ∧ vs[k]? = some v := fun k hk => by
    have hk' : k < vs.length := by rw [hl]; exact pl k hk
    refine ⟨vs[k], ?_, List.getElem?_eq_getElem hk'⟩
    unfold L2.start
    rw [List.getElem?_append_left (by rw [List.length_map]; exact hk'), List.getElem?_map, List.getElem?_eq_getElem hk']
    rfl
  refine ⟨pins, F, A, args.map some ++ List.replicate (df.ns - args.length) none, ?_⟩
  have done : ∀ {env' : Env} {r : SV} {v : V} {σ' : Sg} {F' H' : Hp} {As' Ar : List Addr}, ps = outPs df.np env' → (pins.all fun i => (getS env' i).isSome) = true → Ext F H A F' H' (Ar ++ As') → Rep ⟨K, P, w⟩ F' H' σ' env' As' → (Ar ++ As').Nodup → (∀ a ∈ Ar, F' a = none) → (∀ i ∈ pins, σ'[i]? = (start N vs)[i]?) →
      ∃ Ap, Ext F H A F' H' (Ar ++ Ap) ∧ RPs ⟨K, P, w⟩ F' H' vs ps pins Ap ∧ (Ar ++ Ap).Nodup ∧ (∀ a ∈ Ar ++ Ap, F' a = none) := by
    intro env' r v σ' F' H' As' Ar e hall x rep' nd' out' hs
    obtain ⟨Ap, B, rp, pm⟩ := rep'.pick (vs := vs) (ps := ps) pn fun k hk => by
      obtain ⟨v, s, e2⟩ := sg k hk
      refine ⟨v, by rw [hs k hk, s], e2, ?_⟩
      have hsome := List.all_eq_true.mp hall k hk
      obtain ⟨sv, hsv⟩ := Option.isSome_iff_exists.mp hsome
      rw [hsv, e]
      unfold outPs
      have hkn := pl k hk
      rw [List.getD_eq_getElem?_getD, List.getElem?_map, List.getElem?_take, if_pos hkn]
      unfold getS at hsv
      cases q : env'[k]? with
      | none => rw [q] at hsv; cases hsv
      | some o =>
        rw [q] at hsv
        cases o with
        | none => cases hsv
        | some o => cases hsv; rfl
    have sub : ∀ a ∈ Ap, a ∈ As' := fun a m => pm.mem_iff.mp (List.mem_append_left _ m)
    obtain ⟨m1, m2, m3⟩ := List.nodup_append.mp nd'
    refine ⟨Ap, x.sub fun a m => (List.mem_append.mp m).elim (fun m => List.mem_append_left _ m) fun m => List.mem_append_right _ (sub a m), rp, List.nodup_append.mpr ⟨m1, (List.nodup_append.mp ((pm.nodup_iff).mpr m2)).1, fun a ha b hb => m3 a ha b (sub b hb)⟩, fun a m => ?_⟩
    exact (List.mem_append.mp m).elim (out' a) fun m => rep'.out a (sub a m)
  split at hc
  · rename_i r' env' he
    split at hc
    · rename_i hall
      cases hc
      refine ⟨.rt r env', rep, he, fun v σ' F' H' As' Ar x rep' ro nd' out' hs => ?_⟩
      obtain ⟨Ap, x2, rp, nd2, out2⟩ := done (r := r) (v := v) rfl hall x rep' nd' out' hs
      exact post v F' H' Ar Ap x2 rep'.le ro rp nd2 out2
    · cases hc
  · rename_i env' he
    split at hc
    · rename_i hall
      cases hc
      refine ⟨.nx env', rep, he, fun σ' F' H' As' x rep' hs => ?_⟩
      obtain ⟨Ap, x2, rp, nd2, out2⟩ := done (r := (0, .non)) (v := .non) (Ar := []) rfl hall x rep' rep'.nd (fun _ m => nomatch m) hs
      exact post .non F' H' [] Ap x2 rep'.le (.zero .non) rp nd2 out2
    · cases hc
  · cases hc
  · cases hc
theorem fn_all (tl : Told K mg fn cs bl) (ok : okL (fn.map (·.name)) (G.map (·.np)) cs bl fn Ns G = true) : ∀ (n i : Nat) (d : He.DefD) (N : List Str) (df : Df) (fd : FuncData), fn[i]? = some d → Ns[i]? = some N → G[i]? = some df → FunD K d.name d.qual d.params d.body d.scope [] [] (He.ga K d.name) fd →
    FnOk P w K mg base C8.CX0 n (He.ga K d.name) fd (N.take df.np) (spC ⟨K, P, w⟩ (evC G n) i df.np) := by
  intro n
  induction n with
  | zero =>
    intro i d N df fd _ _ _ _
    have no : ∀ vs H Q E, ¬ spC ⟨K, P, w⟩ (evC G 0) i df.np vs H Q E := fun vs H Q E h => by
      obtain ⟨_, F, A, args, pins, r, ps, _, _, _, _, hc, _⟩ := h
      simp [evC] at hc
    exact ⟨fun vs H Q E h => (no vs H Q E h).elim, fun A outer s H args us vs Q E _ _ _ _ h => (no vs H Q E h).elim⟩
  | succ n ih =>
    intro i d N df fd hd hN hG Fd
    obtain ⟨N', df', e1, e2, hok⟩ := okL_get ok hd
    rw [hN] at e1; cases e1
    rw [hG] at e2; cases e2
    unfold okB at hok
    simp only [Bool.and_eq_true, decide_eq_true_eq] at hok
    obtain ⟨⟨⟨⟨⟨⟨⟨k1, k2⟩, k3⟩, k4⟩, k5⟩, k6⟩, k8⟩, k9⟩ := hok
    have S := C8.fnScope_by k4
    refine Fd.ok S (fun vs H Q E h => by rw [h.1, List.length_take, k5]; omega) fun cdv A outer s H vs Q E hr h => ?_
    obtain ⟨pin, q⟩ := pure_body hG k5 k6 h
    refine ⟨_, PSs.nox ?_, q⟩
    have xo : XOk ⟨N, d.scope, fn.map (·.name), G.map (·.np), cs, bl, N.filter (locB d.scope)⟩ (cxOf C8.CX0 P w K mg base N d.qual d.scope (He.ga K d.name) cdv A outer s H E).nox := by
      refine ⟨rfl, rfl, S.nd, rfl, ?_, fun x hx => ⟨loc_of (List.mem_filter.mp hx).2, .inl rfl⟩, fun p hp => (tl.cs p hp).imp fun v ⟨u, a, b, c⟩ => ⟨u, a, b, fun F => c _ _ F⟩, tl.bl⟩
      have := hr.un
      show (A.deeper _).units + 65 < cLine
      omega
    refine sndSs (S := ⟨N, d.scope, fn.map (·.name), G.map (·.np), cs, bl, N.filter (locB d.scope)⟩) ⟨xo, ⟨fun f args pins r ps e => evC_len G n f args pins r ps e, fun f x hx => ?_⟩, S.kind, PassesOwn.never⟩ df.body d.body pin k9
    rw [List.getElem?_map] at hx
    obtain ⟨d2, hd2, rfl⟩ := Option.map_eq_some_iff.mp hx
    obtain ⟨N2, df2, f1, f2, hok2⟩ := okL_get ok hd2
    unfold okB at hok2
    simp only [Bool.and_eq_true, decide_eq_true_eq] at hok2
    obtain ⟨⟨⟨⟨⟨⟨⟨j1, j2⟩, j3⟩, j4⟩, j5⟩, j6⟩, j8⟩, j9⟩ := hok2
    have hmem := List.mem_of_getElem? hd2
    obtain ⟨fd2, F2⟩ := tl.df d2 hmem
    have dv : d2.dvs K = [] := by unfold He.DefD.dvs; rw [List.isEmpty_iff.mp j2]; rfl
    have kv : d2.kws K = [] := by unfold He.DefD.kws; rw [List.isEmpty_iff.mp j3]; rfl
    rw [dv, kv, j1] at F2
    have F2 : FunD K d2.name d2.qual d2.params d2.body d2.scope [] [] (He.ga K d2.name) fd2 := F2
    have np2 : (G.map (·.np)).getD f 0 = df2.np := by rw [List.getD_eq_getElem?_getD, List.getElem?_map, f2]; rfl
    refine ⟨n, ⟨He.ga K d2.name, fd2, N2.take df2.np, [], ?_, tl.gl d2 hmem, F2.kp, ?_, .nil⟩, hr⟩
    · show FnOk P w K mg base C8.CX0 n _ fd2 _ (spC ⟨K, P, w⟩ (evC G n) f ((G.map (·.np)).getD f 0))
      rw [np2]
      exact ih f d2 N2 df2 fd2 hd2 f1 f2 F2
    · refine F2.bindsN fun kV doc pm an cdv ct us hl => bind_simple j8 ?_ hl
      exact (C8.fnScope_by j4).nd.sublist (List.take_sublist ..)
end
end Ck

set_option Elab.async false
set_option linter.all false
set_option maxRecDepth 100000
/-! Ck26: the head; a law's end. -/
namespace Ck
open PySem PySem.Spec PyProof.Rows L2
def faOf (fn : List He.DefD) (bl : List Str) : List He.Fa := (fn.map fun d => He.Fa.glo d.name) ++ bl.map He.Fa.free
def obsC (n : Nat) (fn : List He.DefD) (bl : List Str) (cs : List (Str × D)) (g : Addr → Option Obj) : He.AlD × Bool :=
  (He.obsD (faOf fn bl) fn (He.frG g (He.asD g n)), cs.all (conB (He.frG g (He.asD g n))))
def hookC (n : Nat) (fn : List He.DefD) (bl : List Str) (cs : List (Str × D)) : PySem.W.Hook where
  α := He.AlD × Bool
  obs := fun s => obsC n fn bl cs s.heap.get?
  val := fun _ => (He.valD fn, true)
  says := fun _ h => ∃ K : PySem.W.Frag, K.In h ∧ He.SaysD (faOf fn bl) fn K ∧ cs.all (conB K) = true
  of := fun _ s e => ⟨He.frG s.heap.get? (He.asD s.heap.get? n), He.frG_in, congrArg (fun z : He.AlD × Bool => z.1) e, congrArg (fun z : He.AlD × Bool => z.2) e⟩
  keeps := fun _ _ _ ⟨K, hK, c⟩ k => ⟨K, PySem.W.Frag.In.keeps hK k, c⟩
theorem obsC_eq {n : Nat} {fn : List He.DefD} {bl : List Str} {cs : List (Str × D)} {g : Addr → Option Obj} {s : Shared} (h : ∀ a, g a = s.heap.get? a) : obsC n fn bl cs g = (hookC n fn bl cs).obs s := by
  have e : g = s.heap.get? := funext h
  rw [e] <;> rfl
theorem told_of {K : PySem.W.Frag} {h : Heap} {mg : Str → Option Value} {fn : List He.DefD} {bl : List Str} {cs : List (Str × D)} (X : K.In h) (G : h.Ns mainGlobals mg) (c : He.SaysD (faOf fn bl) fn K) (e : cs.all (conB K) = true) : Told K mg fn cs bl := by
  refine ⟨fun d hd => c.defs hd, fun d hd => ?_, fun p hp => con_ok X G (List.all_eq_true.mp e p hp), fun x hx => ?_⟩
  · exact He.glo_ok X G (c.facts (f := .glo d.name) (List.mem_append_left _ (List.mem_map.mpr ⟨d, hd, rfl⟩)))
  · exact He.free_ok X G (c.facts (f := .free x) (List.mem_append_right _ (List.mem_map.mpr ⟨x, hx, rfl⟩)))
/-- the script, a list of whole numbers -/
abbrev scrD (zs : List Int) : D := .scr (zs.map .int)
theorem scr_rd {K : KW} {H : Hp} {a : Addr} {zs : List Int} (h : SqL K.fr H a (zs.map V.int)) : RD K H (.ref a) (scrD zs) := by
  refine .scr h ?_
  clear h
  induction zs with
  | nil => exact .nil
  | cons z zs ih => exact .cons (.int z) ih
/-- WHAT IS LEFT OF A LAW: the evaluator's answer -/
theorem law_F {l : PySem.W.OpenLaw} {fn : List He.DefD} {Ns : List (List Str)} {G : Gt} {cs : List (Str × D)} {bl : List Str} {m n L : Nat} {d : He.DefD} {N : List Str} {df : Df} {x nm : Str} (ok : okL (fn.map (·.name)) (G.map (·.np)) cs bl fn Ns G = true)
    (hd : fn[L]? = some d) (hN : Ns[L]? = some N) (hG : G[L]? = some df) (hx : N.take df.np = [x]) (hp : df.np = 1) (hnm : d.name = nm)
    (ev : ∀ zs : List Int, zs.length ≤ m → ∃ ps, evC G n L [(0, scrD zs)] [] = .ok (0, .bl true) ps) {w : World} {mg : Str → Option Value} {fa : Addr} {h : Heap}
    (Y : ∃ K : PySem.W.Frag, K.In h ∧ He.SaysD (faOf fn bl) fn K ∧ cs.all (conB K) = true) (Gm : h.Ns mainGlobals mg) (hmg : mg nm = some (.ref fa)) :
    ∃ (K : PySem.W.Frag) (fd : FuncData) (sp : Sp), K.In h ∧ (∀ (s : Shared) (u : Value), BindsTo s fd ⟨[u], []⟩ [(x, u)]) ∧
        (∀ (H : Hp) (a : Addr) (ns : List Int), ns.length ≤ m → Only H → SqL K H a (ns.map V.int) → sp [.ref a] H (fun v _ => v = .bl true) fun _ _ _ => False) ∧
        ∀ base : Heap, K.In base → base.Ns mainGlobals mg → FnOk l.prog w K mg base C8.CX0 n fa fd [x] sp := by
  obtain ⟨K, KX, c, e⟩ := Y
  have tl := told_of KX Gm c e
  obtain ⟨N', df', f1, f2, hok⟩ := okL_get ok hd
  rw [hN] at f1; cases f1
  rw [hG] at f2; cases f2
  unfold okB at hok
  simp only [Bool.and_eq_true, decide_eq_true_eq] at hok
  obtain ⟨⟨⟨⟨⟨⟨⟨j1, j2⟩, j3⟩, j4⟩, j5⟩, j6⟩, j8⟩, j9⟩ := hok
  have hmem := List.mem_of_getElem? hd
  obtain ⟨fd, F2⟩ := tl.df d hmem
  have dv : d.dvs K = [] := by unfold He.DefD.dvs; rw [List.isEmpty_iff.mp j2]; rfl
  have kv : d.kws K = [] := by unfold He.DefD.kws; rw [List.isEmpty_iff.mp j3]; rfl
  rw [dv, kv, j1] at F2
  have F2 : FunD K d.name d.qual d.params d.body d.scope [] [] (He.ga K d.name) fd := F2
  have hfa := (tl.gl d hmem)
  rw [hnm, hmg] at hfa
  cases hfa
  refine ⟨K, fd, spC ⟨K, l.prog, w⟩ (evC G n) L df.np, KX, fun s u => ?_, fun H a ns hl hO hS => ?_, fun base _ _ => ?_⟩
  · have b := FunD.bindsA (ps := [x]) F2 (fun kV doc pm an cdv ct us hl => bind_simple (by rw [← hx]; exact j8) (by simp) hl) s [u] rfl
    exact b
  · obtain ⟨ps, hev⟩ := ev ns hl
    have rs : RSs ⟨K, l.prog, w⟩ H H [V.ref a] [(0, scrD ns)] [] := .cons (A := []) (.zero (scr_rd hS)) .nil
    refine ⟨by rw [hp]; rfl, H, [], [(0, scrD ns)], [], (0, .bl true), ps, Le.refl, rs, List.nodup_nil, fun _ m => (nomatch m), hev, List.nodup_nil, fun _ m => (nomatch m), fun v F' H' Ar Ap _ _ ro _ _ _ => ?_⟩
    obtain ⟨rd, _⟩ := ro.rdf rfl
    cases rd
    rfl
  · have := fn_all (P := l.prog) (w := w) (base := base) tl ok n L d N df fd hd hN hG F2
    rw [hx, hnm] at this
    exact this
end Ck

set_option Elab.async false
set_option linter.all false
set_option maxRecDepth 100000
/-! Ck27: reckoning with the evaluator, step by step. -/
namespace Ck
open PySem
/-- a list of two whole numbers: a feed -/
abbrev fd (s : Int × Int) : D := .lst [.int s.1, .int s.2]
def WE (c : Cal) (e : E) (env : Env) (P : R → Env → Prop) : Prop := ∃ r env', evE c e env = .ok (r, env') ∧ P r env'
def WL (c : Cal) (l : List E) (env : Env) (P : List R → Env → Prop) : Prop := ∃ r env', evEs c l env = .ok (r, env') ∧ P r env'
def WT (c : Cal) (t : T) (env : Env) (P : Bool → Env → Prop) : Prop := ∃ r env', evT c t env = .ok (r, env') ∧ P r env'
def WI (c : Cal) (i : It) (env : Env) (P : Wk → Env → Prop) : Prop := ∃ r env', evIt c i env = .ok (r, env') ∧ P r env'
structure Ko where
  nx : Env → Prop
  rt : SV → Env → Prop
  bk : Env → Prop := fun _ => False
  ct : Env → Prop := fun _ => False
def Ko.of (k : Ko) : Out → Prop
  | .nx e => k.nx e
  | .rt r e => k.rt r e
  | .bk e => k.bk e
  | .ct e => k.ct e
def WS (c : Cal) (s : S) (pin : List Nat) (env : Env) (k : Ko) : Prop := ∃ o, evS c s pin env = .ok o ∧ k.of o
def WB (c : Cal) (l : List S) (pin : List Nat) (env : Env) (k : Ko) : Prop := ∃ o, evSs c l pin env = .ok o ∧ k.of o
def CPS (c : Cal) (f : Nat) (args : List SV) (pins : List Nat) (Q : SV → List SV → Prop) : Prop := ∃ r ps, c f args pins = .ok r ps ∧ Q r ps
/-- an operator's answer -/
def OP (o : Op) (rs : List R) (P : R → Prop) : Prop := ∃ r, opR o rs = some r ∧ P r
section
variable {c : Cal} {env : Env} {P : R → Env → Prop} {Q : List R → Env → Prop} {B : Bool → Env → Prop}
theorem w_cst {d : D} (h : P ⟨.fr, 0, d⟩ env) : WE c (.cst d) env P := ⟨_, _, rfl, h⟩
theorem w_glo {x : Str} {d : D} (h : P ⟨.fr, 0, d⟩ env) : WE c (.glo x d) env P := ⟨_, _, rfl, h⟩
theorem w_var {i : Nat} {sv : SV} (g : getS env i = some sv) (h : P (slotR i sv) env) : WE c (.var i) env P := ⟨_, _, by simp only [evE, g, Res.ofO_some, Res.bind_ok, Res.pure_ok], h⟩
theorem w_op {o : Op} {l : List E} (h : WL c l env fun rs env1 => OP o rs fun r => P r env1) : WE c (.op o l) env P := by
  obtain ⟨rs, e1, h1, r, h2, h3⟩ := h
  exact ⟨_, _, by simp only [evE, h1, h2, Res.ofO_some, Res.bind_ok, Res.pure_ok], h3⟩
theorem w_met {k : Kd} {o : Op} {a : E} {l : List E} (h : WE c a env fun r env1 => k.ok r.d = true ∧ isInn r = false ∧ WL c l env1 fun rs env2 => ∃ r', reR r env2 = some r' ∧ OP o (r' :: rs) fun r => P r env2) : WE c (.met k o a l) env P := by
  obtain ⟨r, e1, h1, h2, h3, rs, e2, h4, r', h5, r5, h6, h7⟩ := h
  exact ⟨_, _, by simp only [evE, h1, h2, h3, h4, h5, h6, Res.ofO_some, Res.bind_ok, Res.pure_ok, Bool.false_and, Bool.not_true, Bool.or_self, Bool.false_eq_true, if_false], h7⟩
theorem w_slc {a lo hi : E} (h : WE c a env fun r1 env1 => isInn r1 = false ∧ WE c lo env1 fun r2 env2 => isInt r2 = true ∧ WE c hi env2 fun r3 env3 => isInt r3 = true ∧ ∃ r1', reR r1 env3 = some r1' ∧ OP .slAB [r1', r2, r3] fun r => P r env3) : WE c (.slc a lo hi) env P := by
  obtain ⟨r1, e1, h1, h2, r2, e2, h3, h4, r3, e3, h5, h6, r1', h7, r5, h8, h9⟩ := h
  exact ⟨_, _, by simp only [evE, h1, h2, h3, h4, h5, h6, h7, h8, Res.ofO_some, Res.bind_ok, Res.pure_ok, Bool.false_and, Bool.not_true, Bool.false_eq_true, if_false], h9⟩
theorem w_tupd {l : List E} (h : WL c l env fun rs env1 => ∃ svs env2, claims rs env1 = some (svs, env2) ∧ Nat.ble svs.length sizeLine = true ∧ P ⟨.fr, 0, .tup (svs.map (·.2))⟩ env2) : WE c (.tupd l) env P := by
  obtain ⟨rs, e1, h1, svs, e2, h2, h3, h4⟩ := h
  exact ⟨_, _, by simp only [evE, h1, h2, Res.ofO_some, Res.bind_ok, if_pos (Nat.le_of_ble_eq_true h3), Res.pure_ok], h4⟩
theorem w_lstd {l : List E} (h : WL c l env fun rs env1 => ∃ svs env2, claims rs env1 = some (svs, env2) ∧ Nat.ble svs.length sizeLine = true ∧ P ⟨.fr, depOf svs, .lst (svs.map (·.2))⟩ env2) : WE c (.lstd l) env P := by
  obtain ⟨rs, e1, h1, svs, e2, h2, h3, h4⟩ := h
  exact ⟨_, _, by simp only [evE, h1, h2, Res.ofO_some, Res.bind_ok, if_pos (Nat.le_of_ble_eq_true h3), Res.pure_ok], h4⟩
theorem w_call {f : Nat} {l : List E} (h : WL c l env fun rs env1 => (rs.any isInn || !decide ((lent rs).map (·.2)).Nodup) = false ∧ CPS c f (rs.map fun r => (r.n, r.d)) ((lent rs).map (·.1)) fun r ps => P ⟨.fr, r.1, r.2⟩ (backIn ps (lent rs) (hideL (lent rs) env1))) : WE c (.call f l) env P := by
  obtain ⟨rs, e1, h1, h2, r, ps, h3, h4⟩ := h
  exact ⟨_, _, by simp only [evE, h1, Res.bind_ok, callR, h2, Bool.false_eq_true, if_false, h3], h4⟩
theorem w_mut {i : Nat} {m : Mt} {l : List E} {sv0 : SV} (g : getS env i = some sv0) (k : Kd.lst.ok sv0.2 = true) (h : WL c l env fun rs env1 => ∃ svs env2, claims rs env1 = some (svs, env2) ∧ ∃ n d, getS env2 i = some (n, d) ∧ ∃ sv r, mutF m n d svs = some (sv, r) ∧ P ⟨.fr, r.1, r.2⟩ (env2.set i (some sv))) : WE c (.mut i m l) env P := by
  obtain ⟨rs, e1, h1, svs, e2, h2, n, d, h3, sv, r, h4, h5⟩ := h
  exact ⟨_, _, by simp only [evE, g, k, h1, h2, h3, h4, Res.ofO_some, Res.bind_ok, Res.pure_ok, Bool.not_true, Bool.false_eq_true, if_false], h5⟩
theorem w_ifx {t : T} {a b : E} (h : WT c t env fun k env1 => (k = true → WE c a env1 P) ∧ (k = false → WE c b env1 P)) : WE c (.ifx t a b) env P := by
  obtain ⟨k, e1, h1, h2, h3⟩ := h
  cases k with
  | true => obtain ⟨r, e2, h4, h5⟩ := h2 rfl; exact ⟨_, _, by simp only [evE, h1, Res.bind_ok, if_true, h4], h5⟩
  | false => obtain ⟨r, e2, h4, h5⟩ := h3 rfl; exact ⟨_, _, by simp only [evE, h1, Res.bind_ok, Bool.false_eq_true, if_false, h4], h5⟩
def turnF (c : Cal) (tg : Tg) (tst : T) (elt : E) : D → Env → Res (Option SV × Env) := fun d e => do
      let e1 ← Res.ofO (setTg tg (0, d) [] e)
      let (b, e2) ← evT c tst e1
      if b then do
        let (r, e3) ← evE c elt e2
        let (sv, e4) ← Res.ofO (claim r e3)
        pure (some sv, e4)
      else pure (none, e2)
theorem comp_ev {elt : E} {tg : Tg} {it : It} {tst : T} {own : List Nat} {w : Wk} {e1 e2 : Env} {n : Nat} {svs : List SV} (h1 : evIt c it env = .ok (w, e1)) (h2 : w.size e1 = some n) (h3 : own.all (asideB e1) = true) (h4 : compL w n own (turnF c tg tst elt) n 0 e1 [] = .ok (svs, e2)) :
    evE c (.comp elt tg it tst own) env = .ok (⟨.fr, depOf svs, .lst (svs.map (·.2))⟩, e2) := by
  simp only [evE, h1, h2, h3, Res.ofO_some, Res.bind_ok, Bool.not_true, Bool.false_eq_true, if_false]
  show (compL w n own (turnF c tg tst elt) n 0 e1 [] >>= fun p => pure ((⟨.fr, depOf p.1, .lst (p.1.map (·.2))⟩ : R), p.2)) = _
  rw [h4]
  rfl
/-- a comprehension, by an invariant -/
theorem w_comp {elt : E} {tg : Tg} {it : It} {tst : T} {own : List Nat} (h : WI c it env fun w env1 => ∃ n, w.size env1 = some n ∧ own.all (asideB env1) = true ∧ ∃ I : Nat → Env → List SV → Prop, I 0 env1 [] ∧
      (∀ i env acc, i < n → I i env acc → ∃ d e1, w.item env i = some d ∧ setTg tg (0, d) [] (wipeE env own) = some e1 ∧ WT c tst e1 fun b e2 =>
        (b = false → w.size (unwipe env e2 own) = some n ∧ I (i + 1) (unwipe env e2 own) acc) ∧
        (b = true → WE c elt e2 fun r e3 => ∃ sv e4, claim r e3 = some (sv, e4) ∧ acc.length < sizeLine ∧ w.size (unwipe env e4 own) = some n ∧ I (i + 1) (unwipe env e4 own) (acc ++ [sv]))) ∧
      ∀ env acc, I n env acc → P ⟨.fr, depOf acc, .lst (acc.map (·.2))⟩ env) : WE c (.comp elt tg it tst own) env P := by
  obtain ⟨w, e1, h1, n, h2, h3, I, h0, turn, fin⟩ := h
  have key : ∀ m i env acc, i + m = n → I i env acc → w.size env = some n → ∃ svs env2, compL w n own (turnF c tg tst elt) m i env acc = .ok (svs, env2) ∧ I n env2 svs := by
    intro m
    induction m with
    | zero =>
      intro i env acc hi hI hz
      have : i = n := by omega
      subst this
      exact ⟨acc, env, by simp only [compL, hz, if_true], hI⟩
    | succ m ih =>
      intro i env acc hi hI hz
      obtain ⟨d, e2, h4, h5, b, e3, h6, h7, h8⟩ := turn i env acc (by omega) hI
      cases b with
      | false =>
        obtain ⟨h9, h10⟩ := h7 rfl
        obtain ⟨svs, env2, h11, h12⟩ := ih (i + 1) _ acc (by omega) h10 h9
        refine ⟨svs, env2, ?_, h12⟩
        have ht : turnF c tg tst elt d (wipeE env own) = .ok (none, e3) := by
          simp only [turnF, h5, h6, Res.ofO_some, Res.bind_ok, Bool.false_eq_true, if_false, Res.pure_ok]
        simp only [compL, h4, Res.ofO_some, Res.bind_ok, ht, h9, if_true, h11]
      | true =>
        obtain ⟨r, e4, h9, sv, e5, h10, h11, h12, h13⟩ := h8 rfl
        obtain ⟨svs, env2, h14, h15⟩ := ih (i + 1) _ (acc ++ [sv]) (by omega) h13 h12
        refine ⟨svs, env2, ?_, h15⟩
        have ht : turnF c tg tst elt d (wipeE env own) = .ok (some sv, e5) := by
          simp only [turnF, h5, h6, h9, h10, Res.ofO_some, Res.bind_ok, if_true, Res.pure_ok]
        simp only [compL, h4, Res.ofO_some, Res.bind_ok, ht, h12, if_true, if_pos h11, h14]
  obtain ⟨svs, env2, h4, h5⟩ := key n 0 e1 [] (by omega) h0 h2
  exact ⟨_, _, comp_ev h1 h2 h3 h4, fin env2 svs h5⟩
/-! lists of expressions -/
theorem wl_nil (h : Q [] env) : WL c [] env Q := ⟨_, _, rfl, h⟩
theorem wl_cons {e : E} {es : List E} (h : WE c e env fun r env1 => (isInn r && !es.all E.still) = false ∧ WL c es env1 fun rs env2 => ∃ r', reR r env2 = some r' ∧ Q (r' :: rs) env2) : WL c (e :: es) env Q := by
  obtain ⟨r, e1, h1, h2, rs, e2, h3, r', h4, h5⟩ := h
  exact ⟨_, _, by simp only [evEs, h1, h2, h3, h4, Res.ofO_some, Res.bind_ok, Bool.false_eq_true, if_false, Res.pure_ok], h5⟩
/-! tests -/
theorem wt_tt (h : B true env) : WT c .tt env B := ⟨_, _, rfl, h⟩
theorem wt_cmp {o : Op} {a b : E} (h : WL c [a, b] env fun rs env1 => OP o rs fun r => ∃ k, r.d = .bl k ∧ B k env1) : WT c (.cmp o a b) env B := by
  obtain ⟨rs, e1, h1, ⟨s, n, d⟩, h2, k, h3, h4⟩ := h
  simp only at h3
  subst h3
  exact ⟨_, _, by simp only [evT]; rw [two_eq]; simp only [h1, h2, Res.bind_ok, Res.pure_ok], h4⟩
theorem wt_chn {o o' : Op} {a b e : E} (h : WL c [a, b] env fun rs env1 => ∃ ra m y, rs = [ra, ⟨.fr, m, .int y⟩] ∧ OP o rs fun r => ∃ k, r.d = .bl k ∧ (k = false → B false env1) ∧ (k = true → WE c e env1 fun r3 env2 => OP o' [⟨.fr, m, .int y⟩, r3] fun r => ∃ k', r.d = .bl k' ∧ B k' env2)) : WT c (.chn o o' a b e) env B := by
  obtain ⟨rs, e1, h1, ra, m, y, rfl, ⟨s, n, d⟩, h2, k, h3, h4, h5⟩ := h
  simp only at h3
  subst h3
  cases k with
  | false => exact ⟨_, _, by simp only [evT]; rw [two_eq]; simp only [h1, h2, Res.bind_ok, Res.pure_ok, Bool.false_eq_true, if_false], h4 rfl⟩
  | true =>
    obtain ⟨r3, e2, h6, ⟨s', n', d'⟩, h7, k', h8, h9⟩ := h5 rfl
    simp only at h8
    subst h8
    exact ⟨_, _, by simp only [evT]; rw [two_eq]; simp only [h1, h2, Res.bind_ok, Res.pure_ok, if_true, h6, h7], h9⟩
theorem wt_conj {a b : T} (h : WT c a env fun k env1 => (k = true → WT c b env1 B) ∧ (k = false → B false env1)) : WT c (.conj a b) env B := by
  obtain ⟨k, e1, h1, h2, h3⟩ := h
  cases k with
  | true => obtain ⟨r, e2, h4, h5⟩ := h2 rfl; exact ⟨_, _, by simp only [evT, h1, Res.bind_ok, if_true, h4], h5⟩
  | false => exact ⟨_, _, by simp only [evT, h1, Res.bind_ok, Bool.false_eq_true, if_false, Res.pure_ok], h3 rfl⟩
theorem wt_disj {a b : T} (h : WT c a env fun k env1 => (k = true → B true env1) ∧ (k = false → WT c b env1 B)) : WT c (.disj a b) env B := by
  obtain ⟨k, e1, h1, h2, h3⟩ := h
  cases k with
  | false => obtain ⟨r, e2, h4, h5⟩ := h3 rfl; exact ⟨_, _, by simp only [evT, h1, Res.bind_ok, Bool.false_eq_true, if_false, h4], h5⟩
  | true => exact ⟨_, _, by simp only [evT, h1, Res.bind_ok, if_true, Res.pure_ok], h2 rfl⟩
theorem wt_not {a : T} (h : WT c a env fun k env1 => B (!k) env1) : WT c (.not a) env B := by
  obtain ⟨k, e1, h1, h2⟩ := h
  exact ⟨_, _, by simp only [evT, h1, Res.bind_ok, Res.pure_ok], h2⟩
theorem wt_isn {neg : Bool} {a : E} (h : WE c a env fun r env1 => OP (if neg then .notN else .isN) [r] fun r => ∃ k, r.d = .bl k ∧ B k env1) : WT c (.isn neg a) env B := by
  obtain ⟨r, e1, h1, ⟨s, n, d⟩, h2, k, h3, h4⟩ := h
  simp only at h3
  subst h3
  exact ⟨_, _, by simp only [evT, h1, h2, Res.bind_ok, Res.pure_ok], h4⟩
theorem wt_val {a : E} (h : WE c a env fun r env1 => ∃ k, truthD r.d = some k ∧ B k env1) : WT c (.val a) env B := by
  obtain ⟨r, e1, h1, k, h2, h3⟩ := h
  exact ⟨_, _, by simp only [evT, h1, h2, Res.ofO_some, Res.bind_ok, Res.pure_ok], h3⟩
/-! sources -/
theorem wi_seq {e : E} {I : Wk → Env → Prop} (h : WE c e env fun r env1 => ∃ l, liveOf r = some l ∧ I (.seq l) env1) : WI c (.seq e) env I := by
  obtain ⟨r, e1, h1, l, h2, h3⟩ := h
  exact ⟨_, _, by simp only [evIt, h1, h2, Res.ofO_some, Res.bind_ok, Res.pure_ok], h3⟩
theorem wi_rng1 {e : E} {I : Wk → Env → Prop} (h : WE c e env fun r env1 => ∃ j, r.d = .int j ∧ (-(2 ^ 62) ≤ j ∧ j < 2 ^ 62) ∧ I (.rng 0 1 j.toNat) env1) : WI c (.rng1 e) env I := by
  obtain ⟨⟨s, n, d⟩, e1, h1, j, h2, h3, h4⟩ := h
  simp only at h2
  subst h2
  exact ⟨_, _, by simp only [evIt, h1, Res.bind_ok, if_pos h3, Res.pure_ok], h4⟩
theorem wi_rng2 {a b : E} {I : Wk → Env → Prop} (h : WL c [a, b] env fun rs env1 => ∃ s n i s' n' j, rs = [⟨s, n, .int i⟩, ⟨s', n', .int j⟩] ∧ (-(2 ^ 62) ≤ i ∧ i < 2 ^ 62 ∧ -(2 ^ 62) ≤ j ∧ j < 2 ^ 62) ∧ I (.rng i 1 (j - i).toNat) env1) : WI c (.rng2 a b) env I := by
  obtain ⟨rs, e1, h1, s, n, i, s', n', j, rfl, h3, h4⟩ := h
  exact ⟨_, _, by simp only [evIt]; rw [two_eq]; simp only [h1, Res.bind_ok, if_pos h3, Res.pure_ok], h4⟩
theorem wi_enum {e : E} {I : Wk → Env → Prop} (h : WE c e env fun r env1 => r.d.isL = true ∧ ∃ l, liveOf r = some l ∧ I (.enum l) env1) : WI c (.enum e) env I := by
  obtain ⟨r, e1, h1, h0, l, h2, h3⟩ := h
  exact ⟨_, _, by simp only [evIt, h1, h0, h2, Res.ofO_some, Res.bind_ok, Res.pure_ok, Bool.not_true, Bool.false_eq_true, if_false], h3⟩
/-! statements -/
variable {pin : List Nat} {k : Ko}
theorem wb_nil (h : k.nx env) : WB c [] pin env k := ⟨_, rfl, h⟩
theorem wb_cons {s : S} {ss : List S} (h : WS c s pin env { k with nx := fun e => WB c ss pin e k }) : WB c (s :: ss) pin env k := by
  obtain ⟨o, h1, h2⟩ := h
  cases o with
  | nx e => obtain ⟨o2, h3, h4⟩ := h2; exact ⟨o2, by simp only [evSs, h1, Res.bind_ok, h3], h4⟩
  | rt r e => exact ⟨.rt r e, by simp only [evSs, h1, Res.bind_ok], h2⟩
  | bk e => exact ⟨.bk e, by simp only [evSs, h1, Res.bind_ok], h2⟩
  | ct e => exact ⟨.ct e, by simp only [evSs, h1, Res.bind_ok], h2⟩
theorem ws_nx {s : S} {e : Env} (h : evS c s pin env = .ok (.nx e)) (h2 : k.nx e) : WS c s pin env k := ⟨.nx e, h, h2⟩
theorem ws_rt {s : S} {r : SV} {e : Env} (h : evS c s pin env = .ok (.rt r e)) (h2 : k.rt r e) : WS c s pin env k := ⟨.rt r e, h, h2⟩
theorem ws_exp {e : E} (h : WE c e env fun _ env1 => k.nx env1) : WS c (.exp e) pin env k := by
  obtain ⟨r, e1, h1, h2⟩ := h
  exact ws_nx (by simp only [evS, h1, Res.bind_ok, Res.pure_ok]) h2
theorem ws_set {i : Nat} {e : E} (h : WE c e env fun r env1 => ∃ sv env2, claim r env1 = some (sv, env2) ∧ (!decide (i ∈ pin) && Nat.blt i env2.length) = true ∧ k.nx (env2.set i (some sv))) : WS c (.set i e) pin env k := by
  obtain ⟨r, e1, h1, sv, e2, h2, h33, h4⟩ := h
  obtain ⟨h3, h3'⟩ : i ∉ pin ∧ i < e2.length := by
    rw [Bool.and_eq_true, Bool.not_eq_true', decide_eq_false_iff_not] at h33
    exact ⟨h33.1, Nat.le_of_ble_eq_true h33.2⟩
  have h5 : setTg (.nm i) sv pin e2 = some (e2.set i (some sv)) := by
    simp only [setTg]
    rw [if_neg]
    rw [not_or]
    exact ⟨h3, Nat.not_le_of_lt h3'⟩
  exact ws_nx (by simp only [evS, h1, h2, h5, Res.ofO_some, Res.bind_ok, Res.pure_ok]) h4
theorem ws_setT {t : Tg} {e : E} (h : WE c e env fun r env1 => ∃ sv env2, claim r env1 = some (sv, env2) ∧ ∃ env3, setTg t sv pin env2 = some env3 ∧ k.nx env3) : WS c (.setT t e) pin env k := by
  obtain ⟨r, e1, h1, sv, e2, h2, e3, h3, h4⟩ := h
  exact ws_nx (by simp only [evS, h1, h2, h3, Res.ofO_some, Res.bind_ok, Res.pure_ok]) h4
theorem ws_par {is : List Nat} {es : List E} (h : WL c es env fun rs env1 => ∃ svs env2, claims rs env1 = some (svs, env2) ∧ is.length = svs.length ∧ ∃ env3, setAll (is.zip svs) pin (some env2) = some env3 ∧ k.nx env3) : WS c (.par is es) pin env k := by
  obtain ⟨rs, e1, h1, svs, e2, h2, h3, e3, h4, h5⟩ := h
  refine ⟨.nx e3, ?_, h5⟩
  unfold setAll at h4
  simp only [evS, h1, h2, Res.ofO_some, Res.bind_ok]
  rw [h4]
  simp only [Res.ofO_some, Res.bind_ok, if_pos h3, Res.pure_ok]
theorem ws_setIx {i : Nat} {j e : E} (h : WE c e env fun r env1 => ∃ sv env2, claim r env1 = some (sv, env2) ∧ ∃ sv0, getS env2 i = some sv0 ∧ WE c j env2 fun rj env3 => ∃ n xs q kk, getS env3 i = some (n + 1, .lst xs) ∧ rj.d = .int q ∧ L2.ixN xs.length q = some kk ∧ k.nx (env3.set i (some (min (n + 1) (depOf [sv]), .lst (xs.set kk sv.2))))) : WS c (.setIx i j e) pin env k := by
  obtain ⟨r, e1, h1, sv, e2, h2, sv0, h0, ⟨s, m, d⟩, e3, h3, n, xs, q, kk, h4, h5, h6, h7⟩ := h
  simp only at h5
  subst h5
  refine ws_nx ?_ h7
  simp only [evS, h1, h2, h0, h3, h4, Res.ofO_some, Res.bind_ok]
  rw [if_neg (Nat.succ_ne_zero n)]
  simp only [h6, Res.ofO_some, Res.bind_ok, Res.pure_ok]
theorem ws_setSl {i : Nat} {lo hi e : E} (h : WE c e env fun r env1 => ∃ sv env2, claim r env1 = some (sv, env2) ∧ ∃ sv0, getS env2 i = some sv0 ∧ WL c [lo, hi] env2 fun rs env3 => ∃ n xs s1 n1 a s2 n2 b m ys, getS env3 i = some (n + 1, .lst xs) ∧ rs = [⟨s1, n1, .int a⟩, ⟨s2, n2, .int b⟩] ∧ sv = (m + 1, .lst ys) ∧ (0 ≤ a ∧ a ≤ b ∧ b ≤ xs.length ∧ xs.length + ys.length ≤ sizeLine) ∧
      k.nx (env3.set i (some (min (n + 1) (m + 1), .lst (xs.take a.toNat ++ ys ++ xs.drop b.toNat))))) : WS c (.setSl i lo hi e) pin env k := by
  obtain ⟨r, e1, h1, sv, e2, h2, sv0, h0, rs, e3, h3, n, xs, s1, n1, a, s2, n2, b, m, ys, h4, rfl, rfl, h6, h7⟩ := h
  refine ws_nx ?_ h7
  simp only [evS, h1, h2, h0, Res.ofO_some, Res.bind_ok]
  rw [two_eq]
  simp only [h3, h4, Res.ofO_some, Res.bind_ok]
  rw [if_neg (Nat.succ_ne_zero n)]
  simp only [if_pos h6, Res.pure_ok]
theorem ws_aug {i : Nat} {o : Op} {e : E} {sv0 : SV} (g : getS env i = some sv0) (h : WE c e env fun r env1 => ∃ d, augF o sv0.2 r.d = some d ∧ (!decide (i ∈ pin) && Nat.blt i env1.length) = true ∧ k.nx (env1.set i (some (0, d)))) : WS c (.aug i o e) pin env k := by
  obtain ⟨r, e1, h1, d, h2, h33, h4⟩ := h
  obtain ⟨h3, h3'⟩ : i ∉ pin ∧ i < e1.length := by
    rw [Bool.and_eq_true, Bool.not_eq_true', decide_eq_false_iff_not] at h33
    exact ⟨h33.1, Nat.le_of_ble_eq_true h33.2⟩
  have h5 : setTg (.nm i) (0, d) pin e1 = some (e1.set i (some (0, d))) := by
    simp only [setTg]
    rw [if_neg]
    rw [not_or]
    exact ⟨h3, Nat.not_le_of_lt h3'⟩
  exact ws_nx (by simp only [evS, g, h1, h2, h5, Res.ofO_some, Res.bind_ok, Res.pure_ok]) h4
theorem ws_ret {e : E} (h : WE c e env fun r env1 => ∃ sv env2, retR r pin env1 = some (sv, env2) ∧ k.rt sv env2) : WS c (.ret e) pin env k := by
  obtain ⟨r, e1, h1, sv, e2, h2, h3⟩ := h
  exact ws_rt (by simp only [evS, h1, h2, Res.ofO_some, Res.bind_ok, Res.pure_ok]) h3
theorem ws_retN (h : k.rt (0, .non) env) : WS c .retN pin env k := ⟨.rt (0, .non) env, rfl, h⟩
theorem ws_ite {t : T} {a b : List S} (h : WT c t env fun q env1 => (q = true → WB c a pin env1 k) ∧ (q = false → WB c b pin env1 k)) : WS c (.ite t a b) pin env k := by
  obtain ⟨q, e1, h1, h2, h3⟩ := h
  cases q with
  | true => obtain ⟨r, h4, h5⟩ := h2 rfl; exact ⟨_, by simp only [evS, h1, Res.bind_ok, if_true, h4], h5⟩
  | false => obtain ⟨r, h4, h5⟩ := h3 rfl; exact ⟨_, by simp only [evS, h1, Res.bind_ok, Bool.false_eq_true, if_false, h4], h5⟩
theorem ws_brk (h : k.bk env) : WS c .brk pin env k := ⟨.bk env, rfl, h⟩
theorem ws_cnt (h : k.ct env) : WS c .cnt pin env k := ⟨.ct env, rfl, h⟩
theorem ws_pas (h : k.nx env) : WS c .pas pin env k := ⟨.nx env, rfl, h⟩
/-! loops -/
/-- while, by an invariant with a measure below many -/
theorem ws_whl {t : T} {b : List S} (I : Nat → Env → Prop) (m0 : Nat) (hm : m0 < MANY) (h0 : I m0 env)
    (turn : ∀ m env, I m env → WT c t env fun q env1 => (q = false → k.nx env1) ∧ (q = true → WB c b pin env1 { nx := fun e => ∃ m', m' < m ∧ I m' e, ct := fun e => ∃ m', m' < m ∧ I m' e, bk := k.nx, rt := k.rt })) : WS c (.whl t b) pin env k := by
  have key : ∀ n m env, m < n → I m env → ∃ o, whlL (evT c t) (evSs c b pin) n env = .ok o ∧ k.of o := by
    intro n
    induction n with
    | zero => intro m env h _; exact absurd h (Nat.not_lt_zero _)
    | succ n ih =>
      intro m env hmn hI
      obtain ⟨q, e1, h1, h2, h3⟩ := turn m env hI
      cases q with
      | false => exact ⟨.nx e1, by simp only [whlL, h1, Res.bind_ok, Bool.false_eq_true, if_false], h2 rfl⟩
      | true =>
        obtain ⟨o, h4, h5⟩ := h3 rfl
        cases o with
        | nx e =>
          obtain ⟨m', hm', hI'⟩ := h5
          obtain ⟨o2, h6, h7⟩ := ih m' e (by omega) hI'
          exact ⟨o2, by simp only [whlL, h1, Res.bind_ok, if_true, h4, h6], h7⟩
        | ct e =>
          obtain ⟨m', hm', hI'⟩ := h5
          obtain ⟨o2, h6, h7⟩ := ih m' e (by omega) hI'
          exact ⟨o2, by simp only [whlL, h1, Res.bind_ok, if_true, h4, h6], h7⟩
        | bk e => exact ⟨.nx e, by simp only [whlL, h1, Res.bind_ok, if_true, h4], h5⟩
        | rt r e => exact ⟨.rt r e, by simp only [whlL, h1, Res.bind_ok, if_true, h4], h5⟩
  obtain ⟨o, h1, h2⟩ := key MANY m0 env hm h0
  exact ⟨o, by simp only [evS]; exact h1, h2⟩
def forF (c : Cal) (tg : Tg) (b : List S) (sl pin : List Nat) : D → Env → Res Out := fun d e => do
      let e1 ← Res.ofO (setTg tg (0, d) (sl ++ pin) e)
      evSs c b (sl ++ pin) e1
/-- for, by an invariant by the turn -/
theorem ws_for {tg : Tg} {it : It} {b : List S} (h : WI c it env fun w env1 => ∃ n, w.size env1 = some n ∧ ∃ I : Nat → Env → Prop, I 0 env1 ∧ (∀ i env, i < n → I i env → ∃ d e1, w.item env i = some d ∧ setTg tg (0, d) (w.slots ++ pin) env = some e1 ∧
      WB c b (w.slots ++ pin) e1 { nx := fun e => w.size e = some n ∧ I (i + 1) e, ct := fun e => w.size e = some n ∧ I (i + 1) e, bk := k.nx, rt := k.rt }) ∧ ∀ env, I n env → w.size env = some n → k.nx env) : WS c (.forS tg it b) pin env k := by
  obtain ⟨w, e1, h1, n, h2, I, h0, turn, fin⟩ := h
  generalize hf : forF c tg b w.slots pin = f
  have key : ∀ m i env, i + m = n → I i env → w.size env = some n → ∃ o, forL w n f m i env = .ok o ∧ k.of o := by
    intro m
    induction m with
    | zero =>
      intro i env hi hI hz
      have : i = n := by omega
      subst this
      exact ⟨.nx env, by simp only [forL, hz, if_true], fin env hI hz⟩
    | succ m ih =>
      intro i env hi hI hz
      obtain ⟨d, e2, h3, h4, o, h5, h6⟩ := turn i env (by omega) hI
      have hfd : f d env = .ok o := by rw [← hf]; simp only [forF, h4, Res.ofO_some, Res.bind_ok, h5]
      cases o with
      | nx e =>
        obtain ⟨o2, h7, h8⟩ := ih (i + 1) e (by omega) h6.2 h6.1
        exact ⟨o2, by simp only [forL, h3, Res.ofO_some, Res.bind_ok, hfd, h6.1, if_true, h7], h8⟩
      | ct e =>
        obtain ⟨o2, h7, h8⟩ := ih (i + 1) e (by omega) h6.2 h6.1
        exact ⟨o2, by simp only [forL, h3, Res.ofO_some, Res.bind_ok, hfd, h6.1, if_true, h7], h8⟩
      | bk e => exact ⟨.nx e, by simp only [forL, h3, Res.ofO_some, Res.bind_ok, hfd], h6⟩
      | rt r e => exact ⟨.rt r e, by simp only [forL, h3, Res.ofO_some, Res.bind_ok, hfd], h6⟩
  obtain ⟨o, h3, h4⟩ := key n 0 e1 (by omega) h0 h2
  refine ⟨o, ?_, h4⟩
  simp only [evS, h1, h2, Res.ofO_some, Res.bind_ok]
  rw [← hf] at h3
  exact h3
/-- a def's answer -/
theorem w_body {G : Gt} {n f np ns : Nat} {body : List S} {args : List SV} {pins : List Nat} {Q : SV → List SV → Prop} (hg : G[f]? = some ⟨np, ns, body⟩) (hl : args.length = np)
    (h : WB (evC G n) body pins (args.map some ++ List.replicate (ns - args.length) none) { nx := fun e => (pins.all fun i => (getS e i).isSome) = true ∧ Q (0, .non) (outPs np e), rt := fun r e => (pins.all fun i => (getS e i).isSome) = true ∧ Q r (outPs np e) }) : CPS (evC G (n + 1)) f args pins Q := by
  obtain ⟨o, h1, h2⟩ := h
  unfold CPS
  simp only [evC, hg, evBody, if_pos hl]
  rw [h1]
  cases o with
  | nx e => exact ⟨_, _, by simp only [h2.1, if_true], h2.2⟩
  | rt r e => exact ⟨_, _, by simp only [h2.1, if_true], h2.2⟩
  | bk e => exact h2.elim
  | ct e => exact h2.elim
theorem and_dec {p : Prop} [Decidable p] {A B : Prop} (h1 : p → A) (h2 : ¬ p → B) : (decide p = true → A) ∧ (decide p = false → B) := ⟨fun h => h1 (of_decide_eq_true h), fun h => h2 (of_decide_eq_false h)⟩
theorem and_t {A B : Prop} (h1 : A) : ((true : Bool) = true → A) ∧ ((true : Bool) = false → B) := ⟨fun _ => h1, fun h => nomatch h⟩
theorem and_f {A B : Prop} (h1 : B) : ((false : Bool) = true → A) ∧ ((false : Bool) = false → B) := ⟨(fun h => nomatch h), fun _ => h1⟩
theorem and_b {k : Bool} {A B : Prop} (h1 : k = true → A) (h2 : k = false → B) : (k = true → A) ∧ (k = false → B) := ⟨h1, h2⟩
end
end Ck

set_option Elab.async false
set_option linter.all false
set_option maxRecDepth 100000
/-! Ck28: operators' steps. -/
namespace Ck
open PySem
theorem ex_pair {α β : Type} {o : Option (α × β)} {x : α} {y : β} {P : α → β → Prop} (h : o = some (x, y)) (hp : P x y) : ∃ a b, o = some (a, b) ∧ P a b := ⟨x, y, h, hp⟩
theorem ex_some {α : Type} {o : Option α} {x : α} {P : α → Prop} (h : o = some x) (hp : P x) : ∃ a, o = some a ∧ P a := ⟨x, h, hp⟩
theorem ex_bl {d : D} {k : Bool} {P : Bool → Prop} (h : d = .bl k) (hp : P k) : ∃ k, d = .bl k ∧ P k := ⟨k, h, hp⟩
theorem ex_int {d : D} {k : Int} {P : Int → Prop} (h : d = .int k) (hp : P k) : ∃ k, d = .int k ∧ P k := ⟨k, h, hp⟩
theorem ex_ix {o : Option SV} {d : D} {n : Nat} {xs : List D} {q : Int} {kk : Nat} {P : Nat → List D → Int → Nat → Prop} (h1 : o = some (n + 1, .lst xs)) (h2 : d = .int q) (h3 : L2.ixN xs.length q = some kk) (hp : P n xs q kk) :
    ∃ n xs q kk, o = some (n + 1, .lst xs) ∧ d = .int q ∧ L2.ixN xs.length q = some kk ∧ P n xs q kk := ⟨n, xs, q, kk, h1, h2, h3, hp⟩
theorem ex_two {rs : List R} {s1 s2 : Src} {n1 n2 : Nat} {a b : Int} {P : Src → Nat → Int → Src → Nat → Int → Prop} (h : rs = [⟨s1, n1, .int a⟩, ⟨s2, n2, .int b⟩]) (hp : P s1 n1 a s2 n2 b) : ∃ s1 n1 a s2 n2 b, rs = [⟨s1, n1, .int a⟩, ⟨s2, n2, .int b⟩] ∧ P s1 n1 a s2 n2 b := ⟨_, _, _, _, _, _, h, hp⟩
section
variable {c : Cal} {env : Env} {P : R → Env → Prop} {q : R → Prop} {s s' : Src} {n n' i : Nat} {d : D} {a b : Int}
theorem w_varF (g : getS env i = some (n, d)) (hc : d.isC = false) (h : P ⟨.fr, 0, d⟩ env) : WE c (.var i) env P := w_var g (by rw [slotR, if_neg (by rw [hc]; simp)]; exact h)
theorem w_varZ (g : getS env i = some (0, d)) (h : P ⟨.fr, 0, d⟩ env) : WE c (.var i) env P := w_var g (by rw [slotR, if_neg (by simp)]; exact h)
theorem w_varO (g : getS env i = some (n + 1, d)) (hc : d.isC = true) (h : P ⟨.sl i, n + 1, d⟩ env) : WE c (.var i) env P := w_var g (by rw [slotR, if_pos ⟨Nat.succ_le_succ (Nat.zero_le _), hc⟩]; exact h)
def SL (i : Nat) (sv : SV) (env : Env) (P : R → Env → Prop) : Prop := P (slotR i sv) env
theorem w_varS {sv : SV} (g : getS env i = some sv) (h : SL i sv env P) : WE c (.var i) env P := w_var g h
theorem sl_flat (hc : d.isC = false) (h : P ⟨.fr, 0, d⟩ env) : SL i (n, d) env P := by
  show P (slotR i (n, d)) env
  rw [slotR, if_neg (by rw [hc]; simp)]; exact h
theorem sl_zero (h : P ⟨.fr, 0, d⟩ env) : SL i (0, d) env P := by
  show P (slotR i (0, d)) env
  rw [slotR, if_neg (by simp)]; exact h
theorem sl_own (hn : Nat.ble 1 n = true) (hc : d.isC = true) (h : P ⟨.sl i, n, d⟩ env) : SL i (n, d) env P := by
  show P (slotR i (n, d)) env
  rw [slotR, if_pos ⟨Nat.le_of_ble_eq_true hn, hc⟩]; exact h
theorem and_eq {α : Type} {a b : α} {A : Prop} (h : a = b) (hp : A) : a = b ∧ A := ⟨h, hp⟩
theorem rr_fr (h : q ⟨.fr, n, d⟩) : ∃ r', reR ⟨.fr, n, d⟩ env = some r' ∧ q r' := ⟨_, rfl, h⟩
theorem rr_inn (h : q ⟨.inn i, n, d⟩) : ∃ r', reR ⟨.inn i, n, d⟩ env = some r' ∧ q r' := ⟨_, rfl, h⟩
theorem rr_sl {d' : D} (g : getS env i = some (n', d')) (h : q ⟨.sl i, n', d'⟩) : ∃ r', reR ⟨.sl i, n, d⟩ env = some r' ∧ q r' := ⟨_, by simp only [reR, g, Option.map_some], h⟩
/-- operators that hold no items of what they read -/
theorem op_gen {o : Op} {rs : List R} {d : D} (ho : o.prop = false) (hm : o.makes = false) (e : opF o (rs.map (·.d)) = some d) (h : q ⟨.fr, 0, d⟩) : OP o rs q := ⟨_, by simp only [opR, ho, Bool.not_false, Bool.true_or, if_true, e, Option.map_some, hm, Bool.false_eq_true, if_false], h⟩
theorem op_genP {o : Op} {rs : List R} {d : D} (hs : rs.all R.shal = true) (hm : o.makes = false) (e : opF o (rs.map (·.d)) = some d) (h : q ⟨.fr, 0, d⟩) : OP o rs q := ⟨_, by simp only [opR, hs, Bool.or_true, if_true, e, Option.map_some, hm, Bool.false_eq_true, if_false], h⟩
theorem op_genM {o : Op} {rs : List R} {d : D} (hs : (!o.prop || rs.all R.shal) = true) (hm : o.makes = true) (e : opF o (rs.map (·.d)) = some d) (h : q ⟨.fr, (own1 d).1, d⟩) : OP o rs q := ⟨_, by simp only [opR, hs, if_true, e, Option.map_some, hm], h⟩
theorem op_add (h : q ⟨.fr, 0, .int (a + b)⟩) : OP .add [⟨.fr, n, .int a⟩, ⟨.fr, n', .int b⟩] q := ⟨_, rfl, h⟩
theorem op_sub (h : q ⟨.fr, 0, .int (a - b)⟩) : OP .sub [⟨s, n, .int a⟩, ⟨s', n', .int b⟩] q := ⟨_, rfl, h⟩
theorem op_lt (h : q ⟨.fr, 0, .bl (decide (a < b))⟩) : OP .lt [⟨s, n, .int a⟩, ⟨s', n', .int b⟩] q := ⟨_, rfl, h⟩
theorem op_le (h : q ⟨.fr, 0, .bl (decide (a ≤ b))⟩) : OP .le [⟨s, n, .int a⟩, ⟨s', n', .int b⟩] q := ⟨_, rfl, h⟩
theorem op_gt (h : q ⟨.fr, 0, .bl (decide (b < a))⟩) : OP .gt [⟨s, n, .int a⟩, ⟨s', n', .int b⟩] q := ⟨_, rfl, h⟩
theorem op_ge (h : q ⟨.fr, 0, .bl (decide (b ≤ a))⟩) : OP .ge [⟨s, n, .int a⟩, ⟨s', n', .int b⟩] q := ⟨_, rfl, h⟩
theorem op_min2 (h : q ⟨.fr, 0, .int (if b < a then b else a)⟩) : OP .min2 [⟨s, n, .int a⟩, ⟨s', n', .int b⟩] q := ⟨_, rfl, h⟩
theorem op_max2 (h : q ⟨.fr, 0, .int (if b > a then b else a)⟩) : OP .max2 [⟨s, n, .int a⟩, ⟨s', n', .int b⟩] q := ⟨_, rfl, h⟩
theorem op_neg (h : q ⟨.fr, 0, .int (-a)⟩) : OP .neg [⟨s, n, .int a⟩] q := ⟨_, rfl, h⟩
theorem op_not {k : Bool} (h : q ⟨.fr, 0, .bl (!k)⟩) : OP .not [⟨s, n, .bl k⟩] q := ⟨_, rfl, h⟩
theorem op_int1b {k : Bool} (h : q ⟨.fr, 0, .int (if k then 1 else 0)⟩) : OP .int1 [⟨s, n, .bl k⟩] q := ⟨_, rfl, h⟩
theorem op_mul (hc : (-(2 ^ 64) < a ∧ a < 2 ^ 64) ∨ (-(2 ^ 64) < b ∧ b < 2 ^ 64)) (h : q ⟨.fr, 0, .int (a * b)⟩) : OP .mul [⟨.fr, n, .int a⟩, ⟨.fr, n', .int b⟩] q := ⟨_, by simp only [opR, List.all_cons, List.all_nil, R.shal, Bool.true_or, Bool.and_self, Bool.or_true, if_true, List.map_cons, List.map_nil, opF, mulD, if_pos hc, Option.map_some, Op.makes, own1, D.isC, Bool.false_eq_true, if_false], h⟩
theorem op_mod (hc : 0 < b) (h : q ⟨.fr, 0, .int (a % b)⟩) : OP .mod [⟨s, n, .int a⟩, ⟨s', n', .int b⟩] q := op_gen rfl rfl (by simp [opF, intD, hc]) h
theorem op_fdiv (hc : 0 < b) (h2 : b.natAbs.log2 < 9000) (h : q ⟨.fr, 0, .int (a / b)⟩) : OP .fdiv [⟨s, n, .int a⟩, ⟨s', n', .int b⟩] q := op_gen rfl rfl (by simp [opF, intD, hc, h2]) h
theorem op_pow (h1 : 0 ≤ b) (h2 : b ≤ 1000000) (h3 : a.natAbs < 2 ^ 64) (h : q ⟨.fr, 0, .int (a ^ b.toNat)⟩) : OP .pow [⟨s, n, .int a⟩, ⟨s', n', .int b⟩] q := op_gen rfl rfl (by simp [opF, intD, h1, h2, h3]) h
theorem op_lenL {l : List D} (h : q ⟨.fr, 0, .int l.length⟩) : OP .len [⟨s, n, .lst l⟩] q := ⟨_, rfl, h⟩
theorem op_lenS {l : List D} (h : q ⟨.fr, 0, .int l.length⟩) : OP .len [⟨s, n, .scr l⟩] q := ⟨_, rfl, h⟩
theorem op_lenT {l : List D} (h : q ⟨.fr, 0, .int l.length⟩) : OP .len [⟨s, n, .tup l⟩] q := ⟨_, rfl, h⟩
theorem op_lenZ {z : Str} (hz : z.length ≤ sizeLine) (h : q ⟨.fr, 0, .int z.length⟩) : OP .len [⟨s, n, .str z⟩] q := op_gen rfl rfl (by simp [opF, one, lenD, hz]) h
/-! items -/
theorem op_ixL {l : List D} {d : D} (e : at' l a = some d) (h : q ⟨.fr, 0, d⟩) : OP .ix [⟨.fr, n, .lst l⟩, ⟨.fr, n', .int a⟩] q := op_genP rfl rfl (by simp only [List.map_cons, List.map_nil, opF, dyad, ixD, e]) h
theorem op_ixT {l : List D} {d : D} (e : at' l a = some d) (h : q ⟨.fr, 0, d⟩) : OP .ix [⟨.fr, n, .tup l⟩, ⟨.fr, n', .int a⟩] q := op_genP rfl rfl (by simp only [List.map_cons, List.map_nil, opF, dyad, ixD, e]) h
theorem op_ixS {l : List D} {d : D} (e : at' l a = some d) (h : q ⟨.fr, 0, d⟩) : OP .ix [⟨.fr, n, .scr l⟩, ⟨.fr, n', .int a⟩] q := op_genP rfl rfl (by simp only [List.map_cons, List.map_nil, opF, dyad, ixD, e]) h
theorem op_ixZ {z : Str} {k : Nat} (hz : z.length ≤ sizeLine) (e : at' z.cps.toList a = some k) (h : q ⟨.fr, 0, .str ⟨#[k]⟩⟩) : OP .ix [⟨.fr, n, .str z⟩, ⟨.fr, n', .int a⟩] q := op_genP rfl rfl (by simp only [List.map_cons, List.map_nil, opF, dyad, ixD, if_pos hz, e, Option.map_some]) h
theorem op_ixO {l : List D} {d : D} (e : at' l a = some d) (hc : d.isC = false) (h : q ⟨.fr, 0, d⟩) : OP .ix [⟨.sl i, n, .lst l⟩, ⟨.fr, n', .int a⟩] q := by
  refine ⟨⟨.fr, 0, d⟩, ?_, h⟩
  unfold opR
  split
  · simp only [List.map_cons, List.map_nil, opF, dyad, ixD, e, Option.map_some, Op.makes, Bool.false_eq_true, if_false]
  · simp only [e, Option.map_some, hc, Bool.false_eq_true, if_false]
theorem at_cons {l : List D} {k : Nat} {a : Int} {d : D} (ha : a = (k : Int)) (h : k < l.length) (e : l[k]? = some d) : at' l a = some d := by
  subst ha
  unfold at' L2.atI L2.ixN
  rw [if_pos (by omega), if_pos (by omega)]
  show l[(k : Int).toNat]? = _
  rw [Int.toNat_natCast]
  exact e
theorem op_ixL0 {x0 : D} {l : List D} (h : q ⟨.fr, 0, x0⟩) : OP .ix [⟨.fr, n, .lst (x0 :: l)⟩, ⟨.fr, n', .int 0⟩] q := op_ixL (d := x0) (at_cons (k := 0) rfl (by simp) rfl) h
theorem op_ixT0 {x0 : D} {l : List D} (h : q ⟨.fr, 0, x0⟩) : OP .ix [⟨.fr, n, .tup (x0 :: l)⟩, ⟨.fr, n', .int 0⟩] q := op_ixT (d := x0) (at_cons (k := 0) rfl (by simp) rfl) h
theorem op_ixO0 {x0 : D} {l : List D} (hc : x0.isC = false) (h : q ⟨.fr, 0, x0⟩) : OP .ix [⟨.sl i, n, .lst (x0 :: l)⟩, ⟨.fr, n', .int 0⟩] q := op_ixO (d := x0) (at_cons (k := 0) rfl (by simp) rfl) hc h
theorem op_ixL1 {x0 x1 : D} {l : List D} (h : q ⟨.fr, 0, x1⟩) : OP .ix [⟨.fr, n, .lst (x0 :: x1 :: l)⟩, ⟨.fr, n', .int 1⟩] q := op_ixL (d := x1) (at_cons (k := 1) rfl (by simp) rfl) h
theorem op_ixT1 {x0 x1 : D} {l : List D} (h : q ⟨.fr, 0, x1⟩) : OP .ix [⟨.fr, n, .tup (x0 :: x1 :: l)⟩, ⟨.fr, n', .int 1⟩] q := op_ixT (d := x1) (at_cons (k := 1) rfl (by simp) rfl) h
theorem op_ixO1 {x0 x1 : D} {l : List D} (hc : x1.isC = false) (h : q ⟨.fr, 0, x1⟩) : OP .ix [⟨.sl i, n, .lst (x0 :: x1 :: l)⟩, ⟨.fr, n', .int 1⟩] q := op_ixO (d := x1) (at_cons (k := 1) rfl (by simp) rfl) hc h
theorem op_ixL2 {x0 x1 x2 : D} {l : List D} (h : q ⟨.fr, 0, x2⟩) : OP .ix [⟨.fr, n, .lst (x0 :: x1 :: x2 :: l)⟩, ⟨.fr, n', .int 2⟩] q := op_ixL (d := x2) (at_cons (k := 2) rfl (by simp) rfl) h
theorem op_ixT2 {x0 x1 x2 : D} {l : List D} (h : q ⟨.fr, 0, x2⟩) : OP .ix [⟨.fr, n, .tup (x0 :: x1 :: x2 :: l)⟩, ⟨.fr, n', .int 2⟩] q := op_ixT (d := x2) (at_cons (k := 2) rfl (by simp) rfl) h
theorem op_ixO2 {x0 x1 x2 : D} {l : List D} (hc : x2.isC = false) (h : q ⟨.fr, 0, x2⟩) : OP .ix [⟨.sl i, n, .lst (x0 :: x1 :: x2 :: l)⟩, ⟨.fr, n', .int 2⟩] q := op_ixO (d := x2) (at_cons (k := 2) rfl (by simp) rfl) hc h
theorem op_ixL3 {x0 x1 x2 x3 : D} {l : List D} (h : q ⟨.fr, 0, x3⟩) : OP .ix [⟨.fr, n, .lst (x0 :: x1 :: x2 :: x3 :: l)⟩, ⟨.fr, n', .int 3⟩] q := op_ixL (d := x3) (at_cons (k := 3) rfl (by simp) rfl) h
theorem op_ixT3 {x0 x1 x2 x3 : D} {l : List D} (h : q ⟨.fr, 0, x3⟩) : OP .ix [⟨.fr, n, .tup (x0 :: x1 :: x2 :: x3 :: l)⟩, ⟨.fr, n', .int 3⟩] q := op_ixT (d := x3) (at_cons (k := 3) rfl (by simp) rfl) h
theorem op_ixO3 {x0 x1 x2 x3 : D} {l : List D} (hc : x3.isC = false) (h : q ⟨.fr, 0, x3⟩) : OP .ix [⟨.sl i, n, .lst (x0 :: x1 :: x2 :: x3 :: l)⟩, ⟨.fr, n', .int 3⟩] q := op_ixO (d := x3) (at_cons (k := 3) rfl (by simp) rfl) hc h
theorem op_isi {o : Op} {p : D → Bool} (ho : opF o = one (kindD p)) (hp : o.prop = false) (hm : o.makes = false) (hd : (match d with | .scr _ | .obj _ _ _ | .dic _ _ => false | _ => true) = true) (h : q ⟨.fr, 0, .bl (p d)⟩) : OP o [⟨s, n, d⟩] q :=
  op_gen hp hm (by rw [ho]; cases d <;> first | cases hd; done | rfl) h
theorem op_eq {d e : D} {k : Bool} (he : eqD d e = some k) (h : q ⟨.fr, 0, .bl k⟩) : OP .eq [⟨s, n, d⟩, ⟨s', n', e⟩] q := op_gen rfl rfl (by simp only [List.map_cons, List.map_nil, opF, dyad, he, Option.map_some]) h
theorem op_ne {d e : D} {k : Bool} (he : eqD d e = some k) (h : q ⟨.fr, 0, .bl (!k)⟩) : OP .ne [⟨s, n, d⟩, ⟨s', n', e⟩] q := op_gen rfl rfl (by simp only [List.map_cons, List.map_nil, opF, dyad, he, Option.map_some]) h
theorem eqv_int {x y : Int} : eqD (.int x) (.int y) = some (decide (x = y)) := by
  have e : (D.eqb (.int x) && D.eqb (.int y) && decide ((D.py (.int x)).depth ≤ 64) && decide ((D.py (.int y)).depth ≤ 64)) = true := rfl
  unfold eqD
  rw [if_pos e]
  rfl
end
end Ck

set_option Elab.async false
set_option linter.all false
set_option maxRecDepth 100000
/-! Ck29: the laws' own small defs. -/
namespace Ck
open PySem
local macro_rules
  | `(tactic| get_elem_tactic_trivial) => `(tactic| with_reducible first
    | refine wb_cons ?_
    | refine ws_set ?_
    | refine ws_ret ?_
    | refine ws_exp ?_
    | refine ws_setT ?_
    | refine ws_setIx ?_
    | refine ws_setSl ?_
    | refine ws_ite ?_
    | (apply ws_aug; with_unfolding_all rfl)
    | refine w_cst ?_
    | refine w_glo ?_
    | (apply w_varS; with_unfolding_all rfl)
    | refine sl_zero ?_
    | (apply sl_flat; with_unfolding_all rfl)
    | (apply sl_own; with_unfolding_all rfl; with_unfolding_all rfl)
    | refine w_op ?_
    | refine w_tupd ?_
    | refine w_lstd ?_
    | refine w_call ?_
    | (apply w_mut; with_unfolding_all rfl; with_unfolding_all rfl)
    | refine w_slc ?_
    | refine w_met ?_
    | refine wl_cons ?_
    | refine wl_nil ?_
    | refine wt_cmp ?_
    | refine wt_conj ?_
    | refine wt_disj ?_
    | refine wt_not ?_
    | refine wt_isn ?_
    | refine rr_fr ?_
    | (apply rr_sl; with_unfolding_all rfl)
    | refine op_lenS ?_
    | refine op_lenL ?_
    | refine op_lenT ?_
    | refine op_add ?_
    | refine op_sub ?_
    | refine op_lt ?_
    | refine op_le ?_
    | refine op_gt ?_
    | refine op_ge ?_
    | refine op_min2 ?_
    | refine op_max2 ?_
    | refine op_neg ?_
    | refine op_not ?_
    | refine op_int1b ?_
    | (apply op_mod; (first | assumption | decide))
    | (apply op_fdiv; (first | assumption | decide); (first | assumption | decide))
    | (refine op_mul (.inl ?_) ?_; decide)
    | (refine op_mul (.inr ?_) ?_; decide)
    | (apply op_pow; decide; decide; decide)
    | refine op_ixL0 ?_
    | refine op_ixT0 ?_
    | (apply op_ixO0; with_unfolding_all rfl)
    | refine op_ixL1 ?_
    | refine op_ixT1 ?_
    | (apply op_ixO1; with_unfolding_all rfl)
    | refine op_ixL2 ?_
    | refine op_ixT2 ?_
    | (apply op_ixO2; with_unfolding_all rfl)
    | refine op_ixL3 ?_
    | refine op_ixT3 ?_
    | (apply op_ixO3; with_unfolding_all rfl)
    | (apply and_eq; with_unfolding_all rfl)
    | (apply ex_pair; with_unfolding_all rfl)
    | (apply ex_some; with_unfolding_all rfl)
    | (apply ex_bl; with_unfolding_all rfl)
    | (apply ex_int; with_unfolding_all rfl)
    | (apply ex_ix; with_unfolding_all rfl; with_unfolding_all rfl; with_unfolding_all rfl)
    | (apply ex_two; with_unfolding_all rfl))
def tkB : List S :=
  [.ite (.cmp .gt (.op .ix [.var 0, .cst (.int 0)]) (.cst (.int 0))) [.set 3 (.op .mod [.op .ix [.var 0, .cst (.int 0)], .var 1]),
  .setIx 0 (.cst (.int 0)) (.op .fdiv [.op .ix [.var 0, .cst (.int 0)], .var 1]),
  .ret (.var 3)] [],
  .set 2 (.op .mod [.op .mul [.op .ix [.var 0, .cst (.int 1)], .cst (.int 48271)], .cst (.int 2147483647)]),
  .setIx 0 (.cst (.int 1)) (.op .add [.op .mod [.op .add [.op .mul [.var 2, .cst (.int 40692)], .cst (.int 30103)], .cst (.int 2147483399)], .cst (.int 1)]),
  .ret (.op .mod [.op .fdiv [.op .add [.op .mul [.var 2, .cst (.int 2147483647)], .op .ix [.var 0, .cst (.int 1)]], .cst (.int 8191)], .var 1])]
/-- a draw below m -/
theorem take_ok {G : Gt} {n f : Nat} (hg : G[f]? = some ⟨2, 4, tkB⟩) {s : Int × Int} {m : Int} (hm : 0 < m) (hl : m.natAbs.log2 < 9000) {Q : SV → List SV → Prop} (h : ∀ d s', 0 ≤ d → d < m → Q (0, .int d) [(1000, fd s'), (0, .int m)]) :
    CPS (evC G (n + 1)) f [(1000, fd s), (0, .int m)] [0] Q := by
  refine w_body hg rfl ?_
  unfold tkB
  repeat get_elem_tactic_trivial
  refine and_dec (fun h0 => ?_) (fun h0 => ?_)
  · repeat get_elem_tactic_trivial
    exact h _ (_, _) (Int.emod_nonneg _ (by omega)) (Int.emod_lt_of_pos _ hm)
  · refine wb_nil ?_
    repeat get_elem_tactic_trivial
    refine op_ixO (by with_unfolding_all rfl) rfl ?_
    repeat get_elem_tactic_trivial
    exact h _ (s.1, (s.2 * 48271 % 2147483647 * 40692 + 30103) % 2147483399 + 1) (Int.emod_nonneg _ (by omega)) (Int.emod_lt_of_pos _ hm)
def fdB : List S :=
  [.set 2 (.op .add [.op .mul [.cst (.int 7901), .var 1], .cst (.int 24697)]),
  .ite (.cmp .lt (.var 1) (.op .len [.var 0])) [.set 2 (.op .ix [.var 0, .var 1])] [.ite (.cmp .gt (.op .len [.var 0]) (.cst (.int 0))) [.set 2 (.op .add [.op .mul [.op .mod [.op .ix [.var 0, .op .mod [.var 1, .op .len [.var 0]]], .cst (.int 2147483629)], .cst (.int 31)], .op .mul [.cst (.int 7901), .var 1]])] []],
  .set 3 (.cst (.int 0)),
  .ite (.cmp .ge (.var 2) (.op .pow [.cst (.int 10), .cst (.int 18)])) [.set 3 (.var 2)] [],
  .ret (.lstd [.var 3, .op .add [.op .mod [.op .pow [.op .add [.op .mul [.op .mod [.var 2, .cst (.int 2147483629)], .cst (.int 48271)], .op .mul [.cst (.int 40692), .var 1]], .cst (.int 5)], .cst (.int 2147483629)], .cst (.int 1)]])]
theorem at_scr {zs : List Int} {k : Int} (h0 : 0 ≤ k) (h1 : k < zs.length) : ∃ z, at' (zs.map D.int) k = some (.int z) := by
  have hk : k.toNat < zs.length := by omega
  refine ⟨zs[k.toNat], ?_⟩
  unfold at' L2.atI L2.ixN
  rw [if_pos h0, List.length_map, if_pos h1]
  show (zs.map D.int)[k.toNat]? = _
  rw [List.getElem?_map, List.getElem?_eq_getElem hk]
  rfl
/-- a feed -/
theorem feed_ok {G : Gt} {n f : Nat} (hg : G[f]? = some ⟨2, 4, fdB⟩) {zs : List Int} {k : Int} (h0 : 0 ≤ k) (h1 : k ≤ 1000000) {Q : SV → List SV → Prop} (h : ∀ s, Q (1000, fd s) [(0, scrD zs), (0, .int k)]) :
    CPS (evC G (n + 1)) f [(0, scrD zs), (0, .int k)] [] Q := by
  refine w_body hg rfl ?_
  unfold fdB
  have bd : ∀ cell : Int, (cell % 2147483629 * 48271 + 40692 * k).natAbs < 2 ^ 64 := fun cell => by
    have a1 := Int.emod_nonneg cell (show (2147483629 : Int) ≠ 0 by decide)
    have a2 := Int.emod_lt_of_pos cell (show (0 : Int) < 2147483629 by decide)
    omega
  have fin2 : ∀ (cell : Int) (o : Option SV), WB (evC G n) [.set 3 (.cst (.int 0)),
      .ite (.cmp .ge (.var 2) (.op .pow [.cst (.int 10), .cst (.int 18)])) [.set 3 (.var 2)] [],
      .ret (.lstd [.var 3, .op .add [.op .mod [.op .pow [.op .add [.op .mul [.op .mod [.var 2, .cst (.int 2147483629)], .cst (.int 48271)], .op .mul [.cst (.int 40692), .var 1]], .cst (.int 5)], .cst (.int 2147483629)], .cst (.int 1)]])] [] [some (0, scrD zs), some (0, .int k), some (0, .int cell), o]
      { nx := fun e => (([] : List Nat).all fun i => (getS e i).isSome) = true ∧ Q (0, .non) (outPs 2 e), rt := fun r e => (([] : List Nat).all fun i => (getS e i).isSome) = true ∧ Q r (outPs 2 e) } := by
    intro cell o
    repeat get_elem_tactic_trivial
    refine and_dec (fun h2 => ?_) (fun h2 => ?_)
    · repeat get_elem_tactic_trivial
      refine wb_nil ?_
      repeat get_elem_tactic_trivial
      refine op_pow (by decide) (by decide) (bd cell) ?_
      repeat get_elem_tactic_trivial
      exact h (_, _)
    · refine wb_nil ?_
      repeat get_elem_tactic_trivial
      refine op_pow (by decide) (by decide) (bd cell) ?_
      repeat get_elem_tactic_trivial
      exact h (_, _)
  repeat get_elem_tactic_trivial
  refine and_dec (fun h2 => ?_) (fun h2 => ?_)
  · rw [List.length_map] at h2
    obtain ⟨z, hz⟩ := at_scr h0 h2
    repeat get_elem_tactic_trivial
    refine op_ixS hz ?_
    repeat get_elem_tactic_trivial
    refine wb_nil ?_
    exact fin2 z none
  · repeat get_elem_tactic_trivial
    refine and_dec (fun h3 => ?_) (fun h3 => ?_)
    · rw [List.length_map] at h3
      obtain ⟨z, hz⟩ := at_scr (zs := zs) (k := k % (zs.length : Int)) (Int.emod_nonneg _ (by omega)) (Int.emod_lt_of_pos _ h3)
      repeat get_elem_tactic_trivial
      refine op_mod (by rw [List.length_map]; exact h3) ?_
      repeat get_elem_tactic_trivial
      refine op_ixS (by rw [List.length_map]; exact hz) ?_
      repeat get_elem_tactic_trivial
      refine wb_nil ?_
      refine wb_nil ?_
      exact fin2 _ none
    · refine wb_nil ?_
      refine wb_nil ?_
      exact fin2 _ none
end Ck

set_option Elab.async false
set_option linter.all false
set_option maxRecDepth 100000
/-! Ck30: the laws' rows, words. -/
namespace Ck
open PySem
local macro_rules
  | `(tactic| get_elem_tactic_trivial) => `(tactic| with_reducible first
    | refine wb_cons ?_
    | refine ws_set ?_
    | refine ws_ret ?_
    | refine ws_exp ?_
    | refine ws_setT ?_
    | refine ws_setIx ?_
    | refine ws_setSl ?_
    | refine ws_ite ?_
    | (apply ws_aug; with_unfolding_all rfl)
    | refine w_cst ?_
    | refine w_glo ?_
    | (apply w_varS; with_unfolding_all rfl)
    | refine sl_zero ?_
    | (apply sl_flat; with_unfolding_all rfl)
    | (apply sl_own; with_unfolding_all rfl; with_unfolding_all rfl)
    | refine w_op ?_
    | refine w_tupd ?_
    | refine w_lstd ?_
    | refine w_call ?_
    | (apply w_mut; with_unfolding_all rfl; with_unfolding_all rfl)
    | refine w_slc ?_
    | refine w_met ?_
    | refine wl_cons ?_
    | refine wl_nil ?_
    | refine wt_cmp ?_
    | refine wt_conj ?_
    | refine wt_disj ?_
    | refine wt_not ?_
    | refine wt_isn ?_
    | refine rr_fr ?_
    | (apply rr_sl; with_unfolding_all rfl)
    | refine op_lenS ?_
    | refine op_lenL ?_
    | refine op_lenT ?_
    | refine op_add ?_
    | refine op_sub ?_
    | refine op_lt ?_
    | refine op_le ?_
    | refine op_gt ?_
    | refine op_ge ?_
    | refine op_min2 ?_
    | refine op_max2 ?_
    | refine op_neg ?_
    | refine op_not ?_
    | refine op_int1b ?_
    | (apply op_mod; (first | assumption | decide))
    | (apply op_fdiv; (first | assumption | decide); (first | assumption | decide))
    | (refine op_mul (.inl ?_) ?_; decide)
    | (refine op_mul (.inr ?_) ?_; decide)
    | (apply op_pow; decide; decide; decide)
    | refine op_ixL0 ?_
    | refine op_ixT0 ?_
    | (apply op_ixO0; with_unfolding_all rfl)
    | refine op_ixL1 ?_
    | refine op_ixT1 ?_
    | (apply op_ixO1; with_unfolding_all rfl)
    | refine op_ixL2 ?_
    | refine op_ixT2 ?_
    | (apply op_ixO2; with_unfolding_all rfl)
    | refine op_ixL3 ?_
    | refine op_ixT3 ?_
    | (apply op_ixO3; with_unfolding_all rfl)
    | (apply and_eq; with_unfolding_all rfl)
    | (apply ex_pair; with_unfolding_all rfl)
    | (apply ex_some; with_unfolding_all rfl)
    | (apply ex_bl; with_unfolding_all rfl)
    | (apply ex_int; with_unfolding_all rfl)
    | (apply ex_ix; with_unfolding_all rfl; with_unfolding_all rfl; with_unfolding_all rfl)
    | (apply ex_two; with_unfolding_all rfl))
theorem at_mem {α : Type} {l : List α} {a : Int} (h0 : 0 ≤ a) (h1 : a < l.length) : ∃ x, at' l a = some x ∧ l[a.toNat]? = some x := by
  have hk : a.toNat < l.length := by omega
  refine ⟨l[a.toNat], ?_, List.getElem?_eq_getElem hk⟩
  unfold at' L2.atI L2.ixN
  rw [if_pos h0, if_pos h1]
  exact List.getElem?_eq_getElem hk
theorem map_int_mem {x : D} : ∀ {l : List D} {k : Nat}, l[k]? = some x → (∀ y ∈ l, ∃ z, y = D.int z) → ∃ z, x = .int z := fun e h => h _ (List.mem_of_getElem? e)
def rwB (t : Nat) : List S :=
  [.ite (.cmp .eq (.call t [.var 0, .cst (.int 4)]) (.cst (.int 0))) [.ret (.op .mul [.tupd [.cst (.int 0)], .var 1])] [],
  .ret (.op .tupleOf [.comp (.op .ix [.lstd [.cst (.int 0), .cst (.int 1), .op .sub [.cst (.int 0), .cst (.int 1)], .cst (.int 2), .op .sub [.cst (.int 0), .cst (.int 2)]], .call t [.var 0, .cst (.int 5)]]) (.nm 2) (.rng1 (.var 1)) (.tt) [2]])]
theorem row_ok {G : Gt} {n f t : Nat} (hg : G[f]? = some ⟨2, 3, rwB t⟩) (ht : G[t]? = some ⟨2, 4, tkB⟩) {s : Int × Int} {w : Int} (h1 : 1 ≤ w) (h2 : w ≤ 1000) {Q : SV → List SV → Prop} (h : ∀ (ns : List Int) s', (ns.length : Int) = w → Q (0, .tup (ns.map .int)) [(1000, fd s'), (0, .int w)]) :
    CPS (evC G (n + 2)) f [(1000, fd s), (0, .int w)] [0] Q := by
  refine w_body hg rfl ?_
  unfold rwB
  repeat get_elem_tactic_trivial
  refine take_ok ht (by decide) (by decide) fun d s1 d0 d1 => ?_
  repeat get_elem_tactic_trivial
  refine op_eq eqv_int ?_
  repeat get_elem_tactic_trivial
  refine and_dec (fun h3 => ?_) (fun h3 => ?_)
  · repeat get_elem_tactic_trivial
    refine op_genM rfl rfl (d := .tup (List.replicate w.toNat [D.int 0]).flatten) ?_ ?_
    · show mulD [.tup [.int 0], .int w] = _
      simp only [mulD]
      rw [if_neg]
      rintro (h | h)
      · cases h
      · exact h ⟨h1, h2, by decide⟩
    repeat get_elem_tactic_trivial
    have e : (List.replicate w.toNat [D.int 0]).flatten = (List.replicate w.toNat (0 : Int)).map D.int := by
      rw [List.map_replicate]
      induction w.toNat with
      | zero => rfl
      | succ k ih => rw [List.replicate_succ, List.flatten_cons, ih]; rfl
    show Q (0, .tup (List.replicate w.toNat [D.int 0]).flatten) [(1000, fd s1), (0, .int w)]
    rw [e]
    exact h _ s1 (by rw [List.length_replicate]; omega)
  · refine wb_nil ?_
    repeat get_elem_tactic_trivial
    refine w_comp ?_
    refine wi_rng1 ?_
    repeat get_elem_tactic_trivial
    refine And.intro ⟨by omega, by omega⟩ ?_
    refine ⟨w.toNat, rfl, rfl, fun i env acc => ∃ (s' : Int × Int) (ns : List Int), env = [some (1000, fd s'), some (0, .int w), none] ∧ acc = ns.map (fun z => (0, D.int z)) ∧ ns.length = i, ⟨s1, [], rfl, rfl, rfl⟩, ?_, ?_⟩
    · rintro i env acc hi ⟨s2, ns, rfl, rfl, rfl⟩
      refine ⟨_, _, rfl, rfl, wt_tt ⟨(fun h => nomatch h), fun _ => ?_⟩⟩
      repeat get_elem_tactic_trivial
      refine take_ok ht (by decide) (by decide) fun d s3 d0 d1 => ?_
      repeat get_elem_tactic_trivial
      obtain ⟨x, e1, e2⟩ := at_mem (l := [D.int 0, .int 1, .int (0 - 1), .int 2, .int (0 - 2)]) d0 (by simpa using d1)
      obtain ⟨z, rfl⟩ := map_int_mem e2 (by intro y hy; simp at hy; rcases hy with rfl | rfl | rfl | rfl | rfl <;> exact ⟨_, rfl⟩)
      refine op_ixL e1 ?_
      repeat get_elem_tactic_trivial
      refine And.intro ?_ (And.intro rfl ⟨s3, ns ++ [z], rfl, by simp, by simp⟩)
      rw [List.length_map, sizeLine_eq]
      omega
    · rintro env acc ⟨s2, ns, rfl, rfl, hl⟩
      repeat get_elem_tactic_trivial
      refine op_genP (d := .tup (ns.map D.int)) rfl rfl ?_ ?_
      · show some (D.tup _) = _
        rw [List.map_map]
        rfl
      repeat get_elem_tactic_trivial
      exact h ns s2 (by omega)
end Ck

set_option Elab.async false
set_option linter.all false
set_option maxRecDepth 100000
/-! Ck31: texts. -/
namespace Ck
open PySem
/-- a short text of low signs -/
structure Tx (n : Nat) (z : Str) : Prop where
  lo : ∀ c ∈ z.cps.toList, c < 1000
  le : z.length ≤ n
theorem Tx.mono {n m : Nat} {z : Str} (h : Tx n z) (l : n ≤ m) : Tx m z := ⟨h.lo, Nat.le_trans h.le l⟩
theorem len_list {z : Str} : z.length = z.cps.toList.length := by rw [Array.length_toList]; rfl
theorem Tx.eqb {n : Nat} {z : Str} (h : Tx n z) : D.eqb (.str z) = true := by
  show (z.cps.all fun c => decide (c < 0x110000)) = true
  rw [Array.all_eq_true']
  intro c hc
  have := h.lo c (by simpa using hc)
  simp
  omega
theorem Tx.add {n m : Nat} {a b : Str} (h : Tx n a) (h2 : Tx m b) : Tx (n + m) (a ++ b) := by
  have e : (a ++ b).cps.toList = a.cps.toList ++ b.cps.toList := by show (a.cps ++ b.cps).toList = _; simp
  refine ⟨fun c hc => ?_, ?_⟩
  · rw [e] at hc
    exact (List.mem_append.mp hc).elim (h.lo c) (h2.lo c)
  · have h3 := h.le
    have h4 := h2.le
    rw [len_list] at h3 h4 ⊢
    rw [e, List.length_append]
    omega
theorem Tx.cut {n : Nat} {z : Str} {lo hi : Option Int} (h : Tx n z) : Tx n (L2.cutS z lo hi) := by
  refine ⟨fun c hc => h.lo c ?_, ?_⟩
  · have hc : c ∈ (z.cps.toList.drop (HT.sIx z.length 0 lo)).take (HT.sIx z.length z.length hi - HT.sIx z.length 0 lo) := by simpa [L2.cutS] using hc
    exact List.mem_of_mem_drop (List.mem_of_mem_take hc)
  · have h3 := h.le
    rw [len_list] at h3 ⊢
    unfold L2.cutS
    simp only [List.length_take, List.length_drop]
    omega
theorem Tx.one {c : Nat} (h : c < 1000) : Tx 1 ⟨#[c]⟩ := ⟨fun d hd => by simp at hd; omega, Nat.le_refl _⟩
theorem Tx.line {n : Nat} {z : Str} (h : Tx n z) (l : n ≤ 16777216) : z.length ≤ sizeLine := by rw [sizeLine_eq]; exact Nat.le_trans h.le l
theorem eq_str {n m : Nat} {a b : Str} (h : Tx n a) (h2 : Tx m b) : eqD (.str a) (.str b) = some (decide (a = b)) := by
  unfold eqD
  rw [h.eqb, h2.eqb]
  have e : (true && true && decide ((D.str a).py.depth ≤ 64) && decide ((D.str b).py.depth ≤ 64)) = true := rfl
  rw [if_pos e]
  show some (a == b) = _
  rw [Bool.eq_iff_iff.mpr (by simp : (a == b) = true ↔ decide (a = b) = true)]
theorem in_strs {n : Nat} {a : Str} {l : List Str} (h : Tx n a) (h1 : D.eqbs (l.map .str) = true) (h2 : decide ((D.lst (l.map .str)).py.depth ≤ 64) = true) : inD (.str a) (l.map .str) = some (decide (a ∈ l)) := by
  unfold inD
  have e : ((D.str a).eqb && D.eqbs (l.map .str) && decide ((D.str a).py.depth ≤ 64) && decide ((D.lst (l.map .str)).py.depth ≤ 64)) = true := by
    rw [h.eqb, h1, h2]; rfl
  rw [if_pos e]
  congr 1
  rw [Bool.eq_iff_iff, List.any_eq_true, decide_eq_true_eq]
  constructor
  · rintro ⟨d, hd, he⟩
    obtain ⟨y, hy, rfl⟩ := List.mem_map.mp hd
    have he : (y == a) = true := he
    rw [← eq_of_beq he]
    exact hy
  · intro hy
    exact ⟨_, List.mem_map.mpr ⟨a, hy, rfl⟩, by show (a == a) = true; simp⟩
theorem Tx.join0 : ∀ {ys : List Str}, (∀ y ∈ ys, Tx 1 y) → Tx ys.length (Str.join "" ys)
  | [], _ => ⟨fun c hc => by simp [Str.join, Str.empty] at hc, Nat.le_refl _⟩
  | [x], h => h x (List.mem_cons_self ..)
  | x :: y :: r, h => by
    have ih := Tx.join0 (ys := y :: r) fun z hz => h z (List.mem_cons_of_mem _ hz)
    have e0 : Tx 0 ("" : Str) := by
      refine ⟨fun c hc => ?_, Nat.le_refl _⟩
      have e1 : (("" : Str)).cps.toList = [] := rfl
      rw [e1] at hc
      cases hc
    have := ((h x (List.mem_cons_self ..)).add e0).add ih
    exact this.mono (by simp only [List.length_cons]; omega)
theorem as_strs : ∀ (ys : List Str), asStrs (ys.map .str) = some ys
  | [] => rfl
  | y :: ys => by simp only [List.map_cons, asStrs, as_strs ys, Option.map_some]
theorem join_ok {ys : List Str} (h : ∀ y ∈ ys, Tx 1 y) (l : ys.length ≤ 100000) : joinD (.str "") (.lst (ys.map .str)) = some (.str (Str.join "" ys)) := by
  unfold joinD
  simp only [as_strs]
  have hs : (ys.map fun y => y.length).sum ≤ ys.length := by
    clear l
    induction ys with
    | nil => exact Nat.le_refl _
    | cons y ys ih =>
      have h1 := (h y (List.mem_cons_self ..)).le
      have h2 := ih fun z hz => h z (List.mem_cons_of_mem _ hz)
      simp only [List.map_cons, List.sum_cons, List.length_cons]
      omega
  have e0 : (("" : Str)).length = 0 := rfl
  rw [e0, Nat.mul_zero, if_pos (by omega)]
  congr 2
  exact StrLaws.glued_eq_join _ _
section
variable {q : R → Prop} {n n' : Nat} {z y : Str} {a b : Int}
theorem op_slB (hz : z.length ≤ sizeLine) (h : q ⟨.fr, 0, .str (L2.cutS z none (some a))⟩) : OP .slB [⟨.fr, n, .str z⟩, ⟨.fr, n', .int a⟩] q := op_genM (d := .str (L2.cutS z none (some a))) rfl rfl (by simp only [List.map_cons, List.map_nil, opF, dyad, partI, sliceD, if_pos hz]) h
theorem op_slA (hz : z.length ≤ sizeLine) (h : q ⟨.fr, 0, .str (L2.cutS z (some a) none)⟩) : OP .slA [⟨.fr, n, .str z⟩, ⟨.fr, n', .int a⟩] q := op_genM (d := .str (L2.cutS z (some a) none)) rfl rfl (by simp only [List.map_cons, List.map_nil, opF, dyad, partI, sliceD, if_pos hz]) h
theorem op_addZ (hz : z.length + y.length ≤ sizeLine) (h : q ⟨.fr, 0, .str (z ++ y)⟩) : OP .add [⟨.fr, n, .str z⟩, ⟨.fr, n', .str y⟩] q := op_genM (d := .str (z ++ y)) rfl rfl (by simp only [List.map_cons, List.map_nil, opF, addD, if_pos hz]) h
theorem op_slAT {l : List D} (h : q ⟨.fr, 0, .tup (cutD l (some a) none)⟩) : OP .slA [⟨.fr, n, .tup l⟩, ⟨.fr, n', .int a⟩] q := op_genM (d := .tup (cutD l (some a) none)) rfl rfl (by simp only [List.map_cons, List.map_nil, opF, dyad, partI, sliceD]) h
theorem op_mulZ {k : Nat} (hz : Tx k z) (hk : k ≤ 1000) (h1 : 2 ≤ a) (h2 : a ≤ 1000) (h : q ⟨.fr, 0, .str (Txt.mul z a)⟩) : OP .mul [⟨.fr, n, .str z⟩, ⟨.fr, n', .int a⟩] q := by
  refine op_genM (d := .str (Txt.mul z a)) rfl rfl ?_ h
  show mulD [.str z, .int a] = _
  have hl := hz.le
  simp only [mulD]
  rw [if_pos]
  refine ⟨by rw [Bool.or_eq_false_iff, decide_eq_false_iff_not, decide_eq_false_iff_not]; omega, fun _ _ => ?_, fun _ _ => ?_⟩
  · intro hh
    have e : (1000 : Int) ≤ (2 ^ 63 - 1) / a := Int.le_ediv_of_mul_le (by omega) (by omega)
    omega
  · unfold Builtin.Str.tooLong
    rw [decide_eq_false_iff_not]
    have e : z.length * a.toNat ≤ 1000 * 1000 := Nat.mul_le_mul (by omega) (by omega)
    have := sizeLine_eq
    omega
theorem Tx.mul {k : Nat} (hz : Tx k z) (h1 : 1 ≤ a) : Tx (k * a.toNat) (Txt.mul z a) := by
  unfold Txt.mul
  rw [if_neg (by omega)]
  split
  · exact hz.mono (Nat.le_mul_of_pos_right _ (by omega))
  · have key : ∀ (m : Nat) (acc : Array Nat), ((List.replicate m z.cps).foldl (· ++ ·) acc).toList = acc.toList ++ (List.replicate m z.cps.toList).flatten := by
      intro m
      induction m with
      | zero => intro acc; simp
      | succ m ih => intro acc; rw [List.replicate_succ, List.foldl_cons, ih, List.replicate_succ, List.flatten_cons]; simp
    have e : ((List.replicate a.toNat z.cps).foldl (· ++ ·) #[]).toList = (List.replicate a.toNat z.cps.toList).flatten := by rw [key]; simp
    refine ⟨fun c hc => ?_, ?_⟩
    · have hc : c ∈ ((List.replicate a.toNat z.cps).foldl (· ++ ·) #[]).toList := hc
      rw [e, List.mem_flatten] at hc
      obtain ⟨l, hl, hc⟩ := hc
      rw [List.mem_replicate] at hl
      rw [hl.2] at hc
      exact hz.lo c hc
    · rw [len_list]
      show ((List.replicate a.toNat z.cps).foldl (· ++ ·) #[]).toList.length ≤ _
      rw [e, List.length_flatten, List.map_replicate]
      have hl := hz.le
      rw [len_list] at hl
      have hs : ∀ m x : Nat, (List.replicate m x).sum = x * m := fun m x => by
        induction m with
        | zero => rfl
        | succ m ih => rw [List.replicate_succ, List.sum_cons, ih, Nat.mul_succ, Nat.add_comm]
      rw [hs]
      exact Nat.mul_le_mul_right _ hl
end
end Ck

set_option Elab.async false
set_option linter.all false
set_option maxRecDepth 100000
/-! Ck32: plain data, compared. -/
namespace Ck
open PySem
mutual
/-- no bool, no text of signs too high; whole numbers, texts, None, tuples and lists of such -/
def D.pl : D → Bool
  | .non | .int _ => true
  | .str z => z.cps.all fun c => decide (c < 0x110000)
  | .tup l => D.pls l
  | .lst l => D.pls l
  | _ => false
termination_by structural x => x
def D.pls : List D → Bool
  | [] => true
  | a :: as => D.pl a && D.pls as
termination_by structural x => x
end
mutual
def D.dep : D → Nat
  | .tup l => D.deps l + 1
  | .lst l => D.deps l + 1
  | _ => 0
termination_by structural x => x
def D.deps : List D → Nat
  | [] => 0
  | a :: as => max (D.dep a) (D.deps as)
termination_by structural x => x
end
mutual
theorem dep_py : ∀ d : D, d.pl = true → d.py.depth = d.dep
  | .non, _ => rfl
  | .int _, _ => rfl
  | .str _, _ => rfl
  | .tup l, h => by
    simp only [D.pl] at h
    simp only [D.py, PyData.depth, D.dep, deps_py l h]
  | .lst l, h => by
    simp only [D.pl] at h
    simp only [D.py, PyData.depth, D.dep, deps_py l h]
  | .bl _, h => by simp [D.pl] at h
  | .scr _, h => by simp [D.pl] at h
  | .dic _ _, h => by simp [D.pl] at h
  | .obj _ _ _, h => by simp [D.pl] at h
theorem deps_py : ∀ l : List D, D.pls l = true → PyData.depthAll (D.pys l) = D.deps l
  | [], _ => rfl
  | a :: as, h => by
    simp only [D.pls, Bool.and_eq_true] at h
    simp only [D.pys, PyData.depthAll, D.deps, dep_py a h.1, deps_py as h.2]
end
mutual
theorem eqb_pl : ∀ d : D, d.pl = true → d.eqb = true
  | .non, _ => rfl
  | .int _, _ => rfl
  | .str _, h => h
  | .tup l, h => by
    simp only [D.pl] at h
    simp only [D.eqb]
    exact eqbs_pl l h
  | .lst l, h => by
    simp only [D.pl] at h
    simp only [D.eqb]
    exact eqbs_pl l h
  | .bl _, h => by simp [D.pl] at h
  | .scr _, h => by simp [D.pl] at h
  | .dic _ _, h => by simp [D.pl] at h
  | .obj _ _ _, h => by simp [D.pl] at h
theorem eqbs_pl : ∀ l : List D, D.pls l = true → D.eqbs l = true
  | [], _ => rfl
  | a :: as, h => by
    simp only [D.pls, Bool.and_eq_true] at h
    simp only [D.eqbs, eqb_pl a h.1, eqbs_pl as h.2, Bool.and_self]
end
mutual
theorem eqv_pl : ∀ a b : D, a.pl = true → b.pl = true → PyData.eqv a.py b.py = D.beq a b
  | .non, b, _, h => by cases b <;> first | rfl | (simp [D.pl] at h)
  | .int x, b, _, h => by cases b <;> first | rfl | (simp [D.pl] at h; done)
  | .str x, b, _, h => by cases b <;> first | rfl | (simp [D.pl] at h; done)
  | .tup x, b, ha, h => by
    simp only [D.pl] at ha
    cases b <;> first | rfl | (simp [D.pl] at h; done) | skip
    simp only [D.pl] at h
    simp only [D.py, PyData.eqv, D.beq]
    exact eqvs_pl x _ ha h
  | .lst x, b, ha, h => by
    simp only [D.pl] at ha
    cases b <;> first | rfl | (simp [D.pl] at h; done) | skip
    simp only [D.pl] at h
    simp only [D.py, PyData.eqv, D.beq]
    exact eqvs_pl x _ ha h
  | .bl _, _, h, _ => by simp [D.pl] at h
  | .scr _, _, h, _ => by simp [D.pl] at h
  | .dic _ _, _, h, _ => by simp [D.pl] at h
  | .obj _ _ _, _, h, _ => by simp [D.pl] at h
theorem eqvs_pl : ∀ a b : List D, D.pls a = true → D.pls b = true → PyData.eqvAll (D.pys a) (D.pys b) = D.beqs a b
  | [], [], _, _ => rfl
  | [], _ :: _, _, _ => rfl
  | _ :: _, [], _, _ => rfl
  | x :: a, y :: b, ha, hb => by
    simp only [D.pls, Bool.and_eq_true] at ha hb
    simp only [D.pys, PyData.eqvAll, D.beqs, eqv_pl x y ha.1 hb.1, eqvs_pl a b ha.2 hb.2]
end
mutual
theorem beq_rfl : ∀ a : D, D.beq a a = true
  | .non => rfl
  | .bl _ => by simp [D.beq]
  | .int _ => by simp [D.beq]
  | .str _ => by simp [D.beq]
  | .tup l => by simp only [D.beq]; exact beqs_rfl l
  | .lst l => by simp only [D.beq]; exact beqs_rfl l
  | .scr l => by simp only [D.beq]; exact beqs_rfl l
  | .dic k l => by simp only [D.beq, beqs_rfl k, beqs_rfl l, Bool.and_self]
  | .obj _ _ l => by simp [D.beq, beqs_rfl l]
theorem beqs_rfl : ∀ a : List D, D.beqs a a = true
  | [] => rfl
  | x :: a => by simp only [D.beqs, beq_rfl x, beqs_rfl a, Bool.and_self]
end
theorem eqD_pl {a b : D} (ha : a.pl = true) (hb : b.pl = true) (da : a.dep ≤ 64) (db : b.dep ≤ 64) : eqD a b = some (D.beq a b) := by
  unfold eqD
  rw [eqb_pl a ha, eqb_pl b hb, dep_py a ha, dep_py b hb, decide_eq_true da, decide_eq_true db]
  show some _ = _
  rw [eqv_pl a b ha hb]
theorem Tx.pl {n : Nat} {z : Str} (h : Tx n z) : (D.str z).pl = true := h.eqb
theorem pls_map {α : Type} {f : α → D} {l : List α} (h : ∀ x ∈ l, (f x).pl = true) : D.pls (l.map f) = true := by
  induction l with
  | nil => rfl
  | cons x l ih => simp only [List.map_cons, D.pls, h x (List.mem_cons_self ..), ih fun y hy => h y (List.mem_cons_of_mem _ hy), Bool.and_self]
theorem deps_map0 {α : Type} {f : α → D} {l : List α} (h : ∀ x ∈ l, (f x).dep = 0) : D.deps (l.map f) = 0 := by
  induction l with
  | nil => rfl
  | cons x l ih => simp only [List.map_cons, D.deps, h x (List.mem_cons_self ..), ih fun y hy => h y (List.mem_cons_of_mem _ hy), Nat.max_self]
theorem as_bls : ∀ (ys : List Bool), asBls (ys.map .bl) = some ys
  | [] => rfl
  | y :: ys => by simp only [List.map_cons, asBls, as_bls ys, Option.map_some]
end Ck

set_option Elab.async false
set_option linter.all false
set_option maxRecDepth 100000
/-! Ck33: small things for reckoning. -/
namespace Ck
open PySem
theorem and_dec' {p : Prop} [Decidable p] {A B : Prop} (h1 : ¬ p → A) (h2 : p → B) : (decide p = false → A) ∧ (decide p = true → B) := ⟨fun h => h1 (of_decide_eq_false h), fun h => h2 (of_decide_eq_true h)⟩
theorem and_ndec {p : Prop} [Decidable p] {A B : Prop} (h1 : ¬ p → A) (h2 : p → B) : ((!decide p) = true → A) ∧ ((!decide p) = false → B) := by
  refine ⟨fun h => h1 ?_, fun h => h2 ?_⟩
  · simpa using h
  · simpa using h
theorem and_nt {A B : Prop} (h : B) : ((!true) = true → A) ∧ ((!true) = false → B) := ⟨(fun h => nomatch h), fun _ => h⟩
theorem and_nf {A B : Prop} (h : A) : ((!false) = true → A) ∧ ((!false) = false → B) := ⟨fun _ => h, (fun h => nomatch h)⟩
theorem getD_z {α : Type} (x : α) (l : List α) (d : α) : (x :: l).getD 0 d = x := rfl
theorem getD_s {α : Type} (x : α) (l : List α) (k : Nat) (d : α) : (x :: l).getD (k + 1) d = l.getD k d := rfl
theorem set_z {α : Type} (x y : α) (l : List α) : (x :: l).set 0 y = y :: l := rfl
theorem set_s {α : Type} (x y : α) (l : List α) (k : Nat) : (x :: l).set (k + 1) y = x :: l.set k y := rfl
theorem map_c {α β : Type} (f : α → β) (x : α) (l : List α) : (x :: l).map f = f x :: l.map f := rfl
theorem map_n {α β : Type} (f : α → β) : ([] : List α).map f = [] := rfl
theorem app_c {α : Type} (x : α) (l m : List α) : (x :: l) ++ m = x :: (l ++ m) := rfl
theorem app_n {α : Type} (l : List α) : [] ++ l = l := rfl
theorem len_c {α : Type} (x : α) (l : List α) : (x :: l).length = l.length + 1 := rfl
theorem len_n {α : Type} : ([] : List α).length = 0 := rfl
theorem rep_s {α : Type} (x : α) (n : Nat) : List.replicate (n + 1) x = x :: List.replicate n x := rfl
theorem rep_z {α : Type} (x : α) : List.replicate 0 x = [] := rfl
theorem live_str {z : Str} {n : Nat} (hz : z.length ≤ sizeLine) : liveOf ⟨.fr, n, .str z⟩ = some (.fix (z.cps.toList.map fun c => .str ⟨#[c]⟩)) := by
  show (if z.length ≤ sizeLine then _ else none) = _
  rw [if_pos hz]
theorem take_snoc {α : Type} {l : List α} {i : Nat} {x : α} (h : l[i]? = some x) : l.take (i + 1) = l.take i ++ [x] := by
  rw [List.take_add_one, h]; rfl
theorem dep_flat {α : Type} {f : α → D} (hf : ∀ x, (f x).isC = false) : ∀ l : List α, depOf (l.map fun x => ((0, f x) : SV)) = 1000
  | [] => rfl
  | x :: l => by
    have ih := dep_flat hf l
    unfold depOf at ih ⊢
    rw [List.map_cons, List.foldr_cons, ih]
    simp only [hf x, Bool.false_eq_true, if_false]
    rfl
theorem dep_mem {l : List SV} (h : ∀ x ∈ l, x.2.isC = false) : depOf l = 1000 := by
  induction l with
  | nil => rfl
  | cons x l ih =>
    have ih := ih fun y hy => h y (List.mem_cons_of_mem _ hy)
    unfold depOf at ih ⊢
    rw [List.foldr_cons, ih]
    simp only [h x (List.mem_cons_self ..), Bool.false_eq_true, if_false]
    rfl
theorem now_slot {env : Ck.Env} {i n : Nat} {l : List D} (g : getS env i = some (n, .lst l)) (hn : 1 ≤ n) (h : ∀ d ∈ l, d.isC = false) : (Live.slot i).now env = some l := by
  simp only [Live.now, g]
  rw [if_pos ⟨hn, .inr (by simpa [List.all_eq_true] using h)⟩]
theorem now_slot1 {env : Ck.Env} {i : Nat} {l : List D} (g : getS env i = some (1, .lst l)) : (Live.slot i).now env = some l := by
  simp only [Live.now, g]
  rw [if_pos ⟨Nat.le_refl _, .inl (Nat.le_refl _)⟩]
/-- a list's text, by place -/
theorem strs_at {ys : List Str} {a : Int} (h0 : 0 ≤ a) (h1 : a < ys.length) : ∃ z, at' (ys.map D.str) a = some (.str z) ∧ z ∈ ys := by
  obtain ⟨x, e1, e2⟩ := at_mem (l := ys.map D.str) h0 (by rw [List.length_map]; exact h1)
  obtain ⟨z, hz, rfl⟩ := List.mem_map.mp (List.mem_of_getElem? e2)
  exact ⟨z, e1, hz⟩
theorem ints_at {ys : List Int} {a : Int} (h0 : 0 ≤ a) (h1 : a < ys.length) : ∃ z, at' (ys.map D.int) a = some (.int z) ∧ z ∈ ys := by
  obtain ⟨x, e1, e2⟩ := at_mem (l := ys.map D.int) h0 (by rw [List.length_map]; exact h1)
  obtain ⟨z, hz, rfl⟩ := List.mem_map.mp (List.mem_of_getElem? e2)
  exact ⟨z, e1, hz⟩
theorem at_map {α : Type} {f : α → D} {l : List α} {a : Int} {x : α} (h0 : 0 ≤ a) (e : l[a.toNat]? = some x) : at' (l.map f) a = some (f x) := by
  have hl : a.toNat < l.length := by
    rcases Nat.lt_or_ge a.toNat l.length with h | h
    · exact h
    · rw [List.getElem?_eq_none h] at e; cases e
  unfold at' L2.atI L2.ixN
  rw [if_pos h0, List.length_map, if_pos (by omega)]
  show (l.map f)[a.toNat]? = _
  rw [List.getElem?_map, e]
  rfl
theorem ix_mem {α : Type} {l : List α} {a : Int} (h0 : 0 ≤ a) (h1 : a < l.length) : ∃ x, l[a.toNat]? = some x ∧ x ∈ l := by
  have hk : a.toNat < l.length := by omega
  exact ⟨l[a.toNat], List.getElem?_eq_getElem hk, List.getElem_mem hk⟩
theorem mut_app {l : List D} {d : D} {P : SV → SV → Prop} (hl : l.length < sizeLine) (hd : d.isC = false) (h : P (1000, .lst (l ++ [d])) (0, .non)) : ∃ sv r, mutF .append 1000 (.lst l) [(0, d)] = some (sv, r) ∧ P sv r := by
  refine ⟨(1000, .lst (l ++ [d])), (0, .non), ?_, h⟩
  unfold mutF
  rw [if_neg (by decide)]
  simp only [if_pos hl]
  have e : depOf [((0, d) : SV)] = 1000 := by simp [depOf, hd, BIG]
  rw [e]
  rfl
/-- append, whatever the depth -/
theorem mut_appN {n m : Nat} {l : List D} {d : D} {P : SV → SV → Prop} (hl : l.length < sizeLine) (h : P (min (n + 1) (depOf [((m, d) : SV)]), .lst (l ++ [d])) (0, .non)) : ∃ sv r, mutF .append (n + 1) (.lst l) [(m, d)] = some (sv, r) ∧ P sv r := by
  refine ⟨_, _, ?_, h⟩
  unfold mutF
  rw [if_neg (Nat.succ_ne_zero n)]
  simp only [if_pos hl]
/-- one of a list's texts -/
theorem str_mem {l : List D} {a : Int} (h0 : 0 ≤ a) (h1 : a < l.length) (hl : ∀ y ∈ l, ∃ z, y = D.str z ∧ Tx 100 z) : ∃ z, at' l a = some (.str z) ∧ Tx 100 z := by
  obtain ⟨x, e1, e2⟩ := at_mem h0 h1
  obtain ⟨z, rfl, hz⟩ := hl x (List.mem_of_getElem? e2)
  exact ⟨z, e1, hz⟩
theorem lit {z : Str} (h : (z.cps.toList.all (· < 1000) && decide (z.length ≤ 100)) = true) : Tx 100 z := by
  rw [Bool.and_eq_true, List.all_eq_true, decide_eq_true_eq] at h
  exact ⟨fun c hc => by simpa using h.1 c hc, h.2⟩
theorem op_addX {q : Ck.R → Prop} {n n' k1 k2 : Nat} {z y : Str} (ha : Tx k1 z) (hb : Tx k2 y) (hk : k1 + k2 ≤ 16777216) (h : Tx (k1 + k2) (z ++ y) → q ⟨.fr, 0, .str (z ++ y)⟩) : OP .add [⟨.fr, n, .str z⟩, ⟨.fr, n', .str y⟩] q :=
  op_addZ (by have h1 := ha.le; have h2 := hb.le; rw [sizeLine_eq]; omega) (h (ha.add hb))
theorem log_small {m : Int} (h0 : 0 < m) (h : m ≤ 2000000000) : m.natAbs.log2 < 9000 := by
  have : m.natAbs.log2 < 31 := (Nat.log2_lt (by omega)).mpr (by omega)
  omega
theorem wi_zip {c : Cal} {env : Env} {a b : E} {I : Wk → Env → Prop} (h : WL c [a, b] env fun rs env1 => ∃ x y l m, rs = [x, y] ∧ ((x.d.isL && y.d.isL) || (x.d.isT && y.d.isT)) = true ∧ liveOf x = some l ∧ liveOf y = some m ∧ I (.zip l m) env1) : WI c (.zip a b) env I := by
  obtain ⟨rs, e1, h1, x, y, l, m, rfl, h2, h3, h4, h5⟩ := h
  exact ⟨_, _, by simp only [evIt]; rw [two_eq]; simp only [h1, Res.bind_ok, h2, Bool.not_true, Bool.false_eq_true, if_false, h3, h4, Res.ofO_some, Res.pure_ok], h5⟩
section
variable {c : Cal} {env : Env} {q : R → Prop} {s s' : Src} {n n' i : Nat} {d : D} {a b : Int}
theorem op_listOfS {l : List D} (hl : l.all (fun d => !d.isC) = true) (h : q ⟨.fr, 1, .lst l⟩) : OP .listOf [⟨s, n, .lst l⟩] q := by
  refine op_genM (d := .lst l) ?_ rfl rfl h
  simp only [List.all_cons, List.all_nil, R.shal, D.shalD, hl, Bool.or_true, Bool.and_self]
theorem op_listOfF {l : List D} (h : q ⟨.fr, 1, .lst l⟩) : OP .listOf [⟨.fr, n, .lst l⟩] q := op_genM (d := .lst l) rfl rfl rfl h
theorem op_listOfT {l : List D} (h : q ⟨.fr, 1, .lst l⟩) : OP .listOf [⟨.fr, n, .tup l⟩] q := op_genM (d := .lst l) rfl rfl rfl h
theorem op_tupleOfF {l : List D} (h : q ⟨.fr, 0, .tup l⟩) : OP .tupleOf [⟨.fr, n, .lst l⟩] q := op_genP (d := .tup l) rfl rfl rfl h
theorem op_tupleOfS {l : List D} (hl : l.all (fun d => !d.isC) = true) (h : q ⟨.fr, 0, .tup l⟩) : OP .tupleOf [⟨s, n, .lst l⟩] q := by
  refine op_genP (d := .tup l) ?_ rfl rfl h
  simp only [List.all_cons, List.all_nil, R.shal, D.shalD, hl, Bool.or_true, Bool.and_self]
theorem op_isInt {l : Int} (h : q ⟨.fr, 0, .bl true⟩) : OP .isiInt [⟨s, n, .int l⟩] q := op_gen rfl rfl rfl h
theorem op_isBool {l : Int} (h : q ⟨.fr, 0, .bl false⟩) : OP .isiBool [⟨s, n, .int l⟩] q := op_gen rfl rfl rfl h
theorem op_isTup {l : List D} (h : q ⟨.fr, 0, .bl true⟩) : OP .isiTup [⟨s, n, .tup l⟩] q := op_gen rfl rfl rfl h
theorem op_isLst {l : List D} (h : q ⟨.fr, 0, .bl true⟩) : OP .isiLst [⟨s, n, .lst l⟩] q := op_gen rfl rfl rfl h
theorem op_isStr {l : Str} (h : q ⟨.fr, 0, .bl true⟩) : OP .isiStr [⟨s, n, .str l⟩] q := op_gen rfl rfl rfl h
theorem op_ixO' {l : List D} {d : D} (e : at' l a = some d) (hc : d.isC = false) (h : q ⟨.fr, 0, d⟩) : OP .ix [⟨.sl i, n, .lst l⟩, ⟨.fr, n', .int a⟩] q := op_ixO e hc h
end
end Ck

set_option Elab.async false
set_option linter.all false
set_option maxRecDepth 100000
/-! Ck34: rules as trees: their parts, their reads. -/
namespace Ck
open PySem
local macro_rules
  | `(tactic| get_elem_tactic_trivial) => `(tactic| first
    | (with_reducible first
        | refine wb_cons ?_
        | refine wb_nil ?_
        | refine ws_set ?_
        | refine ws_ret ?_
        | refine ws_exp ?_
        | refine ws_setT ?_
        | refine ws_setIx ?_
        | refine ws_setSl ?_
        | refine ws_ite ?_
        | (apply ws_aug; with_unfolding_all rfl)
        | refine w_cst ?_
        | refine w_glo ?_
        | (apply w_varS; with_unfolding_all rfl)
        | refine sl_zero ?_
        | (apply sl_flat; with_unfolding_all rfl)
        | (apply sl_own; with_unfolding_all rfl; with_unfolding_all rfl)
        | refine w_op ?_
        | refine w_tupd ?_
        | refine w_lstd ?_
        | refine w_call ?_
        | (apply w_mut; with_unfolding_all rfl; with_unfolding_all rfl)
        | refine w_slc ?_
        | refine w_met ?_
        | refine wl_cons ?_
        | refine wl_nil ?_
        | refine wt_cmp ?_
        | refine wt_conj ?_
        | refine wt_disj ?_
        | refine wt_not ?_
        | refine wt_isn ?_
        | refine rr_fr ?_
        | (apply rr_sl; with_unfolding_all rfl)
        | refine op_lenS ?_
        | refine op_lenL ?_
        | refine op_lenT ?_
        | refine op_add ?_
        | refine op_sub ?_
        | refine op_lt ?_
        | refine op_le ?_
        | refine op_gt ?_
        | refine op_ge ?_
        | refine op_eq eqv_int ?_
        | refine op_ne eqv_int ?_
        | refine op_min2 ?_
        | refine op_max2 ?_
        | refine op_neg ?_
        | refine op_not ?_
        | refine op_int1b ?_
        | refine op_isInt ?_
        | refine op_isTup ?_
        | refine op_isLst ?_
        | refine op_isStr ?_
        | refine op_isBool ?_
        | (apply op_mod; (first | assumption | decide))
        | (apply op_fdiv; (first | assumption | decide); (first | assumption | decide))
        | (refine op_mul (.inl ?_) ?_; decide)
        | (refine op_mul (.inr ?_) ?_; decide)
        | (apply op_pow; decide; decide; decide)
        | refine op_ixL0 ?_
        | refine op_ixT0 ?_
        | (apply op_ixO0; with_unfolding_all rfl)
        | refine op_ixL1 ?_
        | refine op_ixT1 ?_
        | (apply op_ixO1; with_unfolding_all rfl)
        | refine op_ixL2 ?_
        | refine op_ixT2 ?_
        | (apply op_ixO2; with_unfolding_all rfl)
        | refine op_ixL3 ?_
        | refine op_ixT3 ?_
        | (apply op_ixO3; with_unfolding_all rfl)
        | (apply and_eq; with_unfolding_all rfl)
        | (apply ex_pair; with_unfolding_all rfl)
        | (apply ex_some; with_unfolding_all rfl)
        | (apply ex_bl; with_unfolding_all rfl)
        | (apply ex_int; with_unfolding_all rfl)
        | (apply ex_ix; with_unfolding_all rfl; with_unfolding_all rfl; with_unfolding_all rfl)
        | (apply ex_two; with_unfolding_all rfl)
        | refine and_t ?_
        | refine and_f ?_
        | refine and_nt ?_
        | refine and_nf ?_)
    | dsimp only [backIn, hideL, lent, lentK, getD_z, getD_s, set_z, set_s, map_c, map_n, app_c, app_n, rep_s, rep_z])
local macro_rules
  | `(tactic| exists $d, $s, $h0, $h1) => `(tactic| (refine take_ok (by assumption) (by decide) (by decide) fun $d $s $h0 $h1 => ?_; repeat get_elem_tactic_trivial))
inductive Lf where
  | num (v : Int) | at_ (nm : Str) (ns : List Int)
def Lf.toD : Lf → D
  | .num v => .tup [.str "num", .int v]
  | .at_ nm ns => .tup [.str "at", .str nm, .tup (ns.map .int)]
theorem Lf.flat (l : Lf) : l.toD.isC = false := by cases l <;> rfl
inductive Tr where
  | lf (l : Lf) | op (sg : Str) (a b : Tr) | ift (a b c : Tr)
def Tr.toD : Tr → D
  | .lf l => l.toD
  | .op sg a b => .tup [.str "op", .str sg, a.toD, b.toD]
  | .ift a b c => .tup [.str "if", a.toD, b.toD, c.toD]
def Tr.lfs : Tr → List Lf
  | .lf l => [l]
  | .op _ a b => a.lfs ++ b.lfs
  | .ift a b c => a.lfs ++ (b.lfs ++ c.lfs)
def sgn7 : List Str := ["+", "-", "*", "min", "max", "rest", "less"]
/-- its signs are signs -/
def Tr.sg : Tr → Prop
  | .lf _ => True
  | .op s a b => s ∈ sgn7 ∧ a.sg ∧ b.sg
  | .ift a b c => a.sg ∧ b.sg ∧ c.sg
def Tr.kids : Tr → List Tr
  | .lf _ => []
  | .op _ a b => [a, b]
  | .ift a b c => [a, b, c]
def Tr.size : Tr → Nat
  | .lf _ => 1
  | .op _ a b => a.size + b.size + 1
  | .ift a b c => a.size + b.size + c.size + 1
/-- the parts, in preorder -/
def Tr.pre : Tr → List Tr
  | .lf l => [.lf l]
  | .op sg a b => .op sg a b :: (a.pre ++ b.pre)
  | .ift a b c => .ift a b c :: (a.pre ++ (b.pre ++ c.pre))
theorem Tr.flat (t : Tr) : t.toD.isC = false := by cases t with
  | lf l => cases l <;> rfl
  | _ => rfl
def deepB : List S :=
  [.ite (.cmp .eq (.op .ix [.var 0, .cst (.int 0)]) (.cst (.str "op"))) [.ret (.lstd [.op .ix [.var 0, .cst (.int 2)], .op .ix [.var 0, .cst (.int 3)]])] [],
  .ite (.cmp .eq (.op .ix [.var 0, .cst (.int 0)]) (.cst (.str "if"))) [.ret (.lstd [.op .ix [.var 0, .cst (.int 1)], .op .ix [.var 0, .cst (.int 2)], .op .ix [.var 0, .cst (.int 3)]])] [],
  .ret (.lstd [])]
theorem deep_ok {G : Gt} {n f : Nat} (hg : G[f]? = some ⟨1, 1, deepB⟩) {t : Tr} {Q : SV → List SV → Prop} (h : Q (1000, .lst (t.kids.map Tr.toD)) [(0, t.toD)]) : CPS (evC G (n + 1)) f [(0, t.toD)] [] Q := by
  refine w_body hg rfl ?_
  unfold deepB
  cases t with
  | lf l =>
    cases l with
    | num v =>
      show WB _ _ _ [some (0, .tup [.str "num", .int v])] _
      repeat get_elem_tactic_trivial
      refine op_eq (k := false) (by decide +kernel) ?_
      repeat get_elem_tactic_trivial
      refine op_eq (k := false) (by decide +kernel) ?_
      repeat get_elem_tactic_trivial
      exact h
    | at_ nm ns =>
      show WB _ _ _ [some (0, .tup [.str "at", .str nm, .tup (ns.map .int)])] _
      repeat get_elem_tactic_trivial
      refine op_eq (k := false) (by decide +kernel) ?_
      repeat get_elem_tactic_trivial
      refine op_eq (k := false) (by decide +kernel) ?_
      repeat get_elem_tactic_trivial
      exact h
  | op sg a b =>
    show WB _ _ _ [some (0, .tup [.str "op", .str sg, a.toD, b.toD])] _
    repeat get_elem_tactic_trivial
    refine op_eq (k := true) (by decide +kernel) ?_
    repeat get_elem_tactic_trivial
    have e : depOf [((0, a.toD) : SV), (0, b.toD)] = 1000 := dep_flat (f := Tr.toD) Tr.flat [a, b]
    show Q (depOf [((0, a.toD) : SV), (0, b.toD)], _) _
    rw [e]
    exact h
  | ift a b c =>
    show WB _ _ _ [some (0, .tup [.str "if", a.toD, b.toD, c.toD])] _
    repeat get_elem_tactic_trivial
    refine op_eq (k := false) (by decide +kernel) ?_
    repeat get_elem_tactic_trivial
    refine op_eq (k := true) (by decide +kernel) ?_
    repeat get_elem_tactic_trivial
    have e : depOf [((0, a.toD) : SV), (0, b.toD), (0, c.toD)] = 1000 := dep_flat (f := Tr.toD) Tr.flat [a, b, c]
    show Q (depOf [((0, a.toD) : SV), (0, b.toD), (0, c.toD)], _) _
    rw [e]
    exact h
def szs (l : List Tr) : Nat := (l.map Tr.size).sum
theorem size_pos (t : Tr) : 1 ≤ t.size := by cases t <;> simp [Tr.size]
theorem szs_len : ∀ l : List Tr, l.length ≤ szs l
  | [] => Nat.le_refl _
  | t :: l => by
    have h1 := size_pos t
    have h2 := szs_len l
    simp only [szs, List.map_cons, List.sum_cons, List.length_cons] at h2 ⊢
    omega
theorem szs_kids (t : Tr) : szs t.kids + 1 = t.size := by cases t <;> simp [szs, Tr.kids, Tr.size] <;> omega
theorem pre_eq (t : Tr) : t.pre = t :: t.kids.flatMap Tr.pre := by cases t <;> simp [Tr.pre, Tr.kids]
def partsB (dp : Nat) : List S :=
  [.set 1 (.lstd []),
  .set 2 (.lstd [.var 0]),
  .whl (.cmp .gt (.op .len [.var 2]) (.cst (.int 0))) [.set 3 (.mut 2 .pop []),
  .exp (.mut 1 .append [.var 3]),
  .exp (.mut 2 .extend [.op .revl [.call dp [.var 3]]])],
  .ret (.var 1)]
theorem parts_ok {G : Gt} {n f dp : Nat} (hg : G[f]? = some ⟨1, 4, partsB dp⟩) (hd : G[dp]? = some ⟨1, 1, deepB⟩) {t : Tr} (ht : t.size ≤ 1000) {Q : SV → List SV → Prop} (h : Q (1000, .lst (t.pre.map Tr.toD)) [(0, t.toD)]) : CPS (evC G (n + 2)) f [(0, t.toD)] [] Q := by
  refine w_body hg rfl ?_
  unfold partsB
  show WB _ _ _ [some (0, t.toD), none, none, none] _
  repeat get_elem_tactic_trivial
  have e0 : depOf [((0, t.toD) : SV)] = 999 + 1 := dep_flat (f := Tr.toD) Tr.flat [t]
  refine ws_whl (fun m env => ∃ (dn st : List Tr) (k : Nat) (o : Option SV), env = [some (0, t.toD), some (1000, .lst (dn.map Tr.toD)), some (k + 1, .lst ((st.map Tr.toD).reverse)), o] ∧ m = szs st ∧ dn ++ st.flatMap Tr.pre = t.pre ∧ dn.length + szs st ≤ 1000) t.size ?_ ⟨[], [t], 999, none, ?_, ?_, ?_, ?_⟩ ?_
  · have : (1000 : Nat) < MANY := by decide +kernel
    omega
  · rw [e0]; rfl
  · simp [szs]
  · simp
  · simp [szs]; exact ht
  · rintro m env ⟨dn, st, k, o, rfl, rfl, hp, hs⟩
    repeat get_elem_tactic_trivial
    refine ⟨fun hq => ?_, fun hq => ?_⟩
    · have : st = [] := by
        cases st with
        | nil => rfl
        | cons x st => simp at hq
      subst this
      repeat get_elem_tactic_trivial
      rw [List.flatMap_nil, List.append_nil] at hp
      rw [← hp] at h
      exact h
    · cases st with
      | nil => simp at hq
      | cons x st =>
        have e1 : ((x :: st).map Tr.toD).reverse = (st.map Tr.toD).reverse ++ [x.toD] := by simp
        rw [e1]
        have pop : mutF .pop (k + 1) (.lst ((st.map Tr.toD).reverse ++ [x.toD])) [] = some ((k + 1, .lst ((st.map Tr.toD).reverse)), (0, x.toD)) := by
          unfold mutF
          rw [if_neg (Nat.succ_ne_zero k)]
          simp only [List.getLast?_append, List.getLast?_singleton, Option.some_or, List.dropLast_concat, x.flat, Bool.false_eq_true, if_false]
        repeat get_elem_tactic_trivial
        refine ⟨_, _, pop, ?_⟩
        have hk := szs_kids x
        have hl := szs_len (x :: st)
        have hkl := szs_len x.kids
        have hsx : szs (x :: st) = x.size + szs st := by simp [szs]
        have hsk : szs (x.kids ++ st) = szs x.kids + szs st := by simp [szs]
        rw [List.length_cons] at hl
        repeat get_elem_tactic_trivial
        refine mut_app (by rw [List.length_map, sizeLine_eq]; omega) x.flat ?_
        repeat get_elem_tactic_trivial
        refine deep_ok hd ?_
        repeat get_elem_tactic_trivial
        refine op_genM (d := .lst (x.kids.map Tr.toD).reverse) rfl rfl rfl ?_
        repeat get_elem_tactic_trivial
        have ext : mutF .extend (k + 1) (.lst ((st.map Tr.toD).reverse)) [((own1 (.lst (x.kids.map Tr.toD).reverse)).1, .lst (x.kids.map Tr.toD).reverse)] = some ((1, .lst ((st.map Tr.toD).reverse ++ (x.kids.map Tr.toD).reverse)), (0, .non)) := by
          unfold mutF
          rw [if_neg (Nat.succ_ne_zero k)]
          simp only
          rw [if_pos]
          refine ⟨?_, .inl (Nat.le_refl _)⟩
          rw [List.length_reverse, List.length_reverse, List.length_map, List.length_map, sizeLine_eq]
          omega
        refine ⟨_, _, ext, ?_⟩
        repeat get_elem_tactic_trivial
        refine ⟨szs (x.kids ++ st), by omega, dn ++ [x], x.kids ++ st, 0, some (0, x.toD), ?_, rfl, ?_, by rw [List.length_append, List.length_singleton]; omega⟩
        · simp only [List.map_append, List.reverse_append, List.map_cons, List.map_nil]
        · rw [← hp, List.flatMap_cons, pre_eq x, List.flatMap_append]
          simp
def Lf.row : Lf → Option D
  | .num _ => none
  | .at_ nm ns => some (.tup [.str nm, .tup (ns.map .int)])
def Tr.row : Tr → Option D
  | .lf l => l.row
  | _ => none
theorem rows_eq (t : Tr) : t.pre.filterMap Tr.row = t.lfs.filterMap Lf.row := by
  induction t with
  | lf l => simp [Tr.pre, Tr.lfs, Tr.row, List.filterMap_cons]
  | op sg a b iha ihb => simp [Tr.pre, Tr.lfs, List.filterMap_cons, Tr.row, List.filterMap_append, iha, ihb]
  | ift a b c iha ihb ihc => simp [Tr.pre, Tr.lfs, List.filterMap_cons, Tr.row, List.filterMap_append, iha, ihb, ihc]
theorem pre_len : ∀ t : Tr, t.pre.length = t.size := by
  intro t
  induction t with
  | lf l => rfl
  | op sg a b iha ihb => simp [Tr.pre, Tr.size, iha, ihb]
  | ift a b c iha ihb ihc => simp [Tr.pre, Tr.size, iha, ihb, ihc]; omega
def readsB (p : Nat) : List S :=
  [.ret (.op .tupleOf [.comp (.tupd [.op .ix [.var 1, .cst (.int 1)], .op .ix [.var 1, .cst (.int 2)]]) (.nm 1) (.seq (.call p [.var 0])) (.cmp .eq (.op .ix [.var 1, .cst (.int 0)]) (.cst (.str "at"))) [1]])]
theorem reads_ok {G : Gt} {n f p dp : Nat} (hg : G[f]? = some ⟨1, 2, readsB p⟩) (hp : G[p]? = some ⟨1, 4, partsB dp⟩) (hd : G[dp]? = some ⟨1, 1, deepB⟩) {t : Tr} (ht : t.size ≤ 1000) {Q : SV → List SV → Prop} (h : Q (0, .tup (t.lfs.filterMap Lf.row)) [(0, t.toD)]) : CPS (evC G (n + 3)) f [(0, t.toD)] [] Q := by
  refine w_body hg rfl ?_
  unfold readsB
  show WB _ _ _ [some (0, t.toD), none] _
  repeat get_elem_tactic_trivial
  refine w_comp ?_
  refine wi_seq ?_
  have pl := pre_len t
  have fl := t.flat
  generalize hD : t.toD = D0 at fl h ⊢
  repeat get_elem_tactic_trivial
  rw [← hD]
  refine parts_ok hp hd ht ?_
  repeat get_elem_tactic_trivial
  have fm : ∀ {i : Nat} {x : Tr}, t.pre[i]? = some x → (t.pre.take (i + 1)).filterMap Tr.row = (t.pre.take i).filterMap Tr.row ++ (match x.row with | some d => [d] | none => []) := fun {i x} hx => by
    rw [take_snoc hx, List.filterMap_append]
    cases q : x.row <;> simp [List.filterMap_cons, q]
  have fl2 : ∀ i, ((t.pre.take i).filterMap Tr.row).length ≤ 1000 := fun i => by
    refine Nat.le_trans (List.length_filterMap_le ..) ?_
    rw [List.length_take]
    omega
  have sz : ∀ env, (Wk.seq (Live.fix (t.pre.map Tr.toD))).size env = some (t.pre.map Tr.toD).length := fun env => rfl
  refine ⟨fun i env acc => env = [some (0, t.toD), none] ∧ acc = ((t.pre.take i).filterMap Tr.row).map (fun d => ((0, d) : SV)), ⟨rfl, rfl⟩, ?_, ?_⟩
  · rintro i env acc hi ⟨rfl, rfl⟩
    rw [List.length_map] at hi
    have hx : t.pre[i]? = some t.pre[i] := List.getElem?_eq_getElem hi
    have hf := fm hx
    have hf2 := fl2 i
    generalize t.pre[i] = x at hx hf
    refine ⟨x.toD, [some (0, t.toD), some (0, x.toD)], ?_, rfl, wt_cmp ?_⟩
    · show (t.pre.map Tr.toD)[i]? = _
      rw [List.getElem?_map, hx]
      rfl
    have skip : x.row = none → (Wk.seq (Live.fix (t.pre.map Tr.toD))).size [some (0, t.toD), none] = some (t.pre.map Tr.toD).length ∧ ([some (0, t.toD), none] : Ck.Env) = [some (0, t.toD), none] ∧ ((t.pre.take i).filterMap Tr.row).map (fun d => ((0, d) : SV)) = ((t.pre.take (i + 1)).filterMap Tr.row).map (fun d => ((0, d) : SV)) := fun hr => by
      refine ⟨rfl, rfl, ?_⟩
      rw [hf, hr, List.append_nil]
    cases x with
    | lf l =>
      cases l with
      | num v =>
        show WL _ _ [some (0, t.toD), some (0, .tup [.str "num", .int v])] _
        repeat get_elem_tactic_trivial
        refine op_eq (k := false) (by decide +kernel) ?_
        refine ex_bl rfl ?_
        exact ⟨fun _ => skip rfl, fun h => nomatch h⟩
      | at_ nm ns =>
        show WL _ _ [some (0, t.toD), some (0, .tup [.str "at", .str nm, .tup (ns.map .int)])] _
        repeat get_elem_tactic_trivial
        refine op_eq (k := true) (by decide +kernel) ?_
        refine ex_bl rfl ?_
        refine ⟨(fun h => nomatch h), fun _ => ?_⟩
        repeat get_elem_tactic_trivial
        refine And.intro ?_ (And.intro rfl ⟨rfl, ?_⟩)
        · rw [List.length_map, sizeLine_eq]
          omega
        · rw [hf, List.map_append]
          rfl
    | op sg a b =>
      show WL _ _ [some (0, t.toD), some (0, .tup [.str "op", .str sg, a.toD, b.toD])] _
      repeat get_elem_tactic_trivial
      refine op_eq (k := false) (by decide +kernel) ?_
      refine ex_bl rfl ?_
      exact ⟨fun _ => skip rfl, fun h => nomatch h⟩
    | ift a b c =>
      show WL _ _ [some (0, t.toD), some (0, .tup [.str "if", a.toD, b.toD, c.toD])] _
      repeat get_elem_tactic_trivial
      refine op_eq (k := false) (by decide +kernel) ?_
      refine ex_bl rfl ?_
      exact ⟨fun _ => skip rfl, fun h => nomatch h⟩
  · rintro env acc ⟨rfl, rfl⟩
    rw [List.length_map, List.take_length]
    repeat get_elem_tactic_trivial
    refine op_genP (d := .tup (t.pre.filterMap Tr.row)) rfl rfl ?_ ?_
    · show some (D.tup _) = _
      rw [List.map_map]
      congr 2
      exact List.map_id _
    repeat get_elem_tactic_trivial
    rw [rows_eq]
    rw [hD]
    exact h
end Ck

set_option Elab.async false
set_option linter.all false
set_option maxRecDepth 100000
/-! Ck35: rules grown of leaves. -/
namespace Ck
open PySem
local macro_rules
  | `(tactic| get_elem_tactic_trivial) => `(tactic| first
    | (with_reducible first
        | refine wb_cons ?_
        | refine wb_nil ?_
        | refine ws_set ?_
        | refine ws_ret ?_
        | refine ws_exp ?_
        | refine ws_setT ?_
        | refine ws_setIx ?_
        | refine ws_setSl ?_
        | refine ws_ite ?_
        | (apply ws_aug; with_unfolding_all rfl)
        | refine w_cst ?_
        | refine w_glo ?_
        | (apply w_varS; with_unfolding_all rfl)
        | refine sl_zero ?_
        | (apply sl_flat; with_unfolding_all rfl)
        | (apply sl_own; with_unfolding_all rfl; with_unfolding_all rfl)
        | refine w_op ?_
        | refine w_tupd ?_
        | refine w_lstd ?_
        | refine w_call ?_
        | (apply w_mut; with_unfolding_all rfl; with_unfolding_all rfl)
        | refine w_slc ?_
        | refine w_met ?_
        | refine wl_cons ?_
        | refine wl_nil ?_
        | refine wt_cmp ?_
        | refine wt_conj ?_
        | refine wt_disj ?_
        | refine wt_not ?_
        | refine wt_isn ?_
        | refine rr_fr ?_
        | (apply rr_sl; with_unfolding_all rfl)
        | refine op_lenS ?_
        | refine op_lenL ?_
        | refine op_lenT ?_
        | refine op_add ?_
        | refine op_sub ?_
        | refine op_lt ?_
        | refine op_le ?_
        | refine op_gt ?_
        | refine op_ge ?_
        | refine op_eq eqv_int ?_
        | refine op_ne eqv_int ?_
        | refine op_min2 ?_
        | refine op_max2 ?_
        | refine op_neg ?_
        | refine op_not ?_
        | refine op_int1b ?_
        | refine op_isInt ?_
        | refine op_isTup ?_
        | refine op_isLst ?_
        | refine op_isStr ?_
        | refine op_isBool ?_
        | (apply op_mod; (first | assumption | decide))
        | (apply op_fdiv; (first | assumption | decide); (first | assumption | decide))
        | (refine op_mul (.inl ?_) ?_; decide)
        | (refine op_mul (.inr ?_) ?_; decide)
        | (apply op_pow; decide; decide; decide)
        | refine op_ixL0 ?_
        | refine op_ixT0 ?_
        | (apply op_ixO0; with_unfolding_all rfl)
        | refine op_ixL1 ?_
        | refine op_ixT1 ?_
        | (apply op_ixO1; with_unfolding_all rfl)
        | refine op_ixL2 ?_
        | refine op_ixT2 ?_
        | (apply op_ixO2; with_unfolding_all rfl)
        | refine op_ixL3 ?_
        | refine op_ixT3 ?_
        | (apply op_ixO3; with_unfolding_all rfl)
        | (apply and_eq; with_unfolding_all rfl)
        | (apply ex_pair; with_unfolding_all rfl)
        | (apply ex_some; with_unfolding_all rfl)
        | (apply ex_bl; with_unfolding_all rfl)
        | (apply ex_int; with_unfolding_all rfl)
        | (apply ex_ix; with_unfolding_all rfl; with_unfolding_all rfl; with_unfolding_all rfl)
        | (apply ex_two; with_unfolding_all rfl)
        | refine and_t ?_
        | refine and_f ?_
        | refine and_nt ?_
        | refine and_nf ?_)
    | dsimp only [backIn, hideL, lent, lentK, getD_z, getD_s, set_z, set_s, map_c, map_n, app_c, app_n, rep_s, rep_z])
local macro_rules
  | `(tactic| exists $d, $s, $h0, $h1) => `(tactic| (refine take_ok (by assumption) (by decide) (by decide) fun $d $s $h0 $h1 => ?_; repeat get_elem_tactic_trivial))
def gwB (t : Nat) : List S :=
  [.set 2 (.op .listOf [.var 1]),
  .whl (.cmp .gt (.op .len [.var 2]) (.cst (.int 1))) [.set 3 (.call t [.var 0, .op .sub [.op .len [.var 2], .cst (.int 1)]]),
  .ite (.conj (.cmp .gt (.op .len [.var 2]) (.cst (.int 2))) (.cmp .eq (.call t [.var 0, .cst (.int 5)]) (.cst (.int 0)))) [.set 3 (.op .min2 [.var 3, .op .sub [.op .len [.var 2], .cst (.int 3)]]),
  .setSl 2 (.var 3) (.op .add [.var 3, .cst (.int 3)]) (.lstd [.tupd [.cst (.str "if"), .op .ix [.var 2, .var 3], .op .ix [.var 2, .op .add [.var 3, .cst (.int 1)]], .op .ix [.var 2, .op .add [.var 3, .cst (.int 2)]]]])] [.set 4 (.op .ix [.lstd [.cst (.str "+"), .cst (.str "-"), .cst (.str "*"), .cst (.str "min"), .cst (.str "max"), .cst (.str "rest"), .cst (.str "less")], .call t [.var 0, .cst (.int 7)]]),
  .setSl 2 (.var 3) (.op .add [.var 3, .cst (.int 2)]) (.lstd [.tupd [.cst (.str "op"), .var 4, .op .ix [.var 2, .var 3], .op .ix [.var 2, .op .add [.var 3, .cst (.int 1)]]]])]],
  .ret (.op .ix [.var 2, .cst (.int 0)])]
theorem split2 {α : Type} : ∀ {l : List α} {i : Nat}, i + 1 < l.length → ∃ p a b q, l = p ++ a :: b :: q ∧ p.length = i
  | a :: b :: q, 0, _ => ⟨[], a, b, q, rfl, rfl⟩
  | x :: l, i + 1, h => by
    obtain ⟨p, a, b, q, e, hp⟩ := split2 (l := l) (i := i) (by simp at h; omega)
    exact ⟨x :: p, a, b, q, by rw [e]; rfl, by simp [hp]⟩
theorem split3 {α : Type} : ∀ {l : List α} {i : Nat}, i + 2 < l.length → ∃ p a b c q, l = p ++ a :: b :: c :: q ∧ p.length = i
  | a :: b :: c :: q, 0, _ => ⟨[], a, b, c, q, rfl, rfl⟩
  | x :: l, i + 1, h => by
    obtain ⟨p, a, b, c, q, e, hp⟩ := split3 (l := l) (i := i) (by simp at h; omega)
    exact ⟨x :: p, a, b, c, q, by rw [e]; rfl, by simp [hp]⟩
theorem at_app {α : Type} {f : α → D} {p : List α} {x : α} {q : List α} {a : Int} (h : a = (p.length : Int)) : at' ((p ++ x :: q).map f) a = some (f x) :=
  at_map (by omega) (by rw [h, Int.toNat_natCast, List.getElem?_append_right (Nat.le_refl _), Nat.sub_self]; rfl)
theorem sgn_mem {a : Int} (h0 : 0 ≤ a) (h1 : a < 7) : ∃ z, at' [D.str "+", .str "-", .str "*", .str "min", .str "max", .str "rest", .str "less"] a = some (.str z) ∧ z ∈ sgn7 :=
  strs_at (ys := sgn7) h0 h1
theorem grown_ok {G : Gt} {n f t : Nat} (hg : G[f]? = some ⟨2, 5, gwB t⟩) (ht : G[t]? = some ⟨2, 4, tkB⟩) {s : Int × Int} {ls : List Lf} (h1 : 1 ≤ ls.length) (h2 : ls.length ≤ 100) {Q : SV → List SV → Prop}
    (h : ∀ (x : Tr) s', x.lfs = ls → x.sg → x.size ≤ 2 * ls.length → Q (0, x.toD) [(1000, fd s'), (1000, .lst (ls.map Lf.toD))]) : CPS (evC G (n + 2)) f [(1000, fd s), (1000, .lst (ls.map Lf.toD))] [0, 1] Q := by
  refine w_body hg rfl ?_
  unfold gwB
  show WB _ _ _ [some (1000, fd s), some (1000, .lst (ls.map Lf.toD)), none, none, none] _
  repeat get_elem_tactic_trivial
  refine op_listOfS (by simp [Lf.flat]) ?_
  repeat get_elem_tactic_trivial
  refine ws_whl (fun m env => ∃ (s' : Int × Int) (ts : List Tr) (o3 o4 : Option SV), env = [some (1000, fd s'), some (1000, .lst (ls.map Lf.toD)), some (1, .lst (ts.map Tr.toD)), o3, o4] ∧ m = ts.length ∧ ts.flatMap Tr.lfs = ls ∧ (∀ x ∈ ts, x.sg) ∧ szs ts + ts.length ≤ 2 * ls.length) ls.length ?_ ⟨s, ls.map Tr.lf, none, none, ?_, ?_, ?_, ?_, ?_⟩ ?_
  · have : (1000 : Nat) < MANY := by decide +kernel
    omega
  · rw [List.map_map]; rfl
  · rw [List.length_map]
  · clear h h1 h2
    induction ls with
    | nil => rfl
    | cons l ls ih => rw [List.map_cons, List.flatMap_cons, ih]; rfl
  · intro x hx
    obtain ⟨l, _, rfl⟩ := List.mem_map.mp hx
    trivial
  · have : szs (ls.map Tr.lf) = ls.length := by
      clear h h1 h2
      induction ls with
      | nil => rfl
      | cons l ls ih => unfold szs at ih ⊢; rw [List.map_cons, List.map_cons, List.sum_cons, ih, List.length_cons]; simp [Tr.size]; omega
    rw [List.length_map]
    omega
  · rintro m env ⟨s1, ts, o3, o4, rfl, rfl, hl, hs, hz⟩
    repeat get_elem_tactic_trivial
    rw [List.length_map]
    refine and_dec' (fun hq => ?_) (fun hq => ?_)
    · have : ∃ x, ts = [x] := by
        match ts, hl, hq with
        | [], hl, _ => rw [List.flatMap_nil] at hl; rw [← hl] at h1; simp at h1
        | [x], _, _ => exact ⟨x, rfl⟩
        | _ :: _ :: _, _, hq => simp at hq; omega
      obtain ⟨x, rfl⟩ := this
      repeat get_elem_tactic_trivial
      refine op_ixO (d := x.toD) rfl x.flat ?_
      repeat get_elem_tactic_trivial
      refine h x s1 ?_ (hs x (List.mem_cons_self ..)) ?_
      · rw [← hl]; simp
      · simp [szs] at hz; omega
    · have hln := szs_len ts
      repeat get_elem_tactic_trivial
      rw [List.length_map]
      refine take_ok ht (by omega) (log_small (by omega) (by omega)) fun d s2 d0 d1 => ?_
      repeat get_elem_tactic_trivial
      have two : ∀ {s3 : Int × Int} {K : Ko}, (∀ e, (∃ m', m' < ts.length ∧ ∃ (s' : Int × Int) (ts : List Tr) (o3 o4 : Option SV), e = [some (1000, fd s'), some (1000, .lst (ls.map Lf.toD)), some (1, .lst (ts.map Tr.toD)), o3, o4] ∧ m' = ts.length ∧ ts.flatMap Tr.lfs = ls ∧ (∀ x ∈ ts, x.sg) ∧ szs ts + ts.length ≤ 2 * ls.length) → K.nx e) → WB (evC G (n + 1)) [.set 4 (.op .ix [.lstd [.cst (.str "+"), .cst (.str "-"), .cst (.str "*"), .cst (.str "min"), .cst (.str "max"), .cst (.str "rest"), .cst (.str "less")], .call t [.var 0, .cst (.int 7)]]),
  .setSl 2 (.var 3) (.op .add [.var 3, .cst (.int 2)]) (.lstd [.tupd [.cst (.str "op"), .var 4, .op .ix [.var 2, .var 3], .op .ix [.var 2, .op .add [.var 3, .cst (.int 1)]]]])] [0, 1] [some (1000, fd s3), some (1000, .lst (ls.map Lf.toD)), some (1, .lst (ts.map Tr.toD)), some (0, .int d), o4] K := by
        intro s3 K hK
        repeat get_elem_tactic_trivial
        refine take_ok ht (by decide) (by decide) fun e s4 e0 e1 => ?_
        repeat get_elem_tactic_trivial
        obtain ⟨z, z1, z2⟩ := sgn_mem e0 e1
        refine op_ixL z1 ?_
        repeat get_elem_tactic_trivial
        obtain ⟨p, a, b, q, rfl, hp⟩ := split2 (l := ts) (i := d.toNat) (by omega)
        refine op_ixO (d := a.toD) (at_app (by omega)) a.flat ?_
        repeat get_elem_tactic_trivial
        have eab : p ++ a :: b :: q = (p ++ [a]) ++ b :: q := by simp
        refine op_ixO (d := b.toD) (by rw [eab]; exact at_app (by rw [List.length_append, List.length_singleton]; omega)) b.flat ?_
        repeat get_elem_tactic_trivial
        refine ⟨0, _, _, _, _, _, _, _, 999, _, rfl, rfl, rfl, ⟨by omega, by omega, by rw [List.length_map, List.length_append] at *; simp; omega, by rw [List.length_map, sizeLine_eq]; simp; simp at hln; omega⟩, ?_⟩
        repeat get_elem_tactic_trivial
        refine hK _ ⟨(p ++ Tr.op z a b :: q).length, by simp, s4, p ++ Tr.op z a b :: q, some (0, .int d), some (0, .str z), ?_, rfl, ?_, ?_, ?_⟩
        · have ed : ((p ++ a :: b :: q).map Tr.toD).take d.toNat = p.map Tr.toD := by rw [← hp, List.map_append, List.take_left' (by rw [List.length_map])]
          have ed2 : ((p ++ a :: b :: q).map Tr.toD).drop (d + 2).toNat = q.map Tr.toD := by
            have : (d + 2).toNat = (p ++ [a, b]).length := by simp; omega
            rw [this]
            have e3 : (p ++ a :: b :: q).map Tr.toD = (p ++ [a, b]).map Tr.toD ++ q.map Tr.toD := by simp
            rw [e3, List.drop_left' (by rw [List.length_map])]
          rw [ed, ed2]
          simp only [List.map_append, List.map_cons, Tr.toD, List.append_assoc, List.cons_append, List.nil_append]
          rfl
        · rw [← hl]; simp [Tr.lfs]
        · intro x hx
          rcases List.mem_append.mp hx with hx | hx
          · exact hs x (List.mem_append_left _ hx)
          · rcases List.mem_cons.mp hx with rfl | hx
            · exact ⟨z2, hs a (by simp), hs b (by simp)⟩
            · exact hs x (by simp [hx])
        · simp [szs, Tr.size] at hz ⊢
          omega
      rw [List.length_map]
      refine and_dec (fun h5 => ?_) (fun h5 => ?_)
      · repeat get_elem_tactic_trivial
        refine take_ok ht (by decide) (by decide) fun e s3 e0 e1 => ?_
        repeat get_elem_tactic_trivial
        refine and_dec (fun h6 => ?_) (fun h6 => ?_)
        · repeat get_elem_tactic_trivial
          rw [List.length_map]
          generalize hdd : (if (ts.length : Int) - 3 < d then (ts.length : Int) - 3 else d) = dd
          have hd0 : 0 ≤ dd := by rw [← hdd]; split <;> omega
          have hd1 : dd + 2 < ts.length := by rw [← hdd]; split <;> omega
          clear hdd
          repeat get_elem_tactic_trivial
          obtain ⟨p, a, b, c, q, rfl, hp⟩ := split3 (l := ts) (i := dd.toNat) (by omega)
          refine op_ixO (d := a.toD) (at_app (by omega)) a.flat ?_
          repeat get_elem_tactic_trivial
          have eab : p ++ a :: b :: c :: q = (p ++ [a]) ++ b :: c :: q := by simp
          have eabc : p ++ a :: b :: c :: q = (p ++ [a, b]) ++ c :: q := by simp
          refine op_ixO (d := b.toD) (by rw [eab]; exact at_app (by rw [List.length_append, List.length_singleton]; omega)) b.flat ?_
          repeat get_elem_tactic_trivial
          refine op_ixO (d := c.toD) (by rw [eabc]; exact at_app (by rw [List.length_append]; simp; omega)) c.flat ?_
          repeat get_elem_tactic_trivial
          refine ⟨0, _, _, _, _, _, _, _, 999, _, rfl, rfl, rfl, ⟨by omega, by omega, by rw [List.length_map, List.length_append] at *; simp; omega, by rw [List.length_map, sizeLine_eq]; simp; simp at hln; omega⟩, ?_⟩
          repeat get_elem_tactic_trivial
          refine ⟨(p ++ Tr.ift a b c :: q).length, by simp, s3, p ++ Tr.ift a b c :: q, some (0, .int dd), o4, ?_, rfl, ?_, ?_, ?_⟩
          · have ed : ((p ++ a :: b :: c :: q).map Tr.toD).take dd.toNat = p.map Tr.toD := by rw [← hp, List.map_append, List.take_left' (by rw [List.length_map])]
            have ed2 : ((p ++ a :: b :: c :: q).map Tr.toD).drop (dd + 3).toNat = q.map Tr.toD := by
              have : (dd + 3).toNat = (p ++ [a, b, c]).length := by simp; omega
              rw [this]
              have e3 : (p ++ a :: b :: c :: q).map Tr.toD = (p ++ [a, b, c]).map Tr.toD ++ q.map Tr.toD := by simp
              rw [e3, List.drop_left' (by rw [List.length_map])]
            rw [ed, ed2]
            simp only [List.map_append, List.map_cons, Tr.toD, List.append_assoc, List.cons_append, List.nil_append]
            rfl
          · rw [← hl]; simp [Tr.lfs]
          · intro x hx
            rcases List.mem_append.mp hx with hx | hx
            · exact hs x (List.mem_append_left _ hx)
            · rcases List.mem_cons.mp hx with rfl | hx
              · exact ⟨hs a (by simp), hs b (by simp), hs c (by simp)⟩
              · exact hs x (by simp [hx])
          · simp [szs, Tr.size] at hz ⊢
            omega
        · exact two fun e he => wb_nil he
      · refine and_f ?_
        exact two fun e he => wb_nil he
end Ck

set_option Elab.async false
set_option linter.all false
set_option maxRecDepth 100000
/-! Ck36: houses drawn: rows, names. -/
namespace Ck
open PySem
theorem w_mutI {c : Cal} {env : Env} {P : R → Env → Prop} {i : Nat} {j : E} {m : Mt} {l : List E} {sv0 : SV} (g : getS env i = some sv0)
    (h : WE c j env fun rj env1 => ∃ n xs nj k x kk, getS env1 i = some (n, .lst xs) ∧ rj = ⟨.fr, nj, .int k⟩ ∧ at' xs k = some x ∧ L2.ixN xs.length k = some kk ∧ WL c l (env1.set i none) fun rs env2 => ∃ svs env3, claims rs env2 = some (svs, env3) ∧
      ∃ sv r, mutF m (n - 1) x svs = some (sv, r) ∧ getS env3 i = none ∧ P ⟨.fr, r.1, r.2⟩ (env3.set i (some (min n (sv.1 + 1), .lst (xs.set kk sv.2))))) : WE c (.mutI i j m l) env P := by
  obtain ⟨rj, e1, h1, n, xs, nj, k, x, kk, h2, rfl, h3, h4, rs, e2, h5, svs, e3, h6, sv, r, h7, h8, h9⟩ := h
  exact ⟨_, _, by simp only [evE, g, h1, h2, h3, h4, h5, h6, h7, h8, Res.ofO_some, Res.bind_ok, Res.pure_ok, Option.isSome_none, Bool.false_eq_true, if_false], h9⟩
local macro_rules
  | `(tactic| get_elem_tactic_trivial) => `(tactic| first
    | (with_reducible first
        | refine wb_cons ?_
        | refine wb_nil ?_
        | refine ws_set ?_
        | refine ws_ret ?_
        | refine ws_exp ?_
        | refine ws_setT ?_
        | refine ws_setIx ?_
        | refine ws_setSl ?_
        | refine ws_ite ?_
        | (apply ws_aug; with_unfolding_all rfl)
        | refine w_cst ?_
        | refine w_glo ?_
        | (apply w_varS; with_unfolding_all rfl)
        | refine sl_zero ?_
        | (apply sl_flat; with_unfolding_all rfl)
        | (apply sl_own; with_unfolding_all rfl; with_unfolding_all rfl)
        | refine w_op ?_
        | refine w_tupd ?_
        | refine w_lstd ?_
        | refine w_call ?_
        | (apply w_mut; with_unfolding_all rfl; with_unfolding_all rfl)
        | refine w_slc ?_
        | refine w_met ?_
        | refine wl_cons ?_
        | refine wl_nil ?_
        | refine wt_cmp ?_
        | refine wt_conj ?_
        | refine wt_disj ?_
        | refine wt_not ?_
        | refine wt_isn ?_
        | refine rr_fr ?_
        | (apply rr_sl; with_unfolding_all rfl)
        | refine op_lenS ?_
        | refine op_lenL ?_
        | refine op_lenT ?_
        | refine op_add ?_
        | refine op_sub ?_
        | refine op_lt ?_
        | refine op_le ?_
        | refine op_gt ?_
        | refine op_ge ?_
        | refine op_eq eqv_int ?_
        | refine op_ne eqv_int ?_
        | refine op_min2 ?_
        | refine op_max2 ?_
        | refine op_neg ?_
        | refine op_not ?_
        | refine op_int1b ?_
        | refine op_isInt ?_
        | refine op_isTup ?_
        | refine op_isLst ?_
        | refine op_isStr ?_
        | refine op_isBool ?_
        | (apply op_mod; (first | assumption | decide))
        | (apply op_fdiv; (first | assumption | decide); (first | assumption | decide))
        | (refine op_mul (.inl ?_) ?_; decide)
        | (refine op_mul (.inr ?_) ?_; decide)
        | (apply op_pow; decide; decide; decide)
        | refine op_ixL0 ?_
        | refine op_ixT0 ?_
        | (apply op_ixO0; with_unfolding_all rfl)
        | refine op_ixL1 ?_
        | refine op_ixT1 ?_
        | (apply op_ixO1; with_unfolding_all rfl)
        | refine op_ixL2 ?_
        | refine op_ixT2 ?_
        | (apply op_ixO2; with_unfolding_all rfl)
        | refine op_ixL3 ?_
        | refine op_ixT3 ?_
        | (apply op_ixO3; with_unfolding_all rfl)
        | (apply and_eq; with_unfolding_all rfl)
        | (apply ex_pair; with_unfolding_all rfl)
        | (apply ex_some; with_unfolding_all rfl)
        | (apply ex_bl; with_unfolding_all rfl)
        | (apply ex_int; with_unfolding_all rfl)
        | (apply ex_ix; with_unfolding_all rfl; with_unfolding_all rfl; with_unfolding_all rfl)
        | (apply ex_two; with_unfolding_all rfl)
        | refine and_t ?_
        | refine and_f ?_
        | refine and_nt ?_
        | refine and_nf ?_)
    | dsimp only [backIn, hideL, lent, lentK, getD_z, getD_s, set_z, set_s, map_c, map_n, app_c, app_n, rep_s, rep_z])
local macro_rules
  | `(tactic| exists $d, $s, $h0, $h1) => `(tactic| (refine take_ok (by assumption) (by decide) (by decide) fun $d $s $h0 $h1 => ?_; repeat get_elem_tactic_trivial))
theorem ixN_of {n : Nat} {a : Int} (h0 : 0 ≤ a) (h1 : a < n) : L2.ixN n a = some a.toNat := by
  unfold L2.ixN
  rw [if_pos h0, if_pos h1]
theorem app_list {a b : Str} : (a ++ b).cps.toList = a.cps.toList ++ b.cps.toList := by show (a.cps ++ b.cps).toList = _; simp
theorem cut_to {z : Str} {a : Int} (h0 : 0 ≤ a) : (L2.cutS z none (some a)).cps.toList = z.cps.toList.take a.toNat := by
  unfold L2.cutS HT.sIx
  simp
  have : ¬ a < 0 := by omega
  simp [this]
  have e : z.length = z.cps.size := rfl
  omega
theorem cut_from {z : Str} {a : Int} (h0 : 0 ≤ a) (h1 : a ≤ z.length) : (L2.cutS z (some a) none).cps.toList = z.cps.toList.drop a.toNat := by
  unfold L2.cutS HT.sIx
  simp
  have : ¬ a < 0 := by omega
  simp [this]
  have e : z.length = z.cps.toList.length := len_list
  rw [Nat.min_eq_left (by omega)]
  apply List.take_of_length_le
  rw [List.length_drop]
  omega
/-- a row of few numbers -/
def RowOk (w : Int) (ns : List Int) : Prop := (ns.length : Int) = w ∧ ∀ x ∈ ns, -4 ≤ x ∧ x ≤ 4
theorem five_at {a : Int} (h0 : 0 ≤ a) (h1 : a < 5) : ∃ z, at' [D.int 0, .int 1, .int (0 - 1), .int 2, .int (0 - 2)] a = some (.int z) ∧ -2 ≤ z ∧ z ≤ 2 := by
  obtain ⟨z, e, m⟩ := ints_at (ys := [0, 1, 0 - 1, 2, 0 - 2]) h0 h1
  refine ⟨z, e, ?_⟩
  simp only [List.mem_cons, List.not_mem_nil, or_false] at m
  omega
theorem zeros_flat (w : Nat) : (List.replicate w [D.int 0]).flatten = (List.replicate w (0 : Int)).map D.int := by
  rw [List.map_replicate]
  induction w with
  | zero => rfl
  | succ k ih => rw [List.replicate_succ, List.flatten_cons, ih]; rfl
theorem op_zerosT {q : R → Prop} {n n' : Nat} {w : Int} (h1 : 1 ≤ w) (h2 : w ≤ 1000) (h : q ⟨.fr, 0, .tup ((List.replicate w.toNat (0 : Int)).map .int)⟩) : OP .mul [⟨.fr, n, .tup [.int 0]⟩, ⟨.fr, n', .int w⟩] q := by
  refine op_genM rfl rfl (d := .tup ((List.replicate w.toNat (0 : Int)).map .int)) ?_ h
  show mulD [.tup [.int 0], .int w] = _
  simp only [mulD]
  rw [if_neg, zeros_flat]
  rintro (h | h)
  · cases h
  · exact h ⟨h1, h2, by decide⟩
theorem op_zerosL {q : R → Prop} {n n' : Nat} {w : Int} (h1 : 0 ≤ w) (h2 : w ≤ 1000) (h : q ⟨.fr, 1, .lst ((List.replicate w.toNat (0 : Int)).map .int)⟩) : OP .mul [⟨.fr, n, .lst [.int 0]⟩, ⟨.fr, n', .int w⟩] q := by
  refine op_genM rfl rfl (d := .lst ((List.replicate w.toNat (0 : Int)).map .int)) ?_ h
  show mulD [.lst [.int 0], .int w] = _
  simp only [mulD]
  rw [if_pos, zeros_flat]
  refine ⟨by omega, by omega, ?_⟩
  rw [sizeLine_eq, List.length_singleton]
  omega
theorem zeros_row {w : Int} (h : 0 ≤ w) : RowOk w (List.replicate w.toNat (0 : Int)) := by
  refine ⟨by rw [List.length_replicate]; omega, fun x hx => ?_⟩
  rw [List.mem_replicate] at hx
  omega
theorem row_ok' {G : Gt} {n f t : Nat} (hg : G[f]? = some ⟨2, 3, rwB t⟩) (ht : G[t]? = some ⟨2, 4, tkB⟩) {s : Int × Int} {w : Int} (h1 : 1 ≤ w) (h2 : w ≤ 1000) {Q : SV → List SV → Prop} (h : ∀ (ns : List Int) s', RowOk w ns → Q (0, .tup (ns.map .int)) [(1000, fd s'), (0, .int w)]) :
    CPS (evC G (n + 2)) f [(1000, fd s), (0, .int w)] [0] Q := by
  refine w_body hg rfl ?_
  unfold rwB
  show WB _ _ _ [some (1000, fd s), some (0, .int w), none] _
  repeat get_elem_tactic_trivial
  exists d, s1, d0, d1
  refine and_dec (fun h3 => ?_) (fun h3 => ?_)
  · repeat get_elem_tactic_trivial
    refine op_zerosT h1 h2 ?_
    repeat get_elem_tactic_trivial
    exact h _ s1 (zeros_row (by omega))
  · repeat get_elem_tactic_trivial
    refine w_comp ?_
    refine wi_rng1 ?_
    repeat get_elem_tactic_trivial
    refine And.intro ⟨by omega, by omega⟩ ?_
    refine ⟨w.toNat, rfl, rfl, fun i env acc => ∃ (s' : Int × Int) (ns : List Int), env = [some (1000, fd s'), some (0, .int w), none] ∧ acc = ns.map (fun z => (0, D.int z)) ∧ ns.length = i ∧ ∀ x ∈ ns, -4 ≤ x ∧ x ≤ 4, ⟨s1, [], rfl, rfl, rfl, fun _ h => nomatch h⟩, ?_, ?_⟩
    · rintro i env acc hi ⟨s2, ns, rfl, rfl, rfl, hb⟩
      refine ⟨_, [some (1000, fd s2), some (0, .int w), some (0, .int (0 + (ns.length : Nat) * 1))], rfl, rfl, wt_tt ⟨(fun h => nomatch h), fun _ => ?_⟩⟩
      repeat get_elem_tactic_trivial
      exists e, s3, e0, e1
      obtain ⟨z, z1, z2, z3⟩ := five_at e0 e1
      refine op_ixL z1 ?_
      repeat get_elem_tactic_trivial
      refine And.intro ?_ (And.intro rfl ⟨s3, ns ++ [z], rfl, by simp, by simp, fun x hx => ?_⟩)
      · rw [List.length_map, sizeLine_eq]
        omega
      · rcases List.mem_append.mp hx with hx | hx
        · exact hb x hx
        · rw [List.mem_singleton] at hx
          omega
    · rintro env acc ⟨s2, ns, rfl, rfl, hl, hb⟩
      repeat get_elem_tactic_trivial
      refine op_tupleOfF ?_
      repeat get_elem_tactic_trivial
      rw [List.map_map]
      exact h ns s2 ⟨by omega, hb⟩
end Ck

set_option Elab.async false
set_option linter.all false
set_option maxRecDepth 100000
/-! Ck37: names drawn. -/
namespace Ck
open PySem
local macro_rules
  | `(tactic| get_elem_tactic_trivial) => `(tactic| first
    | (with_reducible first
        | refine wb_cons ?_
        | refine wb_nil ?_
        | refine ws_set ?_
        | refine ws_ret ?_
        | refine ws_exp ?_
        | refine ws_setT ?_
        | refine ws_setIx ?_
        | refine ws_setSl ?_
        | refine ws_ite ?_
        | (apply ws_aug; with_unfolding_all rfl)
        | refine w_cst ?_
        | refine w_glo ?_
        | (apply w_varS; with_unfolding_all rfl)
        | refine sl_zero ?_
        | (apply sl_flat; with_unfolding_all rfl)
        | (apply sl_own; with_unfolding_all rfl; with_unfolding_all rfl)
        | refine w_op ?_
        | refine w_tupd ?_
        | refine w_lstd ?_
        | refine w_call ?_
        | (apply w_mut; with_unfolding_all rfl; with_unfolding_all rfl)
        | refine w_slc ?_
        | refine w_met ?_
        | refine wl_cons ?_
        | refine wl_nil ?_
        | refine wt_cmp ?_
        | refine wt_conj ?_
        | refine wt_disj ?_
        | refine wt_not ?_
        | refine wt_isn ?_
        | refine rr_fr ?_
        | (apply rr_sl; with_unfolding_all rfl)
        | refine op_lenS ?_
        | refine op_lenL ?_
        | refine op_lenT ?_
        | refine op_add ?_
        | refine op_sub ?_
        | refine op_lt ?_
        | refine op_le ?_
        | refine op_gt ?_
        | refine op_ge ?_
        | refine op_eq eqv_int ?_
        | refine op_ne eqv_int ?_
        | refine op_min2 ?_
        | refine op_max2 ?_
        | refine op_neg ?_
        | refine op_not ?_
        | refine op_int1b ?_
        | refine op_isInt ?_
        | refine op_isTup ?_
        | refine op_isLst ?_
        | refine op_isStr ?_
        | refine op_isBool ?_
        | (apply op_mod; (first | assumption | decide))
        | (apply op_fdiv; (first | assumption | decide); (first | assumption | decide))
        | (refine op_mul (.inl ?_) ?_; decide)
        | (refine op_mul (.inr ?_) ?_; decide)
        | (apply op_pow; decide; decide; decide)
        | refine op_ixL0 ?_
        | refine op_ixT0 ?_
        | (apply op_ixO0; with_unfolding_all rfl)
        | refine op_ixL1 ?_
        | refine op_ixT1 ?_
        | (apply op_ixO1; with_unfolding_all rfl)
        | refine op_ixL2 ?_
        | refine op_ixT2 ?_
        | (apply op_ixO2; with_unfolding_all rfl)
        | refine op_ixL3 ?_
        | refine op_ixT3 ?_
        | (apply op_ixO3; with_unfolding_all rfl)
        | (apply and_eq; with_unfolding_all rfl)
        | (apply ex_pair; with_unfolding_all rfl)
        | (apply ex_some; with_unfolding_all rfl)
        | (apply ex_bl; with_unfolding_all rfl)
        | (apply ex_int; with_unfolding_all rfl)
        | (apply ex_ix; with_unfolding_all rfl; with_unfolding_all rfl; with_unfolding_all rfl)
        | (apply ex_two; with_unfolding_all rfl)
        | refine and_t ?_
        | refine and_f ?_
        | refine and_nt ?_
        | refine and_nf ?_)
    | dsimp only [backIn, hideL, lent, lentK, getD_z, getD_s, set_z, set_s, map_c, map_n, app_c, app_n, rep_s, rep_z])
local macro_rules
  | `(tactic| exists $d, $s, $h0, $h1) => `(tactic| (refine take_ok (by assumption) (by decide) (by decide) fun $d $s $h0 $h1 => ?_; repeat get_elem_tactic_trivial))
abbrev abZ : Str := "abcdefghijklmnopqrstuvwxyz"
theorem abZ_lo : ∀ c ∈ abZ.cps.toList, c < 1000 := by decide +kernel
theorem abZ_len : abZ.cps.toList.length = 26 := by decide +kernel
def wdsZ : List Str := ["min", "max", "rest", "less", "if"]
/-- of small letters alone -/
def Lo (z : Str) : Prop := ∀ c ∈ z.cps.toList, c ∈ abZ.cps.toList
def NameOk (z : Str) : Prop := (1 ≤ z.length ∧ z.length ≤ 8) ∧ z ∉ wdsZ ∧ Lo z
theorem Lo.tx {z : Str} {n : Nat} (h : Lo z) (hl : z.length ≤ n) : Tx n z := ⟨fun c hc => abZ_lo c (h c hc), hl⟩
theorem NameOk.tx {z : Str} (h : NameOk z) : Tx 8 z := h.2.2.tx h.1.2
theorem Lo.app {a b : Str} (ha : Lo a) (hb : Lo b) : Lo (a ++ b) := fun c hc => by
  rw [app_list] at hc
  exact (List.mem_append.mp hc).elim (ha c) (hb c)
theorem Lo.nil : Lo "" := fun c hc => by
  have e1 : (("" : Str)).cps.toList = [] := rfl
  rw [e1] at hc
  cases hc
theorem Lo.join : ∀ {ys : List Str}, (∀ y ∈ ys, Lo y) → Lo (Str.join "" ys)
  | [], _ => fun c hc => by simp [Str.join, Str.empty] at hc
  | [x], h => h x (List.mem_cons_self ..)
  | x :: y :: r, h => ((h x (List.mem_cons_self ..)).app .nil).app (Lo.join fun z hz => h z (List.mem_cons_of_mem _ hz))
theorem Lo.one {c : Nat} (h : c ∈ abZ.cps.toList) : Lo ⟨#[c]⟩ := fun d hd => by simp at hd; rw [hd]; exact h
theorem Lo.q : Lo "q" := Lo.one (c := 113) (by decide +kernel)
theorem Lo.w : Lo "w" := Lo.one (c := 119) (by decide +kernel)
theorem in_wdsZ {z : Str} {m : Nat} (hz : Tx m z) {n n' : Nat} {q : R → Prop} (h : q ⟨.fr, 0, .bl (decide (z ∈ wdsZ))⟩) : OP .isin [⟨.fr, n, .str z⟩, ⟨.fr, n', .tup [.str "min", .str "max", .str "rest", .str "less", .str "if"]⟩] q := by
  refine op_gen (d := .bl (decide (z ∈ wdsZ))) rfl rfl ?_ h
  show (inD (.str z) (wdsZ.map .str)).map _ = _
  rw [in_strs hz (by decide +kernel) (by decide +kernel)]
  rfl
def B_names (t_take : Nat) : List S :=
  [.set 2 (.cst (.str "abcdefghijklmnopqrstuvwxyz")),
  .set 3 (.met .str .join (.cst (.str "")) [.comp (.op .ix [.var 2, .call t_take [.var 0, .cst (.int 26)]]) (.nm 5) (.rng1 (.call t_take [.var 0, .cst (.int 6)])) (.tt) [5]]),
  .par [6, 7] [.call t_take [.var 0, .cst (.int 26)], .call t_take [.var 0, .op .add [.op .len [.var 3], .cst (.int 1)]]],
  .set 4 (.lstd []),
  .forS (.nm 5) (.rng1 (.var 1)) [.set 8 (.op .add [.op .add [.op .slB [.var 3, .var 7], .op .ix [.var 2, .op .mod [.op .add [.var 6, .op .mul [.cst (.int 5), .var 5]], .cst (.int 26)]]], .op .slA [.var 3, .var 7]]),
  .ite (.cmp .eq (.op .mod [.var 5, .cst (.int 2)]) (.cst (.int 1))) [.set 8 (.op .add [.var 8, .cst (.str "q")])] [],
  .ite (.cmp .isin (.var 8) (.tupd [.cst (.str "min"), .cst (.str "max"), .cst (.str "rest"), .cst (.str "less"), .cst (.str "if")])) [.set 8 (.op .add [.var 8, .cst (.str "w")])] [],
  .exp (.mut 4 .append [.var 8])],
  .ret (.var 4)]
theorem names_nodup {ys : List Str} {first : Int} {at_ : Nat} (h0 : 0 ≤ first) (hl : ys.length ≤ 6) (h : ∀ (j : Nat) z, ys[j]? = some z → z.cps.toList[at_]? = abZ.cps.toList[((first + 5 * (j : Nat)) % 26).toNat]?) : ys.Nodup := by
  refine List.pairwise_iff_getElem.mpr fun i j hi hj hij e => ?_
  have h2 := h j _ (List.getElem?_eq_getElem hj)
  have h3 := h i _ (List.getElem?_eq_getElem hi)
  rw [e, h2] at h3
  have nd : abZ.cps.toList.Nodup := by decide +kernel
  have b1 : ((first + 5 * (j : Nat)) % 26).toNat < abZ.cps.toList.length := by rw [abZ_len]; omega
  have h4 := (List.getElem?_inj b1 nd).mp h3
  omega
theorem names_ok {G : Gt} {n f t : Nat} (hg : G[f]? = some ⟨2, 9, B_names t⟩) (ht : G[t]? = some ⟨2, 4, tkB⟩) {s : Int × Int} {m : Nat} (hm : m ≤ 6) {Q : SV → List SV → Prop}
    (h : ∀ (ys : List Str) s', ys.length = m → ys.Nodup → (∀ y ∈ ys, NameOk y) → Q (1000, .lst (ys.map .str)) [(1000, fd s'), (0, .int m)]) : CPS (evC G (n + 2)) f [(1000, fd s), (0, .int m)] [0] Q := by
  refine w_body hg rfl ?_
  unfold B_names
  show WB _ _ _ [some (1000, fd s), some (0, .int m), none, none, none, none, none, none, none] _
  repeat get_elem_tactic_trivial
  refine w_comp ?_
  refine wi_rng1 ?_
  repeat get_elem_tactic_trivial
  exists d, s1, d0, d1
  refine And.intro ⟨by omega, by omega⟩ ?_
  refine ⟨d.toNat, rfl, rfl, fun i env acc => ∃ (s' : Int × Int) (ys : List Str), env = [some (1000, fd s'), some (0, .int m), some (0, .str abZ), none, none, none, none, none, none] ∧ acc = ys.map (fun z => (0, D.str z)) ∧ ys.length = i ∧ ∀ y ∈ ys, Tx 1 y ∧ Lo y, ⟨s1, [], rfl, rfl, rfl, fun _ h => nomatch h⟩, ?_, ?_⟩
  · rintro i env acc hi ⟨s2, ys, rfl, rfl, rfl, hy⟩
    refine ⟨_, [some (1000, fd s2), some (0, .int m), some (0, .str abZ), none, none, some (0, .int (0 + (ys.length : Nat) * 1)), none, none, none], rfl, rfl, wt_tt ⟨(fun h => nomatch h), fun _ => ?_⟩⟩
    repeat get_elem_tactic_trivial
    exists e, s3, e0, e1
    obtain ⟨x, x1, x2⟩ := at_mem (l := abZ.cps.toList) e0 (by rw [abZ_len]; exact e1)
    refine op_ixZ (k := x) (by rw [sizeLine_eq]; decide +kernel) x1 ?_
    repeat get_elem_tactic_trivial
    refine And.intro ?_ (And.intro rfl ⟨s3, ys ++ [⟨#[x]⟩], rfl, by simp, by simp, fun y hy2 => ?_⟩)
    · rw [List.length_map, sizeLine_eq]
      omega
    · rcases List.mem_append.mp hy2 with hy2 | hy2
      · exact hy y hy2
      · rw [List.mem_singleton] at hy2
        rw [hy2]
        have hx := List.mem_of_getElem? x2
        exact ⟨Tx.one (abZ_lo x hx), Lo.one hx⟩
  · rintro env acc ⟨s2, ys, rfl, rfl, hl, hy⟩
    repeat get_elem_tactic_trivial
    refine op_gen (d := .str (Str.join "" ys)) rfl rfl ?_ ?_
    · have e : (ys.map (fun z => ((0, D.str z) : SV))).map (·.2) = ys.map .str := by rw [List.map_map]; rfl
      show joinD (.str "") (.lst ((ys.map (fun z => ((0, D.str z) : SV))).map (·.2))) = _
      rw [e]
      exact join_ok (fun y h => (hy y h).1) (by omega)
    have stTx : Tx 5 (Str.join "" ys) := (Tx.join0 fun y h => (hy y h).1).mono (by omega)
    have stLo : Lo (Str.join "" ys) := Lo.join fun y h => (hy y h).2
    generalize Str.join "" ys = st at stTx stLo
    clear hy hl ys
    repeat get_elem_tactic_trivial
    refine ws_par ?_
    repeat get_elem_tactic_trivial
    exists first, s3, f0, f1
    refine op_lenZ (stTx.line (by decide)) ?_
    have stl := stTx.le
    repeat get_elem_tactic_trivial
    refine take_ok ht (by omega) (log_small (by omega) (by omega)) fun a s4 a0 a1 => ?_
    repeat get_elem_tactic_trivial
    refine ws_for ?_
    refine wi_rng1 ?_
    repeat get_elem_tactic_trivial
    refine And.intro ⟨by omega, by omega⟩ ?_
    refine ⟨m, by simp [Wk.size], fun i env => ∃ (ys : List Str) (o5 o8 : Option SV), env = [some (1000, fd s4), some (0, .int m), some (0, .str abZ), some (0, .str st), some (1000, .lst (ys.map .str)), o5, some (0, .int first), some (0, .int a), o8] ∧ ys.length = i ∧
      ∀ (j : Nat) z, ys[j]? = some z → NameOk z ∧ z.cps.toList[a.toNat]? = abZ.cps.toList[((first + 5 * (j : Nat)) % 26).toNat]?, ⟨[], _, _, rfl, rfl, fun j z h => by simp at h⟩, ?_, ?_⟩
    · rintro i env hi ⟨ys, o5, o8, rfl, rfl, hy⟩
      refine ⟨_, [some (1000, fd s4), some (0, .int m), some (0, .str abZ), some (0, .str st), some (1000, .lst (ys.map .str)), some (0, .int (0 + (ys.length : Nat) * 1)), some (0, .int first), some (0, .int a), o8], rfl, rfl, ?_⟩
      have ek : (0 : Int) + (ys.length : Nat) * 1 = (ys.length : Nat) := by omega
      rw [ek]
      generalize hk : ys.length = k at hi
      have last : ∀ (z : Str) {K : Ko}, NameOk z → z.cps.toList[a.toNat]? = abZ.cps.toList[((first + 5 * (k : Nat)) % 26).toNat]? →
          (∀ e, (∃ (ys : List Str) (o5 o8 : Option SV), e = [some (1000, fd s4), some (0, .int m), some (0, .str abZ), some (0, .str st), some (1000, .lst (ys.map .str)), o5, some (0, .int first), some (0, .int a), o8] ∧ ys.length = k + 1 ∧
            ∀ (j : Nat) z, ys[j]? = some z → NameOk z ∧ z.cps.toList[a.toNat]? = abZ.cps.toList[((first + 5 * (j : Nat)) % 26).toNat]?) → K.nx e) →
          WB (evC G (n + 1)) [.exp (.mut 4 .append [.var 8])] ((Wk.rng 0 1 ((m : Int)).toNat).slots ++ [0]) [some (1000, fd s4), some (0, .int m), some (0, .str abZ), some (0, .str st), some (1000, .lst (ys.map .str)), some (0, .int k), some (0, .int first), some (0, .int a), some (0, .str z)] K := by
        intro z K hz hza hK
        repeat get_elem_tactic_trivial
        refine mut_app (by rw [List.length_map, sizeLine_eq]; omega) rfl ?_
        repeat get_elem_tactic_trivial
        refine hK _ ⟨ys ++ [z], _, _, by rw [List.map_append]; rfl, by simp [hk], fun j y hj => ?_⟩
        rcases Nat.lt_or_ge j ys.length with h1 | h1
        · rw [List.getElem?_append_left h1] at hj
          exact hy j y hj
        · rw [List.getElem?_append_right h1] at hj
          have : j - ys.length = 0 := by
            rcases Nat.eq_zero_or_pos (j - ys.length) with h2 | h2
            · exact h2
            · rw [List.getElem?_eq_none (by simp; omega)] at hj; cases hj
          have ej : j = k := by omega
          subst ej
          rw [this] at hj
          cases hj
          exact ⟨hz, hza⟩
      have mid : ∀ (z : Str) {K : Ko}, Lo z → 1 ≤ z.length → z.length ≤ 7 → z.cps.toList[a.toNat]? = abZ.cps.toList[((first + 5 * (k : Nat)) % 26).toNat]? → a.toNat < z.cps.toList.length →
          (∀ e, (∃ (ys : List Str) (o5 o8 : Option SV), e = [some (1000, fd s4), some (0, .int m), some (0, .str abZ), some (0, .str st), some (1000, .lst (ys.map .str)), o5, some (0, .int first), some (0, .int a), o8] ∧ ys.length = k + 1 ∧
            ∀ (j : Nat) z, ys[j]? = some z → NameOk z ∧ z.cps.toList[a.toNat]? = abZ.cps.toList[((first + 5 * (j : Nat)) % 26).toNat]?) → K.nx e) →
          WB (evC G (n + 1)) [.ite (.cmp .isin (.var 8) (.tupd [.cst (.str "min"), .cst (.str "max"), .cst (.str "rest"), .cst (.str "less"), .cst (.str "if")])) [.set 8 (.op .add [.var 8, .cst (.str "w")])] [],
            .exp (.mut 4 .append [.var 8])] ((Wk.rng 0 1 ((m : Int)).toNat).slots ++ [0]) [some (1000, fd s4), some (0, .int m), some (0, .str abZ), some (0, .str st), some (1000, .lst (ys.map .str)), some (0, .int k), some (0, .int first), some (0, .int a), some (0, .str z)] K := by
        intro z K hz hz1 hz2 hza hzl hK
        have tz : Tx 7 z := hz.tx hz2
        repeat get_elem_tactic_trivial
        refine in_wdsZ tz ?_
        repeat get_elem_tactic_trivial
        refine and_dec (fun h3 => ?_) (fun h3 => ?_)
        · repeat get_elem_tactic_trivial
          refine op_addX (k2 := 100) tz (lit (by decide +kernel)) (by decide) fun ha => ?_
          refine ⟨_, _, rfl, rfl, wb_nil ?_⟩
          refine last (z ++ ("w" : Str)) ⟨?_, ?_, hz.app Lo.w⟩ ?_ hK
          · have e1 : (z ++ ("w" : Str)).length = z.length + 1 := by rw [len_list, app_list, List.length_append, ← len_list]; rfl
            omega
          · simp only [wdsZ, List.mem_cons, List.not_mem_nil, or_false] at h3
            rcases h3 with rfl | rfl | rfl | rfl | rfl <;> decide +kernel
          · rw [app_list, List.getElem?_append_left hzl]
            exact hza
        · refine wb_nil ?_
          exact last z ⟨⟨hz1, by omega⟩, h3, hz⟩ hza hK
      have hci : ((first + 5 * (k : Nat)) % 26).toNat < 26 := by omega
      obtain ⟨c, c1, c2⟩ := at_mem (l := abZ.cps.toList) (a := (first + 5 * (k : Nat)) % 26) (by omega) (by rw [abZ_len]; omega)
      have hc := List.mem_of_getElem? c2
      have ct := cut_to (z := st) a0
      have cf := cut_from (z := st) a0 (by omega)
      have cl : Lo (L2.cutS st none (some a)) := fun d hd => by rw [ct] at hd; exact stLo d (List.mem_of_mem_take hd)
      have cl2 : Lo (L2.cutS st (some a) none) := fun d hd => by rw [cf] at hd; exact stLo d (List.mem_of_mem_drop hd)
      repeat get_elem_tactic_trivial
      refine op_slB (stTx.line (by decide)) ?_
      repeat get_elem_tactic_trivial
      refine op_ixZ (k := c) (by rw [sizeLine_eq]; decide +kernel) c1 ?_
      repeat get_elem_tactic_trivial
      refine op_addX stTx.cut (Tx.one (abZ_lo c hc)) (by decide) fun ha => ?_
      repeat get_elem_tactic_trivial
      refine op_slA (stTx.line (by decide)) ?_
      repeat get_elem_tactic_trivial
      refine op_addX ha stTx.cut (by decide) fun hb => ?_
      have lo0 : Lo (L2.cutS st none (some a) ++ ⟨#[c]⟩ ++ L2.cutS st (some a) none) := (cl.app (Lo.one hc)).app cl2
      have ls0 : (L2.cutS st none (some a) ++ ⟨#[c]⟩ ++ L2.cutS st (some a) none).cps.toList = st.cps.toList.take a.toNat ++ (c :: st.cps.toList.drop a.toNat) := by
        rw [app_list, app_list, ct, cf, List.append_assoc]
        rfl
      have sl2 : st.length = st.cps.toList.length := len_list
      have tl : (st.cps.toList.take a.toNat).length = a.toNat := by rw [List.length_take]; omega
      have ln0 : (L2.cutS st none (some a) ++ ⟨#[c]⟩ ++ L2.cutS st (some a) none).length = st.length + 1 := by
        rw [len_list, ls0, List.length_append, List.length_cons, List.length_drop, tl]
        omega
      have at0 : (L2.cutS st none (some a) ++ ⟨#[c]⟩ ++ L2.cutS st (some a) none).cps.toList[a.toNat]? = abZ.cps.toList[((first + 5 * (k : Nat)) % 26).toNat]? := by
        rw [ls0, List.getElem?_append_right (by omega), tl, Nat.sub_self, c2]
        rfl
      have le0 : a.toNat < (L2.cutS st none (some a) ++ ⟨#[c]⟩ ++ L2.cutS st (some a) none).cps.toList.length := by rw [← len_list, ln0]; omega
      generalize L2.cutS st none (some a) ++ ⟨#[c]⟩ ++ L2.cutS st (some a) none = z at lo0 ln0 at0 le0
      clear hb ls0 ha
      repeat get_elem_tactic_trivial
      refine and_dec (fun h3 => ?_) (fun h3 => ?_)
      · repeat get_elem_tactic_trivial
        refine op_addX (k1 := 6) (k2 := 100) (lo0.tx (by omega)) (lit (by decide +kernel)) (by decide) fun ha => ?_
        have e1 : (z ++ ("q" : Str)).length = z.length + 1 := by rw [len_list, app_list, List.length_append, ← len_list]; rfl
        refine ⟨_, _, rfl, rfl, wb_nil ?_⟩
        refine mid (z ++ ("q" : Str)) (lo0.app Lo.q) (by omega) (by omega) ?_ (by rw [app_list, List.length_append]; omega) fun e he => ⟨by simp [Wk.size], he⟩
        rw [app_list, List.getElem?_append_left le0]
        exact at0
      · refine wb_nil ?_
        exact mid z lo0 (by omega) (by omega) at0 le0 fun e he => ⟨by simp [Wk.size], he⟩
    · rintro env ⟨ys, o5, o8, rfl, hl, hy⟩ _
      repeat get_elem_tactic_trivial
      refine h ys s4 hl (names_nodup (at_ := a.toNat) f0 (by omega) fun j z hz => (hy j z hz).2) fun y hy2 => ?_
      obtain ⟨j, hj⟩ := List.getElem?_of_mem hy2
      exact (hy j y hj).1
end Ck

set_option Elab.async false
set_option linter.all false
set_option maxRecDepth 100000
/-! Ck38: reads drawn: free ones, late ones. -/
namespace Ck
open PySem
local macro_rules
  | `(tactic| get_elem_tactic_trivial) => `(tactic| first
    | (with_reducible first
        | refine wb_cons ?_
        | refine wb_nil ?_
        | refine ws_set ?_
        | refine ws_ret ?_
        | refine ws_exp ?_
        | refine ws_setT ?_
        | refine ws_setIx ?_
        | refine ws_setSl ?_
        | refine ws_ite ?_
        | (apply ws_aug; with_unfolding_all rfl)
        | refine w_cst ?_
        | refine w_glo ?_
        | (apply w_varS; with_unfolding_all rfl)
        | refine sl_zero ?_
        | (apply sl_flat; with_unfolding_all rfl)
        | (apply sl_own; with_unfolding_all rfl; with_unfolding_all rfl)
        | refine w_op ?_
        | refine w_tupd ?_
        | refine w_lstd ?_
        | refine w_call ?_
        | (apply w_mut; with_unfolding_all rfl; with_unfolding_all rfl)
        | refine w_slc ?_
        | refine w_met ?_
        | refine wl_cons ?_
        | refine wl_nil ?_
        | refine wt_cmp ?_
        | refine wt_conj ?_
        | refine wt_disj ?_
        | refine wt_not ?_
        | refine wt_isn ?_
        | refine rr_fr ?_
        | (apply rr_sl; with_unfolding_all rfl)
        | refine op_lenS ?_
        | refine op_lenL ?_
        | refine op_lenT ?_
        | refine op_add ?_
        | refine op_sub ?_
        | refine op_lt ?_
        | refine op_le ?_
        | refine op_gt ?_
        | refine op_ge ?_
        | refine op_eq eqv_int ?_
        | refine op_ne eqv_int ?_
        | refine op_min2 ?_
        | refine op_max2 ?_
        | refine op_neg ?_
        | refine op_not ?_
        | refine op_int1b ?_
        | refine op_isInt ?_
        | refine op_isTup ?_
        | refine op_isLst ?_
        | refine op_isStr ?_
        | refine op_isBool ?_
        | (apply op_mod; (first | assumption | decide))
        | (apply op_fdiv; (first | assumption | decide); (first | assumption | decide))
        | (refine op_mul (.inl ?_) ?_; decide)
        | (refine op_mul (.inr ?_) ?_; decide)
        | (apply op_pow; decide; decide; decide)
        | refine op_ixL0 ?_
        | refine op_ixT0 ?_
        | (apply op_ixO0; with_unfolding_all rfl)
        | refine op_ixL1 ?_
        | refine op_ixT1 ?_
        | (apply op_ixO1; with_unfolding_all rfl)
        | refine op_ixL2 ?_
        | refine op_ixT2 ?_
        | (apply op_ixO2; with_unfolding_all rfl)
        | refine op_ixL3 ?_
        | refine op_ixT3 ?_
        | (apply op_ixO3; with_unfolding_all rfl)
        | (apply and_eq; with_unfolding_all rfl)
        | (apply ex_pair; with_unfolding_all rfl)
        | (apply ex_some; with_unfolding_all rfl)
        | (apply ex_bl; with_unfolding_all rfl)
        | (apply ex_int; with_unfolding_all rfl)
        | (apply ex_ix; with_unfolding_all rfl; with_unfolding_all rfl; with_unfolding_all rfl)
        | (apply ex_two; with_unfolding_all rfl)
        | refine and_t ?_
        | refine and_f ?_
        | refine and_nt ?_
        | refine and_nf ?_)
    | dsimp only [backIn, hideL, lent, lentK, getD_z, getD_s, set_z, set_s, map_c, map_n, app_c, app_n, rep_s, rep_z])
local macro_rules
  | `(tactic| exists $d, $s, $h0, $h1) => `(tactic| (refine take_ok (by assumption) (by decide) (by decide) fun $d $s $h0 $h1 => ?_; repeat get_elem_tactic_trivial))
abbrev Lk := List (Int × List Int)
def rdD (p : Int × List Int) : D := .tup [.int p.1, .tup (p.2.map .int)]
def lkD (l : Lk) : D := .lst (l.map rdD)
def looksD (L : List Lk) : D := .lst (L.map lkD)
def LooksOk (w : Int) (m : Nat) (B : Nat) (L : List Lk) : Prop := L.length = m ∧ ∀ l ∈ L, l.length ≤ B ∧ ∀ p ∈ l, 0 ≤ p.1 ∧ p.1 < m ∧ RowOk w p.2
theorem LooksOk.set {w : Int} {m B : Nat} {L : List Lk} (h : LooksOk w m B L) {k : Nat} {l' : Lk} (hl : l'.length ≤ B + 1) (hp : ∀ p ∈ l', 0 ≤ p.1 ∧ p.1 < m ∧ RowOk w p.2) : LooksOk w m (B + 1) (L.set k l') := by
  refine ⟨by rw [List.length_set]; exact h.1, fun l hl2 => ?_⟩
  rcases List.mem_or_eq_of_mem_set hl2 with hl2 | rfl
  · exact ⟨Nat.le_succ_of_le (h.2 l hl2).1, (h.2 l hl2).2⟩
  · exact ⟨hl, hp⟩
theorem LooksOk.mono {w : Int} {m B B' : Nat} {L : List Lk} (h : LooksOk w m B L) (hb : B ≤ B') : LooksOk w m B' L := ⟨h.1, fun l hl => ⟨Nat.le_trans (h.2 l hl).1 hb, (h.2 l hl).2⟩⟩
theorem rd_flat (p : Int × List Int) : (rdD p).isC = false := rfl
theorem w_look {c : Cal} {env : Env} {P : R → Env → Prop} {i : Nat} {j e : E} {sv0 : SV} (g : getS env i = some sv0)
    (h : WE c j env fun rj env1 => ∃ L nj k, getS env1 i = some (1000, looksD L) ∧ rj = ⟨.fr, nj, .int k⟩ ∧ 0 ≤ k ∧ k < L.length ∧ (∀ l ∈ L, l.length ≤ 1000) ∧ WE c e (env1.set i none) fun r env2 => ∃ p, r = ⟨.fr, 0, rdD p⟩ ∧ getS env2 i = none ∧
      ∀ l, L[k.toNat]? = some l → P ⟨.fr, 0, .non⟩ (env2.set i (some (1000, looksD (L.set k.toNat (l ++ [p])))))) : WE c (.mutI i j .append [e]) env P := by
  refine w_mutI g ?_
  obtain ⟨rj, env1, h1, L, nj, k, h2, h3, k0, k1, hl, h4⟩ := h
  obtain ⟨l, e1, e2⟩ := ix_mem k0 k1
  refine ⟨rj, env1, h1, 1000, L.map lkD, nj, k, lkD l, k.toNat, h2, h3, at_map k0 e1, by rw [List.length_map]; exact ixN_of k0 k1, ?_⟩
  refine wl_cons ?_
  obtain ⟨r, env2, h5, p, rfl, h6, h7⟩ := h4
  refine ⟨_, env2, h5, rfl, wl_nil ⟨_, rfl, [(0, rdD p)], env2, rfl, (999, lkD (l ++ [p])), (0, .non), ?_, h6, ?_⟩⟩
  · show mutF .append 999 (.lst (l.map rdD)) [(0, rdD p)] = _
    unfold mutF
    rw [if_neg (by decide)]
    simp only
    rw [if_pos (by rw [List.length_map, sizeLine_eq]; have := hl l e2; omega)]
    show some ((min 999 1000, D.lst (l.map rdD ++ [rdD p])), _) = _
    rw [lkD, List.map_append]
    rfl
  · have := h7 l e1
    rw [looksD, List.map_set] at this
    exact this
theorem w_lookI {c : Cal} {env : Env} {P : R → Env → Prop} {i : Nat} {j e : E} {sv0 : SV} (g : getS env i = some sv0)
    (h : WE c j env fun rj env1 => ∃ L nj k, getS env1 i = some (1000, looksD L) ∧ rj = ⟨.fr, nj, .int k⟩ ∧ 0 ≤ k ∧ k < L.length ∧ (∀ l ∈ L, l.length ≤ 1000) ∧ WE c e (env1.set i none) fun r env2 => ∃ p, r = ⟨.fr, 0, rdD p⟩ ∧ getS env2 i = none ∧
      ∀ l, L[k.toNat]? = some l → P ⟨.fr, 0, .non⟩ (env2.set i (some (1000, looksD (L.set k.toNat (p :: l)))))) : WE c (.mutI i j .insert [.cst (.int 0), e]) env P := by
  refine w_mutI g ?_
  obtain ⟨rj, env1, h1, L, nj, k, h2, h3, k0, k1, hl, h4⟩ := h
  obtain ⟨l, e1, e2⟩ := ix_mem k0 k1
  refine ⟨rj, env1, h1, 1000, L.map lkD, nj, k, lkD l, k.toNat, h2, h3, at_map k0 e1, by rw [List.length_map]; exact ixN_of k0 k1, ?_⟩
  refine wl_cons (w_cst ⟨rfl, wl_cons ?_⟩)
  obtain ⟨r, env2, h5, p, rfl, h6, h7⟩ := h4
  refine ⟨_, env2, h5, rfl, wl_nil ⟨_, rfl, _, rfl, [(0, .int 0), (0, rdD p)], env2, rfl, (999, lkD (p :: l)), (0, .non), ?_, h6, ?_⟩⟩
  · show mutF .insert 999 (.lst (l.map rdD)) [(0, .int 0), (0, rdD p)] = _
    unfold mutF
    rw [if_neg (by decide)]
    simp only
    rw [if_pos ⟨by rw [List.length_map, sizeLine_eq]; have := hl l e2; omega, by decide, by decide⟩]
    rfl
  · have := h7 l e1
    rw [looksD, List.map_set] at this
    exact this
theorem op_addL {q : R → Prop} {s s' : Src} {n n' : Nat} {a b : List D} (ha : a.all (fun d => !d.isC) = true) (hb : b.all (fun d => !d.isC) = true) (hl : a.length + b.length ≤ 16777216) (h : q ⟨.fr, 1, .lst (a ++ b)⟩) : OP .add [⟨s, n, .lst a⟩, ⟨s', n', .lst b⟩] q :=
  op_genM (d := .lst (a ++ b)) (by simp only [List.all_cons, List.all_nil, R.shal, D.shalD, ha, hb]; simp) rfl (by
    show addD [.lst _, .lst _] = _
    simp only [addD]
    rw [if_pos (by rw [sizeLine_eq]; exact hl)]) h
theorem ints_flat (ns : List Int) : (ns.map D.int).all (fun d => !d.isC) = true := by simp [D.isC]
def B_back_row (t_take : Nat) : List S :=
  [.set 2 (.call t_take [.var 0, .var 1]),
  .set 3 (.comp (.op .ix [.lstd [.cst (.int 0), .cst (.int 1), .op .sub [.cst (.int 0), .cst (.int 1)], .cst (.int 2), .op .sub [.cst (.int 0), .cst (.int 2)]], .call t_take [.var 0, .cst (.int 5)]]) (.nm 4) (.rng2 (.op .add [.var 2, .cst (.int 1)]) (.var 1)) (.tt) [4]),
  .ret (.op .tupleOf [.op .add [.op .add [.op .mul [.lstd [.cst (.int 0)], .var 2], .lstd [.op .sub [.op .sub [.cst (.int 0), .cst (.int 1)], .call t_take [.var 0, .cst (.int 2)]]]], .var 3]])]
theorem back_row_ok {G : Gt} {n f t : Nat} (hg : G[f]? = some ⟨2, 5, B_back_row t⟩) (ht : G[t]? = some ⟨2, 4, tkB⟩) {s : Int × Int} {w : Int} (h1 : 1 ≤ w) (h2 : w ≤ 1000) {Q : SV → List SV → Prop} (h : ∀ (ns : List Int) s', RowOk w ns → Q (0, .tup (ns.map .int)) [(1000, fd s'), (0, .int w)]) :
    CPS (evC G (n + 2)) f [(1000, fd s), (0, .int w)] [0] Q := by
  refine w_body hg rfl ?_
  unfold B_back_row
  show WB _ _ _ [some (1000, fd s), some (0, .int w), none, none, none] _
  repeat get_elem_tactic_trivial
  refine take_ok ht (by omega) (log_small (by omega) (by omega)) fun a s1 a0 a1 => ?_
  repeat get_elem_tactic_trivial
  refine w_comp ?_
  refine wi_rng2 ?_
  repeat get_elem_tactic_trivial
  refine ⟨⟨by omega, by omega, by omega, by omega⟩, ?_⟩
  refine ⟨(w - (a + 1)).toNat, rfl, rfl, fun i env acc => ∃ (s' : Int × Int) (ns : List Int), env = [some (1000, fd s'), some (0, .int w), some (0, .int a), none, none] ∧ acc = ns.map (fun z => (0, D.int z)) ∧ ns.length = i ∧ ∀ x ∈ ns, -4 ≤ x ∧ x ≤ 4, ⟨s1, [], rfl, rfl, rfl, fun _ h => nomatch h⟩, ?_, ?_⟩
  · rintro i env acc hi ⟨s2, ns, rfl, rfl, rfl, hb⟩
    refine ⟨_, [some (1000, fd s2), some (0, .int w), some (0, .int a), none, some (0, .int (a + 1 + (ns.length : Nat) * 1))], rfl, rfl, wt_tt ⟨(fun h => nomatch h), fun _ => ?_⟩⟩
    repeat get_elem_tactic_trivial
    exists e, s3, e0, e1
    obtain ⟨z, z1, z2, z3⟩ := five_at e0 e1
    refine op_ixL z1 ?_
    repeat get_elem_tactic_trivial
    refine And.intro ?_ (And.intro rfl ⟨s3, ns ++ [z], rfl, by simp, by simp, fun x hx => ?_⟩)
    · rw [List.length_map, sizeLine_eq]
      omega
    · rcases List.mem_append.mp hx with hx | hx
      · exact hb x hx
      · rw [List.mem_singleton] at hx
        omega
  · rintro env acc ⟨s2, ns, rfl, rfl, hl, hb⟩
    rw [dep_flat (f := D.int) (fun _ => rfl)]
    have em : (ns.map (fun z => ((0, D.int z) : SV))).map (·.2) = ns.map D.int := by rw [List.map_map]; rfl
    rw [em]
    repeat get_elem_tactic_trivial
    refine op_zerosL (by omega) (by omega) ?_
    repeat get_elem_tactic_trivial
    exists d, s3, d0, d1
    have e1 : [D.int (0 - 1 - d)] = [0 - 1 - d].map D.int := rfl
    rw [e1]
    refine op_addL (ints_flat _) (ints_flat _) (by simp; omega) ?_
    rw [← List.map_append]
    repeat get_elem_tactic_trivial
    refine op_addL (ints_flat _) (ints_flat _) (by simp; omega) ?_
    rw [← List.map_append]
    repeat get_elem_tactic_trivial
    refine op_tupleOfF ?_
    repeat get_elem_tactic_trivial
    refine h _ s3 ⟨by simp; omega, fun x hx => ?_⟩
    rcases List.mem_append.mp hx with hx | hx
    · rcases List.mem_append.mp hx with hx | hx
      · rw [List.mem_replicate] at hx; omega
      · rw [List.mem_singleton] at hx; omega
    · exact hb x hx
/-- empty lists, one by one -/
theorem looks0 {c : Cal} {x : Nat} {mE : E} {m : Nat} {env : Env} {P : R → Env → Prop} (hm : m ≤ 1000) (hv : ∀ {P : R → Env → Prop}, P ⟨.fr, 0, .int m⟩ env → WE c mE env P) (hx : x < env.length) (hn : getS env x = none)
    (h : P ⟨.fr, 1000, looksD (List.replicate m [])⟩ env) : WE c (.comp (.lstd []) (.nm x) (.rng1 mE) .tt [x]) env P := by
  have hset : env.set x none = env := by
    refine List.ext_getElem? fun i => ?_
    rw [List.getElem?_set]
    split
    · rename_i e; subst e
      unfold getS at hn
      have := List.getElem?_eq_getElem hx
      rw [this] at hn ⊢
      have hn : env[x] = none := hn
      rw [hn]
    · rfl
  refine w_comp (wi_rng1 (hv ⟨_, rfl, ⟨by omega, by omega⟩, m, by simp [Wk.size], ?_, fun i e acc => e = env ∧ acc = List.replicate i (1000, D.lst []), ⟨rfl, rfl⟩, ?_, ?_⟩))
  · show (asideB env x && true) = true
    unfold asideB
    rw [hn]
    rfl
  · rintro i e acc hi ⟨rfl, rfl⟩
    have hw : wipeE e [x] = e := hset
    rw [hw]
    refine ⟨.int (0 + (i : Nat) * 1), e.set x (some (0, .int (0 + (i : Nat) * 1))), rfl, ?_, wt_tt ⟨(fun h => nomatch h), fun _ => w_lstd (wl_nil ⟨[], _, rfl, rfl, ?_⟩)⟩⟩
    · simp only [setTg]
      rw [if_neg (by simp; exact hx)]
    · have hu : unwipe e (e.set x (some (0, .int (0 + (i : Nat) * 1)))) [x] = e := by
        show (e.set x _).set x ((getS e x).map _) = e
        rw [hn]
        simp only [Option.map_none, List.set_set]
        exact hset
      refine ⟨_, _, rfl, by rw [List.length_replicate, sizeLine_eq]; omega, by simp [Wk.size], hu, ?_⟩
      rw [List.replicate_succ']
      rfl
  · rintro e acc ⟨rfl, rfl⟩
    have e1 : depOf (List.replicate m ((1000, D.lst []) : SV)) = 1000 := by
      clear hm hv h
      induction m with
      | zero => rfl
      | succ m ih =>
        unfold depOf at ih ⊢
        rw [List.replicate_succ, List.foldr_cons, ih]
        rfl
    have e2 : D.lst ((List.replicate m ((1000, D.lst []) : SV)).map (·.2)) = looksD (List.replicate m []) := by
      rw [looksD, List.map_replicate, List.map_replicate]
      rfl
    rw [e1, e2]
    exact h
theorem looks0_ok {w : Int} {m : Nat} : LooksOk w m 0 (List.replicate m []) := ⟨List.length_replicate, fun l hl => by
  rw [List.mem_replicate] at hl
  rw [hl.2]
  exact ⟨Nat.le_refl _, fun _ h => nomatch h⟩⟩
def B_free_reads (t_take : Nat) (t_row : Nat) : List S :=
  [.set 3 (.comp (.lstd []) (.nm 4) (.rng1 (.var 2)) (.tt) [4]),
  .forS (.nm 4) (.rng1 (.var 2)) [.forS (.nm 5) (.rng1 (.call t_take [.var 0, .cst (.int 4)])) [.exp (.mutI 3 (.var 4) .append [.tupd [.call t_take [.var 0, .var 2], .call t_row [.var 0, .var 1]]])]],
  .ret (.var 3)]
theorem free_ok {G : Gt} {n f t r : Nat} (hg : G[f]? = some ⟨3, 6, B_free_reads t r⟩) (ht : G[t]? = some ⟨2, 4, tkB⟩) (hr : G[r]? = some ⟨2, 3, rwB t⟩) {s : Int × Int} {w : Int} {m : Nat} (h1 : 1 ≤ w) (h2 : w ≤ 1000) (m1 : 1 ≤ m) (m2 : m ≤ 10) {Q : SV → List SV → Prop}
    (h : ∀ (L : List Lk) s', LooksOk w m 100 L → Q (1000, looksD L) [(1000, fd s'), (0, .int w), (0, .int m)]) : CPS (evC G (n + 3)) f [(1000, fd s), (0, .int w), (0, .int m)] [0] Q := by
  refine w_body hg rfl ?_
  unfold B_free_reads
  show WB _ _ _ [some (1000, fd s), some (0, .int w), some (0, .int m), none, none, none] _
  refine wb_cons (ws_set (looks0 (m := m) (by omega) (fun h => w_varS rfl (sl_flat rfl h)) (by simp) rfl ?_))
  repeat get_elem_tactic_trivial
  refine ws_for (wi_rng1 ?_)
  repeat get_elem_tactic_trivial
  refine And.intro ⟨by omega, by omega⟩ ⟨m, by simp [Wk.size], fun i env => ∃ (s' : Int × Int) (L : List Lk) (o4 o5 : Option SV), env = [some (1000, fd s'), some (0, .int w), some (0, .int m), some (1000, looksD L), o4, o5] ∧ LooksOk w m (i * 4) L, ⟨s, _, none, none, rfl, looks0_ok⟩, ?_, ?_⟩
  · rintro i env hi ⟨s1, L, o4, o5, rfl, hL⟩
    refine ⟨_, [some (1000, fd s1), some (0, .int w), some (0, .int m), some (1000, looksD L), some (0, .int (0 + (i : Nat) * 1)), o5], rfl, rfl, ?_⟩
    repeat get_elem_tactic_trivial
    refine ws_for (wi_rng1 ?_)
    repeat get_elem_tactic_trivial
    exists d, s2, d0, d1
    refine And.intro ⟨by omega, by omega⟩ ⟨d.toNat, rfl, fun j env => ∃ (s' : Int × Int) (L : List Lk) (o5 : Option SV), env = [some (1000, fd s'), some (0, .int w), some (0, .int m), some (1000, looksD L), some (0, .int (0 + (i : Nat) * 1)), o5] ∧ LooksOk w m (i * 4 + j) L, ⟨s2, L, o5, rfl, hL⟩, ?_, ?_⟩
    · rintro j env hj ⟨s3, L, o5, rfl, hL⟩
      refine ⟨_, [some (1000, fd s3), some (0, .int w), some (0, .int m), some (1000, looksD L), some (0, .int (0 + (i : Nat) * 1)), some (0, .int (0 + (j : Nat) * 1))], rfl, rfl, ?_⟩
      repeat get_elem_tactic_trivial
      refine w_look rfl ?_
      repeat get_elem_tactic_trivial
      refine ⟨L, _, _, rfl, rfl, by omega, by have := hL.1; omega, fun l hl => by have := (hL.2 l hl).1; omega, ?_⟩
      repeat get_elem_tactic_trivial
      refine take_ok ht (by omega) (log_small (by omega) (by omega)) fun o s4 o0 o1 => ?_
      repeat get_elem_tactic_trivial
      refine row_ok' hr ht h1 h2 fun ns s5 hns => ?_
      repeat get_elem_tactic_trivial
      refine ⟨(o, ns), rfl, rfl, fun l hl => ?_⟩
      repeat get_elem_tactic_trivial
      have hl2 := hL.2 l (List.mem_of_getElem? hl)
      refine ⟨s5, _, _, rfl, hL.set (by rw [List.length_append, List.length_singleton]; omega) fun p hp => ?_⟩
      rcases List.mem_append.mp hp with hp | hp
      · exact hl2.2 p hp
      · rw [List.mem_singleton] at hp
        rw [hp]
        exact ⟨o0, o1, hns⟩
    · rintro env ⟨s3, L, o5, rfl, hL⟩ _
      repeat get_elem_tactic_trivial
      exact ⟨s3, L, _, _, rfl, hL.mono (by omega)⟩
  · rintro env ⟨s3, L, o4, o5, rfl, hL⟩ _
    repeat get_elem_tactic_trivial
    exact h L s3 (hL.mono (by omega))
end Ck

set_option Elab.async false
set_option linter.all false
set_option maxRecDepth 100000
/-! Ck39: reads drawn: late ones, opposed ones, rings. -/
namespace Ck
open PySem
local macro_rules
  | `(tactic| get_elem_tactic_trivial) => `(tactic| first
    | (with_reducible first
        | refine wb_cons ?_
        | refine wb_nil ?_
        | refine ws_set ?_
        | refine ws_ret ?_
        | refine ws_exp ?_
        | refine ws_setT ?_
        | refine ws_setIx ?_
        | refine ws_setSl ?_
        | refine ws_ite ?_
        | (apply ws_aug; with_unfolding_all rfl)
        | refine w_cst ?_
        | refine w_glo ?_
        | (apply w_varS; with_unfolding_all rfl)
        | refine sl_zero ?_
        | (apply sl_flat; with_unfolding_all rfl)
        | (apply sl_own; with_unfolding_all rfl; with_unfolding_all rfl)
        | refine w_op ?_
        | refine w_tupd ?_
        | refine w_lstd ?_
        | refine w_call ?_
        | (apply w_mut; with_unfolding_all rfl; with_unfolding_all rfl)
        | refine w_slc ?_
        | refine w_met ?_
        | refine wl_cons ?_
        | refine wl_nil ?_
        | refine wt_cmp ?_
        | refine wt_conj ?_
        | refine wt_disj ?_
        | refine wt_not ?_
        | refine wt_isn ?_
        | refine rr_fr ?_
        | (apply rr_sl; with_unfolding_all rfl)
        | refine op_lenS ?_
        | refine op_lenL ?_
        | refine op_lenT ?_
        | refine op_add ?_
        | refine op_sub ?_
        | refine op_lt ?_
        | refine op_le ?_
        | refine op_gt ?_
        | refine op_ge ?_
        | refine op_eq eqv_int ?_
        | refine op_ne eqv_int ?_
        | refine op_min2 ?_
        | refine op_max2 ?_
        | refine op_neg ?_
        | refine op_not ?_
        | refine op_int1b ?_
        | refine op_isInt ?_
        | refine op_isTup ?_
        | refine op_isLst ?_
        | refine op_isStr ?_
        | refine op_isBool ?_
        | (apply op_mod; (first | assumption | decide))
        | (apply op_fdiv; (first | assumption | decide); (first | assumption | decide))
        | (refine op_mul (.inl ?_) ?_; decide)
        | (refine op_mul (.inr ?_) ?_; decide)
        | (apply op_pow; decide; decide; decide)
        | refine op_ixL0 ?_
        | refine op_ixT0 ?_
        | (apply op_ixO0; with_unfolding_all rfl)
        | refine op_ixL1 ?_
        | refine op_ixT1 ?_
        | (apply op_ixO1; with_unfolding_all rfl)
        | refine op_ixL2 ?_
        | refine op_ixT2 ?_
        | (apply op_ixO2; with_unfolding_all rfl)
        | refine op_ixL3 ?_
        | refine op_ixT3 ?_
        | (apply op_ixO3; with_unfolding_all rfl)
        | (apply and_eq; with_unfolding_all rfl)
        | (apply ex_pair; with_unfolding_all rfl)
        | (apply ex_some; with_unfolding_all rfl)
        | (apply ex_bl; with_unfolding_all rfl)
        | (apply ex_int; with_unfolding_all rfl)
        | (apply ex_ix; with_unfolding_all rfl; with_unfolding_all rfl; with_unfolding_all rfl)
        | (apply ex_two; with_unfolding_all rfl)
        | refine and_t ?_
        | refine and_f ?_
        | refine and_nt ?_
        | refine and_nf ?_)
    | dsimp only [backIn, hideL, lent, lentK, getD_z, getD_s, set_z, set_s, map_c, map_n, app_c, app_n, rep_s, rep_z])
local macro_rules
  | `(tactic| exists $d, $s, $h0, $h1) => `(tactic| (refine take_ok (by assumption) (by decide) (by decide) fun $d $s $h0 $h1 => ?_; repeat get_elem_tactic_trivial))
def B_late_reads (t_take : Nat) (t_back_row : Nat) : List S :=
  [.set 3 (.comp (.lstd []) (.nm 4) (.rng1 (.var 2)) (.tt) [4]),
  .forS (.nm 4) (.rng1 (.var 2)) [.forS (.nm 5) (.rng1 (.op .add [.cst (.int 1), .call t_take [.var 0, .cst (.int 3)]])) [.ite (.conj (.cmp .gt (.var 4) (.cst (.int 0))) (.cmp .eq (.call t_take [.var 0, .cst (.int 4)]) (.cst (.int 0)))) [.exp (.mutI 3 (.var 4) .append [.tupd [.call t_take [.var 0, .var 4], .op .mul [.tupd [.cst (.int 0)], .var 1]]])] [.exp (.mutI 3 (.var 4) .append [.tupd [.call t_take [.var 0, .var 2], .call t_back_row [.var 0, .var 1]]])]]],
  .ret (.var 3)]
theorem late_ok {G : Gt} {n f t r : Nat} (hg : G[f]? = some ⟨3, 6, B_late_reads t r⟩) (ht : G[t]? = some ⟨2, 4, tkB⟩) (hr : G[r]? = some ⟨2, 5, B_back_row t⟩) {s : Int × Int} {w : Int} {m : Nat} (h1 : 1 ≤ w) (h2 : w ≤ 1000) (m1 : 1 ≤ m) (m2 : m ≤ 10) {Q : SV → List SV → Prop}
    (h : ∀ (L : List Lk) s', LooksOk w m 100 L → Q (1000, looksD L) [(1000, fd s'), (0, .int w), (0, .int m)]) : CPS (evC G (n + 3)) f [(1000, fd s), (0, .int w), (0, .int m)] [0] Q := by
  refine w_body hg rfl ?_
  unfold B_late_reads
  show WB _ _ _ [some (1000, fd s), some (0, .int w), some (0, .int m), none, none, none] _
  refine wb_cons (ws_set (looks0 (m := m) (by omega) (fun h => w_varS rfl (sl_flat rfl h)) (by simp) rfl ?_))
  repeat get_elem_tactic_trivial
  refine ws_for (wi_rng1 ?_)
  repeat get_elem_tactic_trivial
  refine And.intro ⟨by omega, by omega⟩ ⟨m, by simp [Wk.size], fun i env => ∃ (s' : Int × Int) (L : List Lk) (o4 o5 : Option SV), env = [some (1000, fd s'), some (0, .int w), some (0, .int m), some (1000, looksD L), o4, o5] ∧ LooksOk w m (i * 4) L, ⟨s, _, none, none, rfl, looks0_ok⟩, ?_, ?_⟩
  · rintro i env hi ⟨s1, L, o4, o5, rfl, hL⟩
    refine ⟨_, [some (1000, fd s1), some (0, .int w), some (0, .int m), some (1000, looksD L), some (0, .int (0 + (i : Nat) * 1)), o5], rfl, rfl, ?_⟩
    repeat get_elem_tactic_trivial
    refine ws_for (wi_rng1 ?_)
    repeat get_elem_tactic_trivial
    exists d, s2, d0, d1
    refine And.intro ⟨by omega, by omega⟩ ⟨(1 + d).toNat, rfl, fun j env => ∃ (s' : Int × Int) (L : List Lk) (o5 : Option SV), env = [some (1000, fd s'), some (0, .int w), some (0, .int m), some (1000, looksD L), some (0, .int (0 + (i : Nat) * 1)), o5] ∧ LooksOk w m (i * 4 + j) L, ⟨s2, L, o5, rfl, hL⟩, ?_, ?_⟩
    · rintro j env hj ⟨s3, L, o5, rfl, hL⟩
      refine ⟨_, [some (1000, fd s3), some (0, .int w), some (0, .int m), some (1000, looksD L), some (0, .int (0 + (i : Nat) * 1)), some (0, .int (0 + (j : Nat) * 1))], rfl, rfl, ?_⟩
      have other : ∀ {s3 : Int × Int} {K : Ko}, (∀ e, (∃ (s' : Int × Int) (L : List Lk) (o5 : Option SV), e = [some (1000, fd s'), some (0, .int w), some (0, .int m), some (1000, looksD L), some (0, .int (0 + (i : Nat) * 1)), o5] ∧ LooksOk w m (i * 4 + (j + 1)) L) → K.nx e) →
          ∀ pin, WB (evC G (n + 2)) [.exp (.mutI 3 (.var 4) .append [.tupd [.call t [.var 0, .var 2], .call r [.var 0, .var 1]]])] pin [some (1000, fd s3), some (0, .int w), some (0, .int m), some (1000, looksD L), some (0, .int (0 + (i : Nat) * 1)), some (0, .int (0 + (j : Nat) * 1))] K := by
        intro s3 K hK pin
        repeat get_elem_tactic_trivial
        refine w_look rfl ?_
        repeat get_elem_tactic_trivial
        refine ⟨L, _, _, rfl, rfl, by omega, by have := hL.1; omega, fun l hl => by have := (hL.2 l hl).1; omega, ?_⟩
        repeat get_elem_tactic_trivial
        refine take_ok ht (by omega) (log_small (by omega) (by omega)) fun o s4 o0 o1 => ?_
        repeat get_elem_tactic_trivial
        refine back_row_ok hr ht h1 h2 fun ns s5 hns => ?_
        repeat get_elem_tactic_trivial
        refine ⟨(o, ns), rfl, rfl, fun l hl => ?_⟩
        repeat get_elem_tactic_trivial
        have hl2 := hL.2 l (List.mem_of_getElem? hl)
        refine hK _ ⟨s5, _, _, rfl, hL.set (by rw [List.length_append, List.length_singleton]; omega) fun p hp => ?_⟩
        rcases List.mem_append.mp hp with hp | hp
        · exact hl2.2 p hp
        · rw [List.mem_singleton] at hp
          rw [hp]
          exact ⟨o0, o1, hns⟩
      repeat get_elem_tactic_trivial
      refine and_dec (fun h3 => ?_) (fun h3 => ?_)
      · repeat get_elem_tactic_trivial
        exists e, s4, e0, e1
        refine and_dec (fun h4 => ?_) (fun h4 => ?_)
        · repeat get_elem_tactic_trivial
          refine w_look rfl ?_
          repeat get_elem_tactic_trivial
          refine ⟨L, _, _, rfl, rfl, by omega, by have := hL.1; omega, fun l hl => by have := (hL.2 l hl).1; omega, ?_⟩
          repeat get_elem_tactic_trivial
          refine take_ok ht (by omega) (log_small (by omega) (by omega)) fun o s5 o0 o1 => ?_
          repeat get_elem_tactic_trivial
          refine op_zerosT h1 h2 ?_
          repeat get_elem_tactic_trivial
          refine ⟨(o, List.replicate w.toNat 0), rfl, rfl, fun l hl => ?_⟩
          repeat get_elem_tactic_trivial
          have hl2 := hL.2 l (List.mem_of_getElem? hl)
          refine ⟨s5, _, _, rfl, hL.set (by rw [List.length_append, List.length_singleton]; omega) fun p hp => ?_⟩
          rcases List.mem_append.mp hp with hp | hp
          · exact hl2.2 p hp
          · rw [List.mem_singleton] at hp
            rw [hp]
            exact ⟨o0, by simp only; omega, zeros_row (by omega)⟩
        · refine other (fun e he => ?_) _
          exact wb_nil ⟨rfl, he⟩
      · refine and_f ?_
        refine other (fun e he => ?_) _
        exact wb_nil ⟨rfl, he⟩
    · rintro env ⟨s3, L, o5, rfl, hL⟩ _
      repeat get_elem_tactic_trivial
      exact ⟨s3, L, _, _, rfl, hL.mono (by omega)⟩
  · rintro env ⟨s3, L, o4, o5, rfl, hL⟩ _
    repeat get_elem_tactic_trivial
    exact h L s3 (hL.mono (by omega))
/-- a list of whole numbers over a range, drawn -/
theorem comp_feed {c : Cal} {elt : E} {y : Nat} {s : Int × Int} {tl : Env} {w : Int} {P : R → Env → Prop} (C : Nat → Int → Prop) (hw : tl[0]? = some (some (0, .int w))) (w0 : 0 ≤ w) (w1 : w ≤ 1000) (hy : y < tl.length) (hn : getS tl y = none)
    (step : ∀ s i, i < w.toNat → ∀ {P' : R → Env → Prop}, (∀ s' z, C i z → P' ⟨.fr, 0, .int z⟩ (some (1000, fd s') :: tl.set y (some (0, .int (0 + (i : Nat) * 1))))) → WE c elt (some (1000, fd s) :: tl.set y (some (0, .int (0 + (i : Nat) * 1)))) P')
    (fin : ∀ (ns : List Int) s', (ns.length : Int) = w → (∀ (i : Nat) z, ns[i]? = some z → C i z) → P ⟨.fr, 1000, .lst (ns.map .int)⟩ (some (1000, fd s') :: tl)) :
    WE c (.comp elt (.nm (y + 1)) (.rng1 (.var 1)) .tt [y + 1]) (some (1000, fd s) :: tl) P := by
  have hset : tl.set y none = tl := by
    refine List.ext_getElem? fun i => ?_
    rw [List.getElem?_set]
    split
    · rename_i e; subst e
      unfold getS at hn
      have := List.getElem?_eq_getElem hy
      rw [this] at hn ⊢
      have hn : tl[y] = none := hn
      rw [hn]
    · rfl
  have g1 : getS (some (1000, fd s) :: tl) 1 = some (0, .int w) := by
    show ((some (1000, fd s) :: tl)[0 + 1]?).join = _
    rw [List.getElem?_cons_succ, hw]
    rfl
  have gn : ∀ s : Int × Int, getS (some (1000, fd s) :: tl) (y + 1) = none := fun s => hn
  refine w_comp (wi_rng1 (w_varS g1 (sl_flat rfl ⟨w, rfl, ⟨by omega, by omega⟩, w.toNat, rfl, ?_, fun i e acc => ∃ (s' : Int × Int) (ns : List Int), e = some (1000, fd s') :: tl ∧ acc = ns.map (fun z => (0, D.int z)) ∧ ns.length = i ∧ ∀ (j : Nat) z, ns[j]? = some z → C j z, ⟨s, [], rfl, rfl, rfl, fun j z h => by simp at h⟩, ?_, ?_⟩)))
  · show (asideB _ (y + 1) && true) = true
    unfold asideB
    rw [gn]
    rfl
  · rintro i e acc hi ⟨s', ns, rfl, rfl, rfl, hns⟩
    have hwp : wipeE (some (1000, fd s') :: tl) [y + 1] = some (1000, fd s') :: tl := by
      show (some (1000, fd s') :: tl.set y none) = _
      rw [hset]
    rw [hwp]
    refine ⟨.int (0 + (ns.length : Nat) * 1), some (1000, fd s') :: tl.set y (some (0, .int (0 + (ns.length : Nat) * 1))), rfl, ?_, wt_tt ⟨(fun h => nomatch h), fun _ => step s' _ hi fun s2 z hz => ?_⟩⟩
    · simp only [setTg]
      rw [if_neg (by simp; omega)]
      rfl
    · have hu : unwipe (some (1000, fd s') :: tl) (some (1000, fd s2) :: tl.set y (some (0, .int (0 + (ns.length : Nat) * 1)))) [y + 1] = some (1000, fd s2) :: tl := by
        show (some (1000, fd s2) :: tl.set y _).set (y + 1) ((getS (some (1000, fd s') :: tl) (y + 1)).map _) = _
        rw [gn]
        show some (1000, fd s2) :: (tl.set y _).set y none = _
        rw [List.set_set, hset]
      refine ⟨_, _, rfl, by rw [List.length_map, sizeLine_eq]; omega, by simp [Wk.size], s2, ns ++ [z], hu, by simp, by simp, fun j x hx => ?_⟩
      rcases Nat.lt_or_ge j ns.length with h1 | h1
      · rw [List.getElem?_append_left h1] at hx
        exact hns j x hx
      · rw [List.getElem?_append_right h1] at hx
        have e0 : j - ns.length = 0 := by
          rcases Nat.eq_zero_or_pos (j - ns.length) with h2 | h2
          · exact h2
          · rw [List.getElem?_eq_none (by simp; omega)] at hx; cases hx
        have ej : j = ns.length := by omega
        rw [e0] at hx
        cases hx
        rw [ej]
        exact hz
  · rintro e acc ⟨s', ns, rfl, rfl, hl, hns⟩
    rw [dep_flat (f := D.int) (fun _ => rfl)]
    have em : (ns.map (fun z => ((0, D.int z) : SV))).map (·.2) = ns.map D.int := by rw [List.map_map]; rfl
    rw [em]
    exact fin ns s' (by omega) hns
def B_turned_row : List S :=
  [.set 3 (.lstd []),
  .forS (.nm 4) (.rng1 (.op .len [.var 0])) [.exp (.mut 3 .append [.op .mul [.op .ix [.var 0, .op .mod [.op .add [.var 4, .var 1], .op .len [.var 0]]], .op .ix [.var 2, .var 4]]])],
  .ret (.op .tupleOf [.var 3])]
theorem turned_ok {G : Gt} {n f : Nat} (hg : G[f]? = some ⟨3, 5, B_turned_row⟩) {w a : Int} {ns sg : List Int} (h1 : 1 ≤ w) (h2 : w ≤ 1000) (hr : RowOk w ns) (a0 : 0 ≤ a) (hs : (sg.length : Int) = w) (hs2 : ∀ x ∈ sg, x = 1 ∨ x = -1) {Q : SV → List SV → Prop}
    (h : ∀ (us : List Int), RowOk w us → Q (0, .tup (us.map .int)) [(0, .tup (ns.map .int)), (0, .int a), (1000, .lst (sg.map .int))]) : CPS (evC G (n + 1)) f [(0, .tup (ns.map .int)), (0, .int a), (1000, .lst (sg.map .int))] [2] Q := by
  refine w_body hg rfl ?_
  unfold B_turned_row
  show WB _ _ _ [some (0, .tup (ns.map .int)), some (0, .int a), some (1000, .lst (sg.map .int)), none, none] _
  repeat get_elem_tactic_trivial
  refine ws_for (wi_rng1 ?_)
  repeat get_elem_tactic_trivial
  rw [List.length_map]
  have hl := hr.1
  refine And.intro ⟨by omega, by omega⟩ ⟨ns.length, by simp [Wk.size], fun i env => ∃ (us : List Int) (o4 : Option SV), env = [some (0, .tup (ns.map .int)), some (0, .int a), some (1000, .lst (sg.map .int)), some (1000, .lst (us.map .int)), o4] ∧ us.length = i ∧ ∀ x ∈ us, -4 ≤ x ∧ x ≤ 4, ⟨[], _, rfl, rfl, fun _ h => nomatch h⟩, ?_, ?_⟩
  · rintro i env hi ⟨us, o4, rfl, rfl, hu⟩
    refine ⟨_, [some (0, .tup (ns.map .int)), some (0, .int a), some (1000, .lst (sg.map .int)), some (1000, .lst (us.map .int)), some (0, .int (0 + (us.length : Nat) * 1))], rfl, rfl, ?_⟩
    obtain ⟨x, x1, x2⟩ := ints_at (ys := ns) (a := (0 + (us.length : Nat) * 1 + a) % (ns.length : Int)) (Int.emod_nonneg _ (by omega)) (Int.emod_lt_of_pos _ (by omega))
    obtain ⟨y, y1, y2⟩ := ints_at (ys := sg) (a := 0 + (us.length : Nat) * 1) (by omega) (by omega)
    repeat get_elem_tactic_trivial
    rw [List.length_map]
    refine op_mod (by omega) ?_
    repeat get_elem_tactic_trivial
    refine op_ixT x1 ?_
    repeat get_elem_tactic_trivial
    refine op_ixO y1 rfl ?_
    repeat get_elem_tactic_trivial
    have hx := hr.2 x x2
    have hy := hs2 y y2
    refine op_mul (.inl ⟨by omega, by omega⟩) ?_
    repeat get_elem_tactic_trivial
    refine mut_app (by rw [List.length_map, sizeLine_eq]; omega) rfl ?_
    repeat get_elem_tactic_trivial
    refine ⟨us ++ [x * y], _, by rw [List.map_append]; rfl, by simp, fun z hz => ?_⟩
    rcases List.mem_append.mp hz with hz | hz
    · exact hu z hz
    · rw [List.mem_singleton] at hz
      rcases hy with rfl | rfl <;> omega
  · rintro env ⟨us, o4, rfl, hl2, hu⟩ _
    repeat get_elem_tactic_trivial
    refine op_tupleOfS (ints_flat _) ?_
    repeat get_elem_tactic_trivial
    exact h us ⟨by omega, hu⟩
end Ck

set_option Elab.async false
set_option linter.all false
set_option maxRecDepth 100000
/-! Ck40: reads drawn: opposed ones, rings. -/
namespace Ck
open PySem
local macro_rules
  | `(tactic| get_elem_tactic_trivial) => `(tactic| first
    | (with_reducible first
        | refine wb_cons ?_
        | refine wb_nil ?_
        | refine ws_set ?_
        | refine ws_ret ?_
        | refine ws_exp ?_
        | refine ws_setT ?_
        | refine ws_setIx ?_
        | refine ws_setSl ?_
        | refine ws_ite ?_
        | (apply ws_aug; with_unfolding_all rfl)
        | refine w_cst ?_
        | refine w_glo ?_
        | (apply w_varS; with_unfolding_all rfl)
        | refine sl_zero ?_
        | (apply sl_flat; with_unfolding_all rfl)
        | (apply sl_own; with_unfolding_all rfl; with_unfolding_all rfl)
        | refine w_op ?_
        | refine w_tupd ?_
        | refine w_lstd ?_
        | refine w_call ?_
        | (apply w_mut; with_unfolding_all rfl; with_unfolding_all rfl)
        | refine w_slc ?_
        | refine w_met ?_
        | refine wl_cons ?_
        | refine wl_nil ?_
        | refine wt_cmp ?_
        | refine wt_conj ?_
        | refine wt_disj ?_
        | refine wt_not ?_
        | refine wt_isn ?_
        | refine rr_fr ?_
        | (apply rr_sl; with_unfolding_all rfl)
        | refine op_lenS ?_
        | refine op_lenL ?_
        | refine op_lenT ?_
        | refine op_add ?_
        | refine op_sub ?_
        | refine op_lt ?_
        | refine op_le ?_
        | refine op_gt ?_
        | refine op_ge ?_
        | refine op_eq eqv_int ?_
        | refine op_ne eqv_int ?_
        | refine op_min2 ?_
        | refine op_max2 ?_
        | refine op_neg ?_
        | refine op_not ?_
        | refine op_int1b ?_
        | refine op_isInt ?_
        | refine op_isTup ?_
        | refine op_isLst ?_
        | refine op_isStr ?_
        | refine op_isBool ?_
        | (apply op_mod; (first | assumption | decide))
        | (apply op_fdiv; (first | assumption | decide); (first | assumption | decide))
        | (refine op_mul (.inl ?_) ?_; decide)
        | (refine op_mul (.inr ?_) ?_; decide)
        | (apply op_pow; decide; decide; decide)
        | refine op_ixL0 ?_
        | refine op_ixT0 ?_
        | (apply op_ixO0; with_unfolding_all rfl)
        | refine op_ixL1 ?_
        | refine op_ixT1 ?_
        | (apply op_ixO1; with_unfolding_all rfl)
        | refine op_ixL2 ?_
        | refine op_ixT2 ?_
        | (apply op_ixO2; with_unfolding_all rfl)
        | refine op_ixL3 ?_
        | refine op_ixT3 ?_
        | (apply op_ixO3; with_unfolding_all rfl)
        | (apply and_eq; with_unfolding_all rfl)
        | (apply ex_pair; with_unfolding_all rfl)
        | (apply ex_some; with_unfolding_all rfl)
        | (apply ex_bl; with_unfolding_all rfl)
        | (apply ex_int; with_unfolding_all rfl)
        | (apply ex_ix; with_unfolding_all rfl; with_unfolding_all rfl; with_unfolding_all rfl)
        | (apply ex_two; with_unfolding_all rfl)
        | refine and_t ?_
        | refine and_f ?_
        | refine and_nt ?_
        | refine and_nf ?_)
    | dsimp only [backIn, hideL, lent, lentK, getD_z, getD_s, set_z, set_s, map_c, map_n, app_c, app_n, rep_s, rep_z])
local macro_rules
  | `(tactic| exists $d, $s, $h0, $h1) => `(tactic| (refine take_ok (by assumption) (by decide) (by decide) fun $d $s $h0 $h1 => ?_; repeat get_elem_tactic_trivial))
def B_opposed_reads (t_take : Nat) (t_turned_row : Nat) (t_row : Nat) : List S :=
  [.set 3 (.op .add [.cst (.int 1), .call t_take [.var 0, .cst (.int 2)]]),
  .set 4 (.lstd [.tupd [.cst (.int 0), .cst (.int 0), .tupd [.cst (.int 0), .var 3]], .tupd [.cst (.int 1), .cst (.int 1), .tupd [.cst (.int 0), .op .sub [.op .sub [.cst (.int 0), .cst (.int 1)], .call t_take [.var 0, .cst (.int 2)]]]], .tupd [.cst (.int 0), .cst (.int 1), .tupd [.op .sub [.cst (.int 0), .cst (.int 1)], .op .sub [.call t_take [.var 0, .cst (.int 3)], .cst (.int 1)]]]]),
  .exp (.mut 4 .append [.tupd [.cst (.int 1), .cst (.int 0), .tupd [.op .sub [.cst (.int 0), .call t_take [.var 0, .cst (.int 2)]], .cst (.int 0)]]]),
  .ite (.cmp .eq (.var 1) (.cst (.int 3))) [.set 4 (.lstd [.tupd [.cst (.int 0), .cst (.int 0), .tupd [.cst (.int 0), .cst (.int 0), .var 3]], .tupd [.cst (.int 1), .cst (.int 1), .tupd [.cst (.int 0), .cst (.int 0), .op .sub [.cst (.int 0), .cst (.int 1)]]], .tupd [.cst (.int 0), .cst (.int 1), .tupd [.cst (.int 0), .op .sub [.cst (.int 0), .cst (.int 1)], .cst (.int 0)]], .tupd [.cst (.int 1), .cst (.int 0), .tupd [.cst (.int 0), .cst (.int 0), .call t_take [.var 0, .cst (.int 2)]]]]),
  .set 4 (.op .add [.var 4, .lstd [.tupd [.cst (.int 2), .cst (.int 2), .tupd [.cst (.int 0), .op .add [.cst (.int 1), .call t_take [.var 0, .cst (.int 2)]], .cst (.int 0)]], .tupd [.cst (.int 0), .cst (.int 2), .tupd [.op .sub [.cst (.int 0), .cst (.int 1)], .cst (.int 0), .cst (.int 1)]], .tupd [.cst (.int 2), .cst (.int 0), .tupd [.cst (.int 0), .cst (.int 0), .cst (.int 0)]]]])] [],
  .par [7, 8] [.call t_take [.var 0, .var 1], .comp (.op .sub [.cst (.int 1), .op .mul [.cst (.int 2), .call t_take [.var 0, .cst (.int 2)]]]) (.nm 11) (.rng1 (.var 1)) (.tt) [11]],
  .set 5 (.comp (.lstd []) (.nm 6) (.rng1 (.var 2)) (.tt) [6]),
  .forS (.tup [.nm 6, .nm 9, .nm 10]) (.seq (.var 4)) [.exp (.mutI 5 (.var 6) .append [.tupd [.var 9, .call t_turned_row [.var 10, .var 7, .var 8]]])],
  .forS (.nm 6) (.rng2 (.cst (.int 3)) (.var 2)) [.exp (.mutI 5 (.var 6) .append [.tupd [.call t_take [.var 0, .var 6], .call t_row [.var 0, .var 1]]])],
  .ret (.var 5)]
def smD (p : Int × Int × List Int) : D := .tup [.int p.1, .int p.2.1, .tup (p.2.2.map .int)]
def SmOk (w : Int) (l : List (Int × Int × List Int)) : Prop := l.length ≤ 10 ∧ ∀ p ∈ l, (0 ≤ p.1 ∧ p.1 < w) ∧ (0 ≤ p.2.1 ∧ p.2.1 < w) ∧ RowOk w p.2.2
theorem row2 {a b : Int} (ha : -4 ≤ a ∧ a ≤ 4) (hb : -4 ≤ b ∧ b ≤ 4) : RowOk 2 [a, b] := ⟨rfl, fun x hx => by
  simp only [List.mem_cons, List.not_mem_nil, or_false] at hx
  rcases hx with rfl | rfl <;> assumption⟩
theorem row3 {a b c : Int} (ha : -4 ≤ a ∧ a ≤ 4) (hb : -4 ≤ b ∧ b ≤ 4) (hc : -4 ≤ c ∧ c ≤ 4) : RowOk 3 [a, b, c] := ⟨rfl, fun x hx => by
  simp only [List.mem_cons, List.not_mem_nil, or_false] at hx
  rcases hx with rfl | rfl | rfl <;> assumption⟩
theorem sm_flat (l : List (Int × Int × List Int)) : (l.map smD).all (fun d => !d.isC) = true := by simp [smD, D.isC]
theorem opposed_ok {G : Gt} {n f t u r : Nat} (hg : G[f]? = some ⟨3, 12, B_opposed_reads t u r⟩) (ht : G[t]? = some ⟨2, 4, tkB⟩) (hu : G[u]? = some ⟨3, 5, B_turned_row⟩) (hr : G[r]? = some ⟨2, 3, rwB t⟩) {s : Int × Int} {w : Int} {m : Nat} (h1 : 2 ≤ w) (h2 : w ≤ 3) (m1 : w ≤ m) (m2 : m ≤ 10) {Q : SV → List SV → Prop}
    (h : ∀ (L : List Lk) s', LooksOk w m 100 L → Q (1000, looksD L) [(1000, fd s'), (0, .int w), (0, .int m)]) : CPS (evC G (n + 3)) f [(1000, fd s), (0, .int w), (0, .int m)] [0] Q := by
  refine w_body hg rfl ?_
  unfold B_opposed_reads
  show WB _ _ _ [some (1000, fd s), some (0, .int w), some (0, .int m), none, none, none, none, none, none, none, none, none] _
  have rest : ∀ (sm : List (Int × Int × List Int)) (k : Nat) (s : Int × Int) (o3 : Option SV) {K : Ko}, SmOk w sm → (∀ (L : List Lk) s' (o4 o6 o7 o8 o9 o10 : Option SV), LooksOk w m 100 L → K.rt (1000, looksD L) [some (1000, fd s'), some (0, .int w), some (0, .int m), o3, o4, none, o6, o7, o8, o9, o10, none]) →
      WB (evC G (n + 2)) [.par [7, 8] [.call t [.var 0, .var 1], .comp (.op .sub [.cst (.int 1), .op .mul [.cst (.int 2), .call t [.var 0, .cst (.int 2)]]]) (.nm 11) (.rng1 (.var 1)) (.tt) [11]],
  .set 5 (.comp (.lstd []) (.nm 6) (.rng1 (.var 2)) (.tt) [6]),
  .forS (.tup [.nm 6, .nm 9, .nm 10]) (.seq (.var 4)) [.exp (.mutI 5 (.var 6) .append [.tupd [.var 9, .call u [.var 10, .var 7, .var 8]]])],
  .forS (.nm 6) (.rng2 (.cst (.int 3)) (.var 2)) [.exp (.mutI 5 (.var 6) .append [.tupd [.call t [.var 0, .var 6], .call r [.var 0, .var 1]]])],
  .ret (.var 5)] [0] [some (1000, fd s), some (0, .int w), some (0, .int m), o3, some (k + 1, .lst (sm.map smD)), none, none, none, none, none, none, none] K := by
    intro sm k s o3 K hsm hK
    repeat get_elem_tactic_trivial
    refine ws_par ?_
    repeat get_elem_tactic_trivial
    refine take_ok ht (by omega) (log_small (by omega) (by omega)) fun a s1 a0 a1 => ?_
    repeat get_elem_tactic_trivial
    refine comp_feed (y := 10) (fun _ z => z = 1 ∨ z = -1) rfl (by omega) (by omega) (by simp) rfl ?_ ?_
    · intro s2 i hi P' hP
      show WE _ _ [some (1000, fd s2), some (0, .int w), some (0, .int m), o3, some (k + 1, .lst (sm.map smD)), none, none, none, none, none, none, some (0, .int (0 + (i : Nat) * 1))] _
      repeat get_elem_tactic_trivial
      exists d, s3, d0, d1
      exact hP s3 _ (by omega)
    intro sg s2 hsg hsg2
    have hsg3 : ∀ x ∈ sg, x = 1 ∨ x = -1 := fun x hx => by
      obtain ⟨j, hj⟩ := List.getElem?_of_mem hx
      exact hsg2 j x hj
    repeat get_elem_tactic_trivial
    refine looks0 (m := m) (by omega) (fun h => w_varS rfl (sl_flat rfl h)) (by simp) rfl ?_
    repeat get_elem_tactic_trivial
    refine ws_for (wi_seq ?_)
    repeat get_elem_tactic_trivial
    have now : ∀ env, getS env 4 = some (k + 1, .lst (sm.map smD)) → (Wk.seq (.slot 4)).size env = some sm.length := fun env g => by
      show ((Live.slot 4).now env).map List.length = _
      rw [now_slot g (by omega) (by intro d hd; obtain ⟨z, _, rfl⟩ := List.mem_map.mp hd; rfl), Option.map_some, List.length_map]
    refine ⟨sm.length, now _ rfl, fun i env => ∃ (L : List Lk) (o6 o9 o10 : Option SV), env = [some (1000, fd s2), some (0, .int w), some (0, .int m), o3, some (k + 1, .lst (sm.map smD)), some (1000, looksD L), o6, some (0, .int a), some (1000, .lst (sg.map .int)), o9, o10, none] ∧ LooksOk w m i L, ⟨_, _, _, _, rfl, looks0_ok⟩, ?_, ?_⟩
    · rintro i env hi ⟨L, o6, o9, o10, rfl, hL⟩
      have hx : sm[i]? = some sm[i] := List.getElem?_eq_getElem hi
      have hp := hsm.2 _ (List.getElem_mem hi)
      have hsl := hsm.1
      generalize sm[i] = p at hx hp
      obtain ⟨x, o, ns⟩ := p
      simp only at hp
      refine ⟨smD (x, o, ns), [some (1000, fd s2), some (0, .int w), some (0, .int m), o3, some (k + 1, .lst (sm.map smD)), some (1000, looksD L), some (0, .int x), some (0, .int a), some (1000, .lst (sg.map .int)), some (0, .int o), some (0, .tup (ns.map .int)), none], ?_, rfl, ?_⟩
      · show ((Live.slot 4).now _).bind (fun x => x[i]?) = _
        rw [now_slot rfl (by omega) (by intro d hd; obtain ⟨z, _, rfl⟩ := List.mem_map.mp hd; rfl)]
        show (sm.map smD)[i]? = _
        rw [List.getElem?_map, hx]
        rfl
      repeat get_elem_tactic_trivial
      refine w_look rfl ?_
      repeat get_elem_tactic_trivial
      refine ⟨L, _, _, rfl, rfl, by omega, by have := hL.1; omega, fun l hl => by have := (hL.2 l hl).1; omega, ?_⟩
      repeat get_elem_tactic_trivial
      refine turned_ok hu (by omega) (by omega) hp.2.2 a0 hsg hsg3 fun us hus => ?_
      repeat get_elem_tactic_trivial
      refine ⟨(o, us), rfl, rfl, fun l hl => ?_⟩
      repeat get_elem_tactic_trivial
      have hl2 := hL.2 l (List.mem_of_getElem? hl)
      refine ⟨now _ rfl, _, _, _, _, rfl, hL.set (by rw [List.length_append, List.length_singleton]; omega) fun p hp2 => ?_⟩
      rcases List.mem_append.mp hp2 with hp2 | hp2
      · exact hl2.2 p hp2
      · rw [List.mem_singleton] at hp2
        rw [hp2]
        exact ⟨hp.2.1.1, by simp only; omega, hus⟩
    · rintro env ⟨L, o6, o9, o10, rfl, hL⟩ _
      have hsl := hsm.1
      repeat get_elem_tactic_trivial
      refine ws_for (wi_rng2 ?_)
      repeat get_elem_tactic_trivial
      refine ⟨⟨by omega, by omega, by omega, by omega⟩, ?_⟩
      refine ⟨((m : Int) - 3).toNat, rfl, fun i env => ∃ (s' : Int × Int) (L : List Lk) (o6 : Option SV), env = [some (1000, fd s'), some (0, .int w), some (0, .int m), o3, some (k + 1, .lst (sm.map smD)), some (1000, looksD L), o6, some (0, .int a), some (1000, .lst (sg.map .int)), o9, o10, none] ∧ LooksOk w m (10 + i) L, ⟨_, _, _, rfl, hL.mono (by omega)⟩, ?_, ?_⟩
      · rintro i env hi ⟨s3, L, o6, rfl, hL⟩
        refine ⟨_, [some (1000, fd s3), some (0, .int w), some (0, .int m), o3, some (k + 1, .lst (sm.map smD)), some (1000, looksD L), some (0, .int (3 + (i : Nat) * 1)), some (0, .int a), some (1000, .lst (sg.map .int)), o9, o10, none], rfl, rfl, ?_⟩
        repeat get_elem_tactic_trivial
        refine w_look rfl ?_
        repeat get_elem_tactic_trivial
        refine ⟨L, _, _, rfl, rfl, by omega, by have := hL.1; omega, fun l hl => by have := (hL.2 l hl).1; omega, ?_⟩
        repeat get_elem_tactic_trivial
        refine take_ok ht (by omega) (log_small (by omega) (by omega)) fun o s4 b0 b1 => ?_
        repeat get_elem_tactic_trivial
        refine row_ok' hr ht (by omega) (by omega) fun ns s5 hns => ?_
        repeat get_elem_tactic_trivial
        refine ⟨(o, ns), rfl, rfl, fun l hl => ?_⟩
        repeat get_elem_tactic_trivial
        have hl2 := hL.2 l (List.mem_of_getElem? hl)
        refine ⟨s5, _, _, rfl, hL.set (by rw [List.length_append, List.length_singleton]; omega) fun p hp => ?_⟩
        rcases List.mem_append.mp hp with hp | hp
        · exact hl2.2 p hp
        · rw [List.mem_singleton] at hp
          rw [hp]
          exact ⟨b0, by simp only; omega, hns⟩
      · rintro env ⟨s3, L, o6, rfl, hL⟩ _
        repeat get_elem_tactic_trivial
        exact hK L s3 _ _ _ _ _ _ (hL.mono (by omega))
  repeat get_elem_tactic_trivial
  exists far, s1, far0, far1
  exists x2, s2, x20, x21
  exists x3, s3, x30, x31
  exists x4, s4, x40, x41
  refine and_dec (fun h3 => ?_) (fun h3 => ?_)
  · subst h3
    repeat get_elem_tactic_trivial
    exists x5, s5, x50, x51
    exists x6, s6, x60, x61
    refine op_addL rfl rfl (by simp) ?_
    refine ⟨_, _, rfl, rfl, wb_nil ?_⟩
    refine rest [(0, 0, [0, 0, 1 + far]), (1, 1, [0, 0, 0 - 1]), (0, 1, [0, 0 - 1, 0]), (1, 0, [0, 0, x5]), (2, 2, [0, 1 + x6, 0]), (0, 2, [0 - 1, 0, 1]), (2, 0, [0, 0, 0])] 0 s6 _ ⟨by simp, fun p hp => ?_⟩ fun L s' _ _ _ _ _ _ hL => ⟨rfl, h L s' hL⟩
    simp only [List.mem_cons, List.not_mem_nil, or_false] at hp
    rcases hp with rfl | rfl | rfl | rfl | rfl | rfl | rfl <;> exact ⟨by dsimp only; omega, by dsimp only; omega, row3 (by omega) (by omega) (by omega)⟩
  · have h3 : w = 2 := by omega
    subst h3
    refine wb_nil ?_
    refine rest [(0, 0, [0, 1 + far]), (1, 1, [0, 0 - 1 - x2]), (0, 1, [0 - 1, x3 - 1]), (1, 0, [0 - x4, 0])] 999 s4 _ ⟨by simp, fun p hp => ?_⟩ fun L s' _ _ _ _ _ _ hL => ⟨rfl, h L s' hL⟩
    simp only [List.mem_cons, List.not_mem_nil, or_false] at hp
    rcases hp with rfl | rfl | rfl | rfl <;> exact ⟨by dsimp only; omega, by dsimp only; omega, row2 (by omega) (by omega)⟩
end Ck

set_option Elab.async false
set_option linter.all false
set_option maxRecDepth 100000
/-! Ck41: reads drawn: rings; all of them. -/
namespace Ck
open PySem
local macro_rules
  | `(tactic| get_elem_tactic_trivial) => `(tactic| first
    | (with_reducible first
        | refine wb_cons ?_
        | refine wb_nil ?_
        | refine ws_set ?_
        | refine ws_ret ?_
        | refine ws_exp ?_
        | refine ws_setT ?_
        | refine ws_setIx ?_
        | refine ws_setSl ?_
        | refine ws_ite ?_
        | (apply ws_aug; with_unfolding_all rfl)
        | refine w_cst ?_
        | refine w_glo ?_
        | (apply w_varS; with_unfolding_all rfl)
        | refine sl_zero ?_
        | (apply sl_flat; with_unfolding_all rfl)
        | (apply sl_own; with_unfolding_all rfl; with_unfolding_all rfl)
        | refine w_op ?_
        | refine w_tupd ?_
        | refine w_lstd ?_
        | refine w_call ?_
        | (apply w_mut; with_unfolding_all rfl; with_unfolding_all rfl)
        | refine w_slc ?_
        | refine w_met ?_
        | refine wl_cons ?_
        | refine wl_nil ?_
        | refine wt_cmp ?_
        | refine wt_conj ?_
        | refine wt_disj ?_
        | refine wt_not ?_
        | refine wt_isn ?_
        | refine rr_fr ?_
        | (apply rr_sl; with_unfolding_all rfl)
        | refine op_lenS ?_
        | refine op_lenL ?_
        | refine op_lenT ?_
        | refine op_add ?_
        | refine op_sub ?_
        | refine op_lt ?_
        | refine op_le ?_
        | refine op_gt ?_
        | refine op_ge ?_
        | refine op_eq eqv_int ?_
        | refine op_ne eqv_int ?_
        | refine op_min2 ?_
        | refine op_max2 ?_
        | refine op_neg ?_
        | refine op_not ?_
        | refine op_int1b ?_
        | refine op_isInt ?_
        | refine op_isTup ?_
        | refine op_isLst ?_
        | refine op_isStr ?_
        | refine op_isBool ?_
        | (apply op_mod; (first | assumption | decide))
        | (apply op_fdiv; (first | assumption | decide); (first | assumption | decide))
        | (refine op_mul (.inl ?_) ?_; decide)
        | (refine op_mul (.inr ?_) ?_; decide)
        | (apply op_pow; decide; decide; decide)
        | refine op_ixL0 ?_
        | refine op_ixT0 ?_
        | (apply op_ixO0; with_unfolding_all rfl)
        | refine op_ixL1 ?_
        | refine op_ixT1 ?_
        | (apply op_ixO1; with_unfolding_all rfl)
        | refine op_ixL2 ?_
        | refine op_ixT2 ?_
        | (apply op_ixO2; with_unfolding_all rfl)
        | refine op_ixL3 ?_
        | refine op_ixT3 ?_
        | (apply op_ixO3; with_unfolding_all rfl)
        | (apply and_eq; with_unfolding_all rfl)
        | (apply ex_pair; with_unfolding_all rfl)
        | (apply ex_some; with_unfolding_all rfl)
        | (apply ex_bl; with_unfolding_all rfl)
        | (apply ex_int; with_unfolding_all rfl)
        | (apply ex_ix; with_unfolding_all rfl; with_unfolding_all rfl; with_unfolding_all rfl)
        | (apply ex_two; with_unfolding_all rfl)
        | refine and_t ?_
        | refine and_f ?_
        | refine and_nt ?_
        | refine and_nf ?_)
    | dsimp only [backIn, hideL, lent, lentK, getD_z, getD_s, set_z, set_s, map_c, map_n, app_c, app_n, rep_s, rep_z])
local macro_rules
  | `(tactic| exists $d, $s, $h0, $h1) => `(tactic| (refine take_ok (by assumption) (by decide) (by decide) fun $d $s $h0 $h1 => ?_; repeat get_elem_tactic_trivial))
def B_ring_reads (t_late_reads : Nat) (t_take : Nat) : List S :=
  [.set 3 (.call t_late_reads [.var 0, .var 1, .var 2]),
  .set 4 (.op .add [.cst (.int 1), .call t_take [.var 0, .var 2]]),
  .set 5 (.op .mul [.lstd [.cst (.int 0)], .var 1]),
  .forS (.nm 6) (.rng1 (.var 4)) [.set 7 (.comp (.op .sub [.call t_take [.var 0, .cst (.int 3)], .cst (.int 1)]) (.nm 8) (.rng1 (.var 1)) (.tt) [8]),
  .set 7 (.comp (.op .sub [.op .max2 [.op .sub [.cst (.int 0), .cst (.int 2)], .op .min2 [.cst (.int 2), .op .add [.op .ix [.var 5, .var 8], .op .ix [.var 7, .var 8]]]], .op .ix [.var 5, .var 8]]) (.nm 8) (.rng1 (.var 1)) (.tt) [8]),
  .ite (.cmp .eq (.op .add [.var 6, .cst (.int 1)]) (.var 4)) [.set 7 (.comp (.op .sub [.cst (.int 0), .var 9]) (.nm 9) (.seq (.var 5)) (.tt) [9])] [],
  .set 5 (.comp (.op .add [.op .ix [.var 5, .var 8], .op .ix [.var 7, .var 8]]) (.nm 8) (.rng1 (.var 1)) (.tt) [8]),
  .exp (.mutI 3 (.var 6) .insert [.cst (.int 0), .tupd [.op .mod [.op .add [.var 6, .cst (.int 1)], .var 4], .op .tupleOf [.var 7]]])],
  .ret (.var 3)]
/-- a list's items, each turned about -/
theorem comp_neg {c : Cal} {a b d e f g h i : Option SV} {k : Nat} {rs : List Int} (hl : rs.length ≤ 1000) {P : R → Env → Prop} (hp : P ⟨.fr, 1000, .lst ((rs.map fun x => 0 - x).map .int)⟩ [a, b, d, e, f, some (k + 1, .lst (rs.map .int)), g, h, i, none]) :
    WE c (.comp (.op .sub [.cst (.int 0), .var 9]) (.nm 9) (.seq (.var 5)) (.tt) [9]) [a, b, d, e, f, some (k + 1, .lst (rs.map .int)), g, h, i, none] P := by
  have now : ∀ env, getS env 5 = some (k + 1, .lst (rs.map .int)) → (Wk.seq (.slot 5)).size env = some rs.length := fun env g => by
    show ((Live.slot 5).now env).map List.length = _
    rw [now_slot g (by omega) (by intro d hd; obtain ⟨z, _, rfl⟩ := List.mem_map.mp hd; rfl), Option.map_some, List.length_map]
  refine w_comp (wi_seq ?_)
  repeat get_elem_tactic_trivial
  refine ⟨rs.length, now _ rfl, rfl, fun j env acc => env = [a, b, d, e, f, some (k + 1, .lst (rs.map .int)), g, h, i, none] ∧ acc = ((rs.take j).map fun x => 0 - x).map (fun z => ((0, D.int z) : SV)), ⟨rfl, rfl⟩, ?_, ?_⟩
  · rintro j env acc hj ⟨rfl, rfl⟩
    have hx : rs[j]? = some rs[j] := List.getElem?_eq_getElem hj
    generalize rs[j] = x at hx
    refine ⟨.int x, [a, b, d, e, f, some (k + 1, .lst (rs.map .int)), g, h, i, some (0, .int x)], ?_, rfl, wt_tt ⟨(fun h => nomatch h), fun _ => ?_⟩⟩
    · show ((Live.slot 5).now _).bind (fun x => x[j]?) = _
      rw [now_slot rfl (by omega) (by intro d hd; obtain ⟨z, _, rfl⟩ := List.mem_map.mp hd; rfl)]
      show (rs.map D.int)[j]? = _
      rw [List.getElem?_map, hx]
      rfl
    repeat get_elem_tactic_trivial
    refine And.intro ?_ (And.intro (now _ rfl) ⟨rfl, ?_⟩)
    · rw [List.length_map, List.length_map, List.length_take, sizeLine_eq]
      omega
    · rw [take_snoc hx, List.map_append, List.map_append]
      rfl
  · rintro env acc ⟨rfl, rfl⟩
    rw [List.take_length, dep_flat (f := D.int) (fun _ => rfl), List.map_map]
    exact hp
/-- a row that leads from near by to near by -/
def Near (rest row : List Int) : Prop := row.length = rest.length ∧ ∀ (i : Nat) r z, rest[i]? = some r → row[i]? = some z → -2 ≤ r + z ∧ r + z ≤ 2
theorem near_row {w : Int} {rest row : List Int} (hl : (rest.length : Int) = w) (hr : ∀ x ∈ rest, -2 ≤ x ∧ x ≤ 2) (h : Near rest row) : RowOk w row := by
  refine ⟨by rw [h.1]; exact hl, fun x hx => ?_⟩
  obtain ⟨i, hi⟩ := List.getElem?_of_mem hx
  have hi2 : i < rest.length := by
    rw [← h.1]
    rcases Nat.lt_or_ge i row.length with h1 | h1
    · exact h1
    · rw [List.getElem?_eq_none h1] at hi; cases hi
  have h2 := h.2 i _ x (List.getElem?_eq_getElem hi2) hi
  have h3 := hr _ (List.getElem_mem hi2)
  omega
theorem ix_get {rs : List Int} {w : Int} {i : Nat} (hl : (rs.length : Int) = w) (hi : i < w.toNat) : ∃ r, at' (rs.map D.int) (0 + (i : Nat) * 1) = some (.int r) ∧ rs[i]? = some r ∧ r ∈ rs := by
  have hi2 : i < rs.length := by omega
  have e : (0 + (i : Nat) * 1 : Int).toNat = i := by omega
  exact ⟨rs[i], at_map (by omega) (by rw [e]; exact List.getElem?_eq_getElem hi2), List.getElem?_eq_getElem hi2, List.getElem_mem hi2⟩
theorem ring_ok {G : Gt} {n f t l b : Nat} (hg : G[f]? = some ⟨3, 10, B_ring_reads l t⟩) (ht : G[t]? = some ⟨2, 4, tkB⟩) (hlt : G[l]? = some ⟨3, 6, B_late_reads t b⟩) (hb : G[b]? = some ⟨2, 5, B_back_row t⟩) {s : Int × Int} {w : Int} {m : Nat} (h1 : 1 ≤ w) (h2 : w ≤ 1000) (m1 : 1 ≤ m) (m2 : m ≤ 10) {Q : SV → List SV → Prop}
    (h : ∀ (L : List Lk) s', LooksOk w m 200 L → Q (1000, looksD L) [(1000, fd s'), (0, .int w), (0, .int m)]) : CPS (evC G (n + 4)) f [(1000, fd s), (0, .int w), (0, .int m)] [0] Q := by
  refine w_body hg rfl ?_
  unfold B_ring_reads
  show WB _ _ _ [some (1000, fd s), some (0, .int w), some (0, .int m), none, none, none, none, none, none, none] _
  repeat get_elem_tactic_trivial
  refine late_ok hlt ht hb h1 h2 m1 m2 fun L0 s1 hL0 => ?_
  repeat get_elem_tactic_trivial
  refine take_ok ht (by omega) (log_small (by omega) (by omega)) fun lg s2 g0 g1 => ?_
  repeat get_elem_tactic_trivial
  refine op_zerosL (by omega) (by omega) ?_
  repeat get_elem_tactic_trivial
  refine ws_for (wi_rng1 ?_)
  repeat get_elem_tactic_trivial
  refine And.intro ⟨by omega, by omega⟩ ⟨(1 + lg).toNat, rfl, fun i env => ∃ (s' : Int × Int) (L : List Lk) (rs : List Int) (k : Nat) (o6 o7 : Option SV), env = [some (1000, fd s'), some (0, .int w), some (0, .int m), some (1000, looksD L), some (0, .int (1 + lg)), some (k + 1, .lst (rs.map .int)), o6, o7, none, none] ∧ LooksOk w m (100 + i) L ∧ (rs.length : Int) = w ∧ ∀ x ∈ rs, -2 ≤ x ∧ x ≤ 2,
    ⟨s2, L0, _, 0, _, _, rfl, hL0.mono (by omega), by rw [List.length_replicate]; omega, fun x hx => by rw [List.mem_replicate] at hx; omega⟩, ?_, ?_⟩
  · rintro i env hi ⟨s3, L, rs, k, o6, o7, rfl, hL, hrl, hr⟩
    refine ⟨_, [some (1000, fd s3), some (0, .int w), some (0, .int m), some (1000, looksD L), some (0, .int (1 + lg)), some (k + 1, .lst (rs.map .int)), some (0, .int (0 + (i : Nat) * 1)), o7, none, none], rfl, rfl, ?_⟩
    have last : ∀ (s4 : Int × Int) (row : List Int) {K : Ko} pin, Near rs row → 5 ∉ pin → 7 ∉ pin → (∀ e, (∃ (s' : Int × Int) (L : List Lk) (rs : List Int) (k : Nat) (o6 o7 : Option SV), e = [some (1000, fd s'), some (0, .int w), some (0, .int m), some (1000, looksD L), some (0, .int (1 + lg)), some (k + 1, .lst (rs.map .int)), o6, o7, none, none] ∧ LooksOk w m (100 + (i + 1)) L ∧ (rs.length : Int) = w ∧ ∀ x ∈ rs, -2 ≤ x ∧ x ≤ 2) → K.nx e) →
        WB (evC G (n + 3)) [.set 5 (.comp (.op .add [.op .ix [.var 5, .var 8], .op .ix [.var 7, .var 8]]) (.nm 8) (.rng1 (.var 1)) (.tt) [8]),
          .exp (.mutI 3 (.var 6) .insert [.cst (.int 0), .tupd [.op .mod [.op .add [.var 6, .cst (.int 1)], .var 4], .op .tupleOf [.var 7]]])] pin
          [some (1000, fd s4), some (0, .int w), some (0, .int m), some (1000, looksD L), some (0, .int (1 + lg)), some (k + 1, .lst (rs.map .int)), some (0, .int (0 + (i : Nat) * 1)), some (1000, .lst (row.map .int)), none, none] K := by
      intro s4 row K pin hn p5 p7 hK
      refine wb_cons (ws_set ?_)
      refine comp_feed (y := 7) (fun _ z => -2 ≤ z ∧ z ≤ 2) rfl (by omega) (by omega) (by simp) rfl ?_ ?_
      · intro s5 j hj P' hP
        show WE _ _ [some (1000, fd s5), some (0, .int w), some (0, .int m), some (1000, looksD L), some (0, .int (1 + lg)), some (k + 1, .lst (rs.map .int)), some (0, .int (0 + (i : Nat) * 1)), some (1000, .lst (row.map .int)), some (0, .int (0 + (j : Nat) * 1)), none] _
        obtain ⟨r, r1, r2, r3⟩ := ix_get hrl hj
        obtain ⟨z, z1, z2, z3⟩ := ix_get (rs := row) (by rw [hn.1]; exact hrl) hj
        repeat get_elem_tactic_trivial
        refine op_ixO r1 rfl ?_
        repeat get_elem_tactic_trivial
        refine op_ixO z1 rfl ?_
        repeat get_elem_tactic_trivial
        exact hP s5 _ (hn.2 j r z r2 z2)
      intro rs2 s5 hrl2 hrs2
      refine ⟨_, _, rfl, by rw [decide_eq_false p5]; rfl, ?_⟩
      repeat get_elem_tactic_trivial
      refine w_lookI rfl ?_
      repeat get_elem_tactic_trivial
      refine ⟨L, _, _, rfl, rfl, by omega, by have := hL.1; omega, fun l hl => by have := (hL.2 l hl).1; omega, ?_⟩
      repeat get_elem_tactic_trivial
      refine op_mod (by omega) ?_
      repeat get_elem_tactic_trivial
      refine op_tupleOfS (ints_flat _) ?_
      repeat get_elem_tactic_trivial
      refine ⟨((0 + (i : Nat) * 1 + 1) % (1 + lg), row), rfl, rfl, fun l hl => ?_⟩
      repeat get_elem_tactic_trivial
      have hl2 := hL.2 l (List.mem_of_getElem? hl)
      refine hK _ ⟨s5, _, rs2, 999, _, _, rfl, hL.set (by rw [List.length_cons]; omega) fun p hp => ?_, hrl2, fun x hx => ?_⟩
      · rcases List.mem_cons.mp hp with rfl | hp
        · refine ⟨Int.emod_nonneg _ (by omega), ?_, near_row hrl hr hn⟩
          have := Int.emod_lt_of_pos (0 + (i : Nat) * 1 + 1 : Int) (b := 1 + lg) (by omega)
          simp only
          omega
        · exact hl2.2 p hp
      · obtain ⟨j, hj⟩ := List.getElem?_of_mem hx
        exact hrs2 j x hj
    refine wb_cons (ws_set ?_)
    refine comp_feed (y := 7) (fun _ _ => True) rfl (by omega) (by omega) (by simp) rfl ?_ ?_
    · intro s5 j hj P' hP
      show WE _ _ [some (1000, fd s5), some (0, .int w), some (0, .int m), some (1000, looksD L), some (0, .int (1 + lg)), some (k + 1, .lst (rs.map .int)), some (0, .int (0 + (i : Nat) * 1)), o7, some (0, .int (0 + (j : Nat) * 1)), none] _
      repeat get_elem_tactic_trivial
      exists d, s6, d0, d1
      exact hP s6 _ trivial
    intro rw0 s5 hrw _
    refine ⟨_, _, rfl, by simp [Wk.slots], ?_⟩
    refine wb_cons (ws_set ?_)
    refine comp_feed (y := 7) (fun j z => ∀ r, rs[j]? = some r → -2 ≤ r + z ∧ r + z ≤ 2) rfl (by omega) (by omega) (by simp) rfl ?_ ?_
    · intro s6 j hj P' hP
      show WE _ _ [some (1000, fd s6), some (0, .int w), some (0, .int m), some (1000, looksD L), some (0, .int (1 + lg)), some (k + 1, .lst (rs.map .int)), some (0, .int (0 + (i : Nat) * 1)), some (1000, .lst (rw0.map .int)), some (0, .int (0 + (j : Nat) * 1)), none] _
      obtain ⟨r, r1, r2, r3⟩ := ix_get hrl hj
      obtain ⟨z, z1, z2, z3⟩ := ix_get (rs := rw0) hrw hj
      repeat get_elem_tactic_trivial
      refine op_ixO r1 rfl ?_
      repeat get_elem_tactic_trivial
      refine op_ixO z1 rfl ?_
      repeat get_elem_tactic_trivial
      refine op_ixO r1 rfl ?_
      repeat get_elem_tactic_trivial
      refine hP s6 _ fun r' hr' => ?_
      rw [r2] at hr'
      cases hr'
      split <;> split <;> omega
    intro row s6 hrow hrow2
    refine ⟨_, _, rfl, by simp [Wk.slots], ?_⟩
    have hnr : Near rs row := ⟨by omega, fun j r z hr hz => hrow2 j z hz r hr⟩
    refine wb_cons (ws_ite ?_)
    repeat get_elem_tactic_trivial
    refine and_dec (fun h3 => ?_) (fun h3 => ?_)
    · refine wb_cons (ws_set ?_)
      refine comp_neg (by omega) ?_
      refine ⟨_, _, rfl, by simp [Wk.slots], wb_nil ?_⟩
      refine last s6 (rs.map fun x => 0 - x) _ ⟨by simp, fun j r z hr hz => ?_⟩ (by simp [Wk.slots]) (by simp [Wk.slots]) fun e he => ⟨rfl, he⟩
      rw [List.getElem?_map, hr] at hz
      cases hz
      show -2 ≤ r + (0 - r) ∧ r + (0 - r) ≤ 2
      omega
    · refine wb_nil ?_
      refine last s6 row _ hnr (by simp [Wk.slots]) (by simp [Wk.slots]) fun e he => ⟨rfl, he⟩
  · rintro env ⟨s3, L, rs, k, o6, o7, rfl, hL, _, _⟩ _
    repeat get_elem_tactic_trivial
    exact h L s3 (hL.mono (by omega))
def B_reads (t_take : Nat) (t_free_reads : Nat) (t_late_reads : Nat) (t_ring_reads : Nat) (t_opposed_reads : Nat) : List S :=
  [.par [3, 4] [.call t_take [.var 0, .cst (.int 8)], .call t_take [.var 0, .cst (.int 16)]],
  .set 1 (.op .ix [.lstd [.cst (.int 1), .cst (.int 2), .cst (.int 2), .cst (.int 2), .cst (.int 2), .cst (.int 1), .cst (.int 2), .cst (.int 3)], .op .mod [.var 4, .cst (.int 8)]]),
  .set 2 (.op .add [.cst (.int 1), .call t_take [.var 0, .op .ix [.lstd [.cst (.int 3), .cst (.int 6)], .op .fdiv [.var 4, .cst (.int 8)]]]]),
  .ite (.cmp .lt (.var 3) (.cst (.int 3))) [.ret (.tupd [.var 1, .call t_free_reads [.var 0, .var 1, .var 2]])] [],
  .ite (.cmp .lt (.var 3) (.cst (.int 5))) [.ret (.tupd [.var 1, .call t_late_reads [.var 0, .var 1, .var 2]])] [],
  .ite (.cmp .eq (.var 3) (.cst (.int 5))) [.ret (.tupd [.var 1, .call t_ring_reads [.var 0, .var 1, .var 2]])] [],
  .set 1 (.op .max2 [.cst (.int 2), .var 1]),
  .ret (.tupd [.var 1, .call t_opposed_reads [.var 0, .var 1, .op .max2 [.var 1, .op .min2 [.var 2, .cst (.int 5)]]]])]
/-- the defs that draw reads stand where they are said to -/
structure ReadsAt (G : Gt) (t row back free late turned opp ring : Nat) : Prop where
  hTake : G[t]? = some ⟨2, 4, tkB⟩
  hRow : G[row]? = some ⟨2, 3, rwB t⟩
  hBack : G[back]? = some ⟨2, 5, B_back_row t⟩
  hFree : G[free]? = some ⟨3, 6, B_free_reads t row⟩
  hLate : G[late]? = some ⟨3, 6, B_late_reads t back⟩
  hTurned : G[turned]? = some ⟨3, 5, B_turned_row⟩
  hOpp : G[opp]? = some ⟨3, 12, B_opposed_reads t turned row⟩
  hRing : G[ring]? = some ⟨3, 10, B_ring_reads late t⟩
theorem readsD_ok {G : Gt} {n f t row back free late turned opp ring : Nat} (A : ReadsAt G t row back free late turned opp ring) (hg : G[f]? = some ⟨1, 5, B_reads t free late ring opp⟩) {s : Int × Int} {Q : SV → List SV → Prop}
    (h : ∀ (w : Int) (m : Nat) (L : List Lk) s', 1 ≤ w → w ≤ 3 → 1 ≤ m → m ≤ 6 → LooksOk w m 200 L → Q (0, .tup [.int w, looksD L]) [(1000, fd s')]) : CPS (evC G (n + 5)) f [(1000, fd s)] [0] Q := by
  have ht := A.hTake
  refine w_body hg rfl ?_
  unfold B_reads
  show WB _ _ _ [some (1000, fd s), none, none, none, none] _
  refine wb_cons (ws_par ?_)
  repeat get_elem_tactic_trivial
  exists fm, s1, fm0, fm1
  exists wd, s2, wd0, wd1
  obtain ⟨w, w1, w2⟩ := ints_at (ys := [1, 2, 2, 2, 2, 1, 2, 3]) (a := wd % 8) (by omega) (by simp; omega)
  refine op_ixL w1 ?_
  have hw : 1 ≤ w ∧ w ≤ 3 := by
    simp only [List.mem_cons, List.not_mem_nil, or_false] at w2
    omega
  obtain ⟨p, p1, p2⟩ := ints_at (ys := [3, 6]) (a := wd / 8) (by omega) (by simp; omega)
  have hp : p = 3 ∨ p = 6 := by
    simp only [List.mem_cons, List.not_mem_nil, or_false] at p2
    exact p2
  repeat get_elem_tactic_trivial
  refine op_ixL p1 ?_
  repeat get_elem_tactic_trivial
  refine take_ok ht (by omega) (log_small (by omega) (by omega)) fun q s3 q0 q1 => ?_
  obtain ⟨m, hm⟩ : ∃ m : Nat, (1 + q : Int) = m := ⟨(1 + q).toNat, by omega⟩
  have hm1 : 1 ≤ m ∧ m ≤ 6 := by omega
  repeat get_elem_tactic_trivial
  rw [hm]
  refine and_dec (fun h3 => ?_) (fun h3 => ?_)
  · repeat get_elem_tactic_trivial
    refine free_ok A.hFree ht A.hRow hw.1 (by omega) hm1.1 (by omega) fun L s4 hL => ?_
    repeat get_elem_tactic_trivial
    exact h w m L s4 hw.1 hw.2 hm1.1 hm1.2 (hL.mono (by omega))
  · repeat get_elem_tactic_trivial
    refine and_dec (fun h4 => ?_) (fun h4 => ?_)
    · repeat get_elem_tactic_trivial
      refine late_ok A.hLate ht A.hBack hw.1 (by omega) hm1.1 (by omega) fun L s4 hL => ?_
      repeat get_elem_tactic_trivial
      exact h w m L s4 hw.1 hw.2 hm1.1 hm1.2 (hL.mono (by omega))
    · repeat get_elem_tactic_trivial
      refine and_dec (fun h5 => ?_) (fun h5 => ?_)
      · repeat get_elem_tactic_trivial
        refine ring_ok A.hRing ht A.hLate A.hBack hw.1 (by omega) hm1.1 (by omega) fun L s4 hL => ?_
        repeat get_elem_tactic_trivial
        exact h w m L s4 hw.1 hw.2 hm1.1 hm1.2 hL
      · repeat get_elem_tactic_trivial
        generalize hw' : (if w > 2 then w else 2) = w'
        have hw2 : 2 ≤ w' ∧ w' ≤ 3 := by rw [← hw']; split <;> omega
        repeat get_elem_tactic_trivial
        generalize hm' : (if (if (5 : Int) < (m : Int) then (5 : Int) else m) > w' then (if (5 : Int) < (m : Int) then (5 : Int) else m) else w') = m'
        obtain ⟨m2, rfl⟩ : ∃ m2 : Nat, m' = m2 := ⟨m'.toNat, by rw [← hm']; split <;> (try split) <;> omega⟩
        have hm2 : w' ≤ m2 ∧ m2 ≤ 5 := by
          have : w' ≤ (m2 : Int) ∧ (m2 : Int) ≤ 5 := by rw [← hm']; split <;> (try split) <;> omega
          omega
        refine opposed_ok A.hOpp ht A.hTurned A.hRow hw2.1 hw2.2 hm2.1 (by omega) fun L s4 hL => ?_
        repeat get_elem_tactic_trivial
        exact h w' m2 L s4 (by omega) hw2.2 (by omega) (by omega) (hL.mono (by omega))
end Ck

set_option Elab.async false
set_option linter.all false
set_option maxRecDepth 100000
/-! Ck42: houses drawn. -/
namespace Ck
open PySem
local macro_rules
  | `(tactic| get_elem_tactic_trivial) => `(tactic| first
    | (with_reducible first
        | refine wb_cons ?_
        | refine wb_nil ?_
        | refine ws_set ?_
        | refine ws_ret ?_
        | refine ws_exp ?_
        | refine ws_setT ?_
        | refine ws_setIx ?_
        | refine ws_setSl ?_
        | refine ws_ite ?_
        | (apply ws_aug; with_unfolding_all rfl)
        | refine w_cst ?_
        | refine w_glo ?_
        | (apply w_varS; with_unfolding_all rfl)
        | refine sl_zero ?_
        | (apply sl_flat; with_unfolding_all rfl)
        | (apply sl_own; with_unfolding_all rfl; with_unfolding_all rfl)
        | refine w_op ?_
        | refine w_tupd ?_
        | refine w_lstd ?_
        | refine w_call ?_
        | (apply w_mut; with_unfolding_all rfl; with_unfolding_all rfl)
        | refine w_slc ?_
        | refine w_met ?_
        | refine wl_cons ?_
        | refine wl_nil ?_
        | refine wt_cmp ?_
        | refine wt_conj ?_
        | refine wt_disj ?_
        | refine wt_not ?_
        | refine wt_isn ?_
        | refine rr_fr ?_
        | (apply rr_sl; with_unfolding_all rfl)
        | refine op_lenS ?_
        | refine op_lenL ?_
        | refine op_lenT ?_
        | refine op_add ?_
        | refine op_sub ?_
        | refine op_lt ?_
        | refine op_le ?_
        | refine op_gt ?_
        | refine op_ge ?_
        | refine op_eq eqv_int ?_
        | refine op_ne eqv_int ?_
        | refine op_min2 ?_
        | refine op_max2 ?_
        | refine op_neg ?_
        | refine op_not ?_
        | refine op_int1b ?_
        | refine op_isInt ?_
        | refine op_isTup ?_
        | refine op_isLst ?_
        | refine op_isStr ?_
        | refine op_isBool ?_
        | (apply op_mod; (first | assumption | decide))
        | (apply op_fdiv; (first | assumption | decide); (first | assumption | decide))
        | (refine op_mul (.inl ?_) ?_; decide)
        | (refine op_mul (.inr ?_) ?_; decide)
        | (apply op_pow; decide; decide; decide)
        | refine op_ixL0 ?_
        | refine op_ixT0 ?_
        | (apply op_ixO0; with_unfolding_all rfl)
        | refine op_ixL1 ?_
        | refine op_ixT1 ?_
        | (apply op_ixO1; with_unfolding_all rfl)
        | refine op_ixL2 ?_
        | refine op_ixT2 ?_
        | (apply op_ixO2; with_unfolding_all rfl)
        | refine op_ixL3 ?_
        | refine op_ixT3 ?_
        | (apply op_ixO3; with_unfolding_all rfl)
        | (apply and_eq; with_unfolding_all rfl)
        | (apply ex_pair; with_unfolding_all rfl)
        | (apply ex_some; with_unfolding_all rfl)
        | (apply ex_bl; with_unfolding_all rfl)
        | (apply ex_int; with_unfolding_all rfl)
        | (apply ex_ix; with_unfolding_all rfl; with_unfolding_all rfl; with_unfolding_all rfl)
        | (apply ex_two; with_unfolding_all rfl)
        | refine and_t ?_
        | refine and_f ?_
        | refine and_nt ?_
        | refine and_nf ?_)
    | dsimp only [backIn, hideL, lent, lentK, getD_z, getD_s, set_z, set_s, map_c, map_n, app_c, app_n, rep_s, rep_z])
local macro_rules
  | `(tactic| exists $d, $s, $h0, $h1) => `(tactic| (refine take_ok (by assumption) (by decide) (by decide) fun $d $s $h0 $h1 => ?_; repeat get_elem_tactic_trivial))
structure Hs where
  ways : Int
  wheel : Int
  desks : List (Str × Tr)
def dkD (p : Str × Tr) : D := .tup [.str p.1, p.2.toD]
def Hs.toD (h : Hs) : D := .tup [.int h.ways, .int h.wheel, .tup (h.desks.map dkD)]
def Hs.names (h : Hs) : List Str := h.desks.map (·.1)
def LfOk (names : List Str) (w : Int) : Lf → Prop
  | .num v => 0 ≤ v ∧ v ≤ 1000000000
  | .at_ nm ns => nm ∈ names ∧ RowOk w ns
def Lf.isAt : Lf → Bool
  | .num _ => false
  | .at_ _ _ => true
def LsOk (names : List Str) (w : Int) (c : Nat) (ls : List Lf) : Prop := (∀ l ∈ ls, LfOk names w l) ∧ (ls.filter Lf.isAt).length ≤ c ∧ ls.length ≤ 20
def RuleOk (names : List Str) (w : Int) (c : Nat) (t : Tr) : Prop := t.sg ∧ t.size ≤ 40 ∧ LsOk names w c t.lfs
/-- what every drawn house is -/
structure HouseOk (h : Hs) : Prop where
  ways : 1 ≤ h.ways ∧ h.ways ≤ 3
  wheel : 2 ≤ h.wheel ∧ h.wheel ≤ 1000000000
  many : 1 ≤ h.desks.length ∧ h.desks.length ≤ 6
  nodup : h.names.Nodup
  names : ∀ z ∈ h.names, NameOk z
  rules : ∀ p ∈ h.desks, RuleOk h.names h.ways (16 / h.desks.length) p.2
theorem cutD_to {xs : List D} {q : Int} (h : 0 ≤ q) : cutD xs none (some q) = xs.take q.toNat := by
  unfold cutD HT.sIx
  have : ¬ q < 0 := by omega
  simp [this]
theorem Lf.pl {names : List Str} {w : Int} {l : Lf} (hn : ∀ z ∈ names, NameOk z) (h : LfOk names w l) : l.toD.pl = true ∧ l.toD.dep ≤ 3 := by
  cases l with
  | num v =>
    refine ⟨?_, by simp [Lf.toD, D.dep, D.deps]⟩
    simp only [Lf.toD, D.pl, D.pls, Bool.and_true]
    decide +kernel
  | at_ nm ns =>
    refine ⟨?_, ?_⟩
    · simp only [Lf.toD, D.pl, D.pls, Bool.and_true, Bool.and_eq_true]
      exact ⟨by decide +kernel, (hn nm h.1).tx.pl, pls_map fun _ _ => rfl⟩
    · simp only [Lf.toD, D.dep, D.deps]
      rw [deps_map0 fun _ _ => rfl]
      decide
theorem pls_mem {l : List D} (h : ∀ x ∈ l, x.pl = true) : D.pls l = true := by
  have := pls_map (f := fun d => d) h
  rwa [List.map_id'] at this
theorem deps_mem {m : Nat} : ∀ {l : List D}, (∀ x ∈ l, x.dep ≤ m) → D.deps l ≤ m
  | [], _ => Nat.zero_le _
  | x :: l, h => by
    simp only [D.deps]
    exact Nat.max_le.mpr ⟨h x (List.mem_cons_self ..), deps_mem fun y hy => h y (List.mem_cons_of_mem _ hy)⟩
def B_house (t_reads : Nat) (t_take : Nat) (t_names : Nat) (t_grown : Nat) : List S :=
  [.setT (.tup [.nm 5, .nm 6]) (.call t_reads [.var 0]),
  .set 1 (.op .ix [.lstd [.op .add [.cst (.int 2), .call t_take [.var 0, .cst (.int 9)]], .op .add [.cst (.int 2), .call t_take [.var 0, .cst (.int 998)]], .op .sub [.cst (.int 1000000000), .call t_take [.var 0, .cst (.int 9)]]], .call t_take [.var 0, .cst (.int 3)]]),
  .set 2 (.call t_names [.var 0, .op .len [.var 6]]),
  .set 3 (.lstd []),
  .forS (.nm 4) (.rng1 (.op .len [.var 6])) [.set 7 (.comp (.tupd [.cst (.str "at"), .op .ix [.var 2, .var 10], .var 11]) (.tup [.nm 10, .nm 11]) (.seq (.op .slB [.op .ix [.var 6, .var 4], .op .fdiv [.cst (.int 16), .op .len [.var 6]]])) (.tt) [10, 11]),
  .forS (.nm 8) (.rng1 (.op .add [.call t_take [.var 0, .cst (.int 2)], .op .int1 [.op .eq [.var 7, .lstd []]]])) [.set 9 (.call t_take [.var 0, .op .ix [.lstd [.cst (.int 9), .cst (.int 1000000001)], .call t_take [.var 0, .cst (.int 2)]]]),
  .exp (.mut 7 .insert [.call t_take [.var 0, .op .add [.op .len [.var 7], .cst (.int 1)]], .tupd [.cst (.str "num"), .var 9]])],
  .exp (.mut 3 .append [.tupd [.op .ix [.var 2, .var 4], .call t_grown [.var 0, .var 7]]])],
  .ret (.tupd [.var 5, .var 1, .op .tupleOf [.var 3]])]
/-- the leaves that read -/
theorem comp_leaves {c : Cal} {s : Int × Int} {wh w : Int} {ys : List Str} {L : List Lk} {m : Nat} {o3 o7 o8 o9 : Option SV} {i : Nat} (hL : LooksOk w m 200 L) (hm : 1 ≤ m) (hm6 : m ≤ 6) (hi : i < m) (hy : ys.length = m) {P : R → Env → Prop}
    (h : ∀ ls : List Lf, LsOk ys w (16 / m) ls → ls.length ≤ 16 → P ⟨.fr, 1000, .lst (ls.map Lf.toD)⟩ [some (1000, fd s), some (0, .int wh), some (1000, .lst (ys.map .str)), o3, some (0, .int i), some (0, .int w), some (0, looksD L), o7, o8, o9, none, none]) :
    WE c (.comp (.tupd [.cst (.str "at"), .op .ix [.var 2, .var 10], .var 11]) (.tup [.nm 10, .nm 11]) (.seq (.op .slB [.op .ix [.var 6, .var 4], .op .fdiv [.cst (.int 16), .op .len [.var 6]]])) (.tt) [10, 11])
      [some (1000, fd s), some (0, .int wh), some (1000, .lst (ys.map .str)), o3, some (0, .int i), some (0, .int w), some (0, looksD L), o7, o8, o9, none, none] P := by
  refine w_comp (wi_seq ?_)
  have hl : i < L.length := by rw [hL.1]; exact hi
  have hx : L[i]? = some L[i] := List.getElem?_eq_getElem hl
  have hok := hL.2 _ (List.getElem_mem hl)
  generalize L[i] = l at hx hok
  have e0 : at' (L.map lkD) (i : Int) = some (.lst (l.map rdD)) := at_map (by omega) (by rw [Int.toNat_natCast]; exact hx)
  have eL : (L.map lkD).length = m := by rw [List.length_map]; exact hL.1
  unfold looksD at h ⊢
  repeat get_elem_tactic_trivial
  refine op_ixL e0 ?_
  repeat get_elem_tactic_trivial
  rw [eL]
  refine op_fdiv (by omega) (log_small (by omega) (by omega)) ?_
  have eq16 : ((16 : Int) / (m : Int)).toNat = 16 / m := by
    have : (16 : Int) / (m : Int) = ((16 / m : Nat) : Int) := by simp
    rw [this]
    rfl
  have hq : (0 : Int) ≤ 16 / (m : Int) := Int.ediv_nonneg (by decide) (by omega)
  repeat get_elem_tactic_trivial
  refine op_genM (d := .lst ((l.take (16 / m)).map rdD)) rfl rfl (by
    show sliceD (.lst (l.map rdD)) none (some (16 / (m : Int))) = _
    simp only [sliceD]
    rw [cutD_to hq, eq16, List.map_take]) ?_
  repeat get_elem_tactic_trivial
  have tl : (l.take (16 / m)).length ≤ 16 / m := by rw [List.length_take]; omega
  have t16 : 16 / m ≤ 16 := Nat.div_le_self ..
  have tm : ∀ p ∈ l.take (16 / m), 0 ≤ p.1 ∧ p.1 < m ∧ RowOk w p.2 := fun p hp => hok.2 p (List.mem_of_mem_take hp)
  generalize l.take (16 / m) = u at tl tm
  have hf : ∀ p ∈ u, ∃ y, at' (ys.map D.str) p.1 = some (.str y) ∧ y ∈ ys := fun p hp => strs_at (tm p hp).1 (by have := (tm p hp).2.1; omega)
  refine ⟨fun j e acc => ∃ ls : List Lf, e = [some (1000, fd s), some (0, .int wh), some (1000, .lst (ys.map .str)), o3, some (0, .int i), some (0, .int w), some (0, .lst (L.map lkD)), o7, o8, o9, none, none] ∧ acc = ls.map (fun l => ((0, l.toD) : SV)) ∧ ls.length = j ∧ ∀ l ∈ ls, LfOk ys w l, ⟨[], rfl, rfl, rfl, fun _ h => nomatch h⟩, ?_, ?_⟩
  · rintro j e acc hj ⟨ls, rfl, rfl, rfl, hls⟩
    rw [List.length_map] at hj
    have hx2 : u[ls.length]? = some u[ls.length] := List.getElem?_eq_getElem hj
    have hm2 := List.getElem_mem hj
    generalize u[ls.length] = p at hx2 hm2
    obtain ⟨y, y1, y2⟩ := hf p hm2
    have hr := tm p hm2
    obtain ⟨o, ns⟩ := p
    refine ⟨rdD (o, ns), [some (1000, fd s), some (0, .int wh), some (1000, .lst (ys.map .str)), o3, some (0, .int i), some (0, .int w), some (0, .lst (L.map lkD)), o7, o8, o9, some (0, .int o), some (0, .tup (ns.map .int))], ?_, rfl, wt_tt ⟨(fun h => nomatch h), fun _ => ?_⟩⟩
    · show (u.map rdD)[ls.length]? = _
      rw [List.getElem?_map, hx2]
      rfl
    repeat get_elem_tactic_trivial
    refine op_ixO y1 rfl ?_
    repeat get_elem_tactic_trivial
    refine And.intro ?_ (And.intro rfl ⟨ls ++ [.at_ y ns], rfl, by simp [Lf.toD], by simp, fun x hx => ?_⟩)
    · rw [List.length_map, sizeLine_eq]
      omega
    · rcases List.mem_append.mp hx with hx | hx
      · exact hls x hx
      · rw [List.mem_singleton] at hx
        rw [hx]
        exact ⟨y2, hr.2.2⟩
  · rintro e acc ⟨ls, rfl, rfl, hl2, hls⟩
    rw [List.length_map] at hl2
    rw [dep_flat (f := Lf.toD) Lf.flat]
    have em : (ls.map (fun l => ((0, l.toD) : SV))).map (·.2) = ls.map Lf.toD := by rw [List.map_map]; rfl
    rw [em]
    exact h ls ⟨hls, Nat.le_trans (List.length_filter_le ..) (by omega), by omega⟩ (by omega)
theorem LsOk.ins {names : List Str} {w : Int} {c k : Nat} {ls : List Lf} {v : Int} (h : LsOk names w c ls) (hv : 0 ≤ v ∧ v ≤ 1000000000) (hl : ls.length ≤ 19) : LsOk names w c (ls.take k ++ [.num v] ++ ls.drop k) := by
  refine ⟨fun l hl => ?_, ?_, ?_⟩
  · rcases List.mem_append.mp hl with hl | hl
    · rcases List.mem_append.mp hl with hl | hl
      · exact h.1 l (List.mem_of_mem_take hl)
      · rw [List.mem_singleton] at hl
        rw [hl]
        exact hv
    · exact h.1 l (List.mem_of_mem_drop hl)
  · have e : (ls.take k ++ [Lf.num v] ++ ls.drop k).filter Lf.isAt = ls.filter Lf.isAt := by
      have : ls.filter Lf.isAt = (ls.take k ++ ls.drop k).filter Lf.isAt := by rw [List.take_append_drop]
      rw [this]
      simp only [List.filter_append, List.filter_cons, List.filter_nil, Lf.isAt, Bool.false_eq_true, if_false, List.append_nil]
    rw [e]
    exact h.2.1
  · simp
    omega
theorem ins_len {α : Type} {l : List α} {k : Nat} {x : α} : (l.take k ++ [x] ++ l.drop k).length = l.length + 1 := by
  simp
  omega
theorem house_ok {G : Gt} {n f t rd row back free late turned opp ring nm gw : Nat} (A : ReadsAt G t row back free late turned opp ring) (hrd : G[rd]? = some ⟨1, 5, B_reads t free late ring opp⟩) (hnm : G[nm]? = some ⟨2, 9, B_names t⟩) (hgw : G[gw]? = some ⟨2, 5, gwB t⟩)
    (hg : G[f]? = some ⟨1, 12, B_house rd t nm gw⟩) {s : Int × Int} {Q : SV → List SV → Prop} (h : ∀ (x : Hs) s', HouseOk x → Q (0, x.toD) [(1000, fd s')]) : CPS (evC G (n + 6)) f [(1000, fd s)] [0] Q := by
  have ht := A.hTake
  refine w_body hg rfl ?_
  unfold B_house
  show WB _ _ _ [some (1000, fd s), none, none, none, none, none, none, none, none, none, none, none] _
  repeat get_elem_tactic_trivial
  refine readsD_ok A hrd fun w m L s1 w1 w3 m1 m6 hL => ?_
  repeat get_elem_tactic_trivial
  exists a1, s2, a10, a11
  exists a2, s3, a20, a21
  exists a3, s4, a30, a31
  exists a4, s5, a40, a41
  obtain ⟨wh, wh1, wh2⟩ := ints_at (ys := [2 + a1, 2 + a2, 1000000000 - a3]) a40 (by simpa using a41)
  refine op_ixL wh1 ?_
  have hwh : 2 ≤ wh ∧ wh ≤ 1000000000 := by
    simp only [List.mem_cons, List.not_mem_nil, or_false] at wh2
    omega
  clear wh1 wh2
  have eL : (L.map lkD).length = m := by rw [List.length_map]; exact hL.1
  have eD : looksD L = .lst (L.map lkD) := rfl
  rw [eD]
  repeat get_elem_tactic_trivial
  rw [eL]
  refine names_ok hnm ht m6 fun ys s6 hyl hyn hyo => ?_
  repeat get_elem_tactic_trivial
  refine ws_for (wi_rng1 ?_)
  repeat get_elem_tactic_trivial
  rw [eL]
  refine And.intro ⟨by omega, by omega⟩ ⟨m, by simp [Wk.size], fun i env => ∃ (s' : Int × Int) (ds : List (Str × Tr)) (o4 o7 o8 o9 : Option SV), env = [some (1000, fd s'), some (0, .int wh), some (1000, .lst (ys.map .str)), some (1000, .lst (ds.map dkD)), o4, some (0, .int w), some (0, .lst (L.map lkD)), o7, o8, o9, none, none] ∧ ds.map (·.1) = ys.take i ∧ ∀ p ∈ ds, RuleOk ys w (16 / m) p.2, ⟨s6, [], _, _, _, _, rfl, rfl, fun _ h => nomatch h⟩, ?_, ?_⟩
  · rintro i env hi ⟨s7, ds, o4, o7, o8, o9, rfl, hds, hrl⟩
    have hdl : ds.length = i := by
      have := congrArg List.length hds
      rw [List.length_map, List.length_take] at this
      omega
    refine ⟨_, [some (1000, fd s7), some (0, .int wh), some (1000, .lst (ys.map .str)), some (1000, .lst (ds.map dkD)), some (0, .int (0 + (i : Nat) * 1)), some (0, .int w), some (0, .lst (L.map lkD)), o7, o8, o9, none, none], rfl, rfl, ?_⟩
    have ei : (0 : Int) + (i : Nat) * 1 = (i : Nat) := by omega
    rw [ei]
    refine wb_cons (ws_set ?_)
    refine comp_leaves hL m1 m6 hi hyl fun ls hls hl16 => ?_
    refine ⟨_, _, rfl, by simp [Wk.slots], ?_⟩
    refine wb_cons (ws_for (wi_rng1 ?_))
    repeat get_elem_tactic_trivial
    exists c1, s8, c10, c11
    refine op_eq (k := decide (ls = [])) ?_ ?_
    · rw [eqD_pl]
      · simp only [D.beq]
        cases ls <;> rfl
      · simp only [D.pl]
        exact pls_mem fun x hx => by obtain ⟨l, hl, rfl⟩ := List.mem_map.mp hx; exact (Lf.pl hyo (hls.1 l hl)).1
      · rfl
      · simp only [D.dep]
        have := deps_mem (m := 3) (l := ls.map Lf.toD) fun x hx => by obtain ⟨l, hl, rfl⟩ := List.mem_map.mp hx; exact (Lf.pl hyo (hls.1 l hl)).2
        omega
      · decide
    repeat get_elem_tactic_trivial
    generalize hcount : (c1 + if decide (ls = []) = true then (1 : Int) else 0) = cnt
    have hc0 : 0 ≤ cnt ∧ cnt ≤ 2 ∧ (ls = [] → 1 ≤ cnt) := by
      rw [← hcount]
      refine ⟨by split <;> omega, by split <;> omega, fun e => ?_⟩
      rw [if_pos (by simp [e])]
      omega
    clear hcount
    refine And.intro ⟨by omega, by omega⟩ ⟨cnt.toNat, rfl, fun j env => ∃ (s' : Int × Int) (ls' : List Lf) (o8 o9 : Option SV), env = [some (1000, fd s'), some (0, .int wh), some (1000, .lst (ys.map .str)), some (1000, .lst (ds.map dkD)), some (0, .int i), some (0, .int w), some (0, .lst (L.map lkD)), some (1000, .lst (ls'.map Lf.toD)), o8, o9, none, none] ∧ LsOk ys w (16 / m) ls' ∧ ls'.length = ls.length + j, ⟨s8, ls, o8, o9, rfl, hls, rfl⟩, ?_, ?_⟩
    · rintro j env hj ⟨s9, ls', o8, o9, rfl, hls', hll⟩
      refine ⟨_, [some (1000, fd s9), some (0, .int wh), some (1000, .lst (ys.map .str)), some (1000, .lst (ds.map dkD)), some (0, .int i), some (0, .int w), some (0, .lst (L.map lkD)), some (1000, .lst (ls'.map Lf.toD)), some (0, .int (0 + (j : Nat) * 1)), o9, none, none], rfl, rfl, ?_⟩
      repeat get_elem_tactic_trivial
      exists b1, s10, b10, b11
      obtain ⟨mx, mx1, mx2⟩ := ints_at (ys := [9, 1000000001]) b10 (by simpa using b11)
      refine op_ixL mx1 ?_
      have hmx : 9 ≤ mx ∧ mx ≤ 1000000001 := by
        simp only [List.mem_cons, List.not_mem_nil, or_false] at mx2
        omega
      repeat get_elem_tactic_trivial
      refine take_ok ht (by omega) (log_small (by omega) (by omega)) fun v s11 v0 v1 => ?_
      repeat get_elem_tactic_trivial
      rw [List.length_map]
      refine take_ok ht (by omega) (log_small (by omega) (by omega)) fun k s12 k0 k1 => ?_
      repeat get_elem_tactic_trivial
      refine ⟨(1000, .lst ((ls'.take k.toNat ++ [Lf.num v] ++ ls'.drop k.toNat).map Lf.toD)), (0, .non), ?_, ?_⟩
      · unfold mutF
        rw [if_neg (by decide)]
        simp only
        rw [if_pos ⟨by rw [List.length_map, sizeLine_eq]; omega, k0, by omega⟩]
        have e5 : depOf [((0, D.tup [.str "num", .int v]) : SV)] = 1000 := by simp [depOf, D.isC, BIG]
        rw [List.map_append, List.map_append, List.map_take, List.map_drop]
        show some ((min 1000 (depOf [((0, D.tup [.str "num", .int v]) : SV)]), _), _) = _
        rw [e5]
        rfl
      repeat get_elem_tactic_trivial
      exact ⟨s12, _, _, _, rfl, hls'.ins ⟨v0, by omega⟩ (by omega), by rw [ins_len]; omega⟩
    · rintro env ⟨s9, ls', o8, o9, rfl, hls', hll⟩ _
      obtain ⟨y, y1, y2⟩ := ix_mem (l := ys) (a := (i : Int)) (by omega) (by omega)
      have y3 : at' (ys.map D.str) (i : Int) = some (.str y) := at_map (by omega) y1
      have hl1 : 1 ≤ ls'.length := by
        rcases Nat.eq_zero_or_pos ls.length with h0 | h0
        · have := hc0.2.2 (List.length_eq_zero_iff.mp h0)
          omega
        · omega
      repeat get_elem_tactic_trivial
      refine op_ixO y3 rfl ?_
      repeat get_elem_tactic_trivial
      refine grown_ok hgw ht hl1 (by have := hls'.2.2; omega) fun x s10 x1 x2 x3 => ?_
      have xf := x.flat
      repeat get_elem_tactic_trivial
      have ep : D.tup [.str y, x.toD] = dkD (y, x) := rfl
      rw [ep]
      refine mut_app (by rw [List.length_map, sizeLine_eq]; omega) rfl ?_
      repeat get_elem_tactic_trivial
      refine ⟨s10, ds ++ [(y, x)], _, _, _, _, by rw [List.map_append]; rfl, ?_, fun p hp => ?_⟩
      · rw [List.map_append, hds, take_snoc (x := y) (by rw [Int.toNat_natCast] at y1; exact y1)]
        rfl
      · rcases List.mem_append.mp hp with hp | hp
        · exact hrl p hp
        · rw [List.mem_singleton] at hp
          rw [hp]
          exact ⟨x2, by have := hls'.2.2; simp only; omega, by simp only; rw [x1]; exact hls'⟩
  · rintro env ⟨s7, ds, o4, o7, o8, o9, rfl, hds, hrl⟩ _
    rw [← hyl, List.take_length] at hds
    have hdl : ds.length = m := by
      have := congrArg List.length hds
      rw [List.length_map] at this
      omega
    repeat get_elem_tactic_trivial
    refine op_tupleOfS (by simp [dkD, D.isC]) ?_
    repeat get_elem_tactic_trivial
    refine h ⟨w, wh, ds⟩ s7 ⟨⟨w1, w3⟩, hwh, by simp only; omega, ?_, ?_, ?_⟩
    · show (ds.map (·.1)).Nodup
      rw [hds]
      exact hyn
    · show ∀ z ∈ ds.map (·.1), NameOk z
      rw [hds]
      exact hyo
    · show ∀ p ∈ ds, RuleOk (ds.map (·.1)) w (16 / ds.length) p.2
      rw [hds, hdl]
      exact hrl
end Ck

set_option Elab.async false
set_option linter.all false
set_option maxRecDepth 100000
/-! Ck43: reckoning with dicts. -/
namespace Ck
open PySem
local macro_rules
  | `(tactic| get_elem_tactic_trivial) => `(tactic| first
    | (with_reducible first
        | refine wb_cons ?_
        | refine wb_nil ?_
        | refine ws_set ?_
        | refine ws_ret ?_
        | refine ws_exp ?_
        | refine ws_setT ?_
        | refine ws_setIx ?_
        | refine ws_setSl ?_
        | refine ws_ite ?_
        | (apply ws_aug; with_unfolding_all rfl)
        | refine w_cst ?_
        | refine w_glo ?_
        | (apply w_varS; with_unfolding_all rfl)
        | refine sl_zero ?_
        | (apply sl_flat; with_unfolding_all rfl)
        | (apply sl_own; with_unfolding_all rfl; with_unfolding_all rfl)
        | refine w_op ?_
        | refine w_tupd ?_
        | refine w_lstd ?_
        | refine w_call ?_
        | (apply w_mut; with_unfolding_all rfl; with_unfolding_all rfl)
        | refine w_slc ?_
        | refine w_met ?_
        | refine wl_cons ?_
        | refine wl_nil ?_
        | refine wt_cmp ?_
        | refine wt_conj ?_
        | refine wt_disj ?_
        | refine wt_not ?_
        | refine wt_isn ?_
        | refine rr_fr ?_
        | (apply rr_sl; with_unfolding_all rfl)
        | refine op_lenS ?_
        | refine op_lenL ?_
        | refine op_lenT ?_
        | refine op_add ?_
        | refine op_sub ?_
        | refine op_lt ?_
        | refine op_le ?_
        | refine op_gt ?_
        | refine op_ge ?_
        | refine op_eq eqv_int ?_
        | refine op_ne eqv_int ?_
        | refine op_min2 ?_
        | refine op_max2 ?_
        | refine op_neg ?_
        | refine op_not ?_
        | refine op_int1b ?_
        | refine op_isInt ?_
        | refine op_isTup ?_
        | refine op_isLst ?_
        | refine op_isStr ?_
        | refine op_isBool ?_
        | (apply op_mod; (first | assumption | decide))
        | (apply op_fdiv; (first | assumption | decide); (first | assumption | decide))
        | (refine op_mul (.inl ?_) ?_; decide)
        | (refine op_mul (.inr ?_) ?_; decide)
        | (apply op_pow; decide; decide; decide)
        | refine op_ixL0 ?_
        | refine op_ixT0 ?_
        | (apply op_ixO0; with_unfolding_all rfl)
        | refine op_ixL1 ?_
        | refine op_ixT1 ?_
        | (apply op_ixO1; with_unfolding_all rfl)
        | refine op_ixL2 ?_
        | refine op_ixT2 ?_
        | (apply op_ixO2; with_unfolding_all rfl)
        | refine op_ixL3 ?_
        | refine op_ixT3 ?_
        | (apply op_ixO3; with_unfolding_all rfl)
        | (apply and_eq; with_unfolding_all rfl)
        | (apply ex_pair; with_unfolding_all rfl)
        | (apply ex_some; with_unfolding_all rfl)
        | (apply ex_bl; with_unfolding_all rfl)
        | (apply ex_int; with_unfolding_all rfl)
        | (apply ex_ix; with_unfolding_all rfl; with_unfolding_all rfl; with_unfolding_all rfl)
        | (apply ex_two; with_unfolding_all rfl)
        | refine and_t ?_
        | refine and_f ?_
        | refine and_nt ?_
        | refine and_nf ?_)
    | dsimp only [backIn, hideL, lent, lentK, getD_z, getD_s, set_z, set_s, map_c, map_n, app_c, app_n, rep_s, rep_z])
local macro_rules
  | `(tactic| exists $d, $s, $h0, $h1) => `(tactic| (refine take_ok (by assumption) (by decide) (by decide) fun $d $s $h0 $h1 => ?_; repeat get_elem_tactic_trivial))
/-- keys of a kind -/
structure KeyF {α : Type} [DecidableEq α] (f : α → D) : Prop where
  eq : ∀ a b, keq (f a) (f b) = decide (a = b)
  ok : ∀ (l : List α) (a : α), keyB (l.map f) (f a) = true
/-- put in, if it is not there -/
def addK {α : Type} [DecidableEq α] (l : List α) (a : α) : List α := if a ∈ l then l else l ++ [a]
section
variable {α : Type} [DecidableEq α] {f : α → D}
theorem dIx_some (K : KeyF f) {a : α} : ∀ {l : List α} {i : Nat}, l.Nodup → l[i]? = some a → dIx (l.map f) (f a) = some i
  | [], _, _, h => by simp at h
  | b :: l, 0, _, h => by
    simp at h; subst h
    rw [List.map_cons, dIx, K.eq, decide_eq_true rfl]; rfl
  | b :: l, i + 1, nd, h => by
    have h' : l[i]? = some a := by simpa using h
    obtain ⟨n1, n2⟩ := List.nodup_cons.mp nd
    have : ¬ b = a := fun e => n1 (e ▸ List.mem_of_getElem? h')
    rw [List.map_cons, dIx, K.eq, decide_eq_false this, dIx_some K n2 h']; rfl
theorem dIx_no (K : KeyF f) {a : α} : ∀ {l : List α}, a ∉ l → dIx (l.map f) (f a) = none
  | [], _ => rfl
  | b :: l, h => by
    rw [List.mem_cons, not_or] at h
    rw [List.map_cons, dIx, K.eq, decide_eq_false (fun e => h.1 e.symm), dIx_no K h.2]; rfl
theorem dIx_ex (K : KeyF f) {a : α} : ∀ {l : List α}, a ∈ l → ∃ i, dIx (l.map f) (f a) = some i ∧ i < l.length
  | [], h => nomatch h
  | b :: l, h => by
    rw [List.map_cons, dIx, K.eq]
    by_cases e : b = a
    · exact ⟨0, by rw [decide_eq_true e]; rfl, by simp⟩
    · obtain ⟨i, h1, h2⟩ := dIx_ex K (l := l) ((List.mem_cons.mp h).resolve_left fun z => e z.symm)
      exact ⟨i + 1, by rw [decide_eq_false e, h1]; rfl, by simp; omega⟩
theorem dIx_mem (K : KeyF f) {a : α} {l : List α} : (dIx (l.map f) (f a)).isSome = decide (a ∈ l) := by
  by_cases h : a ∈ l
  · obtain ⟨i, h1, _⟩ := dIx_ex K h
    rw [h1, decide_eq_true h]; rfl
  · rw [dIx_no K h, decide_eq_false h]; rfl
theorem set_rep {β : Type} {x : β} : ∀ {n i : Nat}, (List.replicate n x).set i x = List.replicate n x
  | 0, _ => rfl
  | n + 1, 0 => rfl
  | n + 1, i + 1 => by rw [List.replicate_succ, List.set_cons_succ, set_rep]
/-- d[k] = True -/
theorem put_true (K : KeyF f) {l : List α} {a : α} {x : D} : dputD (l.map f) (List.replicate l.length x) (f a) x = ((addK l a).map f, List.replicate (addK l a).length x) := by
  unfold dputD addK
  by_cases h : a ∈ l
  · obtain ⟨i, h1, _⟩ := dIx_ex K h
    rw [h1, if_pos h]
    show (l.map f, _) = _
    rw [set_rep]
  · rw [dIx_no K h, if_neg h]
    show (l.map f ++ [f a], _) = _
    rw [List.map_append, List.length_append, List.length_singleton, List.replicate_succ']; rfl
theorem addK_len (l : List α) (a : α) : (addK l a).length ≤ l.length + 1 := by
  unfold addK; split <;> simp
theorem addK_nodup {l : List α} {a : α} (h : l.Nodup) : (addK l a).Nodup := by
  unfold addK
  split
  · exact h
  · rename_i n
    exact List.nodup_append.mpr ⟨h, by simp, fun x hx y hy e => n (by rw [List.mem_singleton.mp hy] at e; exact e ▸ hx)⟩
theorem addK_mem {l : List α} {a b : α} : b ∈ addK l a ↔ b ∈ l ∨ b = a := by
  unfold addK
  split
  · exact ⟨.inl, fun h => h.elim id fun e => by subst e; assumption⟩
  · simp
/-- dict(pairs), no key twice -/
theorem fill_new (K : KeyF f) : ∀ {ps : List (α × D)} {l : List α} {vs : List D}, l.length = vs.length → (l ++ ps.map (·.1)).Nodup → dfill (l.map f) vs (ps.map fun p => .tup [f p.1, p.2]) = some ((l ++ ps.map (·.1)).map f, vs ++ ps.map (·.2))
  | [], l, vs, _, _ => by simp [dfill]
  | p :: ps, l, vs, hl, nd => by
    have hp : p.1 ∉ l := fun h => by
      have := (List.nodup_append.mp nd).2.2 p.1 h p.1 (by simp)
      exact this rfl
    rw [List.map_cons, dfill, if_pos (K.ok l p.1)]
    have e : dputD (l.map f) vs (f p.1) p.2 = ((l ++ [p.1]).map f, vs ++ [p.2]) := by
      unfold dputD
      rw [dIx_no K hp]
      simp
    rw [e]
    have := fill_new K (ps := ps) (l := l ++ [p.1]) (vs := vs ++ [p.2]) (by simp [hl]) (by simpa using nd)
    rw [this]
    simp
theorem get_at (K : KeyF f) {l : List α} {vs : List D} {i : Nat} {a : α} {d : D} (nd : l.Nodup) (h : l[i]? = some a) (hv : vs[i]? = some d) : dgetD (.dic (l.map f) vs) (f a) = some d := by
  simp only [dgetD]
  rw [if_pos (K.ok l a), dIx_some K nd h]
  exact hv
end
/-! kinds of keys -/
theorem kf_str : KeyF D.str := by
  refine ⟨fun a b => ?_, fun l a => ?_⟩
  · rw [Bool.eq_iff_iff, keq_iff, decide_eq_true_iff]
    constructor
    · rintro ⟨k, h1, h2⟩; cases h1; cases h2; rfl
    · rintro rfl; exact ⟨_, rfl, rfl⟩
  · cases l <;> simp [keyB, bk]
/-- (name, numbers) -/
def rwD (p : Str × List Int) : D := .tup [.str p.1, .tup (p.2.map .int)]
theorem nks_ints : ∀ l : List Int, nks (l.map .int) = some (l.map .num)
  | [] => rfl
  | a :: l => by rw [List.map_cons, nks, nks_ints l]; rfl
theorem dep_nums : ∀ l : List Int, NestedKey.depthAll (l.map .num) = 0
  | [] => rfl
  | a :: l => by rw [List.map_cons, NestedKey.depthAll, dep_nums l]; rfl
theorem num_inj : ∀ {a b : List Int}, a.map NestedKey.num = b.map NestedKey.num → a = b
  | [], [], _ => rfl
  | [], _ :: _, h => nomatch h
  | _ :: _, [], h => nomatch h
  | x :: a, y :: b, h => by
    rw [List.map_cons, List.map_cons] at h
    injection h with h1 h2
    injection h1 with h1
    rw [h1, num_inj h2]
theorem nks_rw (p : Str × List Int) : nks [.str p.1, .tup (p.2.map .int)] = some [.text p.1, .tup (p.2.map .num)] := by
  simp [nks, nk, nks_ints]
theorem kf_rw : KeyF rwD := by
  refine ⟨fun a b => ?_, fun l a => ?_⟩
  · rw [Bool.eq_iff_iff, keq_iff, decide_eq_true_iff]
    have e : ∀ p, nk (rwD p) = some (.tup [.text p.1, .tup (p.2.map .num)]) := fun p => by
      unfold rwD
      rw [nk, nks_rw]; rfl
    rw [e, e]
    constructor
    · rintro ⟨k, h1, h2⟩
      rw [← h2] at h1
      simp only [Option.some.injEq, NestedKey.tup.injEq, List.cons.injEq, NestedKey.text.injEq, and_true] at h1
      exact Prod.ext h1.1 (num_inj h1.2)
    · rintro rfl; exact ⟨_, rfl, rfl⟩
  · have h : (hk (rwD a)).isSome = true := by
      unfold rwD
      rw [hk, nks_rw]
      show (if _ then _ else _ : Option NestedKey).isSome = true
      rw [if_pos]
      · rfl
      · simp [NestedKey.depth, NestedKey.depthAll, dep_nums]
    unfold keyB
    rw [h]
    cases l with
    | nil => rfl
    | cons b l => rfl
/-! rules -/
section
variable {c : Cal} {env : Env} {q : R → Prop} {n n' : Nat} {s s' : Src} {k : Ko} {pin : List Nat}
theorem op_dic0 (h : q ⟨.fr, 1, .dic [] []⟩) : OP .dic0 [] q := op_genM (d := .dic [] []) rfl rfl rfl h
theorem op_dic1 {a v : D} (ha : keyB [] a = true) (hv : v.isC = false) (h : q ⟨.fr, 1, .dic [a] [v]⟩) : OP .dic1 [⟨s, n, a⟩, ⟨s', n', v⟩] q :=
  op_genM (d := .dic [a] [v]) rfl rfl (by
    show dic1D a v = _
    simp only [dic1D]
    rw [if_pos (by rw [ha, hv]; rfl)]) h
theorem op_listOfD {ks vs : List D} (hs : R.shal ⟨s, n, .dic ks vs⟩ = true) (h : q ⟨.fr, 1, .lst ks⟩) : OP .listOf [⟨s, n, .dic ks vs⟩] q :=
  op_genM (d := .lst ks) (by simp [hs]) rfl rfl h
theorem op_inD {l : List D} {vs : List D} {a : D} (hb : keyB l a = true) (h : q ⟨.fr, 0, .bl (dIx l a).isSome⟩) : OP .isin [⟨s, n, a⟩, ⟨s', n', .dic l vs⟩] q := by
  refine op_gen (d := .bl (dIx l a).isSome) rfl rfl ?_ h
  show inSeq false [a, .dic l vs] = _
  cases a <;> simp [inSeq, hb]
theorem ws_setDx {i : Nat} {j e : E} (h : WE c e env fun r env1 => ∃ sv env2, claim r env1 = some (sv, env2) ∧ ∃ sv0, getS env2 i = some sv0 ∧ WE c j env2 fun rj env3 => ∃ n ks vs, getS env3 i = some (n + 1, .dic ks vs) ∧ keyB ks rj.d = true ∧ ks.length < sizeLine ∧ k.nx (env3.set i (some (min (n + 1) (depOf [sv]), .dic (dputD ks vs rj.d sv.2).1 (dputD ks vs rj.d sv.2).2)))) : WS c (.setIx i j e) pin env k := by
  obtain ⟨r, e1, h1, sv, e2, h2, sv0, h0, ⟨s, m, d⟩, e3, h3, n, ks, vs, h4, h5, h6, h7⟩ := h
  refine ws_nx ?_ h7
  simp only [evS, h1, h2, h0, h3, h4, Res.ofO_some, Res.bind_ok]
  rw [if_neg (Nat.succ_ne_zero n)]
  simp only at h5
  simp only [h5, decide_eq_true h6, Bool.and_self, if_true, Res.pure_ok]
end
end Ck


set_option Elab.async false
set_option linter.all false
set_option maxRecDepth 100000
/-! Ck44: things alike (as in P10). -/
namespace Ck
open PySem
local macro_rules
  | `(tactic| get_elem_tactic_trivial) => `(tactic| first
    | (with_reducible first
        | refine wb_cons ?_
        | refine wb_nil ?_
        | refine ws_set ?_
        | refine ws_ret ?_
        | refine ws_exp ?_
        | refine ws_setT ?_
        | refine ws_setIx ?_
        | refine ws_setSl ?_
        | refine ws_ite ?_
        | (apply ws_aug; with_unfolding_all rfl)
        | refine w_cst ?_
        | refine w_glo ?_
        | (apply w_varS; with_unfolding_all rfl)
        | refine sl_zero ?_
        | (apply sl_flat; with_unfolding_all rfl)
        | (apply sl_own; with_unfolding_all rfl; with_unfolding_all rfl)
        | refine w_op ?_
        | refine w_tupd ?_
        | refine w_lstd ?_
        | refine w_call ?_
        | (apply w_mut; with_unfolding_all rfl; with_unfolding_all rfl)
        | refine w_slc ?_
        | refine w_met ?_
        | refine wl_cons ?_
        | refine wl_nil ?_
        | refine wt_cmp ?_
        | refine wt_conj ?_
        | refine wt_disj ?_
        | refine wt_not ?_
        | refine wt_isn ?_
        | refine rr_fr ?_
        | (apply rr_sl; with_unfolding_all rfl)
        | refine op_lenS ?_
        | refine op_lenL ?_
        | refine op_lenT ?_
        | refine op_add ?_
        | refine op_sub ?_
        | refine op_lt ?_
        | refine op_le ?_
        | refine op_gt ?_
        | refine op_ge ?_
        | refine op_eq eqv_int ?_
        | refine op_ne eqv_int ?_
        | refine op_min2 ?_
        | refine op_max2 ?_
        | refine op_neg ?_
        | refine op_not ?_
        | refine op_int1b ?_
        | refine op_isInt ?_
        | refine op_isTup ?_
        | refine op_isLst ?_
        | refine op_isStr ?_
        | refine op_isBool ?_
        | (apply op_mod; (first | assumption | decide))
        | (apply op_fdiv; (first | assumption | decide); (first | assumption | decide))
        | (refine op_mul (.inl ?_) ?_; decide)
        | (refine op_mul (.inr ?_) ?_; decide)
        | (apply op_pow; decide; decide; decide)
        | refine op_ixL0 ?_
        | refine op_ixT0 ?_
        | (apply op_ixO0; with_unfolding_all rfl)
        | refine op_ixL1 ?_
        | refine op_ixT1 ?_
        | (apply op_ixO1; with_unfolding_all rfl)
        | refine op_ixL2 ?_
        | refine op_ixT2 ?_
        | (apply op_ixO2; with_unfolding_all rfl)
        | refine op_ixL3 ?_
        | refine op_ixT3 ?_
        | (apply op_ixO3; with_unfolding_all rfl)
        | (apply and_eq; with_unfolding_all rfl)
        | (apply ex_pair; with_unfolding_all rfl)
        | (apply ex_some; with_unfolding_all rfl)
        | (apply ex_bl; with_unfolding_all rfl)
        | (apply ex_int; with_unfolding_all rfl)
        | (apply ex_ix; with_unfolding_all rfl; with_unfolding_all rfl; with_unfolding_all rfl)
        | (apply ex_two; with_unfolding_all rfl)
        | refine and_t ?_
        | refine and_f ?_
        | refine and_nt ?_
        | refine and_nf ?_)
    | dsimp only [backIn, hideL, lent, lentK, getD_z, getD_s, set_z, set_s, map_c, map_n, app_c, app_n, rep_s, rep_z])
local macro_rules
  | `(tactic| exists $d, $s, $h0, $h1) => `(tactic| (refine take_ok (by assumption) (by decide) (by decide) fun $d $s $h0 $h1 => ?_; repeat get_elem_tactic_trivial))
theorem wi_list {c : Cal} {env : Env} {i n : Nat} {l : List D} {I : Wk → Env → Prop} (g : getS env i = some (n, .lst l)) (hf : ∀ d ∈ l, d.isC = false)
    (h : ∀ w : Wk, (∀ e, getS e i = some (n, .lst l) → w.size e = some l.length ∧ ∀ k, w.item e k = l[k]?) → (∀ j, j ≠ i → j ∉ w.slots) → I w env) : WI c (.seq (.var i)) env I := by
  cases n with
  | zero => exact wi_seq (w_varZ g ⟨.fix l, rfl, h _ (fun e _ => ⟨rfl, fun k => rfl⟩) fun j _ m => nomatch m⟩)
  | succ n =>
    refine wi_seq (w_varO g rfl ⟨.slot i, rfl, h _ (fun e he => ⟨?_, fun k => ?_⟩) fun j hj m => ?_⟩)
    · show ((Live.slot i).now e).map List.length = _
      rw [now_slot he (by omega) hf]
      rfl
    · show ((Live.slot i).now e).bind (fun x => x[k]?) = _
      rw [now_slot he (by omega) hf]
      rfl
    · have m : j ∈ [i] := m
      rw [List.mem_singleton] at m
      exact hj m
theorem setTg_nm {j : Nat} {sv : SV} {pin : List Nat} {env : Env} (h1 : j ∉ pin) (h2 : j < env.length) : setTg (.nm j) sv pin env = some (env.set j (some sv)) := by
  simp only [setTg]
  rw [if_neg (by rw [not_or]; exact ⟨h1, Nat.not_le_of_lt h2⟩)]
theorem mut_ext {n m : Nat} {l z : List D} {P : SV → SV → Prop} (hl : l.length + z.length ≤ 16777216) (hz : ∀ d ∈ z, d.isC = false) (h : P (1, .lst (l ++ z)) (0, .non)) : ∃ sv r, mutF .extend (n + 1) (.lst l) [(m, .lst z)] = some (sv, r) ∧ P sv r := by
  refine ⟨_, _, ?_, h⟩
  unfold mutF
  rw [if_neg (Nat.succ_ne_zero n)]
  simp only
  rw [if_pos ⟨by rw [sizeLine_eq]; exact hl, .inr (by simpa [D.shalD, List.all_eq_true] using hz)⟩]
theorem op_addT {q : R → Prop} {n n' : Nat} {a b : List D} (hl : a.length + b.length ≤ 16777216) (h : q ⟨.fr, 0, .tup (a ++ b)⟩) : OP .add [⟨.fr, n, .tup a⟩, ⟨.fr, n', .tup b⟩] q :=
  op_genM (d := .tup (a ++ b)) rfl rfl (by
    show addD [.tup _, .tup _] = _
    simp only [addD]
    rw [if_pos (by rw [sizeLine_eq]; exact hl)]) h
/-- a list over a range, nothing changed -/
theorem comp_rngD {c : Cal} {elt mE : E} {x m : Nat} {env : Env} {P : R → Env → Prop} (f : Nat → D) (hf : ∀ i, (f i).isC = false) (hm : m ≤ 1000000) (hv : ∀ {P : R → Env → Prop}, P ⟨.fr, 0, .int m⟩ env → WE c mE env P) (hx : x < env.length) (hn : getS env x = none)
    (step : ∀ i, i < m → ∀ {P' : R → Env → Prop}, P' ⟨.fr, 0, f i⟩ (env.set x (some (0, .int (i : Nat)))) → WE c elt (env.set x (some (0, .int (i : Nat)))) P') (fin : P ⟨.fr, 1000, .lst ((List.range m).map f)⟩ env) : WE c (.comp elt (.nm x) (.rng1 mE) .tt [x]) env P := by
  have hset : env.set x none = env := by
    refine List.ext_getElem? fun i => ?_
    rw [List.getElem?_set]
    split
    · rename_i e; subst e
      unfold getS at hn
      have := List.getElem?_eq_getElem hx
      rw [this] at hn ⊢
      have hn : env[x] = none := hn
      rw [hn]
    · rfl
  refine w_comp (wi_rng1 (hv ⟨_, rfl, ⟨by omega, by omega⟩, m, by simp [Wk.size], ?_, fun i e acc => e = env ∧ acc = (List.range i).map (fun k => ((0, f k) : SV)), ⟨rfl, rfl⟩, ?_, ?_⟩))
  · show (asideB env x && true) = true
    unfold asideB
    rw [hn]
    rfl
  · rintro i e acc hi ⟨rfl, rfl⟩
    have hw : wipeE e [x] = e := hset
    rw [hw]
    refine ⟨.int (0 + (i : Nat) * 1), e.set x (some (0, .int (i : Nat))), rfl, ?_, wt_tt ⟨(fun h => nomatch h), fun _ => step i hi ?_⟩⟩
    · have ei : (0 : Int) + (i : Nat) * 1 = (i : Nat) := by omega
      rw [ei]
      exact setTg_nm (fun h => nomatch h) hx
    · have hu : unwipe e (e.set x (some (0, .int (i : Nat)))) [x] = e := by
        show (e.set x _).set x ((getS e x).map _) = e
        rw [hn]
        simp only [Option.map_none, List.set_set]
        exact hset
      refine ⟨_, _, rfl, by rw [List.length_map, List.length_range, sizeLine_eq]; omega, by simp [Wk.size], hu, ?_⟩
      rw [List.range_succ, List.map_append]
      rfl
  · rintro e acc ⟨rfl, rfl⟩
    rw [dep_flat hf, List.map_map]
    exact fin
theorem bls_rep (m : Nat) : asBls (List.replicate m (.bl true)) = some (List.replicate m true) := by
  rw [← List.map_replicate (f := D.bl), as_bls]
theorem op_all_rep {q : R → Prop} {n m : Nat} (h : q ⟨.fr, 0, .bl true⟩) : OP .all1 [⟨.fr, n, .lst (List.replicate m (.bl true))⟩] q := by
  refine op_gen (d := .bl true) rfl rfl ?_ h
  show (asBls _).map _ = _
  rw [bls_rep]
  show some (D.bl _) = _
  simp
theorem w_bopT {c : Cal} {env : Env} {P : R → Env → Prop} {a b : E} (h : WE c a env fun r env1 => r.d = .bl true ∧ WE c b env1 P) : WE c (.bop true a b) env P := by
  obtain ⟨⟨s, n, d⟩, e1, h1, h2, r, e2, h3, h4⟩ := h
  simp only at h2
  subst h2
  exact ⟨_, _, by simp only [evE, h1, Res.bind_ok, if_true, h3], h4⟩
def B_alike (t_alike : Nat) : List S :=
  [.ite (.val (.op .isiTupLst [.var 1])) [.ite (.disj (.cmp .ne (.op .isiTup [.var 0]) (.op .isiTup [.var 1])) (.cmp .ne (.op .isiLst [.var 0]) (.op .isiLst [.var 1]))) [.ret (.cst (.bl false))] [],
  .ret (.bop true (.op .eq [.op .len [.var 0], .op .len [.var 1]]) (.op .all1 [.comp (.call t_alike [.var 2, .var 3]) (.tup [.nm 2, .nm 3]) (.zip (.var 0) (.var 1)) (.tt) [2, 3]]))] [],
  .ite (.disj (.cmp .ne (.op .isiBool [.var 0]) (.op .isiBool [.var 1])) (.cmp .ne (.op .isiStr [.var 0]) (.op .isiStr [.var 1]))) [.ret (.cst (.bl false))] [],
  .ret (.bop true (.op .not [.op .isiTupLst [.var 0]]) (.op .eq [.var 0, .var 1]))]
theorem eq_bl {a b : Bool} : eqD (.bl a) (.bl b) = some (a == b) := by cases a <;> cases b <;> rfl
/-- the walk of two things side by side -/
theorem comp_alike {c : Cal} {f : Nat} {a b : SV} {l : List D} {P : R → Env → Prop} (w : Wk) (hi : ∀ {I : Wk → Env → Prop}, I w [some a, some b, none, none] → WI c (.zip (.var 0) (.var 1)) [some a, some b, none, none] I) (hl : l.length ≤ 1000000)
    (hs : w.size [some a, some b, none, none] = some l.length) (ht : ∀ k d, l[k]? = some d → w.item [some a, some b, none, none] k = some (.tup [d, d])) (call : ∀ d ∈ l, ∀ {Q : SV → List SV → Prop}, Q (0, .bl true) [(0, d), (0, d)] → CPS c f [(0, d), (0, d)] [] Q)
    (h : P ⟨.fr, 1000, .lst (List.replicate l.length (.bl true))⟩ [some a, some b, none, none]) : WE c (.comp (.call f [.var 2, .var 3]) (.tup [.nm 2, .nm 3]) (.zip (.var 0) (.var 1)) (.tt) [2, 3]) [some a, some b, none, none] P := by
  refine w_comp (hi ⟨l.length, hs, rfl, fun i e acc => e = [some a, some b, none, none] ∧ acc = List.replicate i (0, .bl true), ⟨rfl, rfl⟩, ?_, ?_⟩)
  · rintro i e acc hi ⟨rfl, rfl⟩
    have hx : l[i]? = some l[i] := List.getElem?_eq_getElem hi
    have hm := List.getElem_mem hi
    generalize l[i] = d at hx hm
    refine ⟨.tup [d, d], [some a, some b, some (0, d), some (0, d)], ht i d hx, rfl, wt_tt ⟨(fun h => nomatch h), fun _ => ?_⟩⟩
    repeat get_elem_tactic_trivial
    refine call d hm ?_
    repeat get_elem_tactic_trivial
    refine And.intro (by rw [List.length_replicate, sizeLine_eq]; omega) (And.intro hs ⟨rfl, ?_⟩)
    rw [← List.replicate_succ', List.replicate_succ]
  · rintro e acc ⟨rfl, rfl⟩
    have e1 : List.replicate l.length ((0, .bl true) : SV) = (List.range l.length).map fun _ => (0, .bl true) := by rw [List.map_const']; simp
    have e2 : depOf (List.replicate l.length ((0, .bl true) : SV)) = 1000 := by rw [e1]; exact dep_flat (f := fun _ => D.bl true) (fun _ => rfl) _
    rw [e2, List.map_replicate]
    exact h
/-- plain data to depth k, no list too long -/
def Okd : Nat → D → Prop
  | _, .non => True
  | _, .int _ => True
  | _, .str z => (D.str z).pl = true
  | k + 1, .tup l => l.length ≤ 1000000 ∧ ∀ x ∈ l, Okd k x
  | k + 1, .lst l => l.length ≤ 1000000 ∧ ∀ x ∈ l, Okd k x
  | _, _ => False
theorem alike_flat {G : Gt} {n f : Nat} (hg : G[f]? = some ⟨2, 4, B_alike f⟩) {d : D} {bB bS : Bool} (hTL : opF .isiTupLst [d] = some (.bl false)) (hB : opF .isiBool [d] = some (.bl bB)) (hS : opF .isiStr [d] = some (.bl bS)) (he : eqD d d = some true)
    {Q : SV → List SV → Prop} (h : Q (0, .bl true) [(0, d), (0, d)]) : CPS (evC G (n + 1)) f [(0, d), (0, d)] [] Q := by
  refine w_body hg rfl ?_
  unfold B_alike
  show WB _ _ _ [some (0, d), some (0, d), none, none] _
  repeat get_elem_tactic_trivial
  refine wt_val ?_
  repeat get_elem_tactic_trivial
  refine op_gen (d := .bl false) rfl rfl hTL ?_
  repeat get_elem_tactic_trivial
  refine op_gen (d := .bl bB) rfl rfl hB ?_
  repeat get_elem_tactic_trivial
  refine op_gen (d := .bl bB) rfl rfl hB ?_
  repeat get_elem_tactic_trivial
  refine op_ne (k := true) (by rw [eq_bl]; simp) ?_
  repeat get_elem_tactic_trivial
  refine op_gen (d := .bl bS) rfl rfl hS ?_
  repeat get_elem_tactic_trivial
  refine op_gen (d := .bl bS) rfl rfl hS ?_
  repeat get_elem_tactic_trivial
  refine op_ne (k := true) (by rw [eq_bl]; simp) ?_
  repeat get_elem_tactic_trivial
  refine w_bopT ?_
  repeat get_elem_tactic_trivial
  refine op_gen (d := .bl false) rfl rfl hTL ?_
  repeat get_elem_tactic_trivial
  refine op_eq he ?_
  repeat get_elem_tactic_trivial
  exact h
theorem alike_seq {G : Gt} {n f : Nat} (hg : G[f]? = some ⟨2, 4, B_alike f⟩) {d : D} {l : List D} {bT bL : Bool} (hTL : opF .isiTupLst [d] = some (.bl true)) (hT : opF .isiTup [d] = some (.bl bT)) (hL : opF .isiLst [d] = some (.bl bL)) (hlen : opF .len [d] = some (.int l.length))
    (hlive : liveOf ⟨.fr, 0, d⟩ = some (.fix l)) (hk : ((d.isL && d.isL) || (d.isT && d.isT)) = true) (hl : l.length ≤ 1000000) (call : ∀ d ∈ l, ∀ {Q : SV → List SV → Prop}, Q (0, .bl true) [(0, d), (0, d)] → CPS (evC G n) f [(0, d), (0, d)] [] Q)
    {Q : SV → List SV → Prop} (h : Q (0, .bl true) [(0, d), (0, d)]) : CPS (evC G (n + 1)) f [(0, d), (0, d)] [] Q := by
  refine w_body hg rfl ?_
  unfold B_alike
  show WB _ _ _ [some (0, d), some (0, d), none, none] _
  repeat get_elem_tactic_trivial
  refine wt_val ?_
  repeat get_elem_tactic_trivial
  refine op_gen (d := .bl true) rfl rfl hTL ?_
  repeat get_elem_tactic_trivial
  refine op_gen (d := .bl bT) rfl rfl hT ?_
  repeat get_elem_tactic_trivial
  refine op_gen (d := .bl bT) rfl rfl hT ?_
  repeat get_elem_tactic_trivial
  refine op_ne (k := true) (by rw [eq_bl]; simp) ?_
  repeat get_elem_tactic_trivial
  refine op_gen (d := .bl bL) rfl rfl hL ?_
  repeat get_elem_tactic_trivial
  refine op_gen (d := .bl bL) rfl rfl hL ?_
  repeat get_elem_tactic_trivial
  refine op_ne (k := true) (by rw [eq_bl]; simp) ?_
  repeat get_elem_tactic_trivial
  refine w_bopT ?_
  repeat get_elem_tactic_trivial
  refine op_gen (d := .int l.length) rfl rfl hlen ?_
  repeat get_elem_tactic_trivial
  refine op_gen (d := .int l.length) rfl rfl hlen ?_
  repeat get_elem_tactic_trivial
  refine And.intro (by simp) ?_
  repeat get_elem_tactic_trivial
  refine comp_alike (.zip (.fix l) (.fix l)) (l := l) (fun {I} hI => wi_zip ?_) hl ?_ ?_ call ?_
  · repeat get_elem_tactic_trivial
    exact ⟨_, _, _, _, rfl, hk, hlive, hlive, hI⟩
  · show some (min _ _) = _
    rw [Nat.min_self]
  · intro k x hx
    show (match l[k]?, l[k]? with | some d, some e => some (D.tup [d, e]) | _, _ => none) = _
    rw [hx]
  repeat get_elem_tactic_trivial
  refine op_all_rep ?_
  repeat get_elem_tactic_trivial
  exact h
theorem alike_ok {G : Gt} {f : Nat} (hg : G[f]? = some ⟨2, 4, B_alike f⟩) : ∀ (k n : Nat) (d : D), Okd k d → ∀ {Q : SV → List SV → Prop}, Q (0, .bl true) [(0, d), (0, d)] → CPS (evC G (n + k + 1)) f [(0, d), (0, d)] [] Q
  | k, n, .non, _, _, h => alike_flat hg rfl rfl rfl rfl h
  | k, n, .int i, _, _, h => alike_flat hg rfl rfl rfl (by rw [eqv_int]; simp) h
  | k, n, .str z, hz, _, h => alike_flat hg rfl rfl rfl (by rw [eqD_pl (by cases k <;> exact hz) (by cases k <;> exact hz) (by show 0 ≤ 64; decide) (by show 0 ≤ 64; decide), beq_rfl]) h
  | k + 1, n, .tup l, hl, _, h => alike_seq hg rfl rfl rfl rfl rfl rfl hl.1 (fun d hd {Q} hQ => alike_ok hg k n d (hl.2 d hd) hQ) h
  | k + 1, n, .lst l, hl, _, h => alike_seq hg rfl rfl rfl rfl rfl rfl hl.1 (fun d hd {Q} hQ => alike_ok hg k n d (hl.2 d hd) hQ) h
  | 0, _, .tup _, hl, _, _ => hl.elim
  | 0, _, .lst _, hl, _, _ => hl.elim
  | k, _, .bl _, hl, _, _ => by cases k <;> exact hl.elim
  | k, _, .scr _, hl, _, _ => by cases k <;> exact hl.elim
  | k, _, .dic _ _, hl, _, _ => by cases k <;> exact hl.elim
  | k, _, .obj _ _ _, hl, _, _ => by cases k <;> exact hl.elim
/-- two lists of one's own -/
theorem alike_top {G : Gt} {n a b f : Nat} (hg : G[f]? = some ⟨2, 4, B_alike f⟩) {l : List D} (hl : l.length ≤ 1000000) (hf : ∀ d ∈ l, d.isC = false) (call : ∀ d ∈ l, ∀ {Q : SV → List SV → Prop}, Q (0, .bl true) [(0, d), (0, d)] → CPS (evC G n) f [(0, d), (0, d)] [] Q)
    {Q : SV → List SV → Prop} (h : Q (0, .bl true) [(a + 1, .lst l), (b + 1, .lst l)]) : CPS (evC G (n + 1)) f [(a + 1, .lst l), (b + 1, .lst l)] [0, 1] Q := by
  refine w_body hg rfl ?_
  unfold B_alike
  show WB _ _ _ [some (a + 1, .lst l), some (b + 1, .lst l), none, none] _
  repeat get_elem_tactic_trivial
  refine wt_val ?_
  repeat get_elem_tactic_trivial
  refine op_gen (d := .bl true) rfl rfl rfl ?_
  repeat get_elem_tactic_trivial
  refine op_gen (d := .bl false) rfl rfl rfl ?_
  repeat get_elem_tactic_trivial
  refine op_gen (d := .bl false) rfl rfl rfl ?_
  repeat get_elem_tactic_trivial
  refine op_ne (k := true) (by rw [eq_bl]; simp) ?_
  repeat get_elem_tactic_trivial
  refine op_ne (k := true) (by rw [eq_bl]; simp) ?_
  repeat get_elem_tactic_trivial
  refine w_bopT ?_
  repeat get_elem_tactic_trivial
  refine And.intro (by simp) ?_
  repeat get_elem_tactic_trivial
  have n0 : ∀ e, getS e 0 = some (a + 1, .lst l) → (Live.slot 0).now e = some l := fun e g => now_slot g (by omega) hf
  have n1 : ∀ e, getS e 1 = some (b + 1, .lst l) → (Live.slot 1).now e = some l := fun e g => now_slot g (by omega) hf
  refine comp_alike (.zip (.slot 0) (.slot 1)) (l := l) (fun {I} hI => wi_zip ?_) hl ?_ ?_ call ?_
  · repeat get_elem_tactic_trivial
    exact ⟨_, _, _, _, rfl, rfl, rfl, rfl, hI⟩
  · show (match (Live.slot 0).now _, (Live.slot 1).now _ with | some x, some y => some (min x.length y.length) | _, _ => none) = _
    rw [n0 _ rfl, n1 _ rfl]
    show some (min _ _) = _
    rw [Nat.min_self]
  · intro k x hx
    show (match (Live.slot 0).now _, (Live.slot 1).now _ with | some x, some y => (match x[k]?, y[k]? with | some d, some e => some (D.tup [d, e]) | _, _ => none) | _, _ => none) = _
    rw [n0 _ rfl, n1 _ rfl]
    show (match l[k]?, l[k]? with | some d, some e => some (D.tup [d, e]) | _, _ => none) = _
    rw [hx]
  repeat get_elem_tactic_trivial
  refine op_all_rep ?_
  repeat get_elem_tactic_trivial
  exact h
end Ck

set_option Elab.async false
set_option linter.all false
set_option maxRecDepth 100000
/-! Ck45: comprehensions, once for all. -/
namespace Ck
open PySem
/-- a list over a list, some left out; what stands is not changed -/
theorem comp_all {c : Cal} {elt : E} {tg : Tg} {it : It} {tst : T} {own : List Nat} {env W : Env} {P : R → Env → Prop} {β : Type} (l : List β) (g f : β → D) (p : β → Bool) (En : β → Env)
    (hf : ∀ b ∈ l, (f b).isC = false) (hl : l.length ≤ 1000000) (h1 : wipeE env own = W) (h2 : own.all (asideB env) = true) (h3 : ∀ b ∈ l, setTg tg (0, g b) [] W = some (En b)) (h4 : ∀ b ∈ l, unwipe env (En b) own = env)
    (hw : ∀ {I : Wk → Env → Prop}, (∀ w : Wk, w.size env = some l.length → (∀ i b, l[i]? = some b → w.item env i = some (g b)) → I w env) → WI c it env I)
    (ht : ∀ b ∈ l, ∀ {B : Bool → Env → Prop}, B (p b) (En b) → WT c tst (En b) B)
    (step : ∀ b ∈ l, p b = true → ∀ {P' : R → Env → Prop}, P' ⟨.fr, 0, f b⟩ (En b) → WE c elt (En b) P')
    (fin : P ⟨.fr, 1000, .lst ((l.filter p).map f)⟩ env) : WE c (.comp elt tg it tst own) env P := by
  refine w_comp (hw fun w hsz hit => ⟨l.length, hsz, h2, fun i e acc => e = env ∧ acc = ((l.take i).filter p).map (fun b => ((0, f b) : SV)), ⟨rfl, rfl⟩, ?_, ?_⟩)
  · rintro i e acc hi ⟨rfl, rfl⟩
    have hb : l[i]? = some l[i] := List.getElem?_eq_getElem hi
    generalize l[i] = b at hb
    have hm := List.mem_of_getElem? hb
    refine ⟨g b, En b, hit i b hb, by rw [h1]; exact h3 b hm, ht b hm ⟨fun hp => ?_, fun hp => ?_⟩⟩
    · rw [h4 b hm]
      refine ⟨hsz, rfl, ?_⟩
      rw [take_snoc hb, List.filter_append]
      simp [hp]
    · refine step b hm hp ⟨_, _, rfl, ?_, ?_, ?_⟩
      · have := List.length_filter_le p (l.take i)
        rw [List.length_map, sizeLine_eq]
        rw [List.length_take] at this
        omega
      · rw [h4 b hm]; exact hsz
      · rw [h4 b hm]
        refine ⟨rfl, ?_⟩
        rw [take_snoc hb, List.filter_append, List.map_append]
        simp [hp]
  · rintro e acc ⟨rfl, rfl⟩
    rw [List.take_length, List.map_map, dep_mem (fun x hx => by
      obtain ⟨b, hb, rfl⟩ := List.mem_map.mp hx
      exact hf b ((List.mem_filter.mp hb).1))]
    exact fin
theorem filt_all {β : Type} (l : List β) : l.filter (fun _ => true) = l := by simp
/-- nothing left out -/
theorem comp_map {c : Cal} {elt : E} {tg : Tg} {it : It} {own : List Nat} {env W : Env} {P : R → Env → Prop} {β : Type} (l : List β) (g f : β → D) (En : β → Env)
    (hf : ∀ b ∈ l, (f b).isC = false) (hl : l.length ≤ 1000000) (h1 : wipeE env own = W) (h2 : own.all (asideB env) = true) (h3 : ∀ b ∈ l, setTg tg (0, g b) [] W = some (En b)) (h4 : ∀ b ∈ l, unwipe env (En b) own = env)
    (hw : ∀ {I : Wk → Env → Prop}, (∀ w : Wk, w.size env = some l.length → (∀ i b, l[i]? = some b → w.item env i = some (g b)) → I w env) → WI c it env I)
    (step : ∀ b ∈ l, ∀ {P' : R → Env → Prop}, P' ⟨.fr, 0, f b⟩ (En b) → WE c elt (En b) P')
    (fin : P ⟨.fr, 1000, .lst (l.map f)⟩ env) : WE c (.comp elt tg it .tt own) env P :=
  comp_all l g f (fun _ => true) En hf hl h1 h2 h3 h4 hw (fun b _ B hB => wt_tt hB) (fun b hb _ P' hP => step b hb hP) (by rw [filt_all]; exact fin)
/-- a drawn list: the feed goes on -/
theorem comp_draw {c : Cal} {elt : E} {tg : Tg} {it : It} {own : List Nat} {P : R → Env → Prop} {β : Type} (l : List β) (g : β → D) (Ev W : Int × Int → Env) (En : Int × Int → β → Env) (C : β → D → Prop) {s : Int × Int}
    (hf : ∀ b d, C b d → d.isC = false) (hl : l.length ≤ 1000000) (h1 : ∀ s, wipeE (Ev s) own = W s) (h2 : own.all (asideB (Ev s)) = true) (h3 : ∀ s, ∀ b ∈ l, setTg tg (0, g b) [] (W s) = some (En s b)) (h4 : ∀ s s', ∀ b ∈ l, unwipe (Ev s) (En s' b) own = Ev s')
    (hw : ∀ {I : Wk → Env → Prop}, (∀ w : Wk, (∀ s, w.size (Ev s) = some l.length) → (∀ s i b, l[i]? = some b → w.item (Ev s) i = some (g b)) → I w (Ev s)) → WI c it (Ev s) I)
    (step : ∀ s b, b ∈ l → ∀ {P' : R → Env → Prop}, (∀ s' d, C b d → P' ⟨.fr, 0, d⟩ (En s' b)) → WE c elt (En s b) P')
    (fin : ∀ s' ds, ds.length = l.length → (∀ (i : Nat) b d, l[i]? = some b → ds[i]? = some d → C b d) → (∀ d ∈ ds, ∃ b ∈ l, C b d) → P ⟨.fr, 1000, .lst ds⟩ (Ev s')) : WE c (.comp elt tg it .tt own) (Ev s) P := by
  refine w_comp (hw fun w hsz hit => ⟨l.length, hsz s, h2, fun i e acc => ∃ (s' : Int × Int) (ds : List D), e = Ev s' ∧ acc = ds.map (fun d => ((0, d) : SV)) ∧ ds.length = i ∧ ∀ (j : Nat) b d, l[j]? = some b → ds[j]? = some d → C b d, ⟨s, [], rfl, rfl, rfl, fun j b d _ h => by simp at h⟩, ?_, ?_⟩)
  · rintro i e acc hi ⟨s', ds, rfl, rfl, rfl, hd⟩
    have hb : l[ds.length]? = some l[ds.length] := List.getElem?_eq_getElem hi
    generalize l[ds.length] = b at hb
    have hm := List.mem_of_getElem? hb
    refine ⟨g b, En s' b, hit s' _ b hb, by rw [h1]; exact h3 s' b hm, wt_tt ⟨(fun h => nomatch h), fun _ => step s' b hm fun s2 d hC => ⟨_, _, rfl, ?_, ?_, ?_⟩⟩⟩
    · rw [List.length_map, sizeLine_eq]; omega
    · rw [h4 s' s2 b hm]; exact hsz s2
    · refine ⟨s2, ds ++ [d], h4 s' s2 b hm, by simp, by simp, fun j b' d' hb' hd' => ?_⟩
      rcases Nat.lt_or_ge j ds.length with h | h
      · rw [List.getElem?_append_left h] at hd'
        exact hd j b' d' hb' hd'
      · rw [List.getElem?_append_right h] at hd'
        have e0 : j - ds.length = 0 := by
          rcases Nat.eq_zero_or_pos (j - ds.length) with h2 | h2
          · exact h2
          · rw [List.getElem?_eq_none (by simp; omega)] at hd'; cases hd'
        have ej : j = ds.length := by omega
        rw [e0] at hd'
        cases hd'
        rw [ej, hb] at hb'
        cases hb'
        exact hC
  · rintro e acc ⟨s', ds, rfl, rfl, hl2, hd⟩
    have hmem : ∀ d ∈ ds, ∃ b ∈ l, C b d := fun d hm => by
      obtain ⟨j, hj⟩ := List.getElem?_of_mem hm
      have hjl : j < l.length := by
        rcases Nat.lt_or_ge j ds.length with h | h
        · omega
        · rw [List.getElem?_eq_none h] at hj; cases hj
      exact ⟨l[j], List.getElem_mem hjl, hd j _ d (List.getElem?_eq_getElem hjl) hj⟩
    rw [List.map_map, dep_mem (fun x hx => by
      obtain ⟨d, hdm, rfl⟩ := List.mem_map.mp hx
      obtain ⟨b, _, hC⟩ := hmem d hdm
      exact hf b d hC)]
    have em : ds.map ((fun x : SV => x.2) ∘ fun d => ((0, d) : SV)) = ds := by
      have : ((fun x : SV => x.2) ∘ fun d => ((0, d) : SV)) = id := rfl
      rw [this, List.map_id]
    rw [em]
    exact fin s' ds hl2 hd hmem
/-- an item of a list in a slot, whatever its depth -/
theorem w_ixV {c : Cal} {e : E} {i n : Nat} {l : List D} {env : Env} {P : R → Env → Prop} (g : getS env i = some (n, .lst l))
    (h : WE c e env fun r env1 => ∃ m a d, r = ⟨.fr, m, .int a⟩ ∧ getS env1 i = some (n, .lst l) ∧ at' l a = some d ∧ d.isC = false ∧ P ⟨.fr, 0, d⟩ env1) : WE c (.op .ix [.var i, e]) env P := by
  cases n with
  | zero =>
    refine w_op (wl_cons (w_varZ g ⟨rfl, wl_cons ?_⟩))
    obtain ⟨r, e1, h1, m, a, d, rfl, h2, h3, h4, h5⟩ := h
    exact ⟨_, _, h1, rfl, wl_nil ⟨_, rfl, _, rfl, op_ixL h3 h5⟩⟩
  | succ n =>
    refine w_op (wl_cons (w_varO g rfl ⟨by simp [isInn], wl_cons ?_⟩))
    obtain ⟨r, e1, h1, m, a, d, rfl, h2, h3, h4, h5⟩ := h
    refine ⟨_, _, h1, rfl, wl_nil ⟨_, rfl, ⟨.sl i, n + 1, .lst l⟩, ?_, op_ixO h3 h4 h5⟩⟩
    simp only [reR, h2, Option.map_some]
end Ck

set_option Elab.async false
set_option linter.all false
set_option maxRecDepth 100000
/-! P06: the law k06: steps. -/
namespace Ck
open PySem
local macro_rules
  | `(tactic| get_elem_tactic_trivial) => `(tactic| first
    | (with_reducible first
        | refine wb_cons ?_
        | refine wb_nil ?_
        | refine ws_set ?_
        | refine ws_ret ?_
        | refine ws_exp ?_
        | refine ws_setT ?_
        | refine ws_setIx ?_
        | refine ws_setSl ?_
        | refine ws_ite ?_
        | (apply ws_aug; with_unfolding_all rfl)
        | refine w_cst ?_
        | refine w_glo ?_
        | (apply w_varS; with_unfolding_all rfl)
        | refine sl_zero ?_
        | (apply sl_flat; with_unfolding_all rfl)
        | (apply sl_own; with_unfolding_all rfl; with_unfolding_all rfl)
        | refine w_op ?_
        | refine w_tupd ?_
        | refine w_lstd ?_
        | refine w_call ?_
        | (apply w_mut; with_unfolding_all rfl; with_unfolding_all rfl)
        | refine w_slc ?_
        | refine w_met ?_
        | refine wl_cons ?_
        | refine wl_nil ?_
        | refine wt_cmp ?_
        | refine wt_conj ?_
        | refine wt_disj ?_
        | refine wt_not ?_
        | refine wt_isn ?_
        | refine rr_fr ?_
        | (apply rr_sl; with_unfolding_all rfl)
        | refine op_lenS ?_
        | refine op_lenL ?_
        | refine op_lenT ?_
        | refine op_add ?_
        | refine op_sub ?_
        | refine op_lt ?_
        | refine op_le ?_
        | refine op_gt ?_
        | refine op_ge ?_
        | refine op_eq eqv_int ?_
        | refine op_ne eqv_int ?_
        | refine op_min2 ?_
        | refine op_max2 ?_
        | refine op_neg ?_
        | refine op_not ?_
        | refine op_int1b ?_
        | refine op_isInt ?_
        | refine op_isTup ?_
        | refine op_isLst ?_
        | refine op_isStr ?_
        | refine op_isBool ?_
        | (apply op_mod; (first | assumption | decide))
        | (apply op_fdiv; (first | assumption | decide); (first | assumption | decide))
        | (refine op_mul (.inl ?_) ?_; decide)
        | (refine op_mul (.inr ?_) ?_; decide)
        | (apply op_pow; decide; decide; decide)
        | refine op_ixL0 ?_
        | refine op_ixT0 ?_
        | (apply op_ixO0; with_unfolding_all rfl)
        | refine op_ixL1 ?_
        | refine op_ixT1 ?_
        | (apply op_ixO1; with_unfolding_all rfl)
        | refine op_ixL2 ?_
        | refine op_ixT2 ?_
        | (apply op_ixO2; with_unfolding_all rfl)
        | refine op_ixL3 ?_
        | refine op_ixT3 ?_
        | (apply op_ixO3; with_unfolding_all rfl)
        | (apply and_eq; with_unfolding_all rfl)
        | (apply ex_pair; with_unfolding_all rfl)
        | (apply ex_some; with_unfolding_all rfl)
        | (apply ex_bl; with_unfolding_all rfl)
        | (apply ex_int; with_unfolding_all rfl)
        | (apply ex_ix; with_unfolding_all rfl; with_unfolding_all rfl; with_unfolding_all rfl)
        | (apply ex_two; with_unfolding_all rfl)
        | refine and_t ?_
        | refine and_f ?_
        | refine and_nt ?_
        | refine and_nf ?_)
    | dsimp only [backIn, hideL, lent, lentK, getD_z, getD_s, set_z, set_s, map_c, map_n, app_c, app_n, rep_s, rep_z])
local macro_rules
  | `(tactic| exists $d, $s, $h0, $h1) => `(tactic| (refine take_ok (by assumption) (by decide) (by decide) fun $d $s $h0 $h1 => ?_; repeat get_elem_tactic_trivial))
def Lf.rw : Lf → Option (Str × List Int)
  | .num _ => none
  | .at_ nm ns => some (nm, ns)
/-- the reads of a rule -/
def Tr.rws (t : Tr) : List (Str × List Int) := t.lfs.filterMap Lf.rw
theorem rws_row (t : Tr) : t.lfs.filterMap Lf.row = t.rws.map rwD := by
  unfold Tr.rws
  induction t.lfs with
  | nil => rfl
  | cons l ls ih =>
    cases l with
    | num v => simpa [List.filterMap_cons, Lf.row, Lf.rw] using ih
    | at_ nm ns => simpa [List.filterMap_cons, Lf.row, Lf.rw, rwD] using ih
/-- each once -/
def dd {α : Type} [DecidableEq α] (l : List α) : List α := l.foldl addK []
theorem dd_snoc {α : Type} [DecidableEq α] (l : List α) (a : α) : dd (l ++ [a]) = addK (dd l) a := by unfold dd; rw [List.foldl_append]; rfl
theorem foldl_addK_len {α : Type} [DecidableEq α] : ∀ (l acc : List α), (l.foldl addK acc).length ≤ acc.length + l.length
  | [], acc => by simp
  | a :: l, acc => by
    have h1 := foldl_addK_len l (addK acc a)
    have h2 := addK_len acc a
    simp only [List.foldl_cons, List.length_cons]
    omega
theorem dd_len {α : Type} [DecidableEq α] (l : List α) : (dd l).length ≤ l.length := by
  have := foldl_addK_len l []
  simpa [dd] using this
theorem lfs_size : ∀ t : Tr, t.lfs.length ≤ t.size := by
  intro t
  induction t with
  | lf l => simp [Tr.lfs, Tr.size]
  | op sg a b iha ihb => simp [Tr.lfs, Tr.size]; omega
  | ift a b c iha ihb ihc => simp [Tr.lfs, Tr.size]; omega
theorem rws_size (t : Tr) : t.rws.length ≤ t.size := Nat.le_trans (List.length_filterMap_le ..) (lfs_size t)
def B_steps_by (r : Nat) : List S :=
  [.set 1 (.op .dic0 []),
  .forS (.nm 2) (.seq (.call r [.var 0])) [.setIx 1 (.var 2) (.cst (.bl true))],
  .ret (.op .listOf [.var 1])]
abbrev trD (l : List (Str × List Int)) : D := .dic (l.map rwD) (List.replicate l.length (.bl true))
theorem steps_by_ok {G : Gt} {n f r p dp : Nat} (hg : G[f]? = some ⟨1, 3, B_steps_by r⟩) (hr : G[r]? = some ⟨1, 2, readsB p⟩) (hp : G[p]? = some ⟨1, 4, partsB dp⟩) (hd : G[dp]? = some ⟨1, 1, deepB⟩) {t : Tr} (ht : t.size ≤ 1000) {Q : SV → List SV → Prop} (h : Q (1, .lst ((dd t.rws).map rwD)) [(0, t.toD)]) : CPS (evC G (n + 4)) f [(0, t.toD)] [] Q := by
  refine w_body hg rfl ?_
  unfold B_steps_by
  show WB _ _ _ [some (0, t.toD), none, none] _
  have fl := t.flat
  have hsz := rws_size t
  generalize hD : t.toD = D0 at fl h ⊢
  repeat get_elem_tactic_trivial
  refine op_dic0 ?_
  repeat get_elem_tactic_trivial
  refine ws_for (wi_seq ?_)
  repeat get_elem_tactic_trivial
  rw [← hD]
  refine reads_ok hr hp hd ht ?_
  rw [rws_row]
  repeat get_elem_tactic_trivial
  refine ⟨fun i env => ∃ (k : Nat) (o2 : Option SV), env = [some (0, t.toD), some (k + 1, trD (dd (t.rws.take i))), o2], ⟨0, _, rfl⟩, ?_, ?_⟩
  · rintro i env hi ⟨k, o2, rfl⟩
    rw [List.length_map] at hi
    have hx : t.rws[i]? = some t.rws[i] := List.getElem?_eq_getElem hi
    generalize t.rws[i] = x at hx
    have hl : (dd (t.rws.take i)).length ≤ 1000 := by
      refine Nat.le_trans (dd_len _) ?_
      rw [List.length_take]; omega
    refine ⟨rwD x, [some (0, t.toD), some (k + 1, trD (dd (t.rws.take i))), some (0, rwD x)], ?_, rfl, ?_⟩
    · show (t.rws.map rwD)[i]? = _
      rw [List.getElem?_map, hx]; rfl
    refine wb_cons (ws_setDx ?_)
    repeat get_elem_tactic_trivial
    refine ⟨k, _, _, rfl, kf_rw.ok _ _, by rw [List.length_map, sizeLine_eq]; omega, ?_⟩
    rw [put_true kf_rw]
    refine wb_nil ⟨rfl, min k 999, some (0, rwD x), ?_⟩
    rw [take_snoc hx, dd_snoc]
    have e : min (k + 1) (depOf [((0, D.bl true) : SV)]) = min k 999 + 1 := by
      show min (k + 1) 1000 = _
      omega
    rw [e]
  · rintro env ⟨k, o2, rfl⟩ _
    rw [List.length_map, List.take_length]
    repeat get_elem_tactic_trivial
    refine op_listOfD (by simp [R.shal, D.shalD, D.isC]) ?_
    repeat get_elem_tactic_trivial
    rw [hD]
    exact h
theorem set_none {env : Env} {x : Nat} (hn : getS env x = none) : env.set x none = env := by
  refine List.ext_getElem? fun i => ?_
  rw [List.getElem?_set]
  split
  · rename_i e; subst e
    unfold getS at hn
    split
    · rename_i hx
      have := List.getElem?_eq_getElem hx
      rw [this] at hn ⊢
      have hn : env[x] = none := hn
      rw [hn]
    · rename_i hx
      rw [List.getElem?_eq_none (by omega)]
  · rfl
/-- a list over pairs, nothing changed -/
theorem comp_pairs {c : Cal} {elt : E} {it : It} {x y : Nat} {env : Env} {P : R → Env → Prop} {β : Type} (l : List β) (g1 g2 f : β → D) (hf : ∀ b, (f b).isC = false) (hl : l.length ≤ 1000000) (hx : x < env.length) (hy : y < env.length) (hxy : x ≠ y) (nx : getS env x = none) (ny : getS env y = none)
    (hw : ∀ {I : Wk → Env → Prop}, (∀ w : Wk, w.size env = some l.length → (∀ i b, l[i]? = some b → w.item env i = some (.tup [g1 b, g2 b])) → I w env) → WI c it env I)
    (step : ∀ b ∈ l, ∀ {P' : R → Env → Prop}, P' ⟨.fr, 0, f b⟩ ((env.set x (some (0, g1 b))).set y (some (0, g2 b))) → WE c elt ((env.set x (some (0, g1 b))).set y (some (0, g2 b))) P') (fin : P ⟨.fr, 1000, .lst (l.map f)⟩ env) : WE c (.comp elt (.tup [.nm x, .nm y]) it .tt [x, y]) env P := by
  have sx := set_none nx
  have sy := set_none ny
  refine w_comp (hw fun w hsz hit => ⟨l.length, hsz, ?_, fun i e acc => e = env ∧ acc = (l.take i).map (fun b => ((0, f b) : SV)), ⟨rfl, rfl⟩, ?_, ?_⟩)
  · show (asideB env x && (asideB env y && true)) = true
    unfold asideB
    rw [nx, ny]
    rfl
  · rintro i e acc hi ⟨rfl, rfl⟩
    have hb : l[i]? = some l[i] := List.getElem?_eq_getElem hi
    generalize l[i] = b at hb
    have hwp : wipeE e [x, y] = e := by
      show (e.set y none).set x none = e
      rw [sy, sx]
    rw [hwp]
    refine ⟨_, (e.set x (some (0, g1 b))).set y (some (0, g2 b)), hit i b hb, ?_, wt_tt ⟨(fun h => nomatch h), fun _ => step b (List.mem_of_getElem? hb) ?_⟩⟩
    · show setTg (.tup [.nm x, .nm y]) (0, .tup [g1 b, g2 b]) [] e = _
      have e1 : setTg (.nm x) (0, g1 b) [] e = some (e.set x (some (0, g1 b))) := setTg_nm (fun h => nomatch h) hx
      have e2 : setTg (.nm y) (0, g2 b) [] (e.set x (some (0, g1 b))) = some ((e.set x (some (0, g1 b))).set y (some (0, g2 b))) := setTg_nm (fun h => nomatch h) (by rw [List.length_set]; exact hy)
      simp only [setTg, setTgs] at e1 e2 ⊢
      rw [e1]
      show (Option.bind (some _) _) = _
      simp only [Option.bind_some]
      rw [e2]
      rfl
    · have hu : unwipe e ((e.set x (some (0, g1 b))).set y (some (0, g2 b))) [x, y] = e := by
        show ((((e.set x _).set y _).set y ((getS e y).map _))).set x ((getS e x).map _) = e
        rw [nx, ny]
        simp only [Option.map_none, List.set_set]
        rw [List.set_comm _ _ hxy]
        simp only [List.set_set]
        rw [sy, sx]
      refine ⟨_, _, rfl, by rw [List.length_map, List.length_take, sizeLine_eq]; omega, ?_, hu, ?_⟩
      · rw [hu]; exact hsz
      · rw [take_snoc hb, List.map_append]
        rfl
  · rintro e acc ⟨rfl, rfl⟩
    rw [List.take_length, List.map_map]
    have hd : depOf (l.map fun b => ((0, f b) : SV)) = 1000 := by
      clear fin step hw hl hsz hit
      induction l with
      | nil => rfl
      | cons b l ih =>
        rw [List.map_cons]
        show min (if (f b).isC = true then 0 + 1 else BIG) (depOf (l.map fun b => ((0, f b) : SV))) = 1000
        rw [ih, hf b]
        rfl
    rw [hd]
    exact fin
def B_steps_of (sb : Nat) : List S :=
  [.set 1 (.lstd []),
  .forS (.tup [.nm 2, .nm 3]) (.seq (.op .ix [.var 0, .cst (.int 2)])) [.exp (.mut 1 .extend [.comp (.tupd [.var 2, .var 4, .var 5]) (.tup [.nm 4, .nm 5]) (.seq (.call sb [.var 3])) (.tt) [4, 5]])],
  .ret (.op .tupleOf [.var 1])]
/-- (name, other, row) -/
def stD (nm : Str) (r : Str × List Int) : D := .tup [.str nm, .str r.1, .tup (r.2.map .int)]
/-- the steps of a desk -/
def stsOf (p : Str × Tr) : List D := (dd p.2.rws).map (stD p.1)
theorem rws40 {x : Hs} (hx : HouseOk x) {p : Str × Tr} (hp : p ∈ x.desks) : p.2.size ≤ 40 := (hx.rules p hp).2.1
theorem sts_len (p : Str × Tr) : (stsOf p).length ≤ p.2.size := by
  unfold stsOf
  rw [List.length_map]
  exact Nat.le_trans (dd_len _) (rws_size _)
theorem flat_len {x : Hs} (hr : ∀ p ∈ x.desks, p.2.size ≤ 100) : ∀ i, ((x.desks.take i).flatMap stsOf).length ≤ 100 * i := by
  intro i
  have : ∀ l : List (Str × Tr), (∀ p ∈ l, p.2.size ≤ 100) → (l.flatMap stsOf).length ≤ 100 * l.length := by
    intro l hl
    induction l with
    | nil => simp
    | cons p l ih =>
      rw [List.flatMap_cons, List.length_append, List.length_cons]
      have h1 := sts_len p
      have h2 := hl p (List.mem_cons_self ..)
      have h3 := ih fun q m => hl q (List.mem_cons_of_mem _ m)
      omega
  refine Nat.le_trans (this _ fun p m => hr p (List.mem_of_mem_take m)) ?_
  rw [List.length_take]
  exact Nat.mul_le_mul_left _ (Nat.min_le_left ..)
theorem steps_of_ok {G : Gt} {n f sb r p dp : Nat} (hg : G[f]? = some ⟨1, 6, B_steps_of sb⟩) (hs : G[sb]? = some ⟨1, 3, B_steps_by r⟩) (hr : G[r]? = some ⟨1, 2, readsB p⟩) (hp : G[p]? = some ⟨1, 4, partsB dp⟩) (hd : G[dp]? = some ⟨1, 1, deepB⟩) {x : Hs} (hx : x.desks.length ≤ 6) (hz : ∀ p ∈ x.desks, p.2.size ≤ 100)
    {Q : SV → List SV → Prop} (h : Q (0, .tup (x.desks.flatMap stsOf)) [(0, x.toD)]) : CPS (evC G (n + 5)) f [(0, x.toD)] [] Q := by
  refine w_body hg rfl ?_
  unfold B_steps_of
  have hfl : x.toD.isC = false := rfl
  show WB _ _ _ [some (0, x.toD), none, none, none, none, none] _
  repeat get_elem_tactic_trivial
  refine ws_for (wi_seq ?_)
  repeat get_elem_tactic_trivial
  refine op_ixT2 (x0 := .int x.ways) (x1 := .int x.wheel) (x2 := .tup (x.desks.map dkD)) (l := []) ?_
  repeat get_elem_tactic_trivial
  refine ⟨fun i env => ∃ (k : Nat) (o2 o3 : Option SV), env = [some (0, x.toD), some (k + 1, .lst ((x.desks.take i).flatMap stsOf)), o2, o3, none, none], ⟨999, _, _, rfl⟩, ?_, ?_⟩
  · rintro i env hi ⟨k, o2, o3, rfl⟩
    rw [List.length_map] at hi
    have hq : x.desks[i]? = some x.desks[i] := List.getElem?_eq_getElem hi
    generalize x.desks[i] = q at hq
    have hqz := hz q (List.mem_of_getElem? hq)
    refine ⟨dkD q, [some (0, x.toD), some (k + 1, .lst ((x.desks.take i).flatMap stsOf)), some (0, .str q.1), some (0, q.2.toD), none, none], ?_, rfl, ?_⟩
    · show (x.desks.map dkD)[i]? = _
      rw [List.getElem?_map, hq]; rfl
    refine wb_cons (ws_exp (w_mut rfl rfl (wl_cons ?_)))
    refine comp_pairs (dd q.2.rws) (fun r => .str r.1) (fun r => .tup (r.2.map .int)) (stD q.1) (fun _ => rfl) ?_ (by simp) (by simp) (by decide) rfl rfl ?_ ?_ ?_
    · have h1 := dd_len q.2.rws
      have h2 := rws_size q.2
      omega
    · intro I hI
      refine wi_seq ?_
      have fl := q.2.flat
      generalize hD : q.2.toD = D0 at fl hI ⊢
      repeat get_elem_tactic_trivial
      subst hD
      refine steps_by_ok hs hr hp hd (by omega) ?_
      repeat get_elem_tactic_trivial
      refine hI (.seq (.fix ((dd q.2.rws).map rwD))) (by show some _ = _; rw [List.length_map]) fun j b hb => ?_
      show ((dd q.2.rws).map rwD)[j]? = _
      rw [List.getElem?_map, hb]; rfl
    · intro b hb P' hP
      show WE _ _ [some (0, x.toD), some (k + 1, .lst ((x.desks.take i).flatMap stsOf)), some (0, .str q.1), some (0, q.2.toD), some (0, .str b.1), some (0, .tup (b.2.map .int))] _
      repeat get_elem_tactic_trivial
      exact hP
    · refine And.intro rfl (wl_nil ⟨_, rfl, _, _, rfl, _, _, rfl, ?_⟩)
      have h1 := flat_len hz i
      refine mut_ext ?_ (fun d hd => by obtain ⟨_, _, rfl⟩ := List.mem_map.mp hd; rfl) ?_
      · have h2 := dd_len q.2.rws
        have h3 := rws_size q.2
        rw [List.length_map]
        have : 100 * i ≤ 600 := by omega
        omega
      refine wb_nil ⟨rfl, 0, some (0, .str q.1), some (0, q.2.toD), ?_⟩
      rw [take_snoc hq, List.flatMap_append]
      simp [stsOf]
  · rintro env ⟨k, o2, o3, rfl⟩ _
    rw [List.length_map, List.take_length]
    repeat get_elem_tactic_trivial
    refine op_tupleOfS ?_ ?_
    · rw [List.all_eq_true]
      intro d hd
      obtain ⟨p, _, hd⟩ := List.mem_flatMap.mp hd
      obtain ⟨_, _, rfl⟩ := List.mem_map.mp hd
      rfl
    repeat get_elem_tactic_trivial
    exact h
end Ck

set_option Elab.async false
set_option linter.all false
set_option maxRecDepth 100000
/-! P06b: the law's steps. -/
namespace Ck
open PySem
local macro_rules
  | `(tactic| get_elem_tactic_trivial) => `(tactic| first
    | (with_reducible first
        | refine wb_cons ?_
        | refine wb_nil ?_
        | refine ws_set ?_
        | refine ws_ret ?_
        | refine ws_exp ?_
        | refine ws_setT ?_
        | refine ws_setIx ?_
        | refine ws_setSl ?_
        | refine ws_ite ?_
        | (apply ws_aug; with_unfolding_all rfl)
        | refine w_cst ?_
        | refine w_glo ?_
        | (apply w_varS; with_unfolding_all rfl)
        | refine sl_zero ?_
        | (apply sl_flat; with_unfolding_all rfl)
        | (apply sl_own; with_unfolding_all rfl; with_unfolding_all rfl)
        | refine w_op ?_
        | refine w_tupd ?_
        | refine w_lstd ?_
        | refine w_call ?_
        | (apply w_mut; with_unfolding_all rfl; with_unfolding_all rfl)
        | refine w_slc ?_
        | refine w_met ?_
        | refine wl_cons ?_
        | refine wl_nil ?_
        | refine wt_cmp ?_
        | refine wt_conj ?_
        | refine wt_disj ?_
        | refine wt_not ?_
        | refine wt_isn ?_
        | refine rr_fr ?_
        | (apply rr_sl; with_unfolding_all rfl)
        | refine op_lenS ?_
        | refine op_lenL ?_
        | refine op_lenT ?_
        | refine op_add ?_
        | refine op_sub ?_
        | refine op_lt ?_
        | refine op_le ?_
        | refine op_gt ?_
        | refine op_ge ?_
        | refine op_eq eqv_int ?_
        | refine op_ne eqv_int ?_
        | refine op_min2 ?_
        | refine op_max2 ?_
        | refine op_neg ?_
        | refine op_not ?_
        | refine op_int1b ?_
        | refine op_isInt ?_
        | refine op_isTup ?_
        | refine op_isLst ?_
        | refine op_isStr ?_
        | refine op_isBool ?_
        | (apply op_mod; (first | assumption | decide))
        | (apply op_fdiv; (first | assumption | decide); (first | assumption | decide))
        | (refine op_mul (.inl ?_) ?_; decide)
        | (refine op_mul (.inr ?_) ?_; decide)
        | (apply op_pow; decide; decide; decide)
        | refine op_ixL0 ?_
        | refine op_ixT0 ?_
        | (apply op_ixO0; with_unfolding_all rfl)
        | refine op_ixL1 ?_
        | refine op_ixT1 ?_
        | (apply op_ixO1; with_unfolding_all rfl)
        | refine op_ixL2 ?_
        | refine op_ixT2 ?_
        | (apply op_ixO2; with_unfolding_all rfl)
        | refine op_ixL3 ?_
        | refine op_ixT3 ?_
        | (apply op_ixO3; with_unfolding_all rfl)
        | (apply and_eq; with_unfolding_all rfl)
        | (apply ex_pair; with_unfolding_all rfl)
        | (apply ex_some; with_unfolding_all rfl)
        | (apply ex_bl; with_unfolding_all rfl)
        | (apply ex_int; with_unfolding_all rfl)
        | (apply ex_ix; with_unfolding_all rfl; with_unfolding_all rfl; with_unfolding_all rfl)
        | (apply ex_two; with_unfolding_all rfl)
        | refine and_t ?_
        | refine and_f ?_
        | refine and_nt ?_
        | refine and_nf ?_)
    | dsimp only [backIn, hideL, lent, lentK, getD_z, getD_s, set_z, set_s, map_c, map_n, app_c, app_n, rep_s, rep_z])
local macro_rules
  | `(tactic| exists $d, $s, $h0, $h1) => `(tactic| (refine take_ok (by assumption) (by decide) (by decide) fun $d $s $h0 $h1 => ?_; repeat get_elem_tactic_trivial))
section
variable {α β : Type} [DecidableEq α] [DecidableEq β]
theorem addK_app {X Y : List α} {b : α} (h : b ∉ X) : addK (X ++ Y) b = X ++ addK Y b := by
  unfold addK
  by_cases hb : b ∈ Y
  · rw [if_pos (List.mem_append_right _ hb), if_pos hb]
  · rw [if_neg (by rw [List.mem_append, not_or]; exact ⟨h, hb⟩), if_neg hb, List.append_assoc]
theorem foldl_app : ∀ {B X Y : List α}, (∀ b ∈ B, b ∉ X) → B.foldl addK (X ++ Y) = X ++ B.foldl addK Y
  | [], _, _, _ => rfl
  | b :: B, X, Y, h => by
    rw [List.foldl_cons, List.foldl_cons, addK_app (h b (List.mem_cons_self ..))]
    exact foldl_app fun c m => h c (List.mem_cons_of_mem _ m)
theorem dd_mem {l : List α} {a : α} : a ∈ dd l ↔ a ∈ l := by
  have : ∀ (l acc : List α), a ∈ l.foldl addK acc ↔ a ∈ acc ∨ a ∈ l := by
    intro l
    induction l with
    | nil => simp
    | cons b l ih =>
      intro acc
      rw [List.foldl_cons, ih, addK_mem, List.mem_cons]
      exact ⟨fun h => by rcases h with (h | h) | h <;> simp [h], fun h => by rcases h with h | h | h <;> simp [h]⟩
  simpa [dd] using this l []
theorem dd_app {A B : List α} (h : ∀ b ∈ B, b ∉ A) : dd (A ++ B) = dd A ++ dd B := by
  unfold dd
  rw [List.foldl_append]
  have := foldl_app (B := B) (X := dd A) (Y := []) fun b m z => h b m (dd_mem.mp z)
  rw [List.append_nil] at this
  exact this
theorem dd_map {g : α → β} (hg : ∀ a b, g a = g b → a = b) (l : List α) : dd (l.map g) = (dd l).map g := by
  have key : ∀ (Y : List α) (b : α), addK (Y.map g) (g b) = (addK Y b).map g := by
    intro Y b
    unfold addK
    by_cases hb : b ∈ Y
    · rw [if_pos (List.mem_map.mpr ⟨b, hb, rfl⟩), if_pos hb]
    · rw [if_neg (fun z => by obtain ⟨c, hc, e⟩ := List.mem_map.mp z; exact hb (hg _ _ e ▸ hc)), if_neg hb]
      simp
  have : ∀ (l Y : List α), (l.map g).foldl addK (Y.map g) = (l.foldl addK Y).map g := by
    intro l
    induction l with
    | nil => intro Y; rfl
    | cons b l ih => intro Y; rw [List.map_cons, List.foldl_cons, List.foldl_cons, key, ih]
  exact this l []
end
abbrev T3 := Str × (Str × List Int)
def st3 (t : T3) : D := stD t.1 t.2
/-- all reads of a house -/
def allR (ds : List (Str × Tr)) : List T3 := ds.flatMap fun p => p.2.rws.map fun r => (p.1, r)
theorem allR_fst {ds : List (Str × Tr)} {t : T3} (h : t ∈ allR ds) : t.1 ∈ ds.map (·.1) := by
  obtain ⟨p, hp, ht⟩ := List.mem_flatMap.mp h
  obtain ⟨r, _, rfl⟩ := List.mem_map.mp ht
  exact List.mem_map.mpr ⟨p, hp, rfl⟩
theorem dd_allR : ∀ {ds : List (Str × Tr)}, (ds.map (·.1)).Nodup → (dd (allR ds)).map st3 = ds.flatMap stsOf
  | [], _ => rfl
  | p :: ds, nd => by
    rw [List.map_cons, List.nodup_cons] at nd
    have e : allR (p :: ds) = (p.2.rws.map fun r => (p.1, r)) ++ allR ds := rfl
    rw [e, dd_app, List.map_append, dd_allR nd.2, dd_map (fun a b h => (Prod.mk.inj h).2), List.map_map]
    · rfl
    · intro b hb z
      obtain ⟨r, _, rfl⟩ := List.mem_map.mp z
      exact nd.1 (allR_fst hb)
theorem st3_inj {a b : T3} (h : st3 a = st3 b) : a = b := by
  unfold st3 stD at h
  injection h with h
  injection h with h1 h
  injection h with h2 h
  injection h with h3 _
  injection h1 with h1
  injection h2 with h2
  injection h3 with h3
  refine Prod.ext h1 (Prod.ext h2 ?_)
  revert h3
  generalize a.2.2 = x
  generalize b.2.2 = y
  intro h3
  induction x generalizing y with
  | nil => cases y with
    | nil => rfl
    | cons _ _ => cases h3
  | cons u x ih => cases y with
    | nil => cases h3
    | cons v y =>
      rw [List.map_cons, List.map_cons] at h3
      injection h3 with h4 h5
      injection h4 with h4
      rw [h4, ih y h5]
theorem inD_pl {a : D} {l : List D} (ha : a.pl = true) (hl : D.pls l = true) (da : a.dep ≤ 64) (dl : (D.lst l).dep ≤ 64) : inD a l = some (l.any fun z => D.beq z a) := by
  have pl : (D.lst l).pl = true := hl
  have e1 := eqb_pl (.lst l) pl
  have e2 : D.eqbs l = true := e1
  unfold inD
  rw [eqb_pl a ha, e2, dep_py a ha, dep_py (.lst l) pl, decide_eq_true da, decide_eq_true dl]
  show some _ = _
  congr 1
  clear e1 e2 dl pl
  induction l with
  | nil => rfl
  | cons z l ih =>
    simp only [D.pls, Bool.and_eq_true] at hl
    rw [List.any_cons, List.any_cons, ih hl.2, eqv_pl z a hl.1 ha]
theorem rws_op (sg : Str) (a b : Tr) : (Tr.op sg a b).rws = a.rws ++ b.rws := by simp [Tr.rws, Tr.lfs]
theorem rws_ift (a b c : Tr) : (Tr.ift a b c).rws = a.rws ++ (b.rws ++ c.rws) := by simp [Tr.rws, Tr.lfs]
def B_reads_of (f : Nat) : List S :=
  [.ite (.cmp .eq (.op .ix [.var 0, .cst (.int 0)]) (.cst (.str "num"))) [.ret (.lstd [])] [],
  .ite (.cmp .eq (.op .ix [.var 0, .cst (.int 0)]) (.cst (.str "at"))) [.ret (.lstd [.tupd [.op .ix [.var 0, .cst (.int 1)], .op .ix [.var 0, .cst (.int 2)]]])] [],
  .set 1 (.lstd []),
  .forS (.nm 2) (.seq (.op .slA [.var 0, .op .add [.cst (.int 1), .op .int1 [.op .eq [.op .ix [.var 0, .cst (.int 0)], .cst (.str "op")]]]])) [.exp (.mut 1 .extend [.call f [.var 2]])],
  .ret (.var 1)]
/-- the kids, one by one -/
theorem reads_kids {c : Cal} {f : Nat} {d0 : D} {ts : List Tr} {src : E} {pin : List Nat} {K : Ko} (pn : pin = []) (hz : (ts.map Tr.size).sum ≤ 100)
    (hs : ∀ {P : R → Env → Prop}, P ⟨.fr, 0, .tup (ts.map Tr.toD)⟩ [some (0, d0), some (1000, .lst []), none] → WE c src [some (0, d0), some (1000, .lst []), none] P)
    (call : ∀ t ∈ ts, ∀ {Q : SV → List SV → Prop}, (∀ k, Q (k + 1, .lst (t.rws.map rwD)) [(0, t.toD)]) → CPS c f [(0, t.toD)] [] Q)
    (h : ∀ (k : Nat) (o2 : Option SV), K.nx [some (0, d0), some (k + 1, .lst ((ts.flatMap Tr.rws).map rwD)), o2]) :
    WS c (.forS (.nm 2) (.seq src) [.exp (.mut 1 .extend [.call f [.var 2]])]) pin [some (0, d0), some (1000, .lst []), none] K := by
  subst pn
  refine ws_for (wi_seq (hs ⟨.fix (ts.map Tr.toD), rfl, _, rfl, fun i env => ∃ (k : Nat) (o2 : Option SV), env = [some (0, d0), some (k + 1, .lst (((ts.take i).flatMap Tr.rws).map rwD)), o2], ⟨999, _, rfl⟩, ?_, ?_⟩))
  · rintro i env hi ⟨k, o2, rfl⟩
    rw [List.length_map] at hi
    have hq : ts[i]? = some ts[i] := List.getElem?_eq_getElem hi
    generalize ts[i] = t at hq
    have fl := t.flat
    refine ⟨t.toD, [some (0, d0), some (k + 1, .lst (((ts.take i).flatMap Tr.rws).map rwD)), some (0, t.toD)], ?_, rfl, ?_⟩
    · show (ts.map Tr.toD)[i]? = _
      rw [List.getElem?_map, hq]; rfl
    have hlen : ∀ l : List Tr, (l.flatMap Tr.rws).length ≤ (l.map Tr.size).sum := by
      intro l
      induction l with
      | nil => simp
      | cons a l ih => rw [List.flatMap_cons, List.length_append, List.map_cons, List.sum_cons]; have := rws_size a; omega
    have htk : ((ts.take i).map Tr.size).sum + t.size ≤ 100 := by
      have e : ts = ts.take i ++ (t :: ts.drop (i + 1)) := by
        obtain ⟨hi', e⟩ := List.getElem?_eq_some_iff.mp hq
        rw [← e, ← List.drop_eq_getElem_cons hi', List.take_append_drop]
      have := hz
      rw [e, List.map_append, List.sum_append, List.map_cons, List.sum_cons] at this
      omega
    generalize hD : t.toD = D0 at fl
    repeat get_elem_tactic_trivial
    subst hD
    refine call t (List.mem_of_getElem? hq) fun k2 => ?_
    repeat get_elem_tactic_trivial
    refine mut_ext ?_ (fun d hd => by obtain ⟨_, _, rfl⟩ := List.mem_map.mp hd; rfl) ?_
    · have h1 := hlen (ts.take i)
      have h2 := rws_size t
      rw [List.length_map, List.length_map]
      omega
    refine wb_nil ⟨rfl, 0, some (0, t.toD), ?_⟩
    rw [take_snoc hq, List.flatMap_append, List.map_append]
    simp
  · rintro env ⟨k, o2, rfl⟩ _
    rw [List.length_map, List.take_length]
    exact h k o2
end Ck

set_option Elab.async false
set_option linter.all false
set_option maxRecDepth 100000
/-! P06c: the law's reads, the law's steps. -/
namespace Ck
open PySem
local macro_rules
  | `(tactic| get_elem_tactic_trivial) => `(tactic| first
    | (with_reducible first
        | refine wb_cons ?_
        | refine wb_nil ?_
        | refine ws_set ?_
        | refine ws_ret ?_
        | refine ws_exp ?_
        | refine ws_setT ?_
        | refine ws_setIx ?_
        | refine ws_setSl ?_
        | refine ws_ite ?_
        | (apply ws_aug; with_unfolding_all rfl)
        | refine w_cst ?_
        | refine w_glo ?_
        | (apply w_varS; with_unfolding_all rfl)
        | refine sl_zero ?_
        | (apply sl_flat; with_unfolding_all rfl)
        | (apply sl_own; with_unfolding_all rfl; with_unfolding_all rfl)
        | refine w_op ?_
        | refine w_tupd ?_
        | refine w_lstd ?_
        | refine w_call ?_
        | (apply w_mut; with_unfolding_all rfl; with_unfolding_all rfl)
        | refine w_slc ?_
        | refine w_met ?_
        | refine wl_cons ?_
        | refine wl_nil ?_
        | refine wt_cmp ?_
        | refine wt_conj ?_
        | refine wt_disj ?_
        | refine wt_not ?_
        | refine wt_isn ?_
        | refine rr_fr ?_
        | (apply rr_sl; with_unfolding_all rfl)
        | refine op_lenS ?_
        | refine op_lenL ?_
        | refine op_lenT ?_
        | refine op_add ?_
        | refine op_sub ?_
        | refine op_lt ?_
        | refine op_le ?_
        | refine op_gt ?_
        | refine op_ge ?_
        | refine op_eq eqv_int ?_
        | refine op_ne eqv_int ?_
        | refine op_min2 ?_
        | refine op_max2 ?_
        | refine op_neg ?_
        | refine op_not ?_
        | refine op_int1b ?_
        | refine op_isInt ?_
        | refine op_isTup ?_
        | refine op_isLst ?_
        | refine op_isStr ?_
        | refine op_isBool ?_
        | (apply op_mod; (first | assumption | decide))
        | (apply op_fdiv; (first | assumption | decide); (first | assumption | decide))
        | (refine op_mul (.inl ?_) ?_; decide)
        | (refine op_mul (.inr ?_) ?_; decide)
        | (apply op_pow; decide; decide; decide)
        | refine op_ixL0 ?_
        | refine op_ixT0 ?_
        | (apply op_ixO0; with_unfolding_all rfl)
        | refine op_ixL1 ?_
        | refine op_ixT1 ?_
        | (apply op_ixO1; with_unfolding_all rfl)
        | refine op_ixL2 ?_
        | refine op_ixT2 ?_
        | (apply op_ixO2; with_unfolding_all rfl)
        | refine op_ixL3 ?_
        | refine op_ixT3 ?_
        | (apply op_ixO3; with_unfolding_all rfl)
        | (apply and_eq; with_unfolding_all rfl)
        | (apply ex_pair; with_unfolding_all rfl)
        | (apply ex_some; with_unfolding_all rfl)
        | (apply ex_bl; with_unfolding_all rfl)
        | (apply ex_int; with_unfolding_all rfl)
        | (apply ex_ix; with_unfolding_all rfl; with_unfolding_all rfl; with_unfolding_all rfl)
        | (apply ex_two; with_unfolding_all rfl)
        | refine and_t ?_
        | refine and_f ?_
        | refine and_nt ?_
        | refine and_nf ?_)
    | dsimp only [backIn, hideL, lent, lentK, getD_z, getD_s, set_z, set_s, map_c, map_n, app_c, app_n, rep_s, rep_z])
local macro_rules
  | `(tactic| exists $d, $s, $h0, $h1) => `(tactic| (refine take_ok (by assumption) (by decide) (by decide) fun $d $s $h0 $h1 => ?_; repeat get_elem_tactic_trivial))
theorem reads_of_ok {G : Gt} {f : Nat} (hg : G[f]? = some ⟨1, 3, B_reads_of f⟩) : ∀ (t : Tr) (n : Nat), t.size ≤ 100 → ∀ {Q : SV → List SV → Prop}, (∀ k, Q (k + 1, .lst (t.rws.map rwD)) [(0, t.toD)]) → CPS (evC G (n + t.size + 1)) f [(0, t.toD)] [] Q
  | .lf (.num v), n, hz, Q, h => by
    refine w_body hg rfl ?_
    unfold B_reads_of
    show WB _ _ _ [some (0, .tup [.str "num", .int v]), none, none] _
    repeat get_elem_tactic_trivial
    refine op_eq (k := true) (by decide +kernel) ?_
    repeat get_elem_tactic_trivial
    exact h 999
  | .lf (.at_ nm ns), n, hz, Q, h => by
    refine w_body hg rfl ?_
    unfold B_reads_of
    show WB _ _ _ [some (0, .tup [.str "at", .str nm, .tup (ns.map .int)]), none, none] _
    repeat get_elem_tactic_trivial
    refine op_eq (k := false) (by decide +kernel) ?_
    repeat get_elem_tactic_trivial
    refine op_eq (k := true) (by decide +kernel) ?_
    repeat get_elem_tactic_trivial
    exact h 999
  | .op sg a b, n, hz, Q, h => by
    refine w_body hg rfl ?_
    unfold B_reads_of
    show WB _ _ _ [some (0, .tup [.str "op", .str sg, a.toD, b.toD]), none, none] _
    repeat get_elem_tactic_trivial
    refine op_eq (k := false) (by decide +kernel) ?_
    repeat get_elem_tactic_trivial
    refine op_eq (k := false) (by decide +kernel) ?_
    repeat get_elem_tactic_trivial
    refine reads_kids (ts := [a, b]) rfl ?_ ?_ ?_ ?_
    · simp only [List.map_cons, List.map_nil, List.sum_cons, List.sum_nil]
      simp only [Tr.size] at hz
      omega
    · intro P hP
      repeat get_elem_tactic_trivial
      refine op_eq (k := true) (by decide +kernel) ?_
      repeat get_elem_tactic_trivial
      refine op_slAT ?_
      exact hP
    · intro t ht Q hQ
      simp only [Tr.size] at hz ⊢
      simp only [List.mem_cons, List.not_mem_nil, or_false] at ht
      rcases ht with e0 | e0
      · rw [e0] at hQ ⊢
        have := reads_of_ok hg a (n + b.size) (by omega) hQ
        have e : n + b.size + a.size + 1 = n + (a.size + b.size + 1) := by omega
        rw [e] at this
        exact this
      · rw [e0] at hQ ⊢
        have := reads_of_ok hg b (n + a.size) (by omega) hQ
        have e : n + a.size + b.size + 1 = n + (a.size + b.size + 1) := by omega
        rw [e] at this
        exact this
    · intro k o2
      repeat get_elem_tactic_trivial
      have := h k
      rw [rws_op] at this
      show Q _ [(0, (Tr.op sg a b).toD)]
      simpa using this
  | .ift a b d, n, hz, Q, h => by
    refine w_body hg rfl ?_
    unfold B_reads_of
    show WB _ _ _ [some (0, .tup [.str "if", a.toD, b.toD, d.toD]), none, none] _
    repeat get_elem_tactic_trivial
    refine op_eq (k := false) (by decide +kernel) ?_
    repeat get_elem_tactic_trivial
    refine op_eq (k := false) (by decide +kernel) ?_
    repeat get_elem_tactic_trivial
    refine reads_kids (ts := [a, b, d]) rfl ?_ ?_ ?_ ?_
    · simp only [List.map_cons, List.map_nil, List.sum_cons, List.sum_nil]
      simp only [Tr.size] at hz
      omega
    · intro P hP
      repeat get_elem_tactic_trivial
      refine op_eq (k := false) (by decide +kernel) ?_
      repeat get_elem_tactic_trivial
      refine op_slAT ?_
      exact hP
    · intro t ht Q hQ
      simp only [Tr.size] at hz ⊢
      simp only [List.mem_cons, List.not_mem_nil, or_false] at ht
      rcases ht with e0 | e0 | e0
      · rw [e0] at hQ ⊢
        have := reads_of_ok hg a (n + b.size + d.size) (by omega) hQ
        have e : n + b.size + d.size + a.size + 1 = n + (a.size + b.size + d.size + 1) := by omega
        rw [e] at this
        exact this
      · rw [e0] at hQ ⊢
        have := reads_of_ok hg b (n + a.size + d.size) (by omega) hQ
        have e : n + a.size + d.size + b.size + 1 = n + (a.size + b.size + d.size + 1) := by omega
        rw [e] at this
        exact this
      · rw [e0] at hQ ⊢
        have := reads_of_ok hg d (n + a.size + b.size) (by omega) hQ
        have e : n + a.size + b.size + d.size + 1 = n + (a.size + b.size + d.size + 1) := by omega
        rw [e] at this
        exact this
    · intro k o2
      repeat get_elem_tactic_trivial
      have := h k
      rw [rws_ift] at this
      show Q _ [(0, (Tr.ift a b d).toD)]
      simpa using this
theorem st3_pl {t : T3} (h1 : (D.str t.1).pl = true) (h2 : (D.str t.2.1).pl = true) : (st3 t).pl = true ∧ (st3 t).dep = 2 := by
  have e1 : D.pls (t.2.2.map .int) = true := pls_map fun _ _ => rfl
  have e2 : D.deps (t.2.2.map .int) = 0 := deps_map0 fun _ _ => rfl
  unfold st3 stD
  simp only [D.pl, D.pls] at h1 h2 ⊢
  simp only [D.dep, D.deps]
  rw [h1, h2, e1, e2]
  exact ⟨rfl, rfl⟩
theorem in_st3 {a : T3} {l : List T3} (ha : (D.str a.1).pl = true ∧ (D.str a.2.1).pl = true) (hl : ∀ t ∈ l, (D.str t.1).pl = true ∧ (D.str t.2.1).pl = true) : inD (st3 a) (l.map st3) = some (decide (a ∈ l)) := by
  have hd : D.deps (l.map st3) ≤ 2 := by
    clear ha
    induction l with
    | nil => exact Nat.zero_le _
    | cons t l ih =>
      have h1 := (st3_pl (hl t (List.mem_cons_self ..)).1 (hl t (List.mem_cons_self ..)).2).2
      have h2 := ih fun u m => hl u (List.mem_cons_of_mem _ m)
      simp only [List.map_cons, D.deps]
      omega
  rw [inD_pl (st3_pl ha.1 ha.2).1 (pls_map fun t m => (st3_pl (hl t m).1 (hl t m).2).1) (by rw [(st3_pl ha.1 ha.2).2]; omega) (by show _ + 1 ≤ 64; omega)]
  congr 1
  rw [Bool.eq_iff_iff, List.any_eq_true, decide_eq_true_iff]
  constructor
  · rintro ⟨z, hz, e⟩
    obtain ⟨t, ht, rfl⟩ := List.mem_map.mp hz
    have := st3_inj (beq_eq _ _ e)
    rw [← this]; exact ht
  · intro h
    exact ⟨_, List.mem_map.mpr ⟨a, h, rfl⟩, beq_rfl _⟩
theorem op_notinL {q : R → Prop} {n n' : Nat} {s s' : Src} {a : D} {l : List D} {k : Bool} (he : inD a l = some k) (h : q ⟨.fr, 0, .bl (!k)⟩) : OP .notin [⟨s, n, a⟩, ⟨s', n', .lst l⟩] q := by
  refine op_gen (d := .bl (!k)) rfl rfl ?_ h
  show inSeq true [a, .lst l] = _
  cases a <;> simp [inSeq, he]
def B_steps (r : Nat) : List S :=
  [.set 1 (.lstd []),
  .forS (.tup [.nm 2, .nm 3]) (.seq (.op .ix [.var 0, .cst (.int 2)])) [.forS (.tup [.nm 4, .nm 5]) (.seq (.call r [.var 3])) [.ite (.cmp .notin (.tupd [.var 2, .var 4, .var 5]) (.var 1)) [.exp (.mut 1 .append [.tupd [.var 2, .var 4, .var 5]])] []]],
  .ret (.var 1)]
theorem allR_len {ds : List (Str × Tr)} (h : ∀ p ∈ ds, p.2.size ≤ 100) : (allR ds).length ≤ 100 * ds.length := by
  induction ds with
  | nil => simp [allR]
  | cons p ds ih =>
    have e : allR (p :: ds) = (p.2.rws.map fun r => (p.1, r)) ++ allR ds := rfl
    rw [e, List.length_append, List.length_map, List.length_cons]
    have h1 := rws_size p.2
    have h2 := h p (List.mem_cons_self ..)
    have h3 := ih fun q m => h q (List.mem_cons_of_mem _ m)
    omega
theorem law_steps_ok {G : Gt} {n f r : Nat} (hg : G[f]? = some ⟨1, 6, B_steps r⟩) (hr : G[r]? = some ⟨1, 3, B_reads_of r⟩) {x : Hs} (hx : x.desks.length ≤ 6) (hz : ∀ p ∈ x.desks, p.2.size ≤ 100) (hpl : ∀ t ∈ allR x.desks, (D.str t.1).pl = true ∧ (D.str t.2.1).pl = true)
    {Q : SV → List SV → Prop} (h : ∀ k, Q (k + 1, .lst ((dd (allR x.desks)).map st3)) [(0, x.toD)]) : CPS (evC G (n + 103)) f [(0, x.toD)] [] Q := by
  refine w_body hg rfl ?_
  unfold B_steps
  have hfl : x.toD.isC = false := rfl
  show WB _ _ _ [some (0, x.toD), none, none, none, none, none] _
  repeat get_elem_tactic_trivial
  refine ws_for (wi_seq ?_)
  repeat get_elem_tactic_trivial
  refine op_ixT2 (x0 := .int x.ways) (x1 := .int x.wheel) (x2 := .tup (x.desks.map dkD)) (l := []) ?_
  repeat get_elem_tactic_trivial
  refine ⟨fun i env => ∃ (k : Nat) (o2 o3 o4 o5 : Option SV), env = [some (0, x.toD), some (k + 1, .lst ((dd (allR (x.desks.take i))).map st3)), o2, o3, o4, o5], ⟨999, _, _, _, _, rfl⟩, ?_, ?_⟩
  · rintro i env hi ⟨k, o2, o3, o4, o5, rfl⟩
    rw [List.length_map] at hi
    have hq : x.desks[i]? = some x.desks[i] := List.getElem?_eq_getElem hi
    generalize x.desks[i] = q at hq
    have hqz := hz q (List.mem_of_getElem? hq)
    refine ⟨dkD q, [some (0, x.toD), some (k + 1, .lst ((dd (allR (x.desks.take i))).map st3)), some (0, .str q.1), some (0, q.2.toD), o4, o5], ?_, rfl, ?_⟩
    · show (x.desks.map dkD)[i]? = _
      rw [List.getElem?_map, hq]; rfl
    refine wb_cons (ws_for (wi_seq ?_))
    have fl := q.2.flat
    generalize hD : q.2.toD = D0 at fl
    repeat get_elem_tactic_trivial
    subst hD
    have hfu : n + 102 = (n + 101 - q.2.size) + q.2.size + 1 := by omega
    rw [hfu]
    refine reads_of_ok hr q.2 _ hqz fun k2 => ?_
    rw [← hfu]
    repeat get_elem_tactic_trivial
    have hsplit : allR (x.desks.take (i + 1)) = allR (x.desks.take i) ++ q.2.rws.map fun r => (q.1, r) := by rw [take_snoc hq]; simp [allR]
    have hsub : ∀ t ∈ allR (x.desks.take (i + 1)), t ∈ allR x.desks := fun t m => by
      obtain ⟨p, hp, ht⟩ := List.mem_flatMap.mp m
      exact List.mem_flatMap.mpr ⟨p, List.mem_of_mem_take hp, ht⟩
    have hlen : (allR (x.desks.take (i + 1))).length ≤ 600 := by
      refine Nat.le_trans (allR_len fun p m => hz p (List.mem_of_mem_take m)) ?_
      rw [List.length_take]; omega
    refine ⟨fun j env => ∃ (k : Nat) (o4 o5 : Option SV), env = [some (0, x.toD), some (k + 1, .lst ((dd (allR (x.desks.take i) ++ (q.2.rws.take j).map fun r => (q.1, r))).map st3)), some (0, .str q.1), some (0, q.2.toD), o4, o5], ⟨k, o4, o5, by simp⟩, ?_, ?_⟩
    · rintro j env hj ⟨k, o4, o5, rfl⟩
      rw [List.length_map] at hj
      have hb : q.2.rws[j]? = some q.2.rws[j] := List.getElem?_eq_getElem hj
      generalize q.2.rws[j] = b at hb
      refine ⟨rwD b, [some (0, x.toD), some (k + 1, .lst ((dd (allR (x.desks.take i) ++ (q.2.rws.take j).map fun r => (q.1, r))).map st3)), some (0, .str q.1), some (0, q.2.toD), some (0, .str b.1), some (0, .tup (b.2.map .int))], ?_, rfl, ?_⟩
      · show (q.2.rws.map rwD)[j]? = _
        rw [List.getElem?_map, hb]; rfl
      repeat get_elem_tactic_trivial
      have hA : ∀ t ∈ allR (x.desks.take i) ++ (q.2.rws.take j).map (fun r => (q.1, r)), t ∈ allR (x.desks.take (i + 1)) := fun t m => by
        rw [hsplit]
        rcases List.mem_append.mp m with m | m
        · exact List.mem_append_left _ m
        · obtain ⟨r, hr, rfl⟩ := List.mem_map.mp m
          exact List.mem_append_right _ (List.mem_map.mpr ⟨r, List.mem_of_mem_take hr, rfl⟩)
      have hAl : (allR (x.desks.take i) ++ (q.2.rws.take j).map (fun r => (q.1, r))).length ≤ 700 := by
        have e := congrArg List.length hsplit
        rw [List.length_append, List.length_map] at e
        have := rws_size q.2
        rw [List.length_append, List.length_map, List.length_take]
        omega
      have hnext : dd (allR (x.desks.take i) ++ (q.2.rws.take (j + 1)).map fun r => (q.1, r)) = addK (dd (allR (x.desks.take i) ++ (q.2.rws.take j).map fun r => (q.1, r))) (q.1, b) := by
        rw [take_snoc hb, List.map_append, ← List.append_assoc]
        exact dd_snoc _ _
      generalize allR (x.desks.take i) ++ (q.2.rws.take j).map (fun r => (q.1, r)) = A at hA hAl hnext ⊢
      have hb' : (q.1, b) ∈ allR (x.desks.take (i + 1)) := by
        rw [hsplit]
        exact List.mem_append_right _ (List.mem_map.mpr ⟨b, List.mem_of_getElem? hb, rfl⟩)
      refine op_notinL (a := st3 (q.1, b)) (in_st3 (hpl _ (hsub _ hb')) fun t m => hpl t (hsub t (hA t (dd_mem.mp m)))) ?_
      refine ⟨_, rfl, fun hk => ?_, fun hk => ?_⟩
      · have hno : (q.1, b) ∉ dd A := by simpa using hk
        have e : addK (dd A) (q.1, b) = dd A ++ [(q.1, b)] := by unfold addK; rw [if_neg hno]
        have hdl := dd_len A
        repeat get_elem_tactic_trivial
        refine mut_appN (by rw [List.length_map, sizeLine_eq]; omega) ?_
        refine wb_nil (wb_nil ⟨rfl, min k 999, some (0, .str b.1), some (0, .tup (b.2.map .int)), ?_⟩)
        rw [hnext, e, List.map_append]
        have e2 : min (k + 1) (depOf [((0, D.tup [D.str q.1, D.str b.1, D.tup (b.2.map .int)]) : SV)]) = min k 999 + 1 := by
          show min (k + 1) 1000 = _
          omega
        rw [e2]
        rfl
      · have hin : (q.1, b) ∈ dd A := by simpa using hk
        have e : addK (dd A) (q.1, b) = dd A := by unfold addK; rw [if_pos hin]
        refine wb_nil (wb_nil ⟨rfl, k, some (0, .str b.1), some (0, .tup (b.2.map .int)), ?_⟩)
        rw [hnext, e]
    · rintro env ⟨k, o4, o5, rfl⟩ _
      rw [List.length_map, List.take_length, ← hsplit]
      exact wb_nil ⟨rfl, k, _, _, _, _, rfl⟩
  · rintro env ⟨k, o2, o3, o4, o5, rfl⟩ _
    rw [List.length_map, List.take_length]
    repeat get_elem_tactic_trivial
    exact h k
end Ck

set_option Elab.async false
set_option linter.all false
set_option maxRecDepth 100000
/-! P06d: rules looked up, places, waits. -/
namespace Ck
open PySem
local macro_rules
  | `(tactic| get_elem_tactic_trivial) => `(tactic| first
    | (with_reducible first
        | refine wb_cons ?_
        | refine wb_nil ?_
        | refine ws_set ?_
        | refine ws_ret ?_
        | refine ws_exp ?_
        | refine ws_setT ?_
        | refine ws_setIx ?_
        | refine ws_setSl ?_
        | refine ws_ite ?_
        | (apply ws_aug; with_unfolding_all rfl)
        | refine w_cst ?_
        | refine w_glo ?_
        | (apply w_varS; with_unfolding_all rfl)
        | refine sl_zero ?_
        | (apply sl_flat; with_unfolding_all rfl)
        | (apply sl_own; with_unfolding_all rfl; with_unfolding_all rfl)
        | refine w_op ?_
        | refine w_tupd ?_
        | refine w_lstd ?_
        | refine w_call ?_
        | (apply w_mut; with_unfolding_all rfl; with_unfolding_all rfl)
        | refine w_slc ?_
        | refine w_met ?_
        | refine wl_cons ?_
        | refine wl_nil ?_
        | refine wt_cmp ?_
        | refine wt_conj ?_
        | refine wt_disj ?_
        | refine wt_not ?_
        | refine wt_isn ?_
        | refine rr_fr ?_
        | (apply rr_sl; with_unfolding_all rfl)
        | refine op_lenS ?_
        | refine op_lenL ?_
        | refine op_lenT ?_
        | refine op_add ?_
        | refine op_sub ?_
        | refine op_lt ?_
        | refine op_le ?_
        | refine op_gt ?_
        | refine op_ge ?_
        | refine op_eq eqv_int ?_
        | refine op_ne eqv_int ?_
        | refine op_min2 ?_
        | refine op_max2 ?_
        | refine op_neg ?_
        | refine op_not ?_
        | refine op_int1b ?_
        | refine op_isInt ?_
        | refine op_isTup ?_
        | refine op_isLst ?_
        | refine op_isStr ?_
        | refine op_isBool ?_
        | (apply op_mod; (first | assumption | decide))
        | (apply op_fdiv; (first | assumption | decide); (first | assumption | decide))
        | (refine op_mul (.inl ?_) ?_; decide)
        | (refine op_mul (.inr ?_) ?_; decide)
        | (apply op_pow; decide; decide; decide)
        | refine op_ixL0 ?_
        | refine op_ixT0 ?_
        | (apply op_ixO0; with_unfolding_all rfl)
        | refine op_ixL1 ?_
        | refine op_ixT1 ?_
        | (apply op_ixO1; with_unfolding_all rfl)
        | refine op_ixL2 ?_
        | refine op_ixT2 ?_
        | (apply op_ixO2; with_unfolding_all rfl)
        | refine op_ixL3 ?_
        | refine op_ixT3 ?_
        | (apply op_ixO3; with_unfolding_all rfl)
        | (apply and_eq; with_unfolding_all rfl)
        | (apply ex_pair; with_unfolding_all rfl)
        | (apply ex_some; with_unfolding_all rfl)
        | (apply ex_bl; with_unfolding_all rfl)
        | (apply ex_int; with_unfolding_all rfl)
        | (apply ex_ix; with_unfolding_all rfl; with_unfolding_all rfl; with_unfolding_all rfl)
        | (apply ex_two; with_unfolding_all rfl)
        | refine and_t ?_
        | refine and_f ?_
        | refine and_nt ?_
        | refine and_nf ?_)
    | dsimp only [backIn, hideL, lent, lentK, getD_z, getD_s, set_z, set_s, map_c, map_n, app_c, app_n, rep_s, rep_z])
local macro_rules
  | `(tactic| exists $d, $s, $h0, $h1) => `(tactic| (refine take_ok (by assumption) (by decide) (by decide) fun $d $s $h0 $h1 => ?_; repeat get_elem_tactic_trivial))
theorem op_ixDF {q : R → Prop} {n n' : Nat} {ks vs : List D} {k d : D} (h : dgetD (.dic ks vs) k = some d) (hq : q ⟨.fr, 0, d⟩) : OP .ix [⟨.fr, n, .dic ks vs⟩, ⟨.fr, n', k⟩] q :=
  op_genP (d := d) rfl rfl (by
    show ixD (.dic ks vs) k = some d
    rw [← h]
    cases k <;> rfl) hq
theorem op_dictT {q : R → Prop} {n : Nat} {l ks vs : List D} (hl : l.length ≤ sizeLine) (h : dfill [] [] l = some (ks, vs)) (hq : q ⟨.fr, 1, .dic ks vs⟩) : OP .dictOf [⟨.fr, n, .tup l⟩] q :=
  op_genM (d := .dic ks vs) rfl rfl (by
    show dictD (.tup l) = _
    simp only [dictD]
    rw [if_pos hl, h]
    rfl) hq
theorem house_dict {x : Hs} (nd : x.names.Nodup) : dfill [] [] (x.desks.map dkD) = some (x.names.map .str, x.desks.map fun p => p.2.toD) := by
  have := fill_new kf_str (ps := x.desks.map fun p => (p.1, p.2.toD)) (l := []) (vs := []) rfl (by
    rw [List.nil_append, List.map_map]
    exact nd)
  simp only [List.map_map, List.nil_append, List.map_nil] at this
  unfold Hs.names
  rw [List.map_map]
  exact this
def B_rule_of : List S :=
  [.ret (.op .ix [.op .dictOf [.op .ix [.var 0, .cst (.int 2)]], .var 1])]
theorem rule_of_ok {G : Gt} {n f : Nat} (hg : G[f]? = some ⟨2, 2, B_rule_of⟩) {x : Hs} (hx : x.desks.length ≤ 6) (nd : x.names.Nodup) {p : Str × Tr} (hp : p ∈ x.desks) {Q : SV → List SV → Prop} (h : Q (0, p.2.toD) [(0, x.toD), (0, .str p.1)]) : CPS (evC G (n + 1)) f [(0, x.toD), (0, .str p.1)] [] Q := by
  refine w_body hg rfl ?_
  unfold B_rule_of
  have hfl : x.toD.isC = false := rfl
  show WB _ _ _ [some (0, x.toD), some (0, .str p.1)] _
  repeat get_elem_tactic_trivial
  refine op_ixT2 (x0 := .int x.ways) (x1 := .int x.wheel) (x2 := .tup (x.desks.map dkD)) (l := []) ?_
  repeat get_elem_tactic_trivial
  refine op_dictT (by rw [List.length_map, sizeLine_eq]; omega) (house_dict nd) ?_
  repeat get_elem_tactic_trivial
  obtain ⟨i, hi⟩ := List.mem_iff_getElem?.mp hp
  refine op_ixDF (get_at kf_str nd (i := i) (by unfold Hs.names; rw [List.getElem?_map, hi]; rfl) (by rw [List.getElem?_map, hi]; rfl)) ?_
  repeat get_elem_tactic_trivial
  exact h
/-- a place moved -/
def addP (p r : List Int) : List Int := (p.zip r).map fun a => a.1 + a.2
/-- two tuples of whole numbers, side by side -/
theorem wi_zipI {c : Cal} {a b : E} {env : Env} {p r : List Int} {I : Wk → Env → Prop} (hI : ∀ w : Wk, w.size env = some (p.zip r).length → (∀ i b, (p.zip r)[i]? = some b → w.item env i = some (.tup [.int b.1, .int b.2])) → I w env)
    {x y : Nat} (ha : a = .var x) (hb : b = .var y) (gx : getS env x = some (0, .tup (p.map .int))) (gy : getS env y = some (0, .tup (r.map .int))) : WI c (.zip a b) env I := by
  subst ha hb
  refine wi_zip ?_
  have hz : I (.zip (.fix (p.map .int)) (.fix (r.map .int))) env := by
    refine hI _ ?_ fun i b hb => ?_
    · show some (min (p.map D.int).length (r.map D.int).length) = _
      rw [List.length_map, List.length_map, List.length_zip]
    · obtain ⟨h1, h2⟩ := List.getElem?_zip_eq_some.mp hb
      show (match (p.map D.int)[i]?, (r.map D.int)[i]? with | some d, some e => some (D.tup [d, e]) | _, _ => none) = _
      rw [List.getElem?_map, List.getElem?_map, h1, h2]
      rfl
  refine wl_cons (w_varS gx (sl_flat rfl ?_))
  refine And.intro rfl (wl_cons (w_varS gy (sl_flat rfl ?_)))
  refine And.intro rfl (wl_nil ⟨_, rfl, _, rfl, ?_⟩)
  exact ⟨_, _, _, _, rfl, rfl, rfl, rfl, hz⟩
def B_place_by : List S :=
  [.ret (.op .tupleOf [.comp (.op .add [.var 2, .var 3]) (.tup [.nm 2, .nm 3]) (.zip (.var 0) (.var 1)) (.tt) [2, 3]])]
theorem place_by_ok {G : Gt} {n f : Nat} (hg : G[f]? = some ⟨2, 4, B_place_by⟩) {p r : List Int} (hp : p.length ≤ 100) {Q : SV → List SV → Prop} (h : Q (0, .tup ((addP p r).map .int)) [(0, .tup (p.map .int)), (0, .tup (r.map .int))]) : CPS (evC G (n + 1)) f [(0, .tup (p.map .int)), (0, .tup (r.map .int))] [] Q := by
  refine w_body hg rfl ?_
  unfold B_place_by
  show WB _ _ _ [some (0, .tup (p.map .int)), some (0, .tup (r.map .int)), none, none] _
  repeat get_elem_tactic_trivial
  refine comp_pairs (p.zip r) (fun a => .int a.1) (fun a => .int a.2) (fun a => .int (a.1 + a.2)) (fun _ => rfl) (by rw [List.length_zip]; omega) (by simp) (by simp) (by decide) rfl rfl ?_ ?_ ?_
  · intro I hI
    exact wi_zipI hI rfl rfl rfl rfl
  · intro b hb P' hP
    show WE _ _ [some (0, .tup (p.map .int)), some (0, .tup (r.map .int)), some (0, .int b.1), some (0, .int b.2)] _
    repeat get_elem_tactic_trivial
    exact hP
  · repeat get_elem_tactic_trivial
    refine op_tupleOfF ?_
    repeat get_elem_tactic_trivial
    have e : (p.zip r).map (fun a => D.int (a.1 + a.2)) = (addP p r).map .int := by unfold addP; rw [List.map_map]; rfl
    rw [e]
    exact h
end Ck

set_option Elab.async false
set_option linter.all false
set_option maxRecDepth 100000
/-! P06e: waits, what is right. -/
namespace Ck
open PySem
local macro_rules
  | `(tactic| get_elem_tactic_trivial) => `(tactic| first
    | (with_reducible first
        | refine wb_cons ?_
        | refine wb_nil ?_
        | refine ws_set ?_
        | refine ws_ret ?_
        | refine ws_exp ?_
        | refine ws_setT ?_
        | refine ws_setIx ?_
        | refine ws_setSl ?_
        | refine ws_ite ?_
        | (apply ws_aug; with_unfolding_all rfl)
        | refine w_cst ?_
        | refine w_glo ?_
        | (apply w_varS; with_unfolding_all rfl)
        | refine sl_zero ?_
        | (apply sl_flat; with_unfolding_all rfl)
        | (apply sl_own; with_unfolding_all rfl; with_unfolding_all rfl)
        | refine w_op ?_
        | refine w_tupd ?_
        | refine w_lstd ?_
        | refine w_call ?_
        | (apply w_mut; with_unfolding_all rfl; with_unfolding_all rfl)
        | refine w_slc ?_
        | refine w_met ?_
        | refine wl_cons ?_
        | refine wl_nil ?_
        | refine wt_cmp ?_
        | refine wt_conj ?_
        | refine wt_disj ?_
        | refine wt_not ?_
        | refine wt_isn ?_
        | refine rr_fr ?_
        | (apply rr_sl; with_unfolding_all rfl)
        | refine op_lenS ?_
        | refine op_lenL ?_
        | refine op_lenT ?_
        | refine op_add ?_
        | refine op_sub ?_
        | refine op_lt ?_
        | refine op_le ?_
        | refine op_gt ?_
        | refine op_ge ?_
        | refine op_eq eqv_int ?_
        | refine op_ne eqv_int ?_
        | refine op_min2 ?_
        | refine op_max2 ?_
        | refine op_neg ?_
        | refine op_not ?_
        | refine op_int1b ?_
        | refine op_isInt ?_
        | refine op_isTup ?_
        | refine op_isLst ?_
        | refine op_isStr ?_
        | refine op_isBool ?_
        | (apply op_mod; (first | assumption | decide))
        | (apply op_fdiv; (first | assumption | decide); (first | assumption | decide))
        | (refine op_mul (.inl ?_) ?_; decide)
        | (refine op_mul (.inr ?_) ?_; decide)
        | (apply op_pow; decide; decide; decide)
        | refine op_ixL0 ?_
        | refine op_ixT0 ?_
        | (apply op_ixO0; with_unfolding_all rfl)
        | refine op_ixL1 ?_
        | refine op_ixT1 ?_
        | (apply op_ixO1; with_unfolding_all rfl)
        | refine op_ixL2 ?_
        | refine op_ixT2 ?_
        | (apply op_ixO2; with_unfolding_all rfl)
        | refine op_ixL3 ?_
        | refine op_ixT3 ?_
        | (apply op_ixO3; with_unfolding_all rfl)
        | (apply and_eq; with_unfolding_all rfl)
        | (apply ex_pair; with_unfolding_all rfl)
        | (apply ex_some; with_unfolding_all rfl)
        | (apply ex_bl; with_unfolding_all rfl)
        | (apply ex_int; with_unfolding_all rfl)
        | (apply ex_ix; with_unfolding_all rfl; with_unfolding_all rfl; with_unfolding_all rfl)
        | (apply ex_two; with_unfolding_all rfl)
        | refine and_t ?_
        | refine and_f ?_
        | refine and_nt ?_
        | refine and_nf ?_)
    | dsimp only [backIn, hideL, lent, lentK, getD_z, getD_s, set_z, set_s, map_c, map_n, app_c, app_n, rep_s, rep_z])
local macro_rules
  | `(tactic| exists $d, $s, $h0, $h1) => `(tactic| (refine take_ok (by assumption) (by decide) (by decide) fun $d $s $h0 $h1 => ?_; repeat get_elem_tactic_trivial))
def waitsD (t : Tr) (pl : List Int) : List D := (dd t.rws).map fun r => rwD (r.1, addP pl r.2)
def B_waits_for (pb sb ro : Nat) : List S :=
  [.setT (.tup [.nm 2, .nm 3]) (.var 1),
  .ret (.comp (.tupd [.var 4, .call pb [.var 3, .var 5]]) (.tup [.nm 4, .nm 5]) (.seq (.call sb [.call ro [.var 0, .var 2]])) (.tt) [4, 5])]
theorem waits_for_ok {G : Gt} {n f pb sb ro r p dp : Nat} (hg : G[f]? = some ⟨2, 6, B_waits_for pb sb ro⟩) (hpb : G[pb]? = some ⟨2, 4, B_place_by⟩) (hs : G[sb]? = some ⟨1, 3, B_steps_by r⟩) (hro : G[ro]? = some ⟨2, 2, B_rule_of⟩) (hr : G[r]? = some ⟨1, 2, readsB p⟩) (hp : G[p]? = some ⟨1, 4, partsB dp⟩) (hd : G[dp]? = some ⟨1, 1, deepB⟩)
    {x : Hs} (hx : x.desks.length ≤ 6) (nd : x.names.Nodup) {q : Str × Tr} (hq : q ∈ x.desks) (hqz' : q.2.size ≤ 1000) {pl : List Int} (hpl : pl.length ≤ 100) {Q : SV → List SV → Prop} (h : Q (1000, .lst (waitsD q.2 pl)) [(0, x.toD), (0, rwD (q.1, pl))]) : CPS (evC G (n + 5)) f [(0, x.toD), (0, rwD (q.1, pl))] [] Q := by
  refine w_body hg rfl ?_
  unfold B_waits_for
  have hfl : x.toD.isC = false := rfl
  show WB _ _ _ [some (0, x.toD), some (0, .tup [.str q.1, .tup (pl.map .int)]), none, none, none, none] _
  repeat get_elem_tactic_trivial
  refine comp_pairs (dd q.2.rws) (fun r => .str r.1) (fun r => .tup (r.2.map .int)) (fun r => rwD (r.1, addP pl r.2)) (fun _ => rfl) ?_ (by simp) (by simp) (by decide) rfl rfl ?_ ?_ ?_
  · have h1 := dd_len q.2.rws
    have h2 := rws_size q.2
    omega
  · intro I hI
    refine wi_seq ?_
    repeat get_elem_tactic_trivial
    refine rule_of_ok hro hx nd hq ?_
    have fl := q.2.flat
    generalize hD : q.2.toD = D0 at fl
    repeat get_elem_tactic_trivial
    subst hD
    refine steps_by_ok hs hr hp hd hqz' ?_
    repeat get_elem_tactic_trivial
    refine hI (.seq (.fix ((dd q.2.rws).map rwD))) (by show some _ = _; rw [List.length_map]) fun j b hb => ?_
    show ((dd q.2.rws).map rwD)[j]? = _
    rw [List.getElem?_map, hb]; rfl
  · intro b hb P' hP
    show WE _ _ [some (0, x.toD), some (0, .tup [.str q.1, .tup (pl.map .int)]), some (0, .str q.1), some (0, .tup (pl.map .int)), some (0, .str b.1), some (0, .tup (b.2.map .int))] _
    repeat get_elem_tactic_trivial
    refine place_by_ok hpb hpl ?_
    repeat get_elem_tactic_trivial
    exact hP
  · repeat get_elem_tactic_trivial
    exact h
theorem dd_allR0 : ∀ {ds : List (Str × Tr)}, (ds.map (·.1)).Nodup → dd (allR ds) = ds.flatMap fun p => (dd p.2.rws).map fun r => (p.1, r)
  | [], _ => rfl
  | p :: ds, nd => by
    rw [List.map_cons, List.nodup_cons] at nd
    have e : allR (p :: ds) = (p.2.rws.map fun r => (p.1, r)) ++ allR ds := rfl
    rw [e, dd_app, dd_allR0 nd.2, dd_map (fun a b h => (Prod.mk.inj h).2)]
    · rfl
    · intro b hb z
      obtain ⟨r, _, rfl⟩ := List.mem_map.mp z
      exact nd.1 (allR_fst hb)
theorem filter_desk : ∀ {ds : List (Str × Tr)} {q : Str × Tr}, (ds.map (·.1)).Nodup → q ∈ ds → (ds.flatMap fun p => (dd p.2.rws).map fun r => ((p.1, r) : T3)).filter (fun t => decide (t.1 = q.1)) = (dd q.2.rws).map fun r => (q.1, r)
  | [], _, _, h => nomatch h
  | p :: ds, q, nd, h => by
    rw [List.map_cons, List.nodup_cons] at nd
    rw [List.flatMap_cons, List.filter_append]
    rcases List.mem_cons.mp h with e | h
    · subst e
      have e1 : ((dd q.2.rws).map fun r => ((q.1, r) : T3)).filter (fun t => decide (t.1 = q.1)) = (dd q.2.rws).map fun r => (q.1, r) := by
        rw [List.filter_eq_self]
        intro t ht
        obtain ⟨r, _, rfl⟩ := List.mem_map.mp ht
        simp
      have e2 : (ds.flatMap fun p => (dd p.2.rws).map fun r => ((p.1, r) : T3)).filter (fun t => decide (t.1 = q.1)) = [] := by
        rw [List.filter_eq_nil_iff]
        intro t ht
        obtain ⟨p, hp, ht⟩ := List.mem_flatMap.mp ht
        obtain ⟨r, _, rfl⟩ := List.mem_map.mp ht
        have : p.1 ≠ q.1 := fun e => nd.1 (e ▸ List.mem_map.mpr ⟨p, hp, rfl⟩)
        simpa using this
      rw [e1, e2, List.append_nil]
    · have e1 : ((dd p.2.rws).map fun r => ((p.1, r) : T3)).filter (fun t => decide (t.1 = q.1)) = [] := by
        rw [List.filter_eq_nil_iff]
        intro t ht
        obtain ⟨r, _, rfl⟩ := List.mem_map.mp ht
        have : p.1 ≠ q.1 := fun e => nd.1 (e ▸ List.mem_map.mpr ⟨q, h, rfl⟩)
        simpa using this
      rw [e1, filter_desk nd.2 h, List.nil_append]
/-- what the law says a cell waits for -/
def dueD (ts : List T3) (nm : Str) (pl : List Int) : List D := (ts.filter fun t => decide (t.1 = nm)).map fun t => rwD (t.2.1, addP pl t.2.2)
theorem due_waits {ds : List (Str × Tr)} {q : Str × Tr} (nd : (ds.map (·.1)).Nodup) (hq : q ∈ ds) (pl : List Int) : dueD (dd (allR ds)) q.1 pl = waitsD q.2 pl := by
  unfold dueD waitsD
  rw [dd_allR0 nd, filter_desk nd hq, List.map_map]
  rfl
theorem okd_mono : ∀ {k : Nat} {d : D}, Okd k d → Okd (k + 1) d
  | k, .non, _ => by cases k <;> trivial
  | k, .int _, _ => by cases k <;> trivial
  | k, .str z, h => by cases k <;> exact h
  | 0, .tup l, h => h.elim
  | 0, .lst l, h => h.elim
  | k + 1, .tup l, h => ⟨h.1, fun x m => okd_mono (h.2 x m)⟩
  | k + 1, .lst l, h => ⟨h.1, fun x m => okd_mono (h.2 x m)⟩
  | k, .bl _, h => by cases k <;> exact h.elim
  | k, .scr _, h => by cases k <;> exact h.elim
  | k, .dic _ _, h => by cases k <;> exact h.elim
  | k, .obj _ _ _, h => by cases k <;> exact h.elim
theorem okd_le {k m : Nat} {d : D} (h : Okd k d) (hm : k ≤ m) : Okd m d := by
  induction hm with
  | refl => exact h
  | step _ ih => exact okd_mono ih
theorem okd_str {k : Nat} {z : Str} (h : (D.str z).pl = true) : Okd k (.str z) := by cases k <;> exact h
theorem okd_int {k : Nat} {i : Int} : Okd k (.int i) := by cases k <;> trivial
theorem okd_ints {k : Nat} {l : List Int} (h : l.length ≤ 1000000) : Okd (k + 1) (.tup (l.map .int)) := ⟨by rw [List.length_map]; exact h, fun x m => by
  obtain ⟨i, _, rfl⟩ := List.mem_map.mp m
  exact okd_int⟩
end Ck

set_option Elab.async false
set_option linter.all false
set_option maxRecDepth 100000
/-! P06f: what is right. -/
namespace Ck
open PySem
local macro_rules
  | `(tactic| get_elem_tactic_trivial) => `(tactic| first
    | (with_reducible first
        | refine wb_cons ?_
        | refine wb_nil ?_
        | refine ws_set ?_
        | refine ws_ret ?_
        | refine ws_exp ?_
        | refine ws_setT ?_
        | refine ws_setIx ?_
        | refine ws_setSl ?_
        | refine ws_ite ?_
        | (apply ws_aug; with_unfolding_all rfl)
        | refine w_cst ?_
        | refine w_glo ?_
        | (apply w_varS; with_unfolding_all rfl)
        | refine sl_zero ?_
        | (apply sl_flat; with_unfolding_all rfl)
        | (apply sl_own; with_unfolding_all rfl; with_unfolding_all rfl)
        | refine w_op ?_
        | refine w_tupd ?_
        | refine w_lstd ?_
        | refine w_call ?_
        | (apply w_mut; with_unfolding_all rfl; with_unfolding_all rfl)
        | refine w_slc ?_
        | refine w_met ?_
        | refine wl_cons ?_
        | refine wl_nil ?_
        | refine wt_cmp ?_
        | refine wt_conj ?_
        | refine wt_disj ?_
        | refine wt_not ?_
        | refine wt_isn ?_
        | refine rr_fr ?_
        | (apply rr_sl; with_unfolding_all rfl)
        | refine op_lenS ?_
        | refine op_lenL ?_
        | refine op_lenT ?_
        | refine op_add ?_
        | refine op_sub ?_
        | refine op_lt ?_
        | refine op_le ?_
        | refine op_gt ?_
        | refine op_ge ?_
        | refine op_eq eqv_int ?_
        | refine op_ne eqv_int ?_
        | refine op_min2 ?_
        | refine op_max2 ?_
        | refine op_neg ?_
        | refine op_not ?_
        | refine op_int1b ?_
        | refine op_isInt ?_
        | refine op_isTup ?_
        | refine op_isLst ?_
        | refine op_isStr ?_
        | refine op_isBool ?_
        | (apply op_mod; (first | assumption | decide))
        | (apply op_fdiv; (first | assumption | decide); (first | assumption | decide))
        | (refine op_mul (.inl ?_) ?_; decide)
        | (refine op_mul (.inr ?_) ?_; decide)
        | (apply op_pow; decide; decide; decide)
        | refine op_ixL0 ?_
        | refine op_ixT0 ?_
        | (apply op_ixO0; with_unfolding_all rfl)
        | refine op_ixL1 ?_
        | refine op_ixT1 ?_
        | (apply op_ixO1; with_unfolding_all rfl)
        | refine op_ixL2 ?_
        | refine op_ixT2 ?_
        | (apply op_ixO2; with_unfolding_all rfl)
        | refine op_ixL3 ?_
        | refine op_ixT3 ?_
        | (apply op_ixO3; with_unfolding_all rfl)
        | (apply and_eq; with_unfolding_all rfl)
        | (apply ex_pair; with_unfolding_all rfl)
        | (apply ex_some; with_unfolding_all rfl)
        | (apply ex_bl; with_unfolding_all rfl)
        | (apply ex_int; with_unfolding_all rfl)
        | (apply ex_ix; with_unfolding_all rfl; with_unfolding_all rfl; with_unfolding_all rfl)
        | (apply ex_two; with_unfolding_all rfl)
        | refine and_t ?_
        | refine and_f ?_
        | refine and_nt ?_
        | refine and_nf ?_)
    | dsimp only [backIn, hideL, lent, lentK, getD_z, getD_s, set_z, set_s, map_c, map_n, app_c, app_n, rep_s, rep_z])
local macro_rules
  | `(tactic| exists $d, $s, $h0, $h1) => `(tactic| (refine take_ok (by assumption) (by decide) (by decide) fun $d $s $h0 $h1 => ?_; repeat get_elem_tactic_trivial))
def LfPl : Lf → Prop
  | .num _ => True
  | .at_ nm ns => (D.str nm).pl = true ∧ ns.length ≤ 1000
theorem num_pl : (D.str "num").pl = true := by decide +kernel
theorem at_pl : (D.str "at").pl = true := by decide +kernel
theorem op_pl : (D.str "op").pl = true := by decide +kernel
theorem if_pl : (D.str "if").pl = true := by decide +kernel
theorem sgn_pl : ∀ z ∈ sgn7, (D.str z).pl = true := by decide +kernel
theorem okd_tree : ∀ (t : Tr), t.sg → (∀ l ∈ t.lfs, LfPl l) → Okd (t.size + 1) t.toD
  | .lf (.num v), _, _ => ⟨by simp, fun x m => by
    simp only [List.mem_cons, List.not_mem_nil, or_false] at m
    rcases m with rfl | rfl
    · exact okd_str num_pl
    · exact okd_int⟩
  | .lf (.at_ nm ns), _, h => ⟨by simp, fun x m => by
    have hl := h (.at_ nm ns) (by simp [Tr.lfs])
    simp only [List.mem_cons, List.not_mem_nil, or_false] at m
    rcases m with rfl | rfl | rfl
    · exact okd_str at_pl
    · exact okd_str hl.1
    · exact okd_ints (k := 0) (Nat.le_trans hl.2 (by decide))⟩
  | .op sg a b, hs, h => ⟨by simp, fun x m => by
    simp only [List.mem_cons, List.not_mem_nil, or_false] at m
    rcases m with rfl | rfl | rfl | rfl
    · exact okd_str op_pl
    · exact okd_str (sgn_pl _ hs.1)
    · exact okd_le (okd_tree a hs.2.1 fun l m => h l (by simp [Tr.lfs, m])) (by simp only [Tr.size]; omega)
    · exact okd_le (okd_tree b hs.2.2 fun l m => h l (by simp [Tr.lfs, m])) (by simp only [Tr.size]; omega)⟩
  | .ift a b c, hs, h => ⟨by simp, fun x m => by
    simp only [List.mem_cons, List.not_mem_nil, or_false] at m
    rcases m with rfl | rfl | rfl | rfl
    · exact okd_str if_pl
    · exact okd_le (okd_tree a hs.1 fun l m => h l (by simp [Tr.lfs, m])) (by simp only [Tr.size]; omega)
    · exact okd_le (okd_tree b hs.2.1 fun l m => h l (by simp [Tr.lfs, m])) (by simp only [Tr.size]; omega)
    · exact okd_le (okd_tree c hs.2.2 fun l m => h l (by simp [Tr.lfs, m])) (by simp only [Tr.size]; omega)⟩
structure HPl (x : Hs) : Prop where
  len : x.desks.length ≤ 6
  nd : x.names.Nodup
  sz : ∀ p ∈ x.desks, p.2.size ≤ 100
  sg : ∀ p ∈ x.desks, p.2.sg
  npl : ∀ z ∈ x.names, (D.str z).pl = true
  lfs : ∀ p ∈ x.desks, ∀ l ∈ p.2.lfs, LfPl l
theorem rw_lf {t : Tr} (h : ∀ l ∈ t.lfs, LfPl l) {r : Str × List Int} (m : r ∈ t.rws) : (D.str r.1).pl = true ∧ r.2.length ≤ 1000 := by
  obtain ⟨l, hl, e⟩ := List.mem_filterMap.mp m
  have := h l hl
  cases l with
  | num v => cases e
  | at_ nm ns => cases e; exact this
theorem HPl.all {x : Hs} (h : HPl x) : ∀ t ∈ allR x.desks, (D.str t.1).pl = true ∧ (D.str t.2.1).pl = true ∧ t.2.2.length ≤ 1000 := fun t m => by
  have h1 := h.npl t.1 (allR_fst m)
  obtain ⟨p, hp, ht⟩ := List.mem_flatMap.mp m
  obtain ⟨r, hr, rfl⟩ := List.mem_map.mp ht
  exact ⟨h1, rw_lf (h.lfs p hp) hr⟩
theorem okd_st {t : T3} (h1 : (D.str t.1).pl = true) (h2 : (D.str t.2.1).pl = true) (h3 : t.2.2.length ≤ 1000) : Okd 2 (st3 t) := ⟨by simp, fun x m => by
  simp only [List.mem_cons, List.not_mem_nil, or_false] at m
  rcases m with rfl | rfl | rfl
  · exact okd_str h1
  · exact okd_str h2
  · exact okd_ints (k := 0) (Nat.le_trans h3 (by decide))⟩
theorem okd_rw {r : Str × List Int} (h1 : (D.str r.1).pl = true) (h2 : r.2.length ≤ 1000) : Okd 2 (rwD r) := ⟨by simp, fun x m => by
  simp only [List.mem_cons, List.not_mem_nil, or_false] at m
  rcases m with rfl | rfl
  · exact okd_str h1
  · exact okd_ints (k := 0) (Nat.le_trans h2 (by decide))⟩
theorem addP_len (p r : List Int) : (addP p r).length ≤ p.length := by
  unfold addP
  rw [List.length_map, List.length_zip]
  exact Nat.min_le_left ..
theorem setTg3 {a b d : Nat} {x y z : D} {pin : List Nat} {env : Env} (ha : a ∉ pin) (hb : b ∉ pin) (hd : d ∉ pin) (la : a < env.length) (lb : b < env.length) (ld : d < env.length) :
    setTg (.tup [.nm a, .nm b, .nm d]) (0, .tup [x, y, z]) pin env = some (((env.set a (some (0, x))).set b (some (0, y))).set d (some (0, z))) := by
  have e1 : setTg (.nm a) (0, x) pin env = some (env.set a (some (0, x))) := setTg_nm ha la
  have e2 : setTg (.nm b) (0, y) pin (env.set a (some (0, x))) = some ((env.set a (some (0, x))).set b (some (0, y))) := setTg_nm hb (by rw [List.length_set]; exact lb)
  have e3 : setTg (.nm d) (0, z) pin ((env.set a (some (0, x))).set b (some (0, y))) = some (((env.set a (some (0, x))).set b (some (0, y))).set d (some (0, z))) := setTg_nm hd (by rw [List.length_set, List.length_set]; exact ld)
  simp only [setTg, setTgs] at e1 e2 e3 ⊢
  rw [e1]
  show (Option.bind (some _) _) = _
  simp only [Option.bind_some]
  rw [e2]
  show (Option.bind (some _) _) = _
  simp only [Option.bind_some]
  rw [e3]
  rfl
theorem zipI {env : Env} {p r : List Int} {I : Wk → Env → Prop} (hI : ∀ w : Wk, w.size env = some (p.zip r).length → (∀ i b, (p.zip r)[i]? = some b → w.item env i = some (.tup [.int b.1, .int b.2])) → I w env) : I (.zip (.fix (p.map .int)) (.fix (r.map .int))) env := by
  refine hI _ ?_ fun i b hb => ?_
  · show some (min (p.map D.int).length (r.map D.int).length) = _
    rw [List.length_map, List.length_map, List.length_zip]
  · obtain ⟨h1, h2⟩ := List.getElem?_zip_eq_some.mp hb
    show (match (p.map D.int)[i]?, (r.map D.int)[i]? with | some d, some e => some (D.tup [d, e]) | _, _ => none) = _
    rw [List.getElem?_map, List.getElem?_map, h1, h2]
    rfl
def B_rightS (st al so ro wf : Nat) : List S :=
  [.set 2 (.call st [.var 0]),
  .ite (.not (.val (.call al [.call so [.var 0], .op .tupleOf [.var 2]]))) [.ret (.cst (.bl false))] [],
  .forS (.tup [.nm 4, .nm 5]) (.seq (.op .ix [.var 0, .cst (.int 2)])) [.ite (.not (.val (.call al [.call ro [.var 0, .var 4], .var 5]))) [.ret (.cst (.bl false))] []],
  .forS (.nm 3) (.seq (.var 1)) [.set 6 (.lstd []),
  .forS (.tup [.nm 4, .nm 8, .nm 9]) (.seq (.var 2)) [.ite (.cmp .eq (.var 4) (.op .ix [.var 3, .cst (.int 0)])) [.exp (.mut 6 .append [.tupd [.var 8, .op .tupleOf [.comp (.op .add [.var 10, .var 11]) (.tup [.nm 10, .nm 11]) (.zip (.op .ix [.var 3, .cst (.int 1)]) (.var 9)) (.tt) [10, 11]]]])] []],
  .set 7 (.call wf [.var 0, .var 3]),
  .ite (.not (.val (.call al [.var 7, .var 6]))) [.ret (.cst (.bl false))] [],
  .exp (.mut 7 .append [.var 3])],
  .ret (.cst (.bl true))]
theorem right_ok {G : Gt} {n f st al so ro wf pb sb rf r p dp : Nat} (hg : G[f]? = some ⟨2, 12, B_rightS st al so ro wf⟩) (hst : G[st]? = some ⟨1, 6, B_steps rf⟩) (hrf : G[rf]? = some ⟨1, 3, B_reads_of rf⟩) (hal : G[al]? = some ⟨2, 4, B_alike al⟩) (hso : G[so]? = some ⟨1, 6, B_steps_of sb⟩) (hro : G[ro]? = some ⟨2, 2, B_rule_of⟩) (hwf : G[wf]? = some ⟨2, 6, B_waits_for pb sb ro⟩)
    (hpb : G[pb]? = some ⟨2, 4, B_place_by⟩) (hs : G[sb]? = some ⟨1, 3, B_steps_by r⟩) (hr : G[r]? = some ⟨1, 2, readsB p⟩) (hp : G[p]? = some ⟨1, 4, partsB dp⟩) (hd : G[dp]? = some ⟨1, 1, deepB⟩) {x : Hs} (hx : HPl x) {cells : List (Str × List Int)} (hc : ∀ c ∈ cells, c.1 ∈ x.names ∧ c.2.length ≤ 100)
    {Q : SV → List SV → Prop} (h : Q (0, .bl true) [(0, x.toD), (0, .lst (cells.map rwD))]) : CPS (evC G (n + 110)) f [(0, x.toD), (0, .lst (cells.map rwD))] [] Q := by
  refine w_body hg rfl ?_
  unfold B_rightS
  have hfl : x.toD.isC = false := rfl
  show WB _ _ _ [some (0, x.toD), some (0, .lst (cells.map rwD)), none, none, none, none, none, none, none, none, none, none] _
  repeat get_elem_tactic_trivial
  refine law_steps_ok hst hrf hx.len hx.sz (fun t m => ⟨(hx.all t m).1, (hx.all t m).2.1⟩) fun k => ?_
  have hal3 := dd_allR hx.nd
  have hTl : (dd (allR x.desks)).length ≤ 600 := by
    have h1 := dd_len (allR x.desks)
    have h2 := allR_len hx.sz
    have h3 := hx.len
    omega
  have hT : ∀ t ∈ dd (allR x.desks), (D.str t.1).pl = true ∧ (D.str t.2.1).pl = true ∧ t.2.2.length ≤ 1000 := fun t m => hx.all t (dd_mem.mp m)
  have hdue : ∀ q ∈ x.desks, ∀ pl, dueD (dd (allR x.desks)) q.1 pl = waitsD q.2 pl := fun q m pl => due_waits hx.nd m pl
  repeat get_elem_tactic_trivial
  refine wt_val ?_
  repeat get_elem_tactic_trivial
  refine steps_of_ok hso hs hr hp hd hx.len hx.sz ?_
  rw [← hal3]
  generalize dd (allR x.desks) = T at hTl hT hdue ⊢
  repeat get_elem_tactic_trivial
  refine op_tupleOfS (by rw [List.all_eq_true]; intro d hd; obtain ⟨_, _, rfl⟩ := List.mem_map.mp hd; rfl) ?_
  repeat get_elem_tactic_trivial
  refine alike_ok hal 102 (n + 6) (.tup (T.map st3)) (okd_le (k := 3) (show Okd 3 (.tup (T.map st3)) from ⟨by rw [List.length_map]; omega, fun d hd => by
    obtain ⟨t, ht, rfl⟩ := List.mem_map.mp hd
    obtain ⟨h1, h2, h3⟩ := hT t ht
    exact okd_st h1 h2 h3⟩) (by decide)) ?_
  repeat get_elem_tactic_trivial
  refine ws_for (wi_seq ?_)
  repeat get_elem_tactic_trivial
  refine op_ixT2 (x0 := .int x.ways) (x1 := .int x.wheel) (x2 := .tup (x.desks.map dkD)) (l := []) ?_
  repeat get_elem_tactic_trivial
  refine ⟨fun i env => ∃ (o4 o5 : Option SV), env = [some (0, x.toD), some (0, .lst (cells.map rwD)), some (k + 1, .lst (T.map st3)), none, o4, o5, none, none, none, none, none, none], ⟨_, _, rfl⟩, ?_, ?_⟩
  · rintro i env hi ⟨o4, o5, rfl⟩
    rw [List.length_map] at hi
    have hq : x.desks[i]? = some x.desks[i] := List.getElem?_eq_getElem hi
    generalize x.desks[i] = q at hq
    have hqm := List.mem_of_getElem? hq
    refine ⟨dkD q, [some (0, x.toD), some (0, .lst (cells.map rwD)), some (k + 1, .lst (T.map st3)), none, some (0, .str q.1), some (0, q.2.toD), none, none, none, none, none, none], ?_, rfl, ?_⟩
    · show (x.desks.map dkD)[i]? = _
      rw [List.getElem?_map, hq]; rfl
    have fl := q.2.flat
    generalize hD : q.2.toD = D0 at fl
    repeat get_elem_tactic_trivial
    refine wt_val ?_
    repeat get_elem_tactic_trivial
    subst hD
    refine rule_of_ok hro hx.len hx.nd hqm ?_
    generalize hD : q.2.toD = D0 at fl
    repeat get_elem_tactic_trivial
    subst hD
    refine alike_ok hal 102 (n + 6) q.2.toD (okd_le (okd_tree q.2 (hx.sg q hqm) (hx.lfs q hqm)) (by have := hx.sz q hqm; omega)) ?_
    generalize hD : q.2.toD = D0 at fl
    repeat get_elem_tactic_trivial
    exact ⟨_, _, rfl⟩
  · rintro env ⟨o4, o5, rfl⟩ _
    refine wb_cons (ws_for (wi_seq ?_))
    repeat get_elem_tactic_trivial
    refine ⟨fun i env => ∃ (o3 o4 o5 o6 o7 o8 o9 : Option SV), env = [some (0, x.toD), some (0, .lst (cells.map rwD)), some (k + 1, .lst (T.map st3)), o3, o4, o5, o6, o7, o8, o9, none, none], ⟨_, _, _, _, _, _, _, rfl⟩, ?_, ?_⟩
    · rintro i env hi ⟨o3, o4, o5, o6, o7, o8, o9, rfl⟩
      rw [List.length_map] at hi
      have hq : cells[i]? = some cells[i] := List.getElem?_eq_getElem hi
      generalize cells[i] = cl at hq
      obtain ⟨hc1, hc2⟩ := hc cl (List.mem_of_getElem? hq)
      obtain ⟨q, hqm, hqe⟩ := List.mem_map.mp hc1
      refine ⟨rwD cl, [some (0, x.toD), some (0, .lst (cells.map rwD)), some (k + 1, .lst (T.map st3)), some (0, rwD cl), o4, o5, o6, o7, o8, o9, none, none], ?_, rfl, ?_⟩
      · show (cells.map rwD)[i]? = _
        rw [List.getElem?_map, hq]; rfl
      repeat get_elem_tactic_trivial
      have hcp := hx.npl _ hc1
      have hcl : (rwD cl).isC = false := rfl
      refine ws_for (wi_list (n := k + 1) rfl (fun d hd => by obtain ⟨_, _, rfl⟩ := List.mem_map.mp hd; rfl) fun w hw hws => ?_)
      refine ⟨_, (hw _ rfl).1, fun j env => ∃ (k6 : Nat) (o4 o8 o9 : Option SV), env = [some (0, x.toD), some (0, .lst (cells.map rwD)), some (k + 1, .lst (T.map st3)), some (0, rwD cl), o4, o5, some (k6 + 1, .lst (dueD (T.take j) cl.1 cl.2)), o7, o8, o9, none, none], ⟨999, _, _, _, rfl⟩, ?_, ?_⟩
      · rintro j env hj ⟨k6, o4, o8, o9, rfl⟩
        rw [List.length_map] at hj
        have ht : T[j]? = some T[j] := List.getElem?_eq_getElem hj
        generalize T[j] = t at ht
        obtain ⟨t1, t2, t3⟩ := hT t (List.mem_of_getElem? ht)
        have np : ∀ m, m ≠ 2 → m ∉ w.slots ++ ((Wk.seq (Live.fix (List.map rwD cells))).slots ++ []) := fun m hm z => by
          rcases List.mem_append.mp z with z | z
          · exact hws m hm z
          · simp [Wk.slots, Live.slots] at z
        refine ⟨st3 t, [some (0, x.toD), some (0, .lst (cells.map rwD)), some (k + 1, .lst (T.map st3)), some (0, rwD cl), some (0, .str t.1), o5, some (k6 + 1, .lst (dueD (T.take j) cl.1 cl.2)), o7, some (0, .str t.2.1), some (0, .tup (t.2.2.map .int)), none, none], ?_, setTg3 (np 4 (by decide)) (np 8 (by decide)) (np 9 (by decide)) (by simp) (by simp) (by simp), ?_⟩
        · rw [(hw _ rfl).2 j, List.getElem?_map, ht]; rfl
        have hdl : (dueD (T.take j) cl.1 cl.2).length ≤ 600 := by
          unfold dueD
          rw [List.length_map]
          refine Nat.le_trans (List.length_filter_le ..) ?_
          rw [List.length_take]; omega
        have hdn : dueD (T.take (j + 1)) cl.1 cl.2 = dueD (T.take j) cl.1 cl.2 ++ (if t.1 = cl.1 then [rwD (t.2.1, addP cl.2 t.2.2)] else []) := by
          unfold dueD
          rw [take_snoc ht, List.filter_append, List.map_append]
          by_cases e : t.1 = cl.1
          · rw [if_pos e]; simp [e]
          · rw [if_neg e]; simp [e]
        repeat get_elem_tactic_trivial
        refine op_ixT0 (x0 := .str cl.1) (l := [.tup (cl.2.map .int)]) ?_
        repeat get_elem_tactic_trivial
        refine op_eq (eqD_pl (a := .str t.1) (b := .str cl.1) t1 hcp (show 0 ≤ 64 by decide) (show 0 ≤ 64 by decide)) ?_
        refine ⟨_, rfl, fun hk => ?_, fun hk => ?_⟩
        · have e : t.1 = cl.1 := by simpa [D.beq] using hk
          repeat get_elem_tactic_trivial
          refine comp_pairs (cl.2.zip t.2.2) (fun a => .int a.1) (fun a => .int a.2) (fun a => .int (a.1 + a.2)) (fun _ => rfl) (by rw [List.length_zip]; omega) (by simp) (by simp) (by decide) rfl rfl ?_ ?_ ?_
          · intro I hI
            refine wi_zip ?_
            repeat get_elem_tactic_trivial
            refine op_ixT1 (x0 := .str cl.1) (x1 := .tup (cl.2.map .int)) (l := []) ?_
            repeat get_elem_tactic_trivial
            exact ⟨_, _, _, _, rfl, rfl, rfl, rfl, zipI hI⟩
          · intro b hb P' hP
            show WE _ _ [some (0, x.toD), some (0, .lst (cells.map rwD)), some (k + 1, .lst (T.map st3)), some (0, rwD cl), some (0, .str t.1), o5, some (k6 + 1, .lst (dueD (T.take j) cl.1 cl.2)), o7, some (0, .str t.2.1), some (0, .tup (t.2.2.map .int)), some (0, .int b.1), some (0, .int b.2)] _
            repeat get_elem_tactic_trivial
            exact hP
          · repeat get_elem_tactic_trivial
            refine op_tupleOfF ?_
            repeat get_elem_tactic_trivial
            refine mut_appN (by rw [sizeLine_eq]; omega) ?_
            have e1 : D.tup [D.str t.2.1, D.tup ((cl.2.zip t.2.2).map fun a => D.int (a.1 + a.2))] = rwD (t.2.1, addP cl.2 t.2.2) := by unfold rwD addP; rw [List.map_map]; rfl
            rw [e1]
            have e2 : min (k6 + 1) (depOf [((0, rwD (t.2.1, addP cl.2 t.2.2)) : SV)]) = min k6 999 + 1 := by
              show min (k6 + 1) 1000 = _
              omega
            rw [e2]
            refine wb_nil (wb_nil ⟨?_, min k6 999, some (0, .str t.1), some (0, .str t.2.1), some (0, .tup (t.2.2.map .int)), ?_⟩)
            · exact (hw _ rfl).1
            · rw [hdn, if_pos e]
        · have e : ¬ t.1 = cl.1 := by simpa [D.beq] using hk
          refine wb_nil (wb_nil ⟨?_, k6, some (0, .str t.1), some (0, .str t.2.1), some (0, .tup (t.2.2.map .int)), ?_⟩)
          · exact (hw _ rfl).1
          · rw [hdn, if_neg e, List.append_nil]
      · rintro env ⟨k6, o4, o8, o9, rfl⟩ _
        rw [show (T.map st3).length = T.length from List.length_map _, List.take_length]
        have hdw : dueD T cl.1 cl.2 = waitsD q.2 cl.2 := by rw [← hqe]; exact hdue q hqm cl.2
        rw [hdw]
        repeat get_elem_tactic_trivial
        have hcl2 : rwD cl = rwD (q.1, cl.2) := by
          have : q.1 = cl.1 := hqe
          rw [this]
        rw [hcl2]
        refine waits_for_ok hwf hpb hs hro hr hp hd hx.len hx.nd hqm (by have := hx.sz q hqm; omega) hc2 ?_
        rw [← hcl2]
        repeat get_elem_tactic_trivial
        refine wt_val ?_
        repeat get_elem_tactic_trivial
        have hwl : (waitsD q.2 cl.2).length ≤ 1000 := by
          unfold waitsD
          rw [List.length_map]
          have h1 := dd_len q.2.rws
          have h2 := rws_size q.2
          have h3 := hx.sz q hqm
          omega
        have hwm : ∀ d ∈ waitsD q.2 cl.2, ∃ r, r ∈ q.2.rws ∧ d = rwD (r.1, addP cl.2 r.2) := fun d hd => by
          obtain ⟨r, hr, rfl⟩ := List.mem_map.mp hd
          exact ⟨r, dd_mem.mp hr, rfl⟩
        refine alike_top hal (n := n + 108) (by omega) (fun d hd => by obtain ⟨r, _, rfl⟩ := hwm d hd; rfl) (fun d hd {Q} hQ => alike_ok (G := G) hal 2 (n + 105) d (by
          obtain ⟨r, hr, rfl⟩ := hwm d hd
          have h4 := rw_lf (hx.lfs q hqm) hr
          refine okd_rw h4.1 ?_
          have h5 := addP_len cl.2 r.2
          show (addP cl.2 r.2).length ≤ 1000
          omega) hQ) ?_
        repeat get_elem_tactic_trivial
        refine mut_appN (by rw [sizeLine_eq]; omega) ?_
        exact wb_nil ⟨rfl, _, _, _, _, _, _, _, rfl⟩
    · rintro env ⟨o3, o4, o5, o6, o7, o8, o9, rfl⟩ _
      repeat get_elem_tactic_trivial
      exact h
end Ck

set_option Elab.async false
set_option linter.all false
set_option maxRecDepth 100000
/-! P06g: places, the house of many. -/
namespace Ck
open PySem
local macro_rules
  | `(tactic| get_elem_tactic_trivial) => `(tactic| first
    | (with_reducible first
        | refine wb_cons ?_
        | refine wb_nil ?_
        | refine ws_set ?_
        | refine ws_ret ?_
        | refine ws_exp ?_
        | refine ws_setT ?_
        | refine ws_setIx ?_
        | refine ws_setSl ?_
        | refine ws_ite ?_
        | (apply ws_aug; with_unfolding_all rfl)
        | refine w_cst ?_
        | refine w_glo ?_
        | (apply w_varS; with_unfolding_all rfl)
        | refine sl_zero ?_
        | (apply sl_flat; with_unfolding_all rfl)
        | (apply sl_own; with_unfolding_all rfl; with_unfolding_all rfl)
        | refine w_op ?_
        | refine w_tupd ?_
        | refine w_lstd ?_
        | refine w_call ?_
        | (apply w_mut; with_unfolding_all rfl; with_unfolding_all rfl)
        | refine w_slc ?_
        | refine w_met ?_
        | refine wl_cons ?_
        | refine wl_nil ?_
        | refine wt_cmp ?_
        | refine wt_conj ?_
        | refine wt_disj ?_
        | refine wt_not ?_
        | refine wt_isn ?_
        | refine rr_fr ?_
        | (apply rr_sl; with_unfolding_all rfl)
        | refine op_lenS ?_
        | refine op_lenL ?_
        | refine op_lenT ?_
        | refine op_add ?_
        | refine op_sub ?_
        | refine op_lt ?_
        | refine op_le ?_
        | refine op_gt ?_
        | refine op_ge ?_
        | refine op_eq eqv_int ?_
        | refine op_ne eqv_int ?_
        | refine op_min2 ?_
        | refine op_max2 ?_
        | refine op_neg ?_
        | refine op_not ?_
        | refine op_int1b ?_
        | refine op_isInt ?_
        | refine op_isTup ?_
        | refine op_isLst ?_
        | refine op_isStr ?_
        | refine op_isBool ?_
        | (apply op_mod; (first | assumption | decide))
        | (apply op_fdiv; (first | assumption | decide); (first | assumption | decide))
        | (refine op_mul (.inl ?_) ?_; decide)
        | (refine op_mul (.inr ?_) ?_; decide)
        | (apply op_pow; decide; decide; decide)
        | refine op_ixL0 ?_
        | refine op_ixT0 ?_
        | (apply op_ixO0; with_unfolding_all rfl)
        | refine op_ixL1 ?_
        | refine op_ixT1 ?_
        | (apply op_ixO1; with_unfolding_all rfl)
        | refine op_ixL2 ?_
        | refine op_ixT2 ?_
        | (apply op_ixO2; with_unfolding_all rfl)
        | refine op_ixL3 ?_
        | refine op_ixT3 ?_
        | (apply op_ixO3; with_unfolding_all rfl)
        | (apply and_eq; with_unfolding_all rfl)
        | (apply ex_pair; with_unfolding_all rfl)
        | (apply ex_some; with_unfolding_all rfl)
        | (apply ex_bl; with_unfolding_all rfl)
        | (apply ex_int; with_unfolding_all rfl)
        | (apply ex_ix; with_unfolding_all rfl; with_unfolding_all rfl; with_unfolding_all rfl)
        | (apply ex_two; with_unfolding_all rfl)
        | refine and_t ?_
        | refine and_f ?_
        | refine and_nt ?_
        | refine and_nf ?_)
    | dsimp only [backIn, hideL, lent, lentK, getD_z, getD_s, set_z, set_s, map_c, map_n, app_c, app_n, rep_s, rep_z])
local macro_rules
  | `(tactic| exists $d, $s, $h0, $h1) => `(tactic| (refine take_ok (by assumption) (by decide) (by decide) fun $d $s $h0 $h1 => ?_; repeat get_elem_tactic_trivial))
def B_place (t : Nat) : List S :=
  [.set 2 (.op .ix [.lstd [.cst (.int 4), .cst (.int 2001)], .call t [.var 0, .cst (.int 2)]]),
  .ret (.op .tupleOf [.comp (.op .sub [.call t [.var 0, .var 2], .op .fdiv [.var 2, .cst (.int 2)]]) (.nm 3) (.rng1 (.var 1)) (.tt) [3]])]
theorem place_ok {G : Gt} {n f t : Nat} (hg : G[f]? = some ⟨2, 4, B_place t⟩) (ht : G[t]? = some ⟨2, 4, tkB⟩) {s : Int × Int} {w : Int} (h1 : 1 ≤ w) (h2 : w ≤ 3) {Q : SV → List SV → Prop} (h : ∀ (ns : List Int) s', ns.length ≤ 3 → (ns.length : Int) = w → (∀ x ∈ ns, -1001 ≤ x ∧ x ≤ 2001) → Q (0, .tup (ns.map .int)) [(1000, fd s'), (0, .int w)]) :
    CPS (evC G (n + 2)) f [(1000, fd s), (0, .int w)] [0] Q := by
  refine w_body hg rfl ?_
  unfold B_place
  show WB _ _ _ [some (1000, fd s), some (0, .int w), none, none] _
  repeat get_elem_tactic_trivial
  exists d, s1, d0, d1
  obtain ⟨z, z1, z2⟩ := ints_at (ys := [4, 2001]) d0 (by simpa using d1)
  have zz : z = 4 ∨ z = 2001 := by simpa using z2
  have hz : 0 < z ∧ z ≤ 2001 := by omega
  refine op_ixL z1 ?_
  repeat get_elem_tactic_trivial
  refine comp_feed (y := 2) (fun _ x => -1001 ≤ x ∧ x ≤ 2001) rfl (by omega) (by omega) (by simp) rfl ?_ ?_
  · intro s i hi P' hP
    show WE _ _ [some (1000, fd s), some (0, .int w), some (0, .int z), some (0, .int (0 + (i : Nat) * 1))] _
    repeat get_elem_tactic_trivial
    refine take_ok ht (by omega) (log_small (by omega) (by omega)) fun a s4 a0 a1 => ?_
    repeat get_elem_tactic_trivial
    exact hP s4 _ (by omega)
  · intro ns s' hl hr
    repeat get_elem_tactic_trivial
    refine op_tupleOfF ?_
    repeat get_elem_tactic_trivial
    exact h ns s' (by omega) hl fun x m => by
      obtain ⟨i, hi⟩ := List.getElem?_of_mem m
      exact hr i x hi
/-- what a house of many reads is -/
structure ManyOk (x : Hs) : Prop where
  ways : x.ways = 2
  wheel : 2 ≤ x.wheel ∧ x.wheel ≤ 51
  many : 1 ≤ x.desks.length ∧ x.desks.length ≤ 6
  nodup : x.names.Nodup
  names : ∀ z ∈ x.names, NameOk z
  rules : ∀ p ∈ x.desks, p.2.sg ∧ p.2.size ≤ 22 ∧ ∀ l ∈ p.2.lfs, LfOk x.names 2 l
def rowD (r : List Int) : D := .tup (r.map .int)
def rowsA : List (List Int) := (List.range 25).map fun k : Nat => [(k : Int) % 5 - 2, (k : Int) / 5 - 2]
def rowsB : List (List Int) := rowsA.filter fun r => HT.lexLt r [0, 0]
theorem rowsA_ok : rowsA.length = 25 ∧ ∀ r ∈ rowsA, r.length = 2 ∧ ∀ x ∈ r, -4 ≤ x ∧ x ≤ 4 := by decide +kernel
theorem rowsB_len : rowsB.length = 12 := by decide +kernel
theorem RowOk.of2 {r : List Int} (h : r.length = 2 ∧ ∀ x ∈ r, -4 ≤ x ∧ x ≤ 4) : RowOk 2 r := ⟨by omega, h.2⟩
/-- seven signs and one -/
def eightOf (z : Str) (k : Nat) : Str := L2.cutS (Txt.mul z 7) none (some 7) ++ ⟨#[97 + k]⟩
theorem mul_list {z : Str} {a : Int} (h : 2 ≤ a) (hz : 1 ≤ z.length) : (Txt.mul z a).cps.toList = (List.replicate a.toNat z.cps.toList).flatten := by
  unfold Txt.mul
  rw [if_neg (by omega), if_neg]
  · have key : ∀ (m : Nat) (acc : Array Nat), ((List.replicate m z.cps).foldl (· ++ ·) acc).toList = acc.toList ++ (List.replicate m z.cps.toList).flatten := by
      intro m
      induction m with
      | zero => intro acc; simp
      | succ m ih => intro acc; rw [List.replicate_succ, List.foldl_cons, ih, List.replicate_succ, List.flatten_cons]; simp
    show ((List.replicate a.toNat z.cps).foldl (· ++ ·) #[]).toList = _
    rw [key]; simp
  · simp only [Bool.or_eq_true, beq_iff_eq, not_or]
    omega
theorem eight_ok {z : Str} (hz : NameOk z) {k : Nat} (hk : k < 6) : NameOk (eightOf z k) ∧ (eightOf z k).cps.toList[7]? = some (97 + k) := by
  have hl := hz.1
  have e1 := mul_list (a := 7) (by decide) hl.1
  have l1 : z.cps.toList.length = z.length := len_list.symm
  have lm : (Txt.mul z 7).cps.toList.length = 7 * z.length := by
    rw [e1, List.length_flatten, List.map_replicate, show (7 : Int).toNat = 7 from rfl, l1]
    simp [List.replicate]
    omega
  have ec := cut_to (z := Txt.mul z 7) (a := 7) (by decide)
  have es : (eightOf z k).cps.toList = (Txt.mul z 7).cps.toList.take 7 ++ [97 + k] := by
    unfold eightOf
    rw [app_list, ec]
    rfl
  have tl : ((Txt.mul z 7).cps.toList.take 7).length = 7 := by rw [List.length_take, lm]; omega
  have el : (eightOf z k).length = 8 := by rw [len_list, es, List.length_append, tl]; rfl
  refine ⟨⟨by omega, ?_, ?_⟩, ?_⟩
  · intro hm
    have : ∀ w ∈ wdsZ, w.length ≤ 4 := by decide +kernel
    have := this _ hm
    omega
  · intro c hc
    rw [es] at hc
    rcases List.mem_append.mp hc with hc | hc
    · have hc := List.mem_of_mem_take hc
      rw [e1, List.mem_flatten] at hc
      obtain ⟨l, hl, hc⟩ := hc
      rw [List.mem_replicate] at hl
      rw [hl.2] at hc
      exact hz.2.2 c hc
    · rw [List.mem_singleton] at hc
      rw [hc]
      have : ∀ k < 6, 97 + k ∈ abZ.cps.toList := by decide +kernel
      exact this k hk
  · rw [es, List.getElem?_append_right (by omega), tl]
    rfl
theorem eights_nodup {z : Str} (hz : NameOk z) {m : Nat} (hm : m ≤ 6) : ((List.range m).map (eightOf z)).Nodup := by
  rw [List.Nodup, List.pairwise_map]
  refine List.Pairwise.imp_of_mem ?_ List.nodup_range
  intro a b ha hb hab e
  rw [List.mem_range] at ha hb
  have h1 := (eight_ok hz (k := a) (by omega)).2
  have h2 := (eight_ok hz (k := b) (by omega)).2
  rw [e, h2] at h1
  exact hab (by have := Option.some.inj h1; omega)
abbrev abF : Str := "abcdef"
theorem abF_at {k : Nat} (h : k < 6) : at' abF.cps.toList ((k : Nat) : Int) = some (97 + k : Nat) := by
  have : ∀ k : Nat, k < 6 → at' abF.cps.toList ((k : Nat) : Int) = some (97 + k : Nat) := by decide +kernel
  exact this k h
end Ck

set_option Elab.async false
set_option linter.all false
set_option maxRecDepth 100000
/-! P06h: the house of many reads, drawn. -/
namespace Ck
open PySem
local macro_rules
  | `(tactic| get_elem_tactic_trivial) => `(tactic| first
    | (with_reducible first
        | refine wb_cons ?_
        | refine wb_nil ?_
        | refine ws_set ?_
        | refine ws_ret ?_
        | refine ws_exp ?_
        | refine ws_setT ?_
        | refine ws_setIx ?_
        | refine ws_setSl ?_
        | refine ws_ite ?_
        | (apply ws_aug; with_unfolding_all rfl)
        | refine w_cst ?_
        | refine w_glo ?_
        | (apply w_varS; with_unfolding_all rfl)
        | refine sl_zero ?_
        | (apply sl_flat; with_unfolding_all rfl)
        | (apply sl_own; with_unfolding_all rfl; with_unfolding_all rfl)
        | refine w_op ?_
        | refine w_tupd ?_
        | refine w_lstd ?_
        | refine w_call ?_
        | (apply w_mut; with_unfolding_all rfl; with_unfolding_all rfl)
        | refine w_slc ?_
        | refine w_met ?_
        | refine wl_cons ?_
        | refine wl_nil ?_
        | refine wt_cmp ?_
        | refine wt_conj ?_
        | refine wt_disj ?_
        | refine wt_not ?_
        | refine wt_isn ?_
        | refine rr_fr ?_
        | (apply rr_sl; with_unfolding_all rfl)
        | refine op_lenS ?_
        | refine op_lenL ?_
        | refine op_lenT ?_
        | refine op_add ?_
        | refine op_sub ?_
        | refine op_lt ?_
        | refine op_le ?_
        | refine op_gt ?_
        | refine op_ge ?_
        | refine op_eq eqv_int ?_
        | refine op_ne eqv_int ?_
        | refine op_min2 ?_
        | refine op_max2 ?_
        | refine op_neg ?_
        | refine op_not ?_
        | refine op_int1b ?_
        | refine op_isInt ?_
        | refine op_isTup ?_
        | refine op_isLst ?_
        | refine op_isStr ?_
        | refine op_isBool ?_
        | (apply op_mod; (first | assumption | decide))
        | (apply op_fdiv; (first | assumption | decide); (first | assumption | decide))
        | (refine op_mul (.inl ?_) ?_; decide)
        | (refine op_mul (.inr ?_) ?_; decide)
        | (apply op_pow; decide; decide; decide)
        | refine op_ixL0 ?_
        | refine op_ixT0 ?_
        | (apply op_ixO0; with_unfolding_all rfl)
        | refine op_ixL1 ?_
        | refine op_ixT1 ?_
        | (apply op_ixO1; with_unfolding_all rfl)
        | refine op_ixL2 ?_
        | refine op_ixT2 ?_
        | (apply op_ixO2; with_unfolding_all rfl)
        | refine op_ixL3 ?_
        | refine op_ixT3 ?_
        | (apply op_ixO3; with_unfolding_all rfl)
        | (apply and_eq; with_unfolding_all rfl)
        | (apply ex_pair; with_unfolding_all rfl)
        | (apply ex_some; with_unfolding_all rfl)
        | (apply ex_bl; with_unfolding_all rfl)
        | (apply ex_int; with_unfolding_all rfl)
        | (apply ex_ix; with_unfolding_all rfl; with_unfolding_all rfl; with_unfolding_all rfl)
        | (apply ex_two; with_unfolding_all rfl)
        | refine and_t ?_
        | refine and_f ?_
        | refine and_nt ?_
        | refine and_nf ?_)
    | dsimp only [backIn, hideL, lent, lentK, getD_z, getD_s, set_z, set_s, map_c, map_n, app_c, app_n, rep_s, rep_z])
local macro_rules
  | `(tactic| exists $d, $s, $h0, $h1) => `(tactic| (refine take_ok (by assumption) (by decide) (by decide) fun $d $s $h0 $h1 => ?_; repeat get_elem_tactic_trivial))
def mComp8 : E := .comp (.op .add [.op .slB [.op .mul [.op .ix [.var 7, .cst (.int 0)], .cst (.int 7)], .cst (.int 7)], .op .ix [.cst (.str "abcdef"), .var 10]]) (.nm 10) (.rng1 (.var 4)) (.tt) [10]
def mRowsA : E := .comp (.tupd [.op .sub [.op .mod [.var 10, .cst (.int 5)], .cst (.int 2)], .op .sub [.op .fdiv [.var 10, .cst (.int 5)], .cst (.int 2)]]) (.nm 10) (.rng1 (.cst (.int 25))) (.tt) [10]
def mRowsB : E := .comp (.var 13) (.nm 13) (.seq (.var 1)) (.cmp .lt (.var 13) (.tupd [.cst (.int 0), .cst (.int 0)])) [13]
def mLeaf (t : Nat) : S := .forS (.nm 10) (.rng1 (.var 12)) [.exp (.mut 9 .append [.tupd [.cst (.str "at"), .op .ix [.var 7, .call t [.var 0, .var 4]], .op .ix [.var 1, .op .mod [.op .add [.var 11, .var 10], .op .len [.var 1]]]]])]
def mDesk (t gw : Nat) : List S := [.par [11, 12] [.call t [.var 0, .op .len [.var 1]], .op .sub [.op .ix [.lstd [.cst (.int 11), .cst (.int 8)], .op .int1 [.op .eq [.var 4, .cst (.int 2)]]], .call t [.var 0, .cst (.int 3)]]],
  .ite (.conj (.cmp .eq (.var 4) (.cst (.int 6))) (.cmp .ne (.var 3) (.var 8))) [.set 12 (.cst (.int 1))] [],
  .set 9 (.lstd []),
  mLeaf t,
  .exp (.mut 2 .append [.tupd [.op .ix [.var 7, .var 3], .call gw [.var 0, .var 9]]])]
def mRest (t gw : Nat) : List S :=
  [.set 1 mRowsA,
  .ite (.cmp .eq (.var 5) (.cst (.int 1))) [.set 1 mRowsB] [],
  .set 2 (.lstd []),
  .forS (.nm 3) (.rng1 (.var 4)) (mDesk t gw),
  .ret (.tupd [.cst (.int 2), .op .add [.cst (.int 2), .call t [.var 0, .cst (.int 50)]], .op .tupleOf [.var 2]])]
def B_many_house (t nm gw : Nat) : List S :=
  .par [4, 5, 6] [.op .ix [.lstd [.cst (.int 1), .cst (.int 2), .cst (.int 6)], .call t [.var 0, .cst (.int 3)]], .call t [.var 0, .cst (.int 2)], .call t [.var 0, .cst (.int 2)]] ::
  .setT (.tup [.nm 7, .nm 8]) (.tupd [.call nm [.var 0, .var 4], .call t [.var 0, .var 4]]) ::
  .ite (.cmp .eq (.var 6) (.cst (.int 1))) [.set 7 mComp8] [] :: mRest t gw
theorem rowsA_comp {c : Cal} {env : Env} {P : R → Env → Prop} (hx : 10 < env.length) (hn : getS env 10 = none) (h : P ⟨.fr, 1000, .lst (rowsA.map rowD)⟩ env) : WE c mRowsA env P := by
  unfold mRowsA
  refine comp_rngD (m := 25) (fun k => rowD [(k : Int) % 5 - 2, (k : Int) / 5 - 2]) (fun _ => rfl) (by decide) (fun hP => w_cst hP) hx hn ?_ ?_
  · intro i hi P' hP
    have g10 : getS (env.set 10 (some (0, .int (i : Nat)))) 10 = some (0, .int (i : Nat)) := by
      unfold getS
      rw [List.getElem?_set_self hx]
      rfl
    generalize env.set 10 (some (0, .int (i : Nat))) = E at g10 hP ⊢
    refine w_tupd (wl_cons (w_op (wl_cons (w_op (wl_cons (w_varS g10 (sl_flat rfl ?_)))))))
    repeat get_elem_tactic_trivial
    refine w_varS g10 (sl_flat rfl ?_)
    repeat get_elem_tactic_trivial
    exact hP
  · have e : (List.range 25).map (fun k : Nat => rowD [(k : Int) % 5 - 2, (k : Int) / 5 - 2]) = rowsA.map rowD := by unfold rowsA; rw [List.map_map]; rfl
    rw [e]
    exact h
theorem lt_rows {n n' : Nat} {a b : List Int} {q : R → Prop} (h : q ⟨.fr, 0, .bl (HT.lexLt a b)⟩) : OP .lt [⟨.fr, n, rowD a⟩, ⟨.fr, n', rowD b⟩] q := by
  refine op_gen (d := .bl (HT.lexLt a b)) rfl rfl ?_ h
  show ltD [.tup (a.map .int), .tup (b.map .int)] = _
  have e : ∀ l : List Int, asInts (l.map .int) = some l := fun l => by
    induction l with
    | nil => rfl
    | cons x l ih => simp only [List.map_cons, asInts, ih, Option.map_some]
  simp only [ltD, e]
theorem leaf_ok {G : Gt} {n t a : Nat} (ht : G[t]? = some ⟨2, 4, tkB⟩) {s : Int × Int} {R : List (List Int)} {ys : List Str} {m cnt fi : Int} {k7 : Nat} {o2 o3 o5 o6 o8 o10 o13 : Option SV} (hR : 1 ≤ R.length ∧ R.length ≤ 25) (hRr : ∀ r ∈ R, RowOk 2 r) (hm : (ys.length : Int) = m) (m1 : 1 ≤ m ∧ m ≤ 6) (f0 : 0 ≤ fi ∧ fi ≤ 100) (hc : 1 ≤ cnt ∧ cnt ≤ 11) {K : Ko}
    (h : ∀ s' (ls : List Lf) o10, (ls.length : Int) = cnt → (∀ l ∈ ls, LfOk ys 2 l) → K.nx [some (1000, fd s'), some (1000, .lst (R.map rowD)), o2, o3, some (0, .int m), o5, o6, some (k7, .lst (ys.map .str)), o8, some (1000, .lst (ls.map Lf.toD)), o10, some (0, .int fi), some (0, .int cnt), o13]) :
    WS (evC G (n + 1)) (mLeaf t) ((Wk.rng 0 1 a).slots ++ [0]) [some (1000, fd s), some (1000, .lst (R.map rowD)), o2, o3, some (0, .int m), o5, o6, some (k7, .lst (ys.map .str)), o8, some (1000, .lst []), o10, some (0, .int fi), some (0, .int cnt), o13] K := by
  unfold mLeaf
  refine ws_for (wi_rng1 ?_)
  repeat get_elem_tactic_trivial
  refine And.intro ⟨by omega, by omega⟩ ⟨cnt.toNat, rfl, fun i env => ∃ (s' : Int × Int) (ls : List Lf) (o10 : Option SV), env = [some (1000, fd s'), some (1000, .lst (R.map rowD)), o2, o3, some (0, .int m), o5, o6, some (k7, .lst (ys.map .str)), o8, some (1000, .lst (ls.map Lf.toD)), o10, some (0, .int fi), some (0, .int cnt), o13] ∧ ls.length = i ∧ ∀ l ∈ ls, LfOk ys 2 l, ⟨s, [], o10, rfl, rfl, fun _ h => nomatch h⟩, ?_, ?_⟩
  · rintro i env hi ⟨s1, ls, o10, rfl, rfl, hls⟩
    refine ⟨_, [some (1000, fd s1), some (1000, .lst (R.map rowD)), o2, o3, some (0, .int m), o5, o6, some (k7, .lst (ys.map .str)), o8, some (1000, .lst (ls.map Lf.toD)), some (0, .int (0 + (ls.length : Nat) * 1)), some (0, .int fi), some (0, .int cnt), o13], rfl, rfl, ?_⟩
    refine wb_cons (ws_exp (w_mut rfl rfl (wl_cons (w_tupd (wl_cons (w_cst (And.intro rfl (wl_cons (w_ixV rfl ?_)))))))))
    repeat get_elem_tactic_trivial
    refine take_ok ht (by omega) (log_small (by omega) (by omega)) fun a s2 a0 a1 => ?_
    obtain ⟨y, y1, y2⟩ := strs_at (ys := ys) a0 (by omega)
    repeat get_elem_tactic_trivial
    refine ⟨_, _, _, rfl, rfl, y1, rfl, ?_⟩
    repeat get_elem_tactic_trivial
    rw [List.length_map]
    refine op_mod (by omega) ?_
    repeat get_elem_tactic_trivial
    obtain ⟨r, r1, r2⟩ := ix_mem (l := R) (a := (fi + (0 + (ls.length : Nat) * 1)) % (R.length : Int)) (Int.emod_nonneg _ (by omega)) (Int.emod_lt_of_pos _ (by omega))
    refine op_ixO (at_map (Int.emod_nonneg _ (by omega)) r1) rfl ?_
    repeat get_elem_tactic_trivial
    refine mut_app (by rw [List.length_map, sizeLine_eq]; omega) rfl ?_
    repeat get_elem_tactic_trivial
    refine ⟨s2, ls ++ [.at_ y r], _, by rw [List.map_append]; rfl, by simp, fun l hl => ?_⟩
    rcases List.mem_append.mp hl with hl | hl
    · exact hls l hl
    · rw [List.mem_singleton] at hl
      rw [hl]
      exact ⟨y2, hRr r r2⟩
  · rintro env ⟨s1, ls, o10, rfl, hl, hls⟩ _
    exact h s1 ls o10 (by omega) hls
def mOk (ys : List Str) (p : Str × Tr) : Prop := p.2.sg ∧ p.2.size ≤ 22 ∧ ∀ l ∈ p.2.lfs, LfOk ys 2 l
theorem desk_ok {G : Gt} {n t gw : Nat} (ht : G[t]? = some ⟨2, 4, tkB⟩) (hgw : G[gw]? = some ⟨2, 5, gwB t⟩) {s : Int × Int} {R : List (List Int)} {ys : List Str} {m wd : Int} {k7 : Nat} {o3 o5 o6 o9 o10 o11 o12 o13 : Option SV} (hR : 1 ≤ R.length ∧ R.length ≤ 25) (hRr : ∀ r ∈ R, RowOk 2 r) (hm : (ys.length : Int) = m) (m1 : 1 ≤ m ∧ m ≤ 6) {K : Ko}
    (h : ∀ s' (ds : List (Str × Tr)) o3 o9 o10 o11 o12, ds.map (·.1) = ys → (∀ p ∈ ds, mOk ys p) → K.nx [some (1000, fd s'), some (1000, .lst (R.map rowD)), some (1000, .lst (ds.map dkD)), o3, some (0, .int m), o5, o6, some (k7, .lst (ys.map .str)), some (0, .int wd), o9, o10, o11, o12, o13]) :
    WS (evC G (n + 3)) (.forS (.nm 3) (.rng1 (.var 4)) (mDesk t gw)) [0] [some (1000, fd s), some (1000, .lst (R.map rowD)), some (1000, .lst []), o3, some (0, .int m), o5, o6, some (k7, .lst (ys.map .str)), some (0, .int wd), o9, o10, o11, o12, o13] K := by
  unfold mDesk
  refine ws_for (wi_rng1 ?_)
  repeat get_elem_tactic_trivial
  refine And.intro ⟨by omega, by omega⟩ ⟨m.toNat, rfl, fun i env => ∃ (s' : Int × Int) (ds : List (Str × Tr)) (o3 o9 o10 o11 o12 : Option SV), env = [some (1000, fd s'), some (1000, .lst (R.map rowD)), some (1000, .lst (ds.map dkD)), o3, some (0, .int m), o5, o6, some (k7, .lst (ys.map .str)), some (0, .int wd), o9, o10, o11, o12, o13] ∧ ds.map (·.1) = ys.take i ∧ ∀ p ∈ ds, mOk ys p, ⟨s, [], _, _, _, _, _, rfl, rfl, fun _ h => nomatch h⟩, ?_, ?_⟩
  · rintro i env hi ⟨s1, ds, o3, o9, o10, o11, o12, rfl, hds, hok⟩
    have hdl : ds.length = i := by
      have := congrArg List.length hds
      rw [List.length_map, List.length_take] at this
      omega
    obtain ⟨y, y1, y2⟩ := ix_mem (l := ys) (a := (i : Int)) (by omega) (by omega)
    refine ⟨_, [some (1000, fd s1), some (1000, .lst (R.map rowD)), some (1000, .lst (ds.map dkD)), some (0, .int (0 + (i : Nat) * 1)), some (0, .int m), o5, o6, some (k7, .lst (ys.map .str)), some (0, .int wd), o9, o10, o11, o12, o13], rfl, rfl, ?_⟩
    have e0 : (0 : Int) + (i : Nat) * 1 = (i : Nat) := by omega
    rw [e0]
    repeat get_elem_tactic_trivial
    refine ws_par ?_
    repeat get_elem_tactic_trivial
    rw [List.length_map]
    refine take_ok ht (by omega) (log_small (by omega) (by omega)) fun fi s2 f0 f1 => ?_
    repeat get_elem_tactic_trivial
    obtain ⟨cb, cb1, cb2⟩ := ints_at (ys := [11, 8]) (a := if decide (m = 2) = true then (1 : Int) else 0) (by split <;> omega) (by split <;> simp)
    have hcb : cb = 11 ∨ cb = 8 := by simpa using cb2
    refine op_ixL cb1 ?_
    repeat get_elem_tactic_trivial
    exists c3, s3, c30, c31
    have rest : ∀ (cnt : Int) {K : Ko}, 1 ≤ cnt → cnt ≤ 11 → (∀ e, (∃ (s' : Int × Int) (ds : List (Str × Tr)) (o3 o9 o10 o11 o12 : Option SV), e = [some (1000, fd s'), some (1000, .lst (R.map rowD)), some (1000, .lst (ds.map dkD)), o3, some (0, .int m), o5, o6, some (k7, .lst (ys.map .str)), some (0, .int wd), o9, o10, o11, o12, o13] ∧ ds.map (·.1) = ys.take (i + 1) ∧ ∀ p ∈ ds, mOk ys p) → K.nx e) →
        WB (evC G (n + 3)) [.set 9 (.lstd []), mLeaf t, .exp (.mut 2 .append [.tupd [.op .ix [.var 7, .var 3], .call gw [.var 0, .var 9]]])] ((Wk.rng 0 1 (m).toNat).slots ++ [0]) [some (1000, fd s3), some (1000, .lst (R.map rowD)), some (1000, .lst (ds.map dkD)), some (0, .int (i : Nat)), some (0, .int m), o5, o6, some (k7, .lst (ys.map .str)), some (0, .int wd), o9, o10, some (0, .int fi), some (0, .int cnt), o13] K := by
      intro cnt K c1 c2 hK
      repeat get_elem_tactic_trivial
      refine leaf_ok (n := n + 2) ht hR hRr hm m1 ⟨f0, by omega⟩ ⟨c1, c2⟩ fun s4 ls o10 hl hls => ?_
      refine wb_cons (ws_exp (w_mut rfl rfl (wl_cons (w_tupd (wl_cons (w_ixV rfl ?_))))))
      repeat get_elem_tactic_trivial
      refine ⟨_, _, _, rfl, rfl, at_map (by omega) y1, rfl, ?_⟩
      repeat get_elem_tactic_trivial
      refine grown_ok hgw ht (by omega) (by omega) fun x s5 x1 x2 x3 => ?_
      have xf := x.flat
      repeat get_elem_tactic_trivial
      have ep : D.tup [.str y, x.toD] = dkD (y, x) := rfl
      rw [ep]
      refine mut_app (by rw [List.length_map, sizeLine_eq]; omega) rfl ?_
      repeat get_elem_tactic_trivial
      refine hK _ ⟨s5, ds ++ [(y, x)], _, _, _, _, _, by rw [List.map_append]; rfl, ?_, fun p hp => ?_⟩
      · rw [List.map_append, hds, take_snoc (x := y) (by rw [Int.toNat_natCast] at y1; exact y1)]
        rfl
      · rcases List.mem_append.mp hp with hp | hp
        · exact hok p hp
        · rw [List.mem_singleton] at hp
          rw [hp]
          refine ⟨x2, ?_, by simp only; rw [x1]; exact hls⟩
          simp only
          omega
    repeat get_elem_tactic_trivial
    refine and_dec (fun h6 => ?_) (fun h6 => ?_)
    · repeat get_elem_tactic_trivial
      refine and_ndec (fun h7 => ?_) (fun h7 => ?_)
      · refine wb_cons (ws_set (w_cst ⟨_, _, rfl, rfl, wb_nil ?_⟩))
        refine rest 1 (by decide) (by decide) fun e he => ⟨rfl, he⟩
      · refine wb_nil ?_
        exact rest (cb - c3) (by omega) (by omega) fun e he => ⟨rfl, he⟩
    · refine and_f (wb_nil ?_)
      exact rest (cb - c3) (by omega) (by omega) fun e he => ⟨rfl, he⟩
  · rintro env ⟨s1, ds, o3, o9, o10, o11, o12, rfl, hds, hok⟩ _
    have : ys.take m.toNat = ys := List.take_of_length_le (by omega)
    rw [this] at hds
    exact h s1 ds _ _ _ _ _ hds hok
end Ck

set_option Elab.async false
set_option linter.all false
set_option maxRecDepth 100000
/-! P06i: the house of many reads, drawn; its end. -/
namespace Ck
open PySem
local macro_rules
  | `(tactic| get_elem_tactic_trivial) => `(tactic| first
    | (with_reducible first
        | refine wb_cons ?_
        | refine wb_nil ?_
        | refine ws_set ?_
        | refine ws_ret ?_
        | refine ws_exp ?_
        | refine ws_setT ?_
        | refine ws_setIx ?_
        | refine ws_setSl ?_
        | refine ws_ite ?_
        | (apply ws_aug; with_unfolding_all rfl)
        | refine w_cst ?_
        | refine w_glo ?_
        | (apply w_varS; with_unfolding_all rfl)
        | refine sl_zero ?_
        | (apply sl_flat; with_unfolding_all rfl)
        | (apply sl_own; with_unfolding_all rfl; with_unfolding_all rfl)
        | refine w_op ?_
        | refine w_tupd ?_
        | refine w_lstd ?_
        | refine w_call ?_
        | (apply w_mut; with_unfolding_all rfl; with_unfolding_all rfl)
        | refine w_slc ?_
        | refine w_met ?_
        | refine wl_cons ?_
        | refine wl_nil ?_
        | refine wt_cmp ?_
        | refine wt_conj ?_
        | refine wt_disj ?_
        | refine wt_not ?_
        | refine wt_isn ?_
        | refine rr_fr ?_
        | (apply rr_sl; with_unfolding_all rfl)
        | refine op_lenS ?_
        | refine op_lenL ?_
        | refine op_lenT ?_
        | refine op_add ?_
        | refine op_sub ?_
        | refine op_lt ?_
        | refine op_le ?_
        | refine op_gt ?_
        | refine op_ge ?_
        | refine op_eq eqv_int ?_
        | refine op_ne eqv_int ?_
        | refine op_min2 ?_
        | refine op_max2 ?_
        | refine op_neg ?_
        | refine op_not ?_
        | refine op_int1b ?_
        | refine op_isInt ?_
        | refine op_isTup ?_
        | refine op_isLst ?_
        | refine op_isStr ?_
        | refine op_isBool ?_
        | (apply op_mod; (first | assumption | decide))
        | (apply op_fdiv; (first | assumption | decide); (first | assumption | decide))
        | (refine op_mul (.inl ?_) ?_; decide)
        | (refine op_mul (.inr ?_) ?_; decide)
        | (apply op_pow; decide; decide; decide)
        | refine op_ixL0 ?_
        | refine op_ixT0 ?_
        | (apply op_ixO0; with_unfolding_all rfl)
        | refine op_ixL1 ?_
        | refine op_ixT1 ?_
        | (apply op_ixO1; with_unfolding_all rfl)
        | refine op_ixL2 ?_
        | refine op_ixT2 ?_
        | (apply op_ixO2; with_unfolding_all rfl)
        | refine op_ixL3 ?_
        | refine op_ixT3 ?_
        | (apply op_ixO3; with_unfolding_all rfl)
        | (apply and_eq; with_unfolding_all rfl)
        | (apply ex_pair; with_unfolding_all rfl)
        | (apply ex_some; with_unfolding_all rfl)
        | (apply ex_bl; with_unfolding_all rfl)
        | (apply ex_int; with_unfolding_all rfl)
        | (apply ex_ix; with_unfolding_all rfl; with_unfolding_all rfl; with_unfolding_all rfl)
        | (apply ex_two; with_unfolding_all rfl)
        | refine and_t ?_
        | refine and_f ?_
        | refine and_nt ?_
        | refine and_nf ?_)
    | dsimp only [backIn, hideL, lent, lentK, getD_z, getD_s, set_z, set_s, map_c, map_n, app_c, app_n, rep_s, rep_z])
local macro_rules
  | `(tactic| exists $d, $s, $h0, $h1) => `(tactic| (refine take_ok (by assumption) (by decide) (by decide) fun $d $s $h0 $h1 => ?_; repeat get_elem_tactic_trivial))
theorem op_tupleK {q : R → Prop} {n : Nat} {l : List D} (hl : ∀ d ∈ l, d.isC = false) {s : Src} (h : q ⟨.fr, 0, .tup l⟩) : OP .tupleOf [⟨s, n, .lst l⟩] q :=
  op_tupleOfS (by rw [List.all_eq_true]; intro d hd; rw [hl d hd]; rfl) h
theorem mrest_ok {G : Gt} {n t gw : Nat} (ht : G[t]? = some ⟨2, 4, tkB⟩) (hgw : G[gw]? = some ⟨2, 5, gwB t⟩) {s : Int × Int} {ys : List Str} {m wd bw eg : Int} {k7 : Nat} (hm : (ys.length : Int) = m) (m1 : 1 ≤ m ∧ m ≤ 6) (hn : ys.Nodup) (ho : ∀ z ∈ ys, NameOk z) {Q : SV → List SV → Prop}
    (h : ∀ (x : Hs) s', ManyOk x → Q (0, x.toD) [(1000, fd s')]) :
    WB (evC G (n + 3)) (mRest t gw) [0] [some (1000, fd s), none, none, none, some (0, .int m), some (0, .int bw), some (0, .int eg), some (k7, .lst (ys.map .str)), some (0, .int wd), none, none, none, none, none]
      { nx := fun e => (([0] : List Nat).all fun i => (getS e i).isSome) = true ∧ Q (0, .non) (outPs 1 e), rt := fun r e => (([0] : List Nat).all fun i => (getS e i).isSome) = true ∧ Q r (outPs 1 e) } := by
  unfold mRest
  have rest : ∀ R : List (List Int), (1 ≤ R.length ∧ R.length ≤ 25) → (∀ r ∈ R, RowOk 2 r) →
      WB (evC G (n + 3)) [.set 2 (.lstd []), .forS (.nm 3) (.rng1 (.var 4)) (mDesk t gw), .ret (.tupd [.cst (.int 2), .op .add [.cst (.int 2), .call t [.var 0, .cst (.int 50)]], .op .tupleOf [.var 2]])] [0]
        [some (1000, fd s), some (1000, .lst (R.map rowD)), none, none, some (0, .int m), some (0, .int bw), some (0, .int eg), some (k7, .lst (ys.map .str)), some (0, .int wd), none, none, none, none, none]
        { nx := fun e => (([0] : List Nat).all fun i => (getS e i).isSome) = true ∧ Q (0, .non) (outPs 1 e), rt := fun r e => (([0] : List Nat).all fun i => (getS e i).isSome) = true ∧ Q r (outPs 1 e) } := by
    intro R hR hRr
    repeat get_elem_tactic_trivial
    refine desk_ok ht hgw hR hRr hm m1 fun s1 ds o3 o9 o10 o11 o12 hds hok => ?_
    repeat get_elem_tactic_trivial
    exists w, s2, w0, w1
    refine op_tupleK (fun d hd => by obtain ⟨_, _, rfl⟩ := List.mem_map.mp hd; rfl) ?_
    repeat get_elem_tactic_trivial
    have hl : ds.length = ys.length := by have := congrArg List.length hds; rwa [List.length_map] at this
    have hnm : (⟨2, 2 + w, ds⟩ : Hs).names = ys := hds
    refine h ⟨2, 2 + w, ds⟩ s2 ⟨rfl, ⟨by simp only; omega, by simp only; omega⟩, ⟨by simp only; omega, by simp only; omega⟩, by rw [hnm]; exact hn, by rw [hnm]; exact ho, fun p hp => ?_⟩
    rw [hnm]
    exact hok p hp
  refine wb_cons (ws_set (rowsA_comp (by simp) rfl ?_))
  refine ⟨_, _, rfl, rfl, ?_⟩
  have tA : ∀ r ∈ rowsA, RowOk 2 r := fun r hr => RowOk.of2 (rowsA_ok.2 r hr)
  have lA := rowsA_ok.1
  have lB := rowsB_len
  have eB : rowsB = rowsA.filter fun r => HT.lexLt r [0, 0] := rfl
  generalize rowsB = RB at lB eB
  generalize rowsA = RA at tA lA eB
  show WB _ _ _ [some (1000, fd s), some (1000, .lst (RA.map rowD)), none, none, some (0, .int m), some (0, .int bw), some (0, .int eg), some (k7, .lst (ys.map .str)), some (0, .int wd), none, none, none, none, none] _
  repeat get_elem_tactic_trivial
  refine and_dec (fun h6 => ?_) (fun h6 => ?_)
  · refine wb_cons (ws_set ?_)
    unfold mRowsB
    refine comp_all RA rowD rowD (fun r => HT.lexLt r [0, 0]) (fun r => [some (1000, fd s), some (1000, .lst (RA.map rowD)), none, none, some (0, .int m), some (0, .int bw), some (0, .int eg), some (k7, .lst (ys.map .str)), some (0, .int wd), none, none, none, none, some (0, rowD r)]) (fun _ _ => rfl) (by omega) rfl rfl (fun _ _ => rfl) (fun _ _ => rfl) ?_ ?_ ?_ ?_
    · intro I hI
      refine wi_list rfl (fun d hd => by obtain ⟨_, _, rfl⟩ := List.mem_map.mp hd; rfl) fun w hw _ => ?_
      refine hI w ?_ fun i b hb => ?_
      · rw [(hw _ rfl).1, List.length_map]
      · rw [(hw _ rfl).2, List.getElem?_map, hb]; rfl
    · intro b hb B hB
      repeat get_elem_tactic_trivial
      refine lt_rows (b := [0, 0]) ?_
      exact ⟨_, rfl, hB⟩
    · intro b hb hp P' hP
      repeat get_elem_tactic_trivial
      exact hP
    · rw [← eB]
      refine ⟨_, _, rfl, rfl, wb_nil ?_⟩
      exact rest RB ⟨by omega, by omega⟩ fun r hr => by rw [eB] at hr; exact tA r (List.mem_filter.mp hr).1
  · refine wb_nil ?_
    exact rest RA ⟨by omega, by omega⟩ tA
theorem many_ok {G : Gt} {n f t nm gw : Nat} (hg : G[f]? = some ⟨1, 14, B_many_house t nm gw⟩) (ht : G[t]? = some ⟨2, 4, tkB⟩) (hnm : G[nm]? = some ⟨2, 9, B_names t⟩) (hgw : G[gw]? = some ⟨2, 5, gwB t⟩) {s : Int × Int} {Q : SV → List SV → Prop}
    (h : ∀ (x : Hs) s', ManyOk x → Q (0, x.toD) [(1000, fd s')]) : CPS (evC G (n + 4)) f [(1000, fd s)] [0] Q := by
  refine w_body hg rfl ?_
  unfold B_many_house
  show WB _ _ _ [some (1000, fd s), none, none, none, none, none, none, none, none, none, none, none, none, none] _
  repeat get_elem_tactic_trivial
  refine ws_par ?_
  repeat get_elem_tactic_trivial
  exists d, s1, d0, d1
  obtain ⟨m, m1, m2⟩ := ints_at (ys := [1, 2, 6]) d0 (by simpa using d1)
  have hm : m = 1 ∨ m = 2 ∨ m = 6 := by simpa using m2
  have hm6 : 1 ≤ m ∧ m ≤ 6 := by omega
  refine op_ixL m1 ?_
  repeat get_elem_tactic_trivial
  exists bw, s2, b0, b1
  exists eg, s3, e0, e1
  obtain ⟨mn, rfl⟩ : ∃ k : Nat, m = (k : Int) := ⟨m.toNat, by omega⟩
  refine names_ok hnm ht (m := mn) (by omega) fun ys s4 yl yn yo => ?_
  repeat get_elem_tactic_trivial
  refine take_ok ht (by omega) (log_small (by omega) (by omega)) fun wd s5 w0 w1 => ?_
  repeat get_elem_tactic_trivial
  refine and_dec (fun h6 => ?_) (fun h6 => ?_)
  · obtain ⟨z, hz⟩ : ∃ z, ys[0]? = some z := ⟨_, List.getElem?_eq_getElem (by omega)⟩
    have zo := yo z (List.mem_of_getElem? hz)
    refine wb_cons (ws_set ?_)
    unfold mComp8
    refine comp_rngD (m := mn) (fun k => .str (eightOf z (k % 6))) (fun _ => rfl) (by omega) (fun hP => w_varS rfl (sl_flat rfl hP)) (by simp) rfl ?_ ?_
    · intro i hi P' hP
      show WE _ _ [some (1000, fd s5), none, none, none, some (0, .int mn), some (0, .int bw), some (0, .int eg), some (0, .lst (ys.map .str)), some (0, .int wd), none, some (0, .int (i : Nat)), none, none, none] _
      repeat get_elem_tactic_trivial
      refine op_ixL (at_map (l := ys) (by decide) hz) ?_
      repeat get_elem_tactic_trivial
      refine op_mulZ (k := 8) zo.tx (by decide) (by decide) (by decide) ?_
      have tm := (Tx.mul (a := 7) zo.tx (by decide))
      repeat get_elem_tactic_trivial
      refine op_slB (tm.line (by decide)) ?_
      repeat get_elem_tactic_trivial
      refine op_ixZ (k := 97 + i) (by rw [sizeLine_eq]; decide +kernel) (abF_at (by omega)) ?_
      repeat get_elem_tactic_trivial
      refine op_addX tm.cut (Tx.one (by omega)) (by decide) fun _ => ?_
      repeat get_elem_tactic_trivial
      have e6 : i % 6 = i := Nat.mod_eq_of_lt (by omega)
      rw [e6] at hP
      exact hP
    · refine ⟨_, _, rfl, rfl, wb_nil ?_⟩
      have e : (List.range mn).map (fun k => D.str (eightOf z (k % 6))) = ((List.range mn).map (eightOf z)).map .str := by
        rw [List.map_map]
        refine List.map_congr_left fun k hk => ?_
        rw [List.mem_range] at hk
        show D.str (eightOf z (k % 6)) = D.str (eightOf z k)
        rw [Nat.mod_eq_of_lt (by omega)]
      rw [e]
      exact mrest_ok (k7 := 1000) ht hgw (by rw [List.length_map, List.length_range]) hm6 (eights_nodup zo (by omega)) (fun y hy => by
        obtain ⟨k, hk, rfl⟩ := List.mem_map.mp hy
        rw [List.mem_range] at hk
        exact (eight_ok zo (by omega)).1) h
  · refine wb_nil ?_
    exact mrest_ok (k7 := 0) ht hgw (by omega) hm6 yn yo h
/-- such a house is plain -/
theorem ManyOk.hpl {x : Hs} (h : ManyOk x) : HPl x := ⟨h.many.2, h.nodup, fun p hp => by have := (h.rules p hp).2.1; omega, fun p hp => (h.rules p hp).1, fun z hz => (h.names z hz).tx.pl, fun p hp l hl => by
  have := (h.rules p hp).2.2 l hl
  cases l with
  | num v => trivial
  | at_ nm ns => exact ⟨(h.names nm this.1).tx.pl, by have := this.2.1; omega⟩⟩
theorem HouseOk.hpl {x : Hs} (h : HouseOk x) : HPl x := ⟨h.many.2, h.nodup, fun p hp => by have := (h.rules p hp).2.1; omega, fun p hp => (h.rules p hp).1, fun z hz => (h.names z hz).tx.pl, fun p hp l hl => by
  have := (h.rules p hp).2.2.1 l hl
  have hw := h.ways
  cases l with
  | num v => trivial
  | at_ nm ns => exact ⟨(h.names nm this.1).tx.pl, by have := this.2.1; omega⟩⟩
end Ck

set_option Elab.async false
set_option linter.all false
set_option maxRecDepth 100000
set_option maxHeartbeats 0
namespace Lw
open PySem Ck
/-- deep_in(rule); 0 rule -/
def b_deep_in : List S :=
  [.ite (.cmp .eq (.op .ix [.var 0, .cst (.int 0)]) (.cst (.str "op"))) [.ret (.lstd [.op .ix [.var 0, .cst (.int 2)], .op .ix [.var 0, .cst (.int 3)]])] [],
  .ite (.cmp .eq (.op .ix [.var 0, .cst (.int 0)]) (.cst (.str "if"))) [.ret (.lstd [.op .ix [.var 0, .cst (.int 1)], .op .ix [.var 0, .cst (.int 2)], .op .ix [.var 0, .cst (.int 3)]])] [],
  .ret (.lstd [])]
def d_deep_in : Df := ⟨1, 1, b_deep_in⟩
/-- parts_of(rule); 0 rule, 1 found, 2 waiting, 3 part -/
def b_parts_of : List S :=
  [.set 1 (.lstd []),
  .set 2 (.lstd [.var 0]),
  .whl (.cmp .gt (.op .len [.var 2]) (.cst (.int 0))) [.set 3 (.mut 2 .pop []),
  .exp (.mut 1 .append [.var 3]),
  .exp (.mut 2 .extend [.op .revl [.call 0 [.var 3]]])],
  .ret (.var 1)]
def d_parts_of : Df := ⟨1, 4, b_parts_of⟩
/-- reads(rule); 0 rule, 1 part -/
def b_reads : List S :=
  [.ret (.op .tupleOf [.comp (.tupd [.op .ix [.var 1, .cst (.int 1)], .op .ix [.var 1, .cst (.int 2)]]) (.nm 1) (.seq (.call 1 [.var 0])) (.cmp .eq (.op .ix [.var 1, .cst (.int 0)]) (.cst (.str "at"))) [1]])]
def d_reads : Df := ⟨1, 2, b_reads⟩
/-- steps_by(rule); 0 rule, 1 found, 2 read -/
def b_steps_by : List S :=
  [.set 1 (.op .dic0 []),
  .forS (.nm 2) (.seq (.call 2 [.var 0])) [.setIx 1 (.var 2) (.cst (.bl true))],
  .ret (.op .listOf [.var 1])]
def d_steps_by : Df := ⟨1, 3, b_steps_by⟩
/-- steps_of(house); 0 house, 1 found, 2 name, 3 rule, 4 other, 5 row -/
def b_steps_of : List S :=
  [.set 1 (.lstd []),
  .forS (.tup [.nm 2, .nm 3]) (.seq (.op .ix [.var 0, .cst (.int 2)])) [.exp (.mut 1 .extend [.comp (.tupd [.var 2, .var 4, .var 5]) (.tup [.nm 4, .nm 5]) (.seq (.call 3 [.var 3])) (.tt) [4, 5]])],
  .ret (.op .tupleOf [.var 1])]
def d_steps_of : Df := ⟨1, 6, b_steps_of⟩
/-- rule_of(house, name); 0 house, 1 name -/
def b_rule_of : List S :=
  [.ret (.op .ix [.op .dictOf [.op .ix [.var 0, .cst (.int 2)]], .var 1])]
def d_rule_of : Df := ⟨2, 2, b_rule_of⟩
/-- place_by(place, row); 0 place, 1 row, 2 number, 3 more -/
def b_place_by : List S :=
  [.ret (.op .tupleOf [.comp (.op .add [.var 2, .var 3]) (.tup [.nm 2, .nm 3]) (.zip (.var 0) (.var 1)) (.tt) [2, 3]])]
def d_place_by : Df := ⟨2, 4, b_place_by⟩
/-- waits_for(house, cell); 0 house, 1 cell, 2 name, 3 place, 4 other, 5 row -/
def b_waits_for : List S :=
  [.setT (.tup [.nm 2, .nm 3]) (.var 1),
  .ret (.comp (.tupd [.var 4, .call 6 [.var 3, .var 5]]) (.tup [.nm 4, .nm 5]) (.seq (.call 3 [.call 5 [.var 0, .var 2]])) (.tt) [4, 5])]
def d_waits_for : Df := ⟨2, 6, b_waits_for⟩
/-- _law_feed(_law_script, _law_k); 0 _law_script, 1 _law_k, 2 _law_cell, 3 _law_own -/
def b__law_feed : List S :=
  [.set 2 (.op .add [.op .mul [.cst (.int 7901), .var 1], .cst (.int 24697)]),
  .ite (.cmp .lt (.var 1) (.op .len [.var 0])) [.set 2 (.op .ix [.var 0, .var 1])] [.ite (.cmp .gt (.op .len [.var 0]) (.cst (.int 0))) [.set 2 (.op .add [.op .mul [.op .mod [.op .ix [.var 0, .op .mod [.var 1, .op .len [.var 0]]], .cst (.int 2147483629)], .cst (.int 31)], .op .mul [.cst (.int 7901), .var 1]])] []],
  .set 3 (.cst (.int 0)),
  .ite (.cmp .ge (.var 2) (.op .pow [.cst (.int 10), .cst (.int 18)])) [.set 3 (.var 2)] [],
  .ret (.lstd [.var 3, .op .add [.op .mod [.op .pow [.op .add [.op .mul [.op .mod [.var 2, .cst (.int 2147483629)], .cst (.int 48271)], .op .mul [.cst (.int 40692), .var 1]], .cst (.int 5)], .cst (.int 2147483629)], .cst (.int 1)]])]
def d__law_feed : Df := ⟨2, 4, b__law_feed⟩
/-- _law_take(_law_feed_here, _law_many); 0 _law_feed_here, 1 _law_many, 2 _law_one, 3 _law_digit -/
def b__law_take : List S :=
  [.ite (.cmp .gt (.op .ix [.var 0, .cst (.int 0)]) (.cst (.int 0))) [.set 3 (.op .mod [.op .ix [.var 0, .cst (.int 0)], .var 1]),
  .setIx 0 (.cst (.int 0)) (.op .fdiv [.op .ix [.var 0, .cst (.int 0)], .var 1]),
  .ret (.var 3)] [],
  .set 2 (.op .mod [.op .mul [.op .ix [.var 0, .cst (.int 1)], .cst (.int 48271)], .cst (.int 2147483647)]),
  .setIx 0 (.cst (.int 1)) (.op .add [.op .mod [.op .add [.op .mul [.var 2, .cst (.int 40692)], .cst (.int 30103)], .cst (.int 2147483399)], .cst (.int 1)]),
  .ret (.op .mod [.op .fdiv [.op .add [.op .mul [.var 2, .cst (.int 2147483647)], .op .ix [.var 0, .cst (.int 1)]], .cst (.int 8191)], .var 1])]
def d__law_take : Df := ⟨2, 4, b__law_take⟩
/-- _law_names(_law_feed_here, _law_many); 0 _law_feed_here, 1 _law_many, 2 _law_letters, 3 _law_stem, 4 _law_found, 5 _law_k, 6 _law_first, 7 _law_at, 8 _law_name -/
def b__law_names : List S :=
  [.set 2 (.cst (.str "abcdefghijklmnopqrstuvwxyz")),
  .set 3 (.met .str .join (.cst (.str "")) [.comp (.op .ix [.var 2, .call 9 [.var 0, .cst (.int 26)]]) (.nm 5) (.rng1 (.call 9 [.var 0, .cst (.int 6)])) (.tt) [5]]),
  .par [6, 7] [.call 9 [.var 0, .cst (.int 26)], .call 9 [.var 0, .op .add [.op .len [.var 3], .cst (.int 1)]]],
  .set 4 (.lstd []),
  .forS (.nm 5) (.rng1 (.var 1)) [.set 8 (.op .add [.op .add [.op .slB [.var 3, .var 7], .op .ix [.var 2, .op .mod [.op .add [.var 6, .op .mul [.cst (.int 5), .var 5]], .cst (.int 26)]]], .op .slA [.var 3, .var 7]]),
  .ite (.cmp .eq (.op .mod [.var 5, .cst (.int 2)]) (.cst (.int 1))) [.set 8 (.op .add [.var 8, .cst (.str "q")])] [],
  .ite (.cmp .isin (.var 8) (.tupd [.cst (.str "min"), .cst (.str "max"), .cst (.str "rest"), .cst (.str "less"), .cst (.str "if")])) [.set 8 (.op .add [.var 8, .cst (.str "w")])] [],
  .exp (.mut 4 .append [.var 8])],
  .ret (.var 4)]
def d__law_names : Df := ⟨2, 9, b__law_names⟩
/-- _law_row(_law_feed_here, _law_ways); 0 _law_feed_here, 1 _law_ways, 2 _law_k -/
def b__law_row : List S :=
  [.ite (.cmp .eq (.call 9 [.var 0, .cst (.int 4)]) (.cst (.int 0))) [.ret (.op .mul [.tupd [.cst (.int 0)], .var 1])] [],
  .ret (.op .tupleOf [.comp (.op .ix [.lstd [.cst (.int 0), .cst (.int 1), .op .sub [.cst (.int 0), .cst (.int 1)], .cst (.int 2), .op .sub [.cst (.int 0), .cst (.int 2)]], .call 9 [.var 0, .cst (.int 5)]]) (.nm 2) (.rng1 (.var 1)) (.tt) [2]])]
def d__law_row : Df := ⟨2, 3, b__law_row⟩
/-- _law_back_row(_law_feed_here, _law_ways); 0 _law_feed_here, 1 _law_ways, 2 _law_at, 3 _law_more, 4 _law_k -/
def b__law_back_row : List S :=
  [.set 2 (.call 9 [.var 0, .var 1]),
  .set 3 (.comp (.op .ix [.lstd [.cst (.int 0), .cst (.int 1), .op .sub [.cst (.int 0), .cst (.int 1)], .cst (.int 2), .op .sub [.cst (.int 0), .cst (.int 2)]], .call 9 [.var 0, .cst (.int 5)]]) (.nm 4) (.rng2 (.op .add [.var 2, .cst (.int 1)]) (.var 1)) (.tt) [4]),
  .ret (.op .tupleOf [.op .add [.op .add [.op .mul [.lstd [.cst (.int 0)], .var 2], .lstd [.op .sub [.op .sub [.cst (.int 0), .cst (.int 1)], .call 9 [.var 0, .cst (.int 2)]]]], .var 3]])]
def d__law_back_row : Df := ⟨2, 5, b__law_back_row⟩
/-- _law_free_reads(_law_feed_here, _law_ways, _law_many); 0 _law_feed_here, 1 _law_ways, 2 _law_many, 3 _law_looks, 4 _law_x, 5 _law_k -/
def b__law_free_reads : List S :=
  [.set 3 (.comp (.lstd []) (.nm 4) (.rng1 (.var 2)) (.tt) [4]),
  .forS (.nm 4) (.rng1 (.var 2)) [.forS (.nm 5) (.rng1 (.call 9 [.var 0, .cst (.int 4)])) [.exp (.mutI 3 (.var 4) .append [.tupd [.call 9 [.var 0, .var 2], .call 11 [.var 0, .var 1]]])]],
  .ret (.var 3)]
def d__law_free_reads : Df := ⟨3, 6, b__law_free_reads⟩
/-- _law_late_reads(_law_feed_here, _law_ways, _law_many); 0 _law_feed_here, 1 _law_ways, 2 _law_many, 3 _law_looks, 4 _law_x, 5 _law_k -/
def b__law_late_reads : List S :=
  [.set 3 (.comp (.lstd []) (.nm 4) (.rng1 (.var 2)) (.tt) [4]),
  .forS (.nm 4) (.rng1 (.var 2)) [.forS (.nm 5) (.rng1 (.op .add [.cst (.int 1), .call 9 [.var 0, .cst (.int 3)]])) [.ite (.conj (.cmp .gt (.var 4) (.cst (.int 0))) (.cmp .eq (.call 9 [.var 0, .cst (.int 4)]) (.cst (.int 0)))) [.exp (.mutI 3 (.var 4) .append [.tupd [.call 9 [.var 0, .var 4], .op .mul [.tupd [.cst (.int 0)], .var 1]]])] [.exp (.mutI 3 (.var 4) .append [.tupd [.call 9 [.var 0, .var 2], .call 12 [.var 0, .var 1]]])]]],
  .ret (.var 3)]
def d__law_late_reads : Df := ⟨3, 6, b__law_late_reads⟩
/-- _law_turned_row(_law_row_here, _law_way, _law_signs); 0 _law_row_here, 1 _law_way, 2 _law_signs, 3 _law_found, 4 _law_k -/
def b__law_turned_row : List S :=
  [.set 3 (.lstd []),
  .forS (.nm 4) (.rng1 (.op .len [.var 0])) [.exp (.mut 3 .append [.op .mul [.op .ix [.var 0, .op .mod [.op .add [.var 4, .var 1], .op .len [.var 0]]], .op .ix [.var 2, .var 4]]])],
  .ret (.op .tupleOf [.var 3])]
def d__law_turned_row : Df := ⟨3, 5, b__law_turned_row⟩
/-- _law_opposed_reads(_law_feed_here, _law_ways, _law_many); 0 _law_feed_here, 1 _law_ways, 2 _law_many, 3 _law_far, 4 _law_some, 5 _law_looks, 6 _law_x, 7 _law_way, 8 _law_signs, 9 _law_other, 10 _law_row_here, 11 _law_k -/
def b__law_opposed_reads : List S :=
  [.set 3 (.op .add [.cst (.int 1), .call 9 [.var 0, .cst (.int 2)]]),
  .set 4 (.lstd [.tupd [.cst (.int 0), .cst (.int 0), .tupd [.cst (.int 0), .var 3]], .tupd [.cst (.int 1), .cst (.int 1), .tupd [.cst (.int 0), .op .sub [.op .sub [.cst (.int 0), .cst (.int 1)], .call 9 [.var 0, .cst (.int 2)]]]], .tupd [.cst (.int 0), .cst (.int 1), .tupd [.op .sub [.cst (.int 0), .cst (.int 1)], .op .sub [.call 9 [.var 0, .cst (.int 3)], .cst (.int 1)]]]]),
  .exp (.mut 4 .append [.tupd [.cst (.int 1), .cst (.int 0), .tupd [.op .sub [.cst (.int 0), .call 9 [.var 0, .cst (.int 2)]], .cst (.int 0)]]]),
  .ite (.cmp .eq (.var 1) (.cst (.int 3))) [.set 4 (.lstd [.tupd [.cst (.int 0), .cst (.int 0), .tupd [.cst (.int 0), .cst (.int 0), .var 3]], .tupd [.cst (.int 1), .cst (.int 1), .tupd [.cst (.int 0), .cst (.int 0), .op .sub [.cst (.int 0), .cst (.int 1)]]], .tupd [.cst (.int 0), .cst (.int 1), .tupd [.cst (.int 0), .op .sub [.cst (.int 0), .cst (.int 1)], .cst (.int 0)]], .tupd [.cst (.int 1), .cst (.int 0), .tupd [.cst (.int 0), .cst (.int 0), .call 9 [.var 0, .cst (.int 2)]]]]),
  .set 4 (.op .add [.var 4, .lstd [.tupd [.cst (.int 2), .cst (.int 2), .tupd [.cst (.int 0), .op .add [.cst (.int 1), .call 9 [.var 0, .cst (.int 2)]], .cst (.int 0)]], .tupd [.cst (.int 0), .cst (.int 2), .tupd [.op .sub [.cst (.int 0), .cst (.int 1)], .cst (.int 0), .cst (.int 1)]], .tupd [.cst (.int 2), .cst (.int 0), .tupd [.cst (.int 0), .cst (.int 0), .cst (.int 0)]]]])] [],
  .par [7, 8] [.call 9 [.var 0, .var 1], .comp (.op .sub [.cst (.int 1), .op .mul [.cst (.int 2), .call 9 [.var 0, .cst (.int 2)]]]) (.nm 11) (.rng1 (.var 1)) (.tt) [11]],
  .set 5 (.comp (.lstd []) (.nm 6) (.rng1 (.var 2)) (.tt) [6]),
  .forS (.tup [.nm 6, .nm 9, .nm 10]) (.seq (.var 4)) [.exp (.mutI 5 (.var 6) .append [.tupd [.var 9, .call 15 [.var 10, .var 7, .var 8]]])],
  .forS (.nm 6) (.rng2 (.cst (.int 3)) (.var 2)) [.exp (.mutI 5 (.var 6) .append [.tupd [.call 9 [.var 0, .var 6], .call 11 [.var 0, .var 1]]])],
  .ret (.var 5)]
def d__law_opposed_reads : Df := ⟨3, 12, b__law_opposed_reads⟩
/-- _law_ring_reads(_law_feed_here, _law_ways, _law_many); 0 _law_feed_here, 1 _law_ways, 2 _law_many, 3 _law_looks, 4 _law_long, 5 _law_rest, 6 _law_k, 7 _law_row_here, 8 _law_j, 9 _law_number -/
def b__law_ring_reads : List S :=
  [.set 3 (.call 14 [.var 0, .var 1, .var 2]),
  .set 4 (.op .add [.cst (.int 1), .call 9 [.var 0, .var 2]]),
  .set 5 (.op .mul [.lstd [.cst (.int 0)], .var 1]),
  .forS (.nm 6) (.rng1 (.var 4)) [.set 7 (.comp (.op .sub [.call 9 [.var 0, .cst (.int 3)], .cst (.int 1)]) (.nm 8) (.rng1 (.var 1)) (.tt) [8]),
  .set 7 (.comp (.op .sub [.op .max2 [.op .sub [.cst (.int 0), .cst (.int 2)], .op .min2 [.cst (.int 2), .op .add [.op .ix [.var 5, .var 8], .op .ix [.var 7, .var 8]]]], .op .ix [.var 5, .var 8]]) (.nm 8) (.rng1 (.var 1)) (.tt) [8]),
  .ite (.cmp .eq (.op .add [.var 6, .cst (.int 1)]) (.var 4)) [.set 7 (.comp (.op .sub [.cst (.int 0), .var 9]) (.nm 9) (.seq (.var 5)) (.tt) [9])] [],
  .set 5 (.comp (.op .add [.op .ix [.var 5, .var 8], .op .ix [.var 7, .var 8]]) (.nm 8) (.rng1 (.var 1)) (.tt) [8]),
  .exp (.mutI 3 (.var 6) .insert [.cst (.int 0), .tupd [.op .mod [.op .add [.var 6, .cst (.int 1)], .var 4], .op .tupleOf [.var 7]]])],
  .ret (.var 3)]
def d__law_ring_reads : Df := ⟨3, 10, b__law_ring_reads⟩
/-- _law_reads(_law_feed_here); 0 _law_feed_here, 1 _law_ways, 2 _law_many, 3 _law_form, 4 _law_wide -/
def b__law_reads : List S :=
  [.par [3, 4] [.call 9 [.var 0, .cst (.int 8)], .call 9 [.var 0, .cst (.int 16)]],
  .set 1 (.op .ix [.lstd [.cst (.int 1), .cst (.int 2), .cst (.int 2), .cst (.int 2), .cst (.int 2), .cst (.int 1), .cst (.int 2), .cst (.int 3)], .op .mod [.var 4, .cst (.int 8)]]),
  .set 2 (.op .add [.cst (.int 1), .call 9 [.var 0, .op .ix [.lstd [.cst (.int 3), .cst (.int 6)], .op .fdiv [.var 4, .cst (.int 8)]]]]),
  .ite (.cmp .lt (.var 3) (.cst (.int 3))) [.ret (.tupd [.var 1, .call 13 [.var 0, .var 1, .var 2]])] [],
  .ite (.cmp .lt (.var 3) (.cst (.int 5))) [.ret (.tupd [.var 1, .call 14 [.var 0, .var 1, .var 2]])] [],
  .ite (.cmp .eq (.var 3) (.cst (.int 5))) [.ret (.tupd [.var 1, .call 17 [.var 0, .var 1, .var 2]])] [],
  .set 1 (.op .max2 [.cst (.int 2), .var 1]),
  .ret (.tupd [.var 1, .call 16 [.var 0, .var 1, .op .max2 [.var 1, .op .min2 [.var 2, .cst (.int 5)]]]])]
def d__law_reads : Df := ⟨1, 5, b__law_reads⟩
/-- _law_grown(_law_feed_here, _law_leaves); 0 _law_feed_here, 1 _law_leaves, 2 _law_found, 3 _law_at, 4 _law_sign -/
def b__law_grown : List S :=
  [.set 2 (.op .listOf [.var 1]),
  .whl (.cmp .gt (.op .len [.var 2]) (.cst (.int 1))) [.set 3 (.call 9 [.var 0, .op .sub [.op .len [.var 2], .cst (.int 1)]]),
  .ite (.conj (.cmp .gt (.op .len [.var 2]) (.cst (.int 2))) (.cmp .eq (.call 9 [.var 0, .cst (.int 5)]) (.cst (.int 0)))) [.set 3 (.op .min2 [.var 3, .op .sub [.op .len [.var 2], .cst (.int 3)]]),
  .setSl 2 (.var 3) (.op .add [.var 3, .cst (.int 3)]) (.lstd [.tupd [.cst (.str "if"), .op .ix [.var 2, .var 3], .op .ix [.var 2, .op .add [.var 3, .cst (.int 1)]], .op .ix [.var 2, .op .add [.var 3, .cst (.int 2)]]]])] [.set 4 (.op .ix [.lstd [.cst (.str "+"), .cst (.str "-"), .cst (.str "*"), .cst (.str "min"), .cst (.str "max"), .cst (.str "rest"), .cst (.str "less")], .call 9 [.var 0, .cst (.int 7)]]),
  .setSl 2 (.var 3) (.op .add [.var 3, .cst (.int 2)]) (.lstd [.tupd [.cst (.str "op"), .var 4, .op .ix [.var 2, .var 3], .op .ix [.var 2, .op .add [.var 3, .cst (.int 1)]]]])]],
  .ret (.op .ix [.var 2, .cst (.int 0)])]
def d__law_grown : Df := ⟨2, 5, b__law_grown⟩
/-- _law_house(_law_feed_here); 0 _law_feed_here, 1 _law_wheel, 2 _law_names_here, 3 _law_desks, 4 _law_x, 5 _law_ways, 6 _law_looks, 7 _law_leaves, 8 _law_k, 9 _law_number, 10 _law_other, 11 _law_row_here -/
def b__law_house : List S :=
  [.setT (.tup [.nm 5, .nm 6]) (.call 18 [.var 0]),
  .set 1 (.op .ix [.lstd [.op .add [.cst (.int 2), .call 9 [.var 0, .cst (.int 9)]], .op .add [.cst (.int 2), .call 9 [.var 0, .cst (.int 998)]], .op .sub [.cst (.int 1000000000), .call 9 [.var 0, .cst (.int 9)]]], .call 9 [.var 0, .cst (.int 3)]]),
  .set 2 (.call 10 [.var 0, .op .len [.var 6]]),
  .set 3 (.lstd []),
  .forS (.nm 4) (.rng1 (.op .len [.var 6])) [.set 7 (.comp (.tupd [.cst (.str "at"), .op .ix [.var 2, .var 10], .var 11]) (.tup [.nm 10, .nm 11]) (.seq (.op .slB [.op .ix [.var 6, .var 4], .op .fdiv [.cst (.int 16), .op .len [.var 6]]])) (.tt) [10, 11]),
  .forS (.nm 8) (.rng1 (.op .add [.call 9 [.var 0, .cst (.int 2)], .op .int1 [.op .eq [.var 7, .lstd []]]])) [.set 9 (.call 9 [.var 0, .op .ix [.lstd [.cst (.int 9), .cst (.int 1000000001)], .call 9 [.var 0, .cst (.int 2)]]]),
  .exp (.mut 7 .insert [.call 9 [.var 0, .op .add [.op .len [.var 7], .cst (.int 1)]], .tupd [.cst (.str "num"), .var 9]])],
  .exp (.mut 3 .append [.tupd [.op .ix [.var 2, .var 4], .call 19 [.var 0, .var 7]]])],
  .ret (.tupd [.var 5, .var 1, .op .tupleOf [.var 3]])]
def d__law_house : Df := ⟨1, 12, b__law_house⟩
/-- _law_many_house(_law_feed_here); 0 _law_feed_here, 1 _law_rows, 2 _law_desks, 3 _law_x, 4 _law_many, 5 _law_backward, 6 _law_eights, 7 _law_names_here, 8 _law_wide, 9 _law_leaves, 10 _law_k, 11 _law_first, 12 _law_count, 13 _law_row_here -/
def b__law_many_house : List S :=
  [.par [4, 5, 6] [.op .ix [.lstd [.cst (.int 1), .cst (.int 2), .cst (.int 6)], .call 9 [.var 0, .cst (.int 3)]], .call 9 [.var 0, .cst (.int 2)], .call 9 [.var 0, .cst (.int 2)]],
  .setT (.tup [.nm 7, .nm 8]) (.tupd [.call 10 [.var 0, .var 4], .call 9 [.var 0, .var 4]]),
  .ite (.cmp .eq (.var 6) (.cst (.int 1))) [.set 7 (.comp (.op .add [.op .slB [.op .mul [.op .ix [.var 7, .cst (.int 0)], .cst (.int 7)], .cst (.int 7)], .op .ix [.cst (.str "abcdef"), .var 10]]) (.nm 10) (.rng1 (.var 4)) (.tt) [10])] [],
  .set 1 (.comp (.tupd [.op .sub [.op .mod [.var 10, .cst (.int 5)], .cst (.int 2)], .op .sub [.op .fdiv [.var 10, .cst (.int 5)], .cst (.int 2)]]) (.nm 10) (.rng1 (.cst (.int 25))) (.tt) [10]),
  .ite (.cmp .eq (.var 5) (.cst (.int 1))) [.set 1 (.comp (.var 13) (.nm 13) (.seq (.var 1)) (.cmp .lt (.var 13) (.tupd [.cst (.int 0), .cst (.int 0)])) [13])] [],
  .set 2 (.lstd []),
  .forS (.nm 3) (.rng1 (.var 4)) [.par [11, 12] [.call 9 [.var 0, .op .len [.var 1]], .op .sub [.op .ix [.lstd [.cst (.int 11), .cst (.int 8)], .op .int1 [.op .eq [.var 4, .cst (.int 2)]]], .call 9 [.var 0, .cst (.int 3)]]],
  .ite (.conj (.cmp .eq (.var 4) (.cst (.int 6))) (.cmp .ne (.var 3) (.var 8))) [.set 12 (.cst (.int 1))] [],
  .set 9 (.lstd []),
  .forS (.nm 10) (.rng1 (.var 12)) [.exp (.mut 9 .append [.tupd [.cst (.str "at"), .op .ix [.var 7, .call 9 [.var 0, .var 4]], .op .ix [.var 1, .op .mod [.op .add [.var 11, .var 10], .op .len [.var 1]]]]])],
  .exp (.mut 2 .append [.tupd [.op .ix [.var 7, .var 3], .call 19 [.var 0, .var 9]]])],
  .ret (.tupd [.cst (.int 2), .op .add [.cst (.int 2), .call 9 [.var 0, .cst (.int 50)]], .op .tupleOf [.var 2]])]
def d__law_many_house : Df := ⟨1, 14, b__law_many_house⟩
/-- _law_reads_of(_law_rule); 0 _law_rule, 1 _law_found, 2 _law_part -/
def b__law_reads_of : List S :=
  [.ite (.cmp .eq (.op .ix [.var 0, .cst (.int 0)]) (.cst (.str "num"))) [.ret (.lstd [])] [],
  .ite (.cmp .eq (.op .ix [.var 0, .cst (.int 0)]) (.cst (.str "at"))) [.ret (.lstd [.tupd [.op .ix [.var 0, .cst (.int 1)], .op .ix [.var 0, .cst (.int 2)]]])] [],
  .set 1 (.lstd []),
  .forS (.nm 2) (.seq (.op .slA [.var 0, .op .add [.cst (.int 1), .op .int1 [.op .eq [.op .ix [.var 0, .cst (.int 0)], .cst (.str "op")]]]])) [.exp (.mut 1 .extend [.call 22 [.var 2]])],
  .ret (.var 1)]
def d__law_reads_of : Df := ⟨1, 3, b__law_reads_of⟩
/-- _law_steps(_law_house_here); 0 _law_house_here, 1 _law_found, 2 _law_name, 3 _law_rule, 4 _law_other, 5 _law_row_here -/
def b__law_steps : List S :=
  [.set 1 (.lstd []),
  .forS (.tup [.nm 2, .nm 3]) (.seq (.op .ix [.var 0, .cst (.int 2)])) [.forS (.tup [.nm 4, .nm 5]) (.seq (.call 22 [.var 3])) [.ite (.cmp .notin (.tupd [.var 2, .var 4, .var 5]) (.var 1)) [.exp (.mut 1 .append [.tupd [.var 2, .var 4, .var 5]])] []]],
  .ret (.var 1)]
def d__law_steps : Df := ⟨1, 6, b__law_steps⟩
/-- _law_alike(_law_found, _law_due); 0 _law_found, 1 _law_due, 2 _law_one, 3 _law_other -/
def b__law_alike : List S :=
  [.ite (.val (.op .isiTupLst [.var 1])) [.ite (.disj (.cmp .ne (.op .isiTup [.var 0]) (.op .isiTup [.var 1])) (.cmp .ne (.op .isiLst [.var 0]) (.op .isiLst [.var 1]))) [.ret (.cst (.bl false))] [],
  .ret (.bop true (.op .eq [.op .len [.var 0], .op .len [.var 1]]) (.op .all1 [.comp (.call 24 [.var 2, .var 3]) (.tup [.nm 2, .nm 3]) (.zip (.var 0) (.var 1)) (.tt) [2, 3]]))] [],
  .ite (.disj (.cmp .ne (.op .isiBool [.var 0]) (.op .isiBool [.var 1])) (.cmp .ne (.op .isiStr [.var 0]) (.op .isiStr [.var 1]))) [.ret (.cst (.bl false))] [],
  .ret (.bop true (.op .not [.op .isiTupLst [.var 0]]) (.op .eq [.var 0, .var 1]))]
def d__law_alike : Df := ⟨2, 4, b__law_alike⟩
/-- _law_place(_law_feed_here, _law_ways); 0 _law_feed_here, 1 _law_ways, 2 _law_far, 3 _law_k -/
def b__law_place : List S :=
  [.set 2 (.op .ix [.lstd [.cst (.int 4), .cst (.int 2001)], .call 9 [.var 0, .cst (.int 2)]]),
  .ret (.op .tupleOf [.comp (.op .sub [.call 9 [.var 0, .var 2], .op .fdiv [.var 2, .cst (.int 2)]]) (.nm 3) (.rng1 (.var 1)) (.tt) [3]])]
def d__law_place : Df := ⟨2, 4, b__law_place⟩
/-- _law_right(_law_house_here, _law_cells); 0 _law_house_here, 1 _law_cells, 2 _law_steps_here, 3 _law_cell, 4 _law_name, 5 _law_rule, 6 _law_due, 7 _law_found, 8 _law_other, 9 _law_row_here, 10 _law_one, 11 _law_more -/
def b__law_right : List S :=
  [.set 2 (.call 23 [.var 0]),
  .ite (.not (.val (.call 24 [.call 4 [.var 0], .op .tupleOf [.var 2]]))) [.ret (.cst (.bl false))] [],
  .forS (.tup [.nm 4, .nm 5]) (.seq (.op .ix [.var 0, .cst (.int 2)])) [.ite (.not (.val (.call 24 [.call 5 [.var 0, .var 4], .var 5]))) [.ret (.cst (.bl false))] []],
  .forS (.nm 3) (.seq (.var 1)) [.set 6 (.lstd []),
  .forS (.tup [.nm 4, .nm 8, .nm 9]) (.seq (.var 2)) [.ite (.cmp .eq (.var 4) (.op .ix [.var 3, .cst (.int 0)])) [.exp (.mut 6 .append [.tupd [.var 8, .op .tupleOf [.comp (.op .add [.var 10, .var 11]) (.tup [.nm 10, .nm 11]) (.zip (.op .ix [.var 3, .cst (.int 1)]) (.var 9)) (.tt) [10, 11]]]])] []],
  .set 7 (.call 7 [.var 0, .var 3]),
  .ite (.not (.val (.call 24 [.var 7, .var 6]))) [.ret (.cst (.bl false))] [],
  .exp (.mut 7 .append [.var 3])],
  .ret (.cst (.bl true))]
def d__law_right : Df := ⟨2, 12, b__law_right⟩
/-- law(_law_script); 0 _law_script, 1 _law_asked, 2 _law_k, 3 _law_feed_here, 4 _law_house_here, 5 _law_cells, 6 _law_turn, 7 _law_twice, 8 _law_less, 9 _law_name, 10 _law_rule -/
def b_law : List S :=
  [.set 1 (.lstd []),
  .forS (.nm 2) (.rng1 (.op .max2 [.cst (.int 2), .op .min2 [.op .len [.var 0], .cst (.int 7)]])) [.set 3 (.call 8 [.var 0, .var 2]),
  .set 4 (.call 20 [.var 3]),
  .set 5 (.lstd []),
  .forS (.nm 6) (.rng1 (.op .add [.cst (.int 1), .call 9 [.var 3, .cst (.int 4)]])) [.exp (.mut 5 .append [.tupd [.op .ix [.op .ix [.op .ix [.var 4, .cst (.int 2)], .call 9 [.var 3, .op .len [.op .ix [.var 4, .cst (.int 2)]]]], .cst (.int 0)], .call 25 [.var 3, .op .ix [.var 4, .cst (.int 0)]]]])],
  .set 7 (.tupd [.op .ix [.var 4, .cst (.int 0)], .op .ix [.var 4, .cst (.int 1)], .op .tupleOf [.comp (.tupd [.var 9, .tupd [.cst (.str "op"), .cst (.str "max"), .var 10, .var 10]]) (.tup [.nm 9, .nm 10]) (.seq (.op .ix [.var 4, .cst (.int 2)])) (.tt) [9, 10]]]),
  .set 8 (.tupd [.op .ix [.var 4, .cst (.int 0)], .op .ix [.var 4, .cst (.int 1)], .op .tupleOf [.comp (.tupd [.var 9, .tupd [.cst (.str "num"), .cst (.int 1)]]) (.tup [.nm 9, .nm 10]) (.seq (.op .ix [.var 4, .cst (.int 2)])) (.tt) [9, 10]]]),
  .exp (.mut 1 .extend [.lstd [.tupd [.var 4, .var 5], .tupd [.var 7, .var 5], .tupd [.var 8, .var 5], .tupd [.var 4, .var 5]]])],
  .set 3 (.call 8 [.var 0, .cst (.int 8)]),
  .set 4 (.call 21 [.var 3]),
  .exp (.mut 1 .append [.tupd [.var 4, .comp (.tupd [.var 9, .call 25 [.var 3, .cst (.int 2)]]) (.tup [.nm 9, .nm 10]) (.seq (.op .ix [.var 4, .cst (.int 2)])) (.tt) [9, 10]]]),
  .ret (.op .all1 [.comp (.call 26 [.var 4, .var 5]) (.tup [.nm 4, .nm 5]) (.seq (.op .add [.var 1, .op .slB [.var 1, .cst (.int 1)]])) (.tt) [4, 5]])]
def d_law : Df := ⟨1, 11, b_law⟩
def G : Gt := [d_deep_in, d_parts_of, d_reads, d_steps_by, d_steps_of, d_rule_of, d_place_by, d_waits_for, d__law_feed, d__law_take, d__law_names, d__law_row, d__law_back_row, d__law_free_reads, d__law_late_reads, d__law_turned_row, d__law_opposed_reads, d__law_ring_reads, d__law_reads, d__law_grown, d__law_house, d__law_many_house, d__law_reads_of, d__law_steps, d__law_alike, d__law_place, d__law_right, d_law]
abbrev pw : Program := PySem.Challenge.pw_clockhouse_k06_steps_and_waits
def top (i : Nat) : Stmt := pw.main.body.getD i (.Pass ⟨0, 0, 0, 0⟩)
def fn : List He.DefD := [⟨("deep_in", none), "deep_in", "deep_in", L2.defArgs (top 1), L2.defBody (top 1), L2.defScope (top 1), [], []⟩,
  ⟨("parts_of", none), "parts_of", "parts_of", L2.defArgs (top 2), L2.defBody (top 2), L2.defScope (top 2), [], []⟩,
  ⟨("reads", none), "reads", "reads", L2.defArgs (top 3), L2.defBody (top 3), L2.defScope (top 3), [], []⟩,
  ⟨("steps_by", none), "steps_by", "steps_by", L2.defArgs (top 5), L2.defBody (top 5), L2.defScope (top 5), [], []⟩,
  ⟨("steps_of", none), "steps_of", "steps_of", L2.defArgs (top 6), L2.defBody (top 6), L2.defScope (top 6), [], []⟩,
  ⟨("rule_of", none), "rule_of", "rule_of", L2.defArgs (top 7), L2.defBody (top 7), L2.defScope (top 7), [], []⟩,
  ⟨("place_by", none), "place_by", "place_by", L2.defArgs (top 8), L2.defBody (top 8), L2.defScope (top 8), [], []⟩,
  ⟨("waits_for", none), "waits_for", "waits_for", L2.defArgs (top 9), L2.defBody (top 9), L2.defScope (top 9), [], []⟩,
  ⟨("_law_feed", none), "_law_feed", "_law_feed", L2.defArgs (top 11), L2.defBody (top 11), L2.defScope (top 11), [], []⟩,
  ⟨("_law_take", none), "_law_take", "_law_take", L2.defArgs (top 12), L2.defBody (top 12), L2.defScope (top 12), [], []⟩,
  ⟨("_law_names", none), "_law_names", "_law_names", L2.defArgs (top 13), L2.defBody (top 13), L2.defScope (top 13), [], []⟩,
  ⟨("_law_row", none), "_law_row", "_law_row", L2.defArgs (top 14), L2.defBody (top 14), L2.defScope (top 14), [], []⟩,
  ⟨("_law_back_row", none), "_law_back_row", "_law_back_row", L2.defArgs (top 15), L2.defBody (top 15), L2.defScope (top 15), [], []⟩,
  ⟨("_law_free_reads", none), "_law_free_reads", "_law_free_reads", L2.defArgs (top 16), L2.defBody (top 16), L2.defScope (top 16), [], []⟩,
  ⟨("_law_late_reads", none), "_law_late_reads", "_law_late_reads", L2.defArgs (top 17), L2.defBody (top 17), L2.defScope (top 17), [], []⟩,
  ⟨("_law_turned_row", none), "_law_turned_row", "_law_turned_row", L2.defArgs (top 18), L2.defBody (top 18), L2.defScope (top 18), [], []⟩,
  ⟨("_law_opposed_reads", none), "_law_opposed_reads", "_law_opposed_reads", L2.defArgs (top 19), L2.defBody (top 19), L2.defScope (top 19), [], []⟩,
  ⟨("_law_ring_reads", none), "_law_ring_reads", "_law_ring_reads", L2.defArgs (top 20), L2.defBody (top 20), L2.defScope (top 20), [], []⟩,
  ⟨("_law_reads", none), "_law_reads", "_law_reads", L2.defArgs (top 21), L2.defBody (top 21), L2.defScope (top 21), [], []⟩,
  ⟨("_law_grown", none), "_law_grown", "_law_grown", L2.defArgs (top 22), L2.defBody (top 22), L2.defScope (top 22), [], []⟩,
  ⟨("_law_house", none), "_law_house", "_law_house", L2.defArgs (top 23), L2.defBody (top 23), L2.defScope (top 23), [], []⟩,
  ⟨("_law_many_house", none), "_law_many_house", "_law_many_house", L2.defArgs (top 24), L2.defBody (top 24), L2.defScope (top 24), [], []⟩,
  ⟨("_law_reads_of", none), "_law_reads_of", "_law_reads_of", L2.defArgs (top 25), L2.defBody (top 25), L2.defScope (top 25), [], []⟩,
  ⟨("_law_steps", none), "_law_steps", "_law_steps", L2.defArgs (top 26), L2.defBody (top 26), L2.defScope (top 26), [], []⟩,
  ⟨("_law_alike", none), "_law_alike", "_law_alike", L2.defArgs (top 27), L2.defBody (top 27), L2.defScope (top 27), [], []⟩,
  ⟨("_law_place", none), "_law_place", "_law_place", L2.defArgs (top 28), L2.defBody (top 28), L2.defScope (top 28), [], []⟩,
  ⟨("_law_right", none), "_law_right", "_law_right", L2.defArgs (top 29), L2.defBody (top 29), L2.defScope (top 29), [], []⟩,
  ⟨("law", none), "law", "law", L2.defArgs (top 30), L2.defBody (top 30), L2.defScope (top 30), [], []⟩]
def Ns : List (List Str) := [["rule"],
  ["rule", "found", "waiting", "part"],
  ["rule", "part"],
  ["rule", "found", "read"],
  ["house", "found", "name", "rule", "other", "row"],
  ["house", "name"],
  ["place", "row", "number", "more"],
  ["house", "cell", "name", "place", "other", "row"],
  ["_law_script", "_law_k", "_law_cell", "_law_own"],
  ["_law_feed_here", "_law_many", "_law_one", "_law_digit"],
  ["_law_feed_here", "_law_many", "_law_letters", "_law_stem", "_law_found", "_law_k", "_law_first", "_law_at", "_law_name"],
  ["_law_feed_here", "_law_ways", "_law_k"],
  ["_law_feed_here", "_law_ways", "_law_at", "_law_more", "_law_k"],
  ["_law_feed_here", "_law_ways", "_law_many", "_law_looks", "_law_x", "_law_k"],
  ["_law_feed_here", "_law_ways", "_law_many", "_law_looks", "_law_x", "_law_k"],
  ["_law_row_here", "_law_way", "_law_signs", "_law_found", "_law_k"],
  ["_law_feed_here", "_law_ways", "_law_many", "_law_far", "_law_some", "_law_looks", "_law_x", "_law_way", "_law_signs", "_law_other", "_law_row_here", "_law_k"],
  ["_law_feed_here", "_law_ways", "_law_many", "_law_looks", "_law_long", "_law_rest", "_law_k", "_law_row_here", "_law_j", "_law_number"],
  ["_law_feed_here", "_law_ways", "_law_many", "_law_form", "_law_wide"],
  ["_law_feed_here", "_law_leaves", "_law_found", "_law_at", "_law_sign"],
  ["_law_feed_here", "_law_wheel", "_law_names_here", "_law_desks", "_law_x", "_law_ways", "_law_looks", "_law_leaves", "_law_k", "_law_number", "_law_other", "_law_row_here"],
  ["_law_feed_here", "_law_rows", "_law_desks", "_law_x", "_law_many", "_law_backward", "_law_eights", "_law_names_here", "_law_wide", "_law_leaves", "_law_k", "_law_first", "_law_count", "_law_row_here"],
  ["_law_rule", "_law_found", "_law_part"],
  ["_law_house_here", "_law_found", "_law_name", "_law_rule", "_law_other", "_law_row_here"],
  ["_law_found", "_law_due", "_law_one", "_law_other"],
  ["_law_feed_here", "_law_ways", "_law_far", "_law_k"],
  ["_law_house_here", "_law_cells", "_law_steps_here", "_law_cell", "_law_name", "_law_rule", "_law_due", "_law_found", "_law_other", "_law_row_here", "_law_one", "_law_more"],
  ["_law_script", "_law_asked", "_law_k", "_law_feed_here", "_law_house_here", "_law_cells", "_law_turn", "_law_twice", "_law_less", "_law_name", "_law_rule"]]
def cs : List (Str × D) := []
def bl : List Str := ["all", "bool", "dict", "int", "isinstance", "len", "list", "max", "min", "range", "reversed", "str", "tuple", "zip"]
theorem ok : okL (fn.map (·.name)) (G.map (·.np)) cs bl fn Ns G = true := by kernel_rfl
abbrev R : PySem.W.OpenRow := PySem.W.OpenLaw.row PySem.Challenge.rw_clockhouse_k06_steps_and_waits
def loose1 : List PySem.Str := ["deep_in", "parts_of", "reads", "steps_by", "steps_of", "rule_of", "place_by", "waits_for", "_law_feed", "_law_take", "_law_names", "_law_row", "_law_back_row", "_law_free_reads", "_law_late_reads", "_law_turned_row", "_law_opposed_reads", "_law_ring_reads", "_law_reads", "_law_grown", "_law_house", "_law_many_house", "_law_reads_of", "_law_steps", "_law_alike", "_law_place", "_law_right"]
def loose2 : List PySem.Str := []
abbrev hk : PySem.W.Hook := hookC 4 fn bl cs
def ob (s : PySem.W.SharedT) : He.AlD × Bool := obsC 4 fn bl cs (HandSHeadRun.getT s)
theorem ob_eq (s : PySem.W.SharedT) : ob s = hk.obs s.abs := obsC_eq (HandSHeadRun.getT_eq s)
theorem run (w : World) : HandSHeadRun.RunEq R (PySem.W.view R.prog [30]) hk ob 4000 (loose1 ++ loose2) w := by
  intro os
  kernel_rfl
end Lw
namespace Lw
open PySem PySem.W PySem.Calls PyProof.Rows
theorem done {n : Nat} (hn : n ≤ 200) (ev : ∀ zs : List Int, zs.length ≤ 63 → ∃ ps, Ck.evC G n 27 [(0, Ck.scrD zs)] [] = .ok (0, .bl true) ps) : PySem.Challenge.rw_clockhouse_k06_steps_and_waits.Holds := by
  w_on; o_law
  refine HandSHeadRun.head_any (r := OpenLaw.row PySem.Challenge.rw_clockhouse_k06_steps_and_waits) (q := view (OpenLaw.row PySem.Challenge.rw_clockhouse_k06_steps_and_waits).prog [30]) (H := Lw.hk) (ob := Lw.ob) (M := 4000) (loose := Lw.loose1 ++ Lw.loose2) (d := HandSHeadRun.topDef (OpenLaw.row PySem.Challenge.rw_clockhouse_k06_steps_and_waits).prog 30) (kwd := []) Lw.ob_eq
    (by kernel_rfl) (fun s => by kernel_rfl) Lw.run (by kernel_rfl) (by kernel_rfl) (by kernel_rfl) (by rfl) (by first | assumption | decide +kernel) (by decide +kernel) ⟨rfl, rfl, rfl, rfl, rfl, by decide +kernel⟩ ?hw ?hc
  case hw => w_witness2
  case hc =>
    refine L2.walk_ofE (l := PySem.Challenge.rw_clockhouse_k06_steps_and_waits) (n := 63) (k := n) (x := "_law_script") (CX := C8.CX0) rfl (by decide) (by kernel_rfl) (L2.Room.mono (k := 200) ⟨rfl, by decide, by decide⟩ hn) ?F (fun _ _ _ _ z => z)
    intro w mg fa h Y G hmg0
    have hmg : mg ("law" : PySem.Str) = some (.ref fa) := by
      have e : (HandSHeadRun.topDef (OpenLaw.row PySem.Challenge.rw_clockhouse_k06_steps_and_waits).prog 30).name = ("law" : PySem.Str) := by kernel_rfl
      rw [← e]
      exact hmg0
    exact Ck.law_F (L := 27) (m := 63) ok rfl rfl rfl rfl rfl rfl ev Y G hmg
end Lw

set_option Elab.async false
set_option linter.all false
set_option maxRecDepth 100000
/-! P06j: the law k06, its end. -/
namespace Lw
open PySem Ck
local macro_rules
  | `(tactic| get_elem_tactic_trivial) => `(tactic| first
    | (with_reducible first
        | refine wb_cons ?_
        | refine wb_nil ?_
        | refine ws_set ?_
        | refine ws_ret ?_
        | refine ws_exp ?_
        | refine ws_setT ?_
        | refine ws_setIx ?_
        | refine ws_setSl ?_
        | refine ws_ite ?_
        | (apply ws_aug; with_unfolding_all rfl)
        | refine w_cst ?_
        | refine w_glo ?_
        | (apply w_varS; with_unfolding_all rfl)
        | refine sl_zero ?_
        | (apply sl_flat; with_unfolding_all rfl)
        | (apply sl_own; with_unfolding_all rfl; with_unfolding_all rfl)
        | refine w_op ?_
        | refine w_tupd ?_
        | refine w_lstd ?_
        | refine w_call ?_
        | (apply w_mut; with_unfolding_all rfl; with_unfolding_all rfl)
        | refine w_slc ?_
        | refine w_met ?_
        | refine wl_cons ?_
        | refine wl_nil ?_
        | refine wt_cmp ?_
        | refine wt_conj ?_
        | refine wt_disj ?_
        | refine wt_not ?_
        | refine wt_isn ?_
        | refine rr_fr ?_
        | (apply rr_sl; with_unfolding_all rfl)
        | refine op_lenS ?_
        | refine op_lenL ?_
        | refine op_lenT ?_
        | refine op_add ?_
        | refine op_sub ?_
        | refine op_lt ?_
        | refine op_le ?_
        | refine op_gt ?_
        | refine op_ge ?_
        | refine op_eq eqv_int ?_
        | refine op_ne eqv_int ?_
        | refine op_min2 ?_
        | refine op_max2 ?_
        | refine op_neg ?_
        | refine op_not ?_
        | refine op_int1b ?_
        | refine op_isInt ?_
        | refine op_isTup ?_
        | refine op_isLst ?_
        | refine op_isStr ?_
        | refine op_isBool ?_
        | (apply op_mod; (first | assumption | decide))
        | (apply op_fdiv; (first | assumption | decide); (first | assumption | decide))
        | (refine op_mul (.inl ?_) ?_; decide)
        | (refine op_mul (.inr ?_) ?_; decide)
        | (apply op_pow; decide; decide; decide)
        | refine op_ixL0 ?_
        | refine op_ixT0 ?_
        | (apply op_ixO0; with_unfolding_all rfl)
        | refine op_ixL1 ?_
        | refine op_ixT1 ?_
        | (apply op_ixO1; with_unfolding_all rfl)
        | refine op_ixL2 ?_
        | refine op_ixT2 ?_
        | (apply op_ixO2; with_unfolding_all rfl)
        | refine op_ixL3 ?_
        | refine op_ixT3 ?_
        | (apply op_ixO3; with_unfolding_all rfl)
        | (apply and_eq; with_unfolding_all rfl)
        | (apply ex_pair; with_unfolding_all rfl)
        | (apply ex_some; with_unfolding_all rfl)
        | (apply ex_bl; with_unfolding_all rfl)
        | (apply ex_int; with_unfolding_all rfl)
        | (apply ex_ix; with_unfolding_all rfl; with_unfolding_all rfl; with_unfolding_all rfl)
        | (apply ex_two; with_unfolding_all rfl)
        | refine and_t ?_
        | refine and_f ?_
        | refine and_nt ?_
        | refine and_nf ?_)
    | dsimp only [backIn, hideL, lent, lentK, getD_z, getD_s, set_z, set_s, map_c, map_n, app_c, app_n, rep_s, rep_z])
local macro_rules
  | `(tactic| exists $d, $s, $h0, $h1) => `(tactic| (refine take_ok (by assumption) (by decide) (by decide) fun $d $s $h0 $h1 => ?_; repeat get_elem_tactic_trivial))
theorem rA : ReadsAt G 9 11 12 13 14 15 16 17 := ⟨rfl, rfl, rfl, rfl, rfl, rfl, rfl, rfl⟩
theorem g_take : G[9]? = some ⟨2, 4, tkB⟩ := rfl
theorem g_feed : G[8]? = some ⟨2, 4, fdB⟩ := rfl
theorem g_house : G[20]? = some ⟨1, 12, B_house 18 9 10 19⟩ := rfl
theorem g_many : G[21]? = some ⟨1, 14, B_many_house 9 10 19⟩ := rfl
theorem g_place : G[25]? = some ⟨2, 4, B_place 9⟩ := rfl
theorem g_right : G[26]? = some ⟨2, 12, B_rightS 23 24 4 5 7⟩ := rfl
abbrev AQ := Hs × List (Str × List Int)
def aq (p : AQ) : D := .tup [p.1.toD, .lst (p.2.map rwD)]
def CsOk (x : Hs) (cs : List (Str × List Int)) : Prop := ∀ c ∈ cs, c.1 ∈ x.names ∧ c.2.length ≤ 100
def okA (p : AQ) : Prop := HPl p.1 ∧ CsOk p.1 p.2
def right1 {n : Nat} {p : AQ} (hp : okA p) {Q : SV → List SV → Prop} (h : Q (0, .bl true) [(0, p.1.toD), (0, .lst (p.2.map rwD))]) : CPS (evC G (n + 110)) 26 [(0, p.1.toD), (0, .lst (p.2.map rwD))] [] Q :=
  right_ok (rf := 22) (pb := 6) (sb := 3) (r := 2) (p := 1) (dp := 0) g_right rfl rfl rfl rfl rfl rfl rfl rfl rfl rfl rfl hp.1 hp.2 h
def twice (x : Hs) : Hs := ⟨x.ways, x.wheel, x.desks.map fun p => (p.1, .op "max" p.2 p.2)⟩
def less (x : Hs) : Hs := ⟨x.ways, x.wheel, x.desks.map fun p => (p.1, .lf (.num 1))⟩
theorem twice_names (x : Hs) : (twice x).names = x.names := by unfold twice Hs.names; rw [List.map_map]; rfl
theorem less_names (x : Hs) : (less x).names = x.names := by unfold less Hs.names; rw [List.map_map]; rfl
theorem twice_ok {x : Hs} (h : HouseOk x) : HPl (twice x) := by
  have hh := h.hpl
  refine ⟨by unfold twice; rw [List.length_map]; exact hh.len, by rw [twice_names]; exact hh.nd, fun p hp => ?_, fun p hp => ?_, by rw [twice_names]; exact hh.npl, fun p hp l hl => ?_⟩
  · obtain ⟨q, hq, rfl⟩ := List.mem_map.mp hp
    have := (h.rules q hq).2.1
    simp only [Tr.size]
    omega
  · obtain ⟨q, hq, rfl⟩ := List.mem_map.mp hp
    exact ⟨by decide, hh.sg q hq, hh.sg q hq⟩
  · obtain ⟨q, hq, rfl⟩ := List.mem_map.mp hp
    simp only [Tr.lfs, List.mem_append, or_self] at hl
    exact hh.lfs q hq l hl
theorem less_ok {x : Hs} (h : HouseOk x) : HPl (less x) := by
  have hh := h.hpl
  refine ⟨by unfold less; rw [List.length_map]; exact hh.len, by rw [less_names]; exact hh.nd, fun p hp => ?_, fun p hp => ?_, by rw [less_names]; exact hh.npl, fun p hp l hl => ?_⟩
  · obtain ⟨q, hq, rfl⟩ := List.mem_map.mp hp
    simp only [Tr.size]
    omega
  · obtain ⟨q, hq, rfl⟩ := List.mem_map.mp hp
    trivial
  · obtain ⟨q, hq, rfl⟩ := List.mem_map.mp hp
    simp only [Tr.lfs, List.mem_singleton] at hl
    rw [hl]
    trivial
def sCells : S := .forS (.nm 6) (.rng1 (.op .add [.cst (.int 1), .call 9 [.var 3, .cst (.int 4)]])) [.exp (.mut 5 .append [.tupd [.op .ix [.op .ix [.op .ix [.var 4, .cst (.int 2)], .call 9 [.var 3, .op .len [.op .ix [.var 4, .cst (.int 2)]]]], .cst (.int 0)], .call 25 [.var 3, .op .ix [.var 4, .cst (.int 0)]]]])]
def eTwice : E := .comp (.tupd [.var 9, .tupd [.cst (.str "op"), .cst (.str "max"), .var 10, .var 10]]) (.tup [.nm 9, .nm 10]) (.seq (.op .ix [.var 4, .cst (.int 2)])) (.tt) [9, 10]
def eLess : E := .comp (.tupd [.var 9, .tupd [.cst (.str "num"), .cst (.int 1)]]) (.tup [.nm 9, .nm 10]) (.seq (.op .ix [.var 4, .cst (.int 2)])) (.tt) [9, 10]
def sAsk : S := .exp (.mut 1 .extend [.lstd [.tupd [.var 4, .var 5], .tupd [.var 7, .var 5], .tupd [.var 8, .var 5], .tupd [.var 4, .var 5]]])
def f1 : S := .forS (.nm 2) (.rng1 (.op .max2 [.cst (.int 2), .op .min2 [.op .len [.var 0], .cst (.int 7)]])) [.set 3 (.call 8 [.var 0, .var 2]),
  .set 4 (.call 20 [.var 3]),
  .set 5 (.lstd []),
  sCells,
  .set 7 (.tupd [.op .ix [.var 4, .cst (.int 0)], .op .ix [.var 4, .cst (.int 1)], .op .tupleOf [eTwice]]),
  .set 8 (.tupd [.op .ix [.var 4, .cst (.int 0)], .op .ix [.var 4, .cst (.int 1)], .op .tupleOf [eLess]]),
  sAsk]
def eLast : E := .comp (.tupd [.var 9, .call 25 [.var 3, .cst (.int 2)]]) (.tup [.nm 9, .nm 10]) (.seq (.op .ix [.var 4, .cst (.int 2)])) (.tt) [9, 10]
def eAll : E := .comp (.call 26 [.var 4, .var 5]) (.tup [.nm 4, .nm 5]) (.seq (.op .add [.var 1, .op .slB [.var 1, .cst (.int 1)]])) (.tt) [4, 5]
theorem law_eq : b_law = [.set 1 (.lstd []), f1, .set 3 (.call 8 [.var 0, .cst (.int 8)]), .set 4 (.call 21 [.var 3]), .exp (.mut 1 .append [.tupd [.var 4, eLast]]), .ret (.op .all1 [eAll])] := rfl
theorem sCells_ok {n : Nat} {a0 a1 a2 a6 a7 a8 : Option SV} {s : Int × Int} {x : Hs} (hx : HouseOk x) {K : Ko} (h : ∀ s' cs o6, CsOk x cs → cs.length ≤ 10 → K.nx [a0, a1, a2, some (1000, fd s'), some (0, x.toD), some (1000, .lst (cs.map rwD)), o6, a7, a8, none, none]) :
    WS (evC G (n + 111)) sCells [] [a0, a1, a2, some (1000, fd s), some (0, x.toD), some (1000, .lst []), a6, a7, a8, none, none] K := by
  have hmany := hx.many
  have hways := hx.ways
  unfold sCells
  refine ws_for (wi_rng1 ?_)
  have hfl : x.toD.isC = false := rfl
  repeat get_elem_tactic_trivial
  refine take_ok g_take (by decide) (by decide) fun d s1 d0 d1 => ?_
  repeat get_elem_tactic_trivial
  refine And.intro ⟨by omega, by omega⟩ ⟨(1 + d).toNat, rfl, fun i env => ∃ (s' : Int × Int) (cs : List (Str × List Int)) (o6 : Option SV), env = [a0, a1, a2, some (1000, fd s'), some (0, x.toD), some (1000, .lst (cs.map rwD)), o6, a7, a8, none, none] ∧ cs.length = i ∧ CsOk x cs, ⟨s1, [], _, rfl, rfl, fun _ h => nomatch h⟩, ?_, ?_⟩
  · rintro i env hi ⟨s1, cs, o6, rfl, rfl, hcs⟩
    refine ⟨_, [a0, a1, a2, some (1000, fd s1), some (0, x.toD), some (1000, .lst (cs.map rwD)), some (0, .int (0 + (cs.length : Nat) * 1)), a7, a8, none, none], rfl, rfl, ?_⟩
    repeat get_elem_tactic_trivial
    refine op_ixT2 (x0 := .int x.ways) (x1 := .int x.wheel) (x2 := .tup (x.desks.map dkD)) (l := []) ?_
    repeat get_elem_tactic_trivial
    refine op_ixT2 (x0 := .int x.ways) (x1 := .int x.wheel) (x2 := .tup (x.desks.map dkD)) (l := []) ?_
    repeat get_elem_tactic_trivial
    rw [List.length_map]
    refine take_ok g_take (by omega) (log_small (by omega) (by omega)) fun a s2 a0 a1 => ?_
    repeat get_elem_tactic_trivial
    obtain ⟨p, p1, p2⟩ := ix_mem (l := x.desks) (a := a) a0 a1
    refine op_ixT (at_map a0 p1) ?_
    repeat get_elem_tactic_trivial
    refine op_ixT0 (x0 := .str p.1) (l := [p.2.toD]) ?_
    repeat get_elem_tactic_trivial
    refine op_ixT0 (x0 := .int x.ways) (l := [.int x.wheel, .tup (x.desks.map dkD)]) ?_
    repeat get_elem_tactic_trivial
    refine place_ok g_place g_take hways.1 hways.2 fun ns s3 hns _ _ => ?_
    repeat get_elem_tactic_trivial
    have ep : D.tup [.str p.1, .tup (ns.map .int)] = rwD (p.1, ns) := rfl
    rw [ep]
    refine mut_app (by rw [List.length_map, sizeLine_eq]; omega) rfl ?_
    repeat get_elem_tactic_trivial
    refine ⟨s3, cs ++ [(p.1, ns)], _, by rw [List.map_append]; rfl, by simp, fun c hc => ?_⟩
    rcases List.mem_append.mp hc with hc | hc
    · exact hcs c hc
    · rw [List.mem_singleton] at hc
      rw [hc]
      exact ⟨List.mem_map.mpr ⟨p, p2, rfl⟩, by simp only; omega⟩
  · rintro env ⟨s1, cs, o6, rfl, hl, hcs⟩ _
    exact h s1 cs o6 hcs (by omega)
/-- a list over a house's desks -/
theorem comp_desks {c : Cal} {elt : E} {a0 a1 a2 a3 a5 a6 a7 a8 : Option SV} {x : Hs} (hx : x.desks.length ≤ 6) {P : Ck.R → Ck.Env → Prop} (f : Str × Tr → D) (hf : ∀ p, (f p).isC = false)
    (step : ∀ p ∈ x.desks, ∀ {P' : Ck.R → Ck.Env → Prop}, P' ⟨.fr, 0, f p⟩ [a0, a1, a2, a3, some (0, x.toD), a5, a6, a7, a8, some (0, .str p.1), some (0, p.2.toD)] → WE c elt [a0, a1, a2, a3, some (0, x.toD), a5, a6, a7, a8, some (0, .str p.1), some (0, p.2.toD)] P')
    (h : P ⟨.fr, 1000, .lst (x.desks.map f)⟩ [a0, a1, a2, a3, some (0, x.toD), a5, a6, a7, a8, none, none]) :
    WE c (.comp elt (.tup [.nm 9, .nm 10]) (.seq (.op .ix [.var 4, .cst (.int 2)])) (.tt) [9, 10]) [a0, a1, a2, a3, some (0, x.toD), a5, a6, a7, a8, none, none] P := by
  refine comp_map x.desks dkD f (fun p => [a0, a1, a2, a3, some (0, x.toD), a5, a6, a7, a8, some (0, .str p.1), some (0, p.2.toD)]) (fun _ _ => hf _) (by omega) rfl rfl (fun _ _ => rfl) (fun _ _ => rfl) ?_ step h
  intro I hI
  have hfl : x.toD.isC = false := rfl
  refine wi_seq ?_
  repeat get_elem_tactic_trivial
  refine op_ixT2 (x0 := .int x.ways) (x1 := .int x.wheel) (x2 := .tup (x.desks.map dkD)) (l := []) ?_
  repeat get_elem_tactic_trivial
  refine hI (.seq (.fix (x.desks.map dkD))) ?_ fun i b hb => ?_
  · show some _ = _; rw [List.length_map]
  · show (x.desks.map dkD)[i]? = _; rw [List.getElem?_map, hb]; rfl
def O0 (o : Option SV) : Prop := o = none ∨ ∃ d, o = some (0, d)
theorem f1_ok {n : Nat} {zs : List Int} (hz : zs.length ≤ 63) {K : Ko} (h : ∀ (k : Nat) (ps : List AQ) (o2 o3 o4 o5 o6 o7 o8 : Option SV), (∀ p ∈ ps, okA p) → ps.length ≤ 100 → O0 o5 → K.nx [some (0, scrD zs), some (k + 1, .lst (ps.map aq)), o2, o3, o4, o5, o6, o7, o8, none, none]) :
    WS (evC G (n + 111)) f1 [] [some (0, scrD zs), some (1000, .lst []), none, none, none, none, none, none, none, none, none] K := by
  unfold f1
  refine ws_for ?_
  refine wi_rng1 ?_
  repeat get_elem_tactic_trivial
  rw [List.length_map]
  generalize hm : (if (if (7 : Int) < (zs.length : Int) then (7 : Int) else zs.length) > 2 then (if (7 : Int) < (zs.length : Int) then (7 : Int) else zs.length) else 2) = m
  have hm2 : 2 ≤ m ∧ m ≤ 7 := by rw [← hm]; split <;> (try split) <;> omega
  clear hm
  refine And.intro ⟨by omega, by omega⟩ ⟨m.toNat, rfl, fun i env => ∃ (k : Nat) (ps : List AQ) (o2 o3 o4 o5 o6 o7 o8 : Option SV), env = [some (0, scrD zs), some (k + 1, .lst (ps.map aq)), o2, o3, o4, o5, o6, o7, o8, none, none] ∧ ps.length = 4 * i ∧ O0 o5 ∧ ∀ p ∈ ps, okA p, ⟨999, [], _, _, _, _, _, _, _, rfl, rfl, .inl rfl, fun _ h => nomatch h⟩, ?_, ?_⟩
  · rintro i env hi ⟨k, ps, o2, o3, o4, o5, o6, o7, o8, rfl, hpl, _, hps⟩
    refine ⟨_, [some (0, scrD zs), some (k + 1, .lst (ps.map aq)), some (0, .int (0 + (i : Nat) * 1)), o3, o4, o5, o6, o7, o8, none, none], rfl, rfl, ?_⟩
    repeat get_elem_tactic_trivial
    refine feed_ok g_feed (by omega) (by omega) fun s => ?_
    repeat get_elem_tactic_trivial
    refine house_ok rA rfl rfl rfl g_house fun x s1 hx => ?_
    have xf : x.toD.isC = false := rfl
    have hlen := hx.many
    repeat get_elem_tactic_trivial
    refine sCells_ok hx fun s2 cs o6 hcs hcl => ?_
    refine wb_cons (ws_set ?_)
    refine w_tupd (wl_cons ?_)
    repeat get_elem_tactic_trivial
    refine op_ixT0 (x0 := .int x.ways) (l := [.int x.wheel, .tup (x.desks.map dkD)]) ?_
    repeat get_elem_tactic_trivial
    refine op_ixT1 (x0 := .int x.ways) (x1 := .int x.wheel) (l := [.tup (x.desks.map dkD)]) ?_
    repeat get_elem_tactic_trivial
    refine comp_desks hlen.2 (fun p => dkD (p.1, .op "max" p.2 p.2)) (fun _ => rfl) ?_ ?_
    · intro p hp P' hP
      have fl := p.2.flat
      have hP : P' ⟨.fr, 0, .tup [.str p.1, .tup [.str "op", .str "max", p.2.toD, p.2.toD]]⟩ _ := hP
      generalize p.2.toD = D0 at fl hP ⊢
      repeat get_elem_tactic_trivial
      exact hP
    have et : D.tup [.int x.ways, .int x.wheel, .tup (x.desks.map fun p => dkD (p.1, .op "max" p.2 p.2))] = (twice x).toD := by unfold twice Hs.toD; rw [List.map_map]; rfl
    have el : D.tup [.int x.ways, .int x.wheel, .tup (x.desks.map fun p => dkD (p.1, .lf (.num 1)))] = (less x).toD := by unfold less Hs.toD; rw [List.map_map]; rfl
    repeat get_elem_tactic_trivial
    refine op_tupleK (fun d hd => by obtain ⟨_, _, rfl⟩ := List.mem_map.mp hd; rfl) ?_
    repeat get_elem_tactic_trivial
    rw [et]
    have tf : (twice x).toD.isC = false := rfl
    repeat get_elem_tactic_trivial
    refine op_ixT0 (x0 := .int x.ways) (l := [.int x.wheel, .tup (x.desks.map dkD)]) ?_
    repeat get_elem_tactic_trivial
    refine op_ixT1 (x0 := .int x.ways) (x1 := .int x.wheel) (l := [.tup (x.desks.map dkD)]) ?_
    repeat get_elem_tactic_trivial
    refine comp_desks hlen.2 (fun p => dkD (p.1, .lf (.num 1))) (fun _ => rfl) ?_ ?_
    · intro p hp P' hP
      have hP : P' ⟨.fr, 0, .tup [.str p.1, .tup [.str "num", .int 1]]⟩ _ := hP
      repeat get_elem_tactic_trivial
      exact hP
    repeat get_elem_tactic_trivial
    refine op_tupleK (fun d hd => by obtain ⟨_, _, rfl⟩ := List.mem_map.mp hd; rfl) ?_
    repeat get_elem_tactic_trivial
    rw [el]
    have lf : (less x).toD.isC = false := rfl
    repeat get_elem_tactic_trivial
    have e4 : [D.tup [x.toD, .lst (cs.map rwD)], .tup [(twice x).toD, .lst (cs.map rwD)], .tup [(less x).toD, .lst (cs.map rwD)], .tup [x.toD, .lst (cs.map rwD)]] = [(x, cs), (twice x, cs), (less x, cs), (x, cs)].map aq := rfl
    unfold sAsk
    repeat get_elem_tactic_trivial
    refine mut_ext (by show (ps.map aq).length + 4 ≤ 16777216; rw [List.length_map]; omega) (fun d hd => by
      rw [e4] at hd
      obtain ⟨_, _, rfl⟩ := List.mem_map.mp hd; rfl) ?_
    rw [e4, ← List.map_append]
    repeat get_elem_tactic_trivial
    refine ⟨0, ps ++ [(x, cs), (twice x, cs), (less x, cs), (x, cs)], _, _, _, _, _, _, _, rfl, by simp; omega, .inr ⟨_, rfl⟩, fun p hp => ?_⟩
    rcases List.mem_append.mp hp with hp | hp
    · exact hps p hp
    · simp only [List.mem_cons, List.not_mem_nil, or_false] at hp
      rcases hp with rfl | rfl | rfl | rfl
      · exact ⟨hx.hpl, hcs⟩
      · exact ⟨twice_ok hx, fun c hc => by rw [twice_names]; exact hcs c hc⟩
      · exact ⟨less_ok hx, fun c hc => by rw [less_names]; exact hcs c hc⟩
      · exact ⟨hx.hpl, hcs⟩
  · rintro env ⟨k, ps, o2, o3, o4, o5, o6, o7, o8, rfl, hl, h5, hps⟩ _
    exact h k ps _ _ _ _ _ _ _ hps (by omega) h5
theorem eLast_ok {n : Nat} {a0 a1 a2 a5 a6 a7 a8 : Option SV} {s : Int × Int} {x : Hs} (hx : ManyOk x) {P : Ck.R → Ck.Env → Prop} (h : ∀ s' cs, CsOk x cs → P ⟨.fr, 1000, .lst (cs.map rwD)⟩ [a0, a1, a2, some (1000, fd s'), some (0, x.toD), a5, a6, a7, a8, none, none]) :
    WE (evC G (n + 111)) eLast [a0, a1, a2, some (1000, fd s), some (0, x.toD), a5, a6, a7, a8, none, none] P := by
  have hm := hx.many
  have hfl : x.toD.isC = false := rfl
  unfold eLast
  refine comp_draw (s := s) x.desks dkD (fun s => [a0, a1, a2, some (1000, fd s), some (0, x.toD), a5, a6, a7, a8, none, none]) (fun s => [a0, a1, a2, some (1000, fd s), some (0, x.toD), a5, a6, a7, a8, none, none]) (fun s p => [a0, a1, a2, some (1000, fd s), some (0, x.toD), a5, a6, a7, a8, some (0, .str p.1), some (0, p.2.toD)])
    (fun p d => ∃ ns : List Int, ns.length ≤ 100 ∧ d = rwD (p.1, ns)) (fun p d ⟨ns, _, e⟩ => by rw [e]; rfl) (by omega) (fun _ => rfl) rfl (fun _ _ _ => rfl) (fun _ _ _ _ => rfl) ?_ ?_ ?_
  · intro I hI
    refine wi_seq ?_
    repeat get_elem_tactic_trivial
    refine op_ixT2 (x0 := .int x.ways) (x1 := .int x.wheel) (x2 := .tup (x.desks.map dkD)) (l := []) ?_
    repeat get_elem_tactic_trivial
    refine hI (.seq (.fix (x.desks.map dkD))) (fun s => ?_) fun s i b hb => ?_
    · show some _ = _; rw [List.length_map]
    · show (x.desks.map dkD)[i]? = _; rw [List.getElem?_map, hb]; rfl
  · intro s p hp P' hP
    have fl := p.2.flat
    generalize p.2.toD = D0 at fl hP ⊢
    repeat get_elem_tactic_trivial
    refine place_ok g_place g_take (by decide) (by decide) fun ns s3 hns _ _ => ?_
    repeat get_elem_tactic_trivial
    exact hP s3 _ ⟨ns, by omega, rfl⟩
  · intro s' ds _ _ hm
    have : ∀ ds : List D, (∀ d ∈ ds, ∃ b ∈ x.desks, ∃ ns : List Int, ns.length ≤ 100 ∧ d = rwD (b.1, ns)) → ∃ cs, CsOk x cs ∧ ds = cs.map rwD := by
      intro ds
      induction ds with
      | nil => intro _; exact ⟨[], (fun _ h => nomatch h), rfl⟩
      | cons d ds ih =>
        intro hd
        obtain ⟨b, hb, ns, hns, rfl⟩ := hd d (List.mem_cons_self ..)
        obtain ⟨cs, hcs, rfl⟩ := ih fun d m => hd d (List.mem_cons_of_mem _ m)
        refine ⟨(b.1, ns) :: cs, fun c hc => ?_, rfl⟩
        rcases List.mem_cons.mp hc with rfl | hc
        · exact ⟨List.mem_map.mpr ⟨b, hb, rfl⟩, hns⟩
        · exact hcs c hc
    obtain ⟨cs, hcs, rfl⟩ := this ds hm
    exact h s' cs hcs
theorem eAll_ok {n k : Nat} {ps : List AQ} (hps : ∀ p ∈ ps, okA p) (hl : ps.length ≤ 200) {a0 a2 a3 a4 a5 a6 a7 a8 a9 a10 : Option SV} (h4 : O0 a4) (h5 : O0 a5) {P : Ck.R → Ck.Env → Prop}
    (h : ∀ m, P ⟨.fr, 1000, .lst (List.replicate m (.bl true))⟩ [a0, some (k + 1, .lst (ps.map aq)), a2, a3, a4, a5, a6, a7, a8, a9, a10]) :
    WE (evC G (n + 111)) eAll [a0, some (k + 1, .lst (ps.map aq)), a2, a3, a4, a5, a6, a7, a8, a9, a10] P := by
  unfold eAll
  have hws : ∀ t ∈ ps ++ ps.take 1, okA t := fun t ht => (List.mem_append.mp ht).elim (hps t) fun h => hps t (List.mem_of_mem_take h)
  refine comp_map (ps ++ ps.take 1) aq (fun _ => .bl true) (fun p => [a0, some (k + 1, .lst (ps.map aq)), a2, a3, some (0, p.1.toD), some (0, .lst (p.2.map rwD)), a6, a7, a8, a9, a10]) (fun _ _ => rfl) (by simp; omega) rfl (by rcases h4 with rfl | ⟨d, rfl⟩ <;> rcases h5 with rfl | ⟨d', rfl⟩ <;> rfl) (fun _ _ => rfl) (fun _ _ => by rcases h4 with rfl | ⟨d, rfl⟩ <;> rcases h5 with rfl | ⟨d', rfl⟩ <;> rfl) ?_ ?_ ?_
  · intro I hI
    refine wi_seq ?_
    have al : (ps.map aq).all (fun d => !d.isC) = true := by simp [aq, D.isC]
    repeat get_elem_tactic_trivial
    refine op_genM (d := .lst ((ps.take 1).map aq)) (by simp only [List.all_cons, List.all_nil, R.shal, D.shalD, al]; simp) rfl (by
      show sliceD (.lst (ps.map aq)) none (some 1) = _
      simp only [sliceD]
      rw [cutD_to (by decide), List.map_take]
      rfl) ?_
    repeat get_elem_tactic_trivial
    have al2 : ((ps.take 1).map aq).all (fun d => !d.isC) = true := by simp only [List.all_map, List.all_eq_true]; intro x _; rfl
    refine op_addL al al2 (by simp; omega) ?_
    rw [← List.map_append]
    repeat get_elem_tactic_trivial
    refine hI (.seq (.fix ((ps ++ ps.take 1).map aq))) ?_ fun i b hb => ?_
    · show some _ = _; rw [List.length_map]
    · show ((ps ++ ps.take 1).map aq)[i]? = _; rw [List.getElem?_map, hb]; rfl
  · intro p hp P' hP
    have hfl : p.1.toD.isC = false := rfl
    repeat get_elem_tactic_trivial
    refine right1 (hws p hp) ?_
    repeat get_elem_tactic_trivial
    exact hP
  · rw [show (ps ++ ps.take 1).map (fun _ => D.bl true) = List.replicate (ps ++ ps.take 1).length (.bl true) from by rw [List.map_const']]
    exact h _
theorem ev {zs : List Int} (hz : zs.length ≤ 63) : ∃ ps, Ck.evC G 112 27 [(0, Ck.scrD zs)] [] = .ok (0, .bl true) ps := by
  have key : CPS (evC G 112) 27 [(0, scrD zs)] [] fun r _ => r = (0, .bl true) := by
    refine w_body (n := 111) (f := 27) (np := 1) (ns := 11) (body := b_law) rfl rfl ?_
    rw [law_eq]
    show WB _ _ _ [some (0, scrD zs), none, none, none, none, none, none, none, none, none, none] _
    repeat get_elem_tactic_trivial
    refine f1_ok (n := 0) hz fun k ps o2 o3 o4 o5 o6 o7 o8 hps hl h5 => ?_
    repeat get_elem_tactic_trivial
    refine feed_ok g_feed (by omega) (by omega) fun s => ?_
    repeat get_elem_tactic_trivial
    refine many_ok g_many g_take rfl rfl fun x s1 hx => ?_
    have xf : x.toD.isC = false := rfl
    repeat get_elem_tactic_trivial
    refine eLast_ok (n := 0) hx fun s2 cs hcs => ?_
    repeat get_elem_tactic_trivial
    have ep : D.tup [x.toD, .lst (cs.map rwD)] = aq (x, cs) := rfl
    rw [ep]
    refine mut_appN (by rw [List.length_map, sizeLine_eq]; omega) ?_
    have em : ps.map aq ++ [aq (x, cs)] = (ps ++ [(x, cs)]).map aq := by rw [List.map_append]; rfl
    have en : min (k + 1) (depOf [((0, aq (x, cs)) : SV)]) = min k 999 + 1 := by
      show min (k + 1) 1000 = _
      omega
    rw [em, en]
    refine wb_cons (ws_ret (w_op (wl_cons ?_)))
    refine eAll_ok (n := 0) (k := min k 999) (ps := ps ++ [(x, cs)]) (fun p hp => ?_) (by simp; omega) (.inr ⟨_, rfl⟩) h5 fun m => ?_
    · rcases List.mem_append.mp hp with hp | hp
      · exact hps p hp
      · rw [List.mem_singleton] at hp
        rw [hp]
        exact ⟨hx.hpl, hcs⟩
    repeat get_elem_tactic_trivial
    refine op_all_rep ?_
    repeat get_elem_tactic_trivial
  obtain ⟨r, ps, h1, rfl⟩ := key
  exact ⟨ps, h1⟩
end Lw
set_option maxRecDepth 100000 in
set_option maxHeartbeats 0 in
theorem PySem.Challenge.cw_clockhouse_k06_steps_and_waits_holds : PySem.Challenge.rw_clockhouse_k06_steps_and_waits.Holds := by
  exact Lw.done (n := 112) (by decide) fun zs hz => Lw.ev hz

