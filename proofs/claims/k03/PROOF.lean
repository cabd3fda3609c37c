import PyProof.Rows.All
import PySem.Challenge.RW_countsandfloors_k03_rows_and_their_least
import HandS.ForMost
import HandS.ForExc
import KE.SortData
import KE.DataEq
import KE.DataMinMax
import HandS.Wide
import KE.KeyNested
import HandS.TupAny
import HandS.TupMul
import HandS.Style
import HandS.Flow
import HandS.IsInst
import HandS.Zip
import HandS.Iter
import PyProof.Draws
import HandS.TupSets
import HandS.SetFor
import HandS.TryMany
import HandS.ExcInit
import HandS.EndBits
import Wide.All
import OpenK.AllK
import Wide.FinOn
set_option linter.all false
/-! A small evaluator over data: simplified syntax of the defs, values without addresses for all that never changes, and a heap of what does. -/
namespace Ev
open PySem

/-- values. lst, dic, set: objects that nobody changes any more; ref: an object of the heap; fn: a def of the module; scr: the script itself -/
inductive D where
  | non | bl (b : Bool) | int (i : Int) | str (x : Str)
  | tup (ds : List D) | lst (ds : List D) | dic (ks vs : List D) | set (ds : List D)
  | ref (n : Nat) | fn (x : Nat) | scr (ns : List Int)
instance : Inhabited D := ⟨.non⟩

/-- what stands in the heap -/
inductive AO where
  | lst (ds : List D) | dic (ks vs : List D) | ins (c : Nat) (fs : List D)
abbrev AH := List AO
abbrev Env := List (Option D)

inductive Res (α : Type) where
  | ok (a : α) (h : AH) | exc (c : Nat) (fs : List D) (h : AH) | stk
def Res.bind {α β : Type} : Res α → (α → AH → Res β) → Res β
  | .ok a h, f => f a h
  | .exc c fs h, _ => .exc c fs h
  | .stk, _ => .stk
@[simp] theorem Res.bind_ok {α β : Type} (a : α) (h : AH) (f : α → AH → Res β) : (Res.ok a h).bind f = f a h := rfl
@[simp] theorem Res.bind_exc {α β : Type} (c : Nat) (fs) (h : AH) (f : α → AH → Res β) : (Res.exc c fs h : Res α).bind f = .exc c fs h := rfl
@[simp] theorem Res.bind_stk {α β : Type} (f : α → AH → Res β) : (Res.stk : Res α).bind f = .stk := rfl

inductive SRes where
  | nx (e : Env) (h : AH) | rt (d : D) (h : AH) | exc (c : Nat) (fs : List D) (e : Env) (h : AH) | stk
def Res.toS {α : Type} (e : Env) : Res α → (α → AH → SRes) → SRes
  | .ok a h, f => f a h
  | .exc c fs h, _ => .exc c fs e h
  | .stk, _ => .stk
@[simp] theorem Res.toS_ok {α : Type} (e : Env) (a : α) (h : AH) (f : α → AH → SRes) : (Res.ok a h).toS e f = f a h := rfl
@[simp] theorem Res.toS_exc {α : Type} (e : Env) (c : Nat) (fs) (h : AH) (f : α → AH → SRes) : (Res.exc c fs h : Res α).toS e f = .exc c fs e h := rfl
@[simp] theorem Res.toS_stk {α : Type} (e : Env) (f : α → AH → SRes) : (Res.stk : Res α).toS e f = .stk := rfl
def SRes.thn : SRes → (Env → AH → SRes) → SRes
  | .nx e h, f => f e h
  | r, _ => r
@[simp] theorem SRes.thn_nx (e : Env) (h : AH) (f) : (SRes.nx e h).thn f = f e h := rfl
@[simp] theorem SRes.thn_rt (d : D) (h : AH) (f) : (SRes.rt d h).thn f = .rt d h := rfl
@[simp] theorem SRes.thn_exc (c : Nat) (fs) (e : Env) (h : AH) (f) : (SRes.exc c fs e h).thn f = .exc c fs e h := rfl
@[simp] theorem SRes.thn_stk (f) : SRes.stk.thn f = .stk := rfl

/-! ### syntax -/
inductive Op where
  | add | sub | mul | fdv | mod | pow | eq | ne | lt | le | gt | ge | isn | nis | ist | isf | inn | nin
  deriving DecidableEq
inductive Bi where
  | len | all | any | sum | mn | mx | mn2 | mx2 | sorted | set | tup | lst | lstM | dct | abs | int | str
  deriving DecidableEq
inductive Ty where
  | int | bool | str | lst | tup
  deriving DecidableEq
inductive Me where
  | append | extend | pop | popAt | popK | join | split | index | items
  deriving DecidableEq
/-- targets of stores: a slot, some in a tuple -/
inductive T where
  | nm (i : Nat) | nil | cons (t u : T)
mutual
inductive E where
  | cst (d : D) | var (i : Nat) | gc (x : Nat)
  | tup (es : Es) | lst (es : Es) | mls (es : Es) | mdc
  | op (o : Op) (a b : E) | chn (o o' : Op) (a b c : E) | neg (a : E) | nt (a : E)
  | and (a b : E) | or (a b : E) | orv (a b : E) | ite (c a b : E)
  | idx (a i : E) | slc (a : E) (lo hi : Eo) | rpl (mu : Bool) (es : Es) (b : E)
  | call (f : Nat) (es : Es) | callv (f : E) (es : Es) | bi (b : Bi) (es : Es)
  | met (m : Me) (o : E) (es : Es) | isi (a : E) (ts : List Ty)
  | cmp (mu : Bool) (elt : E) (t : T) (it : It) (ifs : Es) (own : List Nat)
  | cmp2 (elt : E) (t : T) (it : It) (t2 : T) (it2 : It) (own own2 : List Nat)
  | attr (a : E) (f : Str) | ssrt (a : E) | slen (a : E)
inductive Es where
  | nil | cons (e : E) (es : Es)
inductive Eo where
  | no | so (e : E)
inductive It where
  | seq (e : E) | enm (e : E) | zip (a b : E) | rng (e : E) | itm (e : E)
end
/-- what an except suite hands on: a constant, or a pair of one and a field of the error -/
inductive E0 where
  | cst (d : D) | fld (d : D) (f : Nat)
inductive S0 where
  | asg (i : Nat) (e : E0) | ret (e : E0)
/-- except clauses: the class, the slot of its name, the suite -/
inductive Hs where
  | nil | cons (c : Nat) (i : Option Nat) (b : S0) (hs : Hs)
mutual
inductive S where
  | asg (t : T) (e : E) | par (i j : Nat) (a b : E) | set (o i e : E) | aug (i : Nat) (o : Op) (e : E)
  | exp (e : E) | ret (e : E) | retN | ite (c : E) (a b : Ss) | for (t : T) (it : It) (b : Ss) | whl (c : E) (b : Ss)
  | rse (c : Nat) (es : Es) | try (b : Ss) (hs : Hs) | pas
inductive Ss where
  | nil | cons (s : S) (ss : Ss)
end
end Ev

namespace Ev
open PySem PySem.W
open Classical

/-! ### values as data -/
mutual
def D.pur : D → Bool
  | .non | .bl _ | .int _ | .str _ => true
  | .tup ds => D.purs ds
  | .lst ds => D.purs ds
  | .dic _ _ | .set _ | .ref _ | .fn _ | .scr _ => false
def D.purs : List D → Bool
  | [] => true
  | d :: ds => d.pur && D.purs ds
end
mutual
def D.toP : D → PyData
  | .non => .none
  | .bl b => .bool b
  | .int i => .int i
  | .str x => .str x
  | .tup ds => .tuple (D.toPs ds)
  | .lst ds => .list (D.toPs ds)
  | .dic _ _ | .set _ | .ref _ | .fn _ | .scr _ => .none
def D.toPs : List D → List PyData
  | [] => []
  | d :: ds => d.toP :: D.toPs ds
end
mutual
def D.toK : D → NestedKey
  | .non => .none
  | .bl b => .num (if b then 1 else 0)
  | .int i => .num i
  | .str x => .text x
  | .tup ds => .tup (D.toKs ds)
  | _ => .none
def D.toKs : List D → List NestedKey
  | [] => []
  | d :: ds => d.toK :: D.toKs ds
end
mutual
/-- no lists within -/
def D.key : D → Bool
  | .non | .bl _ | .int _ | .str _ => true
  | .tup ds => D.keys ds
  | _ => false
def D.keys : List D → Bool
  | [] => true
  | d :: ds => d.key && D.keys ds
end
/-- how deep the stack may go for a built-in that looks at data -/
def deepest : Nat := 150
def Z : Nat := sizeLine

def seqOf (h : AH) : D → Option (List D)
  | .tup ds => some ds
  | .lst ds => some ds
  | .ref n => match h[n]? with
    | some (.lst ds) => some ds
    | _ => none
  | _ => none
def lstOf (h : AH) : D → Option (List D)
  | .lst ds => some ds
  | .ref n => match h[n]? with
    | some (.lst ds) => some ds
    | _ => none
  | _ => none
def dicOf (h : AH) : D → Option (List D × List D)
  | .dic ks vs => some (ks, vs)
  | .ref n => match h[n]? with
    | some (.dic ks vs) => some (ks, vs)
    | _ => none
  | _ => none
/-- a value as data, lists of the heap read -/
def resP (h : AH) (d : D) : Option PyData :=
  if d.pur = true then some d.toP else
  match d with
  | .ref n => match h[n]? with
    | some (.lst ds) => if D.purs ds = true then some (.list (D.toPs ds)) else none
    | _ => none
  | _ => none
def truD (h : AH) : D → Option Bool
  | .non => some false
  | .bl b => some b
  | .int i => some (i != 0)
  | .str x => if x.length ≤ Z then some (x.length != 0) else none
  | d => match seqOf h d with
    | some ds => some (!ds.isEmpty)
    | none => none

/-! ### dicts -/
def keyOk (k : D) : Prop := k.key = true ∧ k.toK.depth ≤ 8
def findK (ks : List D) (k : D) : Option Nat := ks.findIdx? fun x => decide (x.toK = k.toK)
def dget (ks vs : List D) (k : D) : Option D := (findK ks k).bind fun i => vs[i]?
def dputK (ks : List D) (k : D) : List D := match findK ks k with
  | some _ => ks
  | none => ks ++ [k]
def dputV (ks vs : List D) (k v : D) : List D := match findK ks k with
  | some i => vs.set i v
  | none => vs ++ [v]

/-! ### operators -/
noncomputable def eqD (h : AH) (x y : D) : Option Bool :=
  match resP h x, resP h y with
  | some p, some q => if min p.depth q.depth ≤ deepest then some (PyData.eqv p q) else none
  | _, _ => none
/-- all of one make, as the sort asks -/
noncomputable def alikes (ps : List PyData) : Prop := (∀ p ∈ ps, ∀ q ∈ ps, alike p q = true) ∧ ∀ p ∈ ps, p.depth ≤ deepest
noncomputable def ltD (x y : D) : Option Bool :=
  if x.pur = true ∧ y.pur = true ∧ x.toP ≠ .none ∧ alikes [x.toP, y.toP] then some (dataLt x.toP y.toP) else none
noncomputable def inD (h : AH) (x y : D) : Option Bool :=
  match x, y with
  | .str a, .str b => some (!(Builtin.Str.occurrences b a 0 b.length 1).isEmpty)
  | _, _ =>
    match dicOf h y with
    | some (ks, _) => if keyOk x then some (findK ks x).isSome else none
    | none =>
      match seqOf h y with
      | some ds => if x.pur = true ∧ D.purs ds = true ∧ x.toP.depth ≤ deepest then some ((D.toPs ds).any fun p => PyData.eqv p x.toP) else none
      | none => none
def catD (h : AH) (x y : D) : Option D :=
  match x, y with
  | .int i, .int j => some (.int (i + j))
  | .str a, .str b => if a.length + b.length ≤ Z then some (.str (a ++ b)) else none
  | .tup a, .tup b => if a.length + b.length ≤ Z then some (.tup (a ++ b)) else none
  | _, _ => match lstOf h x, lstOf h y with
    | some a, some b => if a.length + b.length ≤ Z then some (.lst (a ++ b)) else none
    | _, _ => none
noncomputable def mulD (h : AH) (x y : D) : Option D :=
  match x, y with
  | .int i, .int j => if IntMulOk i j then some (.int (i * j)) else none
  | .tup a, .int j => if a ≠ [] ∧ 0 ≤ j ∧ j < 1000 ∧ a.length ≤ 1000 then some (.tup (List.replicate j.toNat a).flatten) else none
  | _, _ => none
noncomputable def opD (o : Op) (x y : D) (h : AH) : Option D :=
  match o with
  | .add => catD h x y
  | .sub => match x, y with
    | .int i, .int j => some (.int (i - j))
    | _, _ => none
  | .mul => mulD h x y
  | .fdv => match x, y with
    | .int i, .int j => if 0 < j ∧ j.natAbs.log2 < 9000 then some (.int (i / j)) else none
    | _, _ => none
  | .mod => match x, y with
    | .int i, .int j => if 0 < j then some (.int (i % j)) else none
    | _, _ => none
  | .pow => match x, y with
    | .int i, .int j => if 0 ≤ j ∧ j ≤ 1000 ∧ i.natAbs < 2 ^ 64 then some (.int (i ^ j.toNat)) else none
    | _, _ => none
  | .eq => (eqD h x y).map .bl
  | .ne => (eqD h x y).map fun b => .bl (!b)
  | .lt => match x, y with
    | .int i, .int j => some (.bl (decide (i < j)))
    | _, _ => (ltD x y).map .bl
  | .le => match x, y with
    | .int i, .int j => some (.bl (decide (i ≤ j)))
    | _, _ => none
  | .gt => match x, y with
    | .int i, .int j => some (.bl (decide (j < i)))
    | _, _ => none
  | .ge => match x, y with
    | .int i, .int j => some (.bl (decide (j ≤ i)))
    | _, _ => none
  | .isn => match x with
    | .non => some (.bl true)
    | _ => some (.bl false)
  | .nis => match x with
    | .non => some (.bl false)
    | _ => some (.bl true)
  | .ist => match x with
    | .bl b => some (.bl b)
    | _ => some (.bl false)
  | .isf => match x with
    | .bl b => some (.bl (!b))
    | _ => some (.bl false)
  | .inn => (inD h x y).map .bl
  | .nin => (inD h x y).map fun b => .bl (!b)

/-! ### places, slices -/
noncomputable def idxQ (h : AH) (x i : D) : Option D :=
  match seqOf h x, i with
  | some ds, .int k => L2.atI ds k
  | _, _ => match dicOf h x with
    | some (ks, vs) => if decide (keyOk i) = true then dget ks vs i else none
    | none => none
noncomputable def idxD (h : AH) (x i : D) : Option D :=
  match x, i with
  | .str s, .int k => if s.length ≤ Z then (L2.atI s.cps.toList k).map fun c => .str ⟨#[c]⟩ else none
  | _, _ => idxQ h x i
def cutL {α : Type} (xs : List α) (lo hi : Option Int) : List α := (xs.drop (HT.sIx xs.length 0 lo)).take (HT.sIx xs.length xs.length hi - HT.sIx xs.length 0 lo)
def slcD (h : AH) (x : D) (lo hi : Option Int) : Option D :=
  match x with
  | .tup ds => some (.tup (cutL ds lo hi))
  | .scr ns => some (.lst (cutL (ns.map D.int) lo hi))
  | _ => match lstOf h x with
    | some ds => some (.lst (cutL ds lo hi))
    | none => none

/-! ### built-ins -/
noncomputable def okSort (ds : List D) : Prop := D.purs ds = true ∧ alikes (D.toPs ds) ∧ ds.length ≤ Z ∧ ∀ d ∈ ds, d.toP ≠ .none
noncomputable def sortL (ds : List D) : List D := ds.mergeSort (dataLe false D.toP)
/-- without those that equal an earlier one -/
def dedup : List D → List D
  | [] => []
  | d :: ds => d :: (dedup ds).filter fun x => !decide (x.toK = d.toK)
def intsD : List D → Option (List Int)
  | [] => some []
  | .int i :: ds => (intsD ds).map (i :: ·)
  | _ :: _ => none
def isTupD : D → Bool
  | .tup _ => true
  | _ => false
/-- members of a set: tuples that keys are made of, told apart by their keys -/
def okSet (ds : List D) : Prop := (∀ d ∈ ds, isTupD d = true ∧ keyOk d) ∧ ds.length < 64 ∧ ∀ d ∈ ds, ∀ d' ∈ ds, d.toK = d'.toK → d = d'
/-- sorted(set(x)) -/
noncomputable def ssrtD (h : AH) (x : D) : Option D := match seqOf h x with
  | some ds => if okSet ds ∧ okSort ds ∧ (∀ l : List D, l.Perm (dedup ds) → sortL l = sortL (dedup ds)) then some (.lst (sortL (dedup ds))) else none
  | none => none
/-- len(set(x)) -/
noncomputable def slenD (h : AH) (x : D) : Option D := match seqOf h x with
  | some ds => if okSet ds then some (.int (dedup ds).length) else
    match lstOf h x, intsD ds with
    | some _, some is => if is.length ≤ 4000 then some (.int (dedup ds).length) else none
    | _, _ => none
  | none => none
/-- what a built-in walks: a list, a tuple, the keys of a dict, the members of a set -/
def walkOf (h : AH) (d : D) : Option (List D) :=
  match seqOf h d with
  | some ds => some ds
  | none => match dicOf h d with
    | some (ks, _) => some ks
    | none => none
def boolsD : List D → Option (List Bool)
  | [] => some []
  | .bl b :: ds => (boolsD ds).map (b :: ·)
  | _ :: _ => none
def strsD : List D → Option (List Str)
  | [] => some []
  | .str b :: ds => (strsD ds).map (b :: ·)
  | _ :: _ => none
noncomputable def biD (b : Bi) (as : List D) (h : AH) : Res D :=
  match b, as with
  | .len, [x] => match x with
    | .str s => if s.length ≤ Z then .ok (.int s.length) h else .stk
    | .set ds => .ok (.int ds.length) h
    | _ => match walkOf h x with
      | some ds => .ok (.int ds.length) h
      | none => .stk
  | .all, [x] => match (lstOf h x).bind boolsD with
    | some bs => .ok (.bl (bs.all id)) h
    | none => .stk
  | .any, [x] => match (lstOf h x).bind boolsD with
    | some bs => .ok (.bl (bs.any id)) h
    | none => .stk
  | .sum, [x] => match (lstOf h x).bind intsD with
    | some is => .ok (.int is.sum) h
    | none => .stk
  | .mn, [x] => match (lstOf h x).bind intsD with
    | some (i :: is) => .ok (.int (is.foldl min i)) h
    | _ => .stk
  | .mx, [x] => match (lstOf h x).bind intsD with
    | some (i :: is) => .ok (.int (is.foldl max i)) h
    | _ => .stk
  | .mn2, [.int i, .int j] => .ok (.int (if j < i then j else i)) h
  | .mx2, [.int i, .int j] => .ok (.int (if j > i then j else i)) h
  | .sorted, [x] => match (match x with | .set ds => some ds | _ => lstOf h x) with
    | some ds => if okSort ds then .ok (.lst (sortL ds)) h else .stk
    | none => .stk
  | .set, [x] => match walkOf h x with
    | some ds => if (∀ d ∈ ds, keyOk d) ∧ ds.length ≤ Z then .ok (.set (dedup ds)) h else .stk
    | none => .stk
  | .tup, [x] => match seqOf h x with
    | some ds => .ok (.tup ds) h
    | none => .stk
  | .lst, [x] => match seqOf h x with
    | some ds => .ok (.lst ds) h
    | none => .stk
  | .lstM, [x] => match seqOf h x with
    | some ds => .ok (.ref h.length) (h ++ [.lst ds])
    | none => .stk
  | .abs, [.int i] => .ok (.int (if i < 0 then -i else i)) h
  | .int, [.int i] => .ok (.int i) h
  | .int, [.bl b] => .ok (.int (if b then 1 else 0)) h
  | _, _ => .stk

noncomputable def metD (m : Me) (o : D) (as : List D) (h : AH) : Res D :=
  match m, o, as with
  | .append, .ref n, [x] => match h[n]? with
    | some (.lst ds) => if ds.length < Z then .ok .non (h.set n (.lst (ds ++ [x]))) else .stk
    | _ => .stk
  | .extend, .ref n, [x] => match h[n]?, lstOf h x with
    | some (.lst ds), some es => if ds.length + es.length ≤ Z then .ok .non (h.set n (.lst (ds ++ es))) else .stk
    | _, _ => .stk
  | .pop, .ref n, [] => match h[n]? with
    | some (.lst ds) => match ds[ds.length - 1]? with
      | some y => .ok y (h.set n (.lst ds.dropLast))
      | none => .stk
    | _ => .stk
  | .popAt, .ref n, [.int i] => match h[n]? with
    | some (.lst ds) => if 0 ≤ i ∧ i < 1000000 then (match ds[i.toNat]? with
      | some y => .ok y (h.set n (.lst (ds.eraseIdx i.toNat)))
      | none => .stk) else .stk
    | _ => .stk
  | _, _, _ => .stk
/-- what a method is called on -/
def metOk (m : Me) (h : AH) (o : D) : Bool :=
  match m, o with
  | .append, .ref n | .extend, .ref n | .pop, .ref n | .popAt, .ref n => match h[n]? with
    | some (.lst _) => true
    | _ => false
  | _, _ => false
def tyD (t : Ty) (h : AH) (d : D) : Option Bool :=
  match d with
  | .non => some false
  | .bl _ => some (decide (t = .bool ∨ t = .int))
  | .int _ => some (decide (t = .int))
  | .str _ => some (decide (t = .str))
  | .tup _ => some (decide (t = .tup))
  | .lst _ => some (decide (t = .lst))
  | .ref n => match h[n]? with
    | some (.lst _) => some (decide (t = .lst))
    | _ => none
  | _ => none
def isiD (ts : List Ty) (h : AH) (d : D) : Option Bool :=
  match ts with
  | [] => some false
  | t :: r => (tyD t h d).bind fun b => if b then some true else isiD r h d

/-! ### stores -/
def Env.wipe (e : Env) : List Nat → Env
  | [] => e
  | v :: vs => (Env.wipe e vs).set v none
mutual
/-- a value into a target -/
def T.put : T → D → Env → Option Env
  | .nm i, d, e => some (e.set i (some d))
  | .nil, d, e => match d with
    | .tup [] => some e
    | _ => none
  | .cons t u, d, e => match d with
    | .tup (x :: xs) => (t.put x e).bind fun e => u.put (.tup xs) e
    | _ => none
end
noncomputable def setD (h : AH) (o i v : D) : Option AH :=
  match o with
  | .ref n => match h[n]?, i with
    | some (.lst ds), .int k => (L2.ixN ds.length k).map fun j => h.set n (.lst (ds.set j v))
    | some (.dic ks vs), k => if decide (keyOk k) = true ∧ ks.length < Z then some (h.set n (.dic (dputK ks k) (dputV ks vs k v))) else none
    | _, _ => none
  | _ => none

/-! ### the evaluator -/
abbrev Orc := Nat → List D → AH → Res D
/-- what a loop walks: the items, the objects of the heap that must stay as they are -/
structure Wk where
  items : List D
  dep : List Nat
def depOf : D → List Nat
  | .ref n => [n]
  | _ => []
def isTup : D → Bool
  | .tup _ => true
  | _ => false
def enumL (k : Nat) : List D → List D
  | [] => []
  | d :: ds => .tup [.int k, d] :: enumL (k + 1) ds
def zipL : List D → List D → List D
  | a :: as, b :: bs => .tup [a, b] :: zipL as bs
  | _, _ => []
def stays (dep : List Nat) (h h' : AH) : Prop := ∀ n ∈ dep, h'[n]? = h[n]?
/-- a comprehension's turns -/
noncomputable def compL (dep : List Nat) (h0 : AH) (turn : D → AH → Res (Option D)) : List D → List D → AH → Res (List D)
  | [], acc, h => if stays dep h0 h then .ok acc h else .stk
  | x :: xs, acc, h => if stays dep h0 h then (match turn x h with
      | .ok none h => compL dep h0 turn xs acc h
      | .ok (some y) h => if acc.length < Z then compL dep h0 turn xs (acc ++ [y]) h else .stk
      | _ => .stk) else .stk
/-- .. where a turn gives some -/
noncomputable def compLL (dep : List Nat) (h0 : AH) (turn : D → List D → AH → Res (List D)) : List D → List D → AH → Res (List D)
  | [], acc, h => if stays dep h0 h then .ok acc h else .stk
  | x :: xs, acc, h => if stays dep h0 h then (match turn x acc h with
      | .ok acc h => compLL dep h0 turn xs acc h
      | _ => .stk) else .stk
noncomputable def forL (dep : List Nat) (h0 : AH) (put : D → Env → Option Env) (body : Env → AH → SRes) : List D → Env → AH → SRes
  | [], e, h => if stays dep h0 h then .nx e h else .stk
  | x :: xs, e, h => if stays dep h0 h then (match put x e with
      | some e => (body e h).thn fun e h => forL dep h0 put body xs e h
      | none => .stk) else .stk
/-- n turns of a while loop at most -/
def itW (c : Env → AH → Res D) (body : Env → AH → SRes) : Nat → Env → AH → Option SRes
  | 0, _, _ => none
  | n + 1, e, h => match c e h with
    | .ok (.bl true) h => match body e h with
      | .nx e h => itW c body n e h
      | r => some r
    | .ok (.bl false) h => some (.nx e h)
    | .exc k fs h => some (.exc k fs e h)
    | _ => some .stk
noncomputable def evW (c : Env → AH → Res D) (body : Env → AH → SRes) (e : Env) (h : AH) : SRes :=
  if q : ∃ n r, itW c body n e h = some r then q.choose_spec.choose else .stk

def optR {α : Type} (h : AH) : Option α → Res α
  | some a => .ok a h
  | none => .stk
@[simp] theorem optR_some {α : Type} (h : AH) (a : α) : optR h (some a) = .ok a h := rfl
@[simp] theorem optR_none {α : Type} (h : AH) : optR h (none : Option α) = .stk := rfl
def boolR (x : D) (f : Bool → Res D) : Res D := match x with
  | .bl b => f b
  | _ => .stk
@[simp] theorem boolR_bl (b : Bool) (f) : boolR (.bl b) f = f b := rfl

/-- the module: constants, the errors' fields -/
structure Mo where
  gc : Nat → Option D
  ex : Nat → Option Nat

section
variable (M : Mo) (C : Orc)
mutual
noncomputable def evE : E → Env → AH → Res D
  | .cst d, _, h => .ok d h
  | .var i, e, h => match e[i]? with
    | some (some d) => .ok d h
    | _ => .stk
  | .gc x, _, h => optR h (M.gc x)
  | .tup es, e, h => (evEs es e h).bind fun ds h => if ds.length ≤ Z then .ok (.tup ds) h else .stk
  | .lst es, e, h => (evEs es e h).bind fun ds h => if ds.length ≤ Z then .ok (.lst ds) h else .stk
  | .mls es, e, h => (evEs es e h).bind fun ds h => if ds.length ≤ Z then .ok (.ref h.length) (h ++ [.lst ds]) else .stk
  | .mdc, _, h => .ok (.ref h.length) (h ++ [.dic [] []])
  | .op o a b, e, h => (evE a e h).bind fun x h => (evE b e h).bind fun y h => optR h (opD o x y h)
  | .chn o o' a b c, e, h => (evE a e h).bind fun x h => (evE b e h).bind fun y h => (optR h (opD o x y h)).bind fun z h =>
      boolR z fun k => if k then (evE c e h).bind fun z h => optR h (opD o' y z h) else .ok (.bl false) h
  | .neg a, e, h => (evE a e h).bind fun x h => match x with
    | .int i => .ok (.int (-i)) h
    | _ => .stk
  | .nt a, e, h => (evE a e h).bind fun x h => boolR x fun b => .ok (.bl (!b)) h
  | .and a b, e, h => (evE a e h).bind fun x h => boolR x fun k => if k then (evE b e h).bind fun y h => boolR y fun k => .ok (.bl k) h else .ok (.bl false) h
  | .or a b, e, h => (evE a e h).bind fun x h => boolR x fun k => if k then .ok (.bl true) h else (evE b e h).bind fun y h => boolR y fun k => .ok (.bl k) h
  | .orv a b, e, h => (evE a e h).bind fun x h => match truD h x with
    | some true => .ok x h
    | some false => evE b e h
    | none => .stk
  | .ite c a b, e, h => (evE c e h).bind fun x h => boolR x fun k => if k then evE a e h else evE b e h
  | .idx a i, e, h => (evE a e h).bind fun x h => (evE i e h).bind fun y h => optR h (idxD h x y)
  | .slc a lo hi, e, h => (evE a e h).bind fun x h => (evO lo e h).bind fun l h => (evO hi e h).bind fun u h => optR h (slcD h x l u)
  | .rpl mu es b, e, h => (evEs es e h).bind fun ds h => if ds.length ≤ 1000 then (evE b e h).bind fun y h => match y with
    | .int j => if 0 ≤ j ∧ j ≤ 1000 then
        (if mu then .ok (.ref h.length) (h ++ [.lst (List.replicate j.toNat ds).flatten]) else .ok (.lst (List.replicate j.toNat ds).flatten) h) else .stk
    | _ => .stk
    else .stk
  | .call f es, e, h => (evEs es e h).bind fun ds h => C f ds h
  | .callv f es, e, h => (evE f e h).bind fun x h => match x with
    | .fn f => (evEs es e h).bind fun ds h => C f ds h
    | _ => .stk
  | .bi b es, e, h => (evEs es e h).bind fun ds h => biD b ds h
  | .met m o es, e, h => (evE o e h).bind fun x h => if metOk m h x then (evEs es e h).bind fun ds h => metD m x ds h else .stk
  | .isi a ts, e, h => (evE a e h).bind fun x h => optR h ((isiD ts h x).map .bl)
  | .cmp mu elt t it ifs own, e, h => (evIt it e h).bind fun w h =>
      (compL w.dep h (fun x h => match t.put x (e.wipe own) with
        | some e => (evIf ifs e h).bind fun k h => if k then (evE elt e h).bind fun y h => .ok (some y) h else .ok none h
        | none => .stk) w.items [] h).bind fun ds h => if mu then .ok (.ref h.length) (h ++ [.lst ds]) else .ok (.lst ds) h
  | .cmp2 elt t it t2 it2 own own2, e, h => (evIt it e h).bind fun w h =>
      (compLL w.dep h (fun x acc h => match t.put x (e.wipe own) with
        | some e => (evIt it2 e h).bind fun w2 h => compLL w2.dep h (fun x acc h => match t2.put x (e.wipe own2) with
          | some e => (evE elt e h).bind fun y h => if acc.length < Z then .ok (acc ++ [y]) h else .stk
          | none => .stk) w2.items acc h
        | none => .stk) w.items [] h).bind fun ds h => .ok (.lst ds) h
  | .attr _ _, _, _ => .stk
  | .ssrt a, e, h => (evE a e h).bind fun x h => optR h (ssrtD h x)
  | .slen a, e, h => (evE a e h).bind fun x h => optR h (slenD h x)
noncomputable def evEs : Es → Env → AH → Res (List D)
  | .nil, _, h => .ok [] h
  | .cons a as, e, h => (evE a e h).bind fun d h => (evEs as e h).bind fun ds h => .ok (d :: ds) h
/-- the tests of a comprehension -/
noncomputable def evIf : Es → Env → AH → Res Bool
  | .nil, _, h => .ok true h
  | .cons a as, e, h => (evE a e h).bind fun d h => match d with
    | .bl true => evIf as e h
    | .bl false => .ok false h
    | _ => .stk
noncomputable def evO : Eo → Env → AH → Res (Option Int)
  | .no, _, h => .ok none h
  | .so a, e, h => (evE a e h).bind fun d h => match d with
    | .int i => .ok (some i) h
    | _ => .stk
noncomputable def evIt : It → Env → AH → Res Wk
  | .seq a, e, h => (evE a e h).bind fun x h => match walkOf h x with
    | some ds => .ok ⟨ds, depOf x⟩ h
    | none => .stk
  | .enm a, e, h => (evE a e h).bind fun x h => match seqOf h x with
    | some ds => .ok ⟨enumL 0 ds, depOf x⟩ h
    | none => .stk
  | .zip a b, e, h => (evE a e h).bind fun x h => (evE b e h).bind fun y h => match seqOf h x, seqOf h y with
    | some ds, some es => if isTup x = isTup y then .ok ⟨zipL ds es, depOf x ++ depOf y⟩ h else .stk
    | _, _ => .stk
  | .rng a, e, h => (evE a e h).bind fun x h => match x with
    | .int n => if n < 2 ^ 62 ∧ -(2 ^ 62) ≤ n then .ok ⟨(List.range n.toNat).map fun (k : Nat) => D.int k, []⟩ h else .stk
    | _ => .stk
  | .itm a, e, h => (evE a e h).bind fun x h => match dicOf h x with
    | some (ks, vs) => .ok ⟨zipL ks vs, depOf x⟩ h
    | none => .stk
end
def ev0 (fs : List D) : E0 → Option D
  | .cst d => some d
  | .fld d f => fs[f]?.map fun v => .tup [d, v]
def drop0 (e : Env) : Option Nat → Env
  | none => e
  | some i => e.set i none
def evS0 (fs : List D) (i : Option Nat) (e : Env) (h : AH) : S0 → SRes
  | .asg j a => match ev0 fs a with
    | some d => .nx (drop0 (e.set j (some d)) i) h
    | none => .stk
  | .ret a => match ev0 fs a with
    | some d => .rt d h
    | none => .stk
def evHs : Hs → Nat → List D → Env → AH → SRes
  | .nil, c, fs, e, h => .exc c fs e h
  | .cons c' i b hs, c, fs, e, h => if c' = c then evS0 fs i e h b else evHs hs c fs e h
mutual
noncomputable def evS : S → Env → AH → SRes
  | .asg t a, e, h => (evE M C a e h).toS e fun x h => match t.put x e with
    | some e => .nx e h
    | none => .stk
  | .par i j a b, e, h => (evE M C a e h).toS e fun x h => (evE M C b e h).toS e fun y h => .nx ((e.set i (some x)).set j (some y)) h
  | .set o i a, e, h => (evE M C a e h).toS e fun v h => (evE M C o e h).toS e fun o h => (evE M C i e h).toS e fun i h => match setD h o i v with
    | some h => .nx e h
    | none => .stk
  | .aug i o a, e, h => match e[i]? with
    | some (some x) => (evE M C a e h).toS e fun y h => match opD o x y h with
      | some z => .nx (e.set i (some z)) h
      | none => .stk
    | _ => .stk
  | .exp a, e, h => (evE M C a e h).toS e fun _ h => .nx e h
  | .ret a, e, h => (evE M C a e h).toS e fun x h => .rt x h
  | .retN, _, h => .rt .non h
  | .ite c a b, e, h => (evE M C c e h).toS e fun x h => match x with
    | .bl true => evSs a e h
    | .bl false => evSs b e h
    | _ => .stk
  | .for t it b, e, h => (evIt M C it e h).toS e fun w h => forL w.dep h t.put (evSs b) w.items e h
  | .whl c b, e, h => evW (evE M C c) (evSs b) e h
  | .rse c es, e, h => match M.ex c with
    | some n => (evEs M C es e h).toS e fun ds h => if ds.length = n then .exc c ds e h else .stk
    | none => .stk
  | .try b hs, e, h => match evSs b e h with
    | .exc c fs e h => evHs hs c fs e h
    | r => r
  | .pas, e, h => .nx e h
noncomputable def evSs : Ss → Env → AH → SRes
  | .nil, e, h => .nx e h
  | .cons s ss, e, h => (evS s e h).thn fun e h => evSs ss e h
end
end

/-! ### calls: what is made within is let go at the end, but for what comes back -/
mutual
/-- refs below n alone -/
def D.wf (n : Nat) : D → Bool
  | .tup ds => D.wfs n ds
  | .lst ds => D.wfs n ds
  | .dic ks vs => D.wfs n ks && D.wfs n vs
  | .set ds => D.wfs n ds
  | .ref m => decide (m < n)
  | _ => true
def D.wfs (n : Nat) : List D → Bool
  | [] => true
  | d :: ds => d.wf n && D.wfs n ds
end
def AO.wf (n : Nat) : AO → Bool
  | .lst ds => D.wfs n ds
  | .dic ks vs => D.wfs n ks && D.wfs n vs
  | .ins _ fs => D.wfs n fs
def wfH (n : Nat) (h : AH) : Bool := h.all (AO.wf n)
mutual
/-- refs replaced -/
def D.mapR (g : Nat → Option D) : D → Option D
  | .tup ds => (D.mapRs g ds).map .tup
  | .lst ds => (D.mapRs g ds).map .lst
  | .dic ks vs => (D.mapRs g ks).bind fun ks => (D.mapRs g vs).map fun vs => .dic ks vs
  | .ref m => g m
  | d => some d
def D.mapRs (g : Nat → Option D) : List D → Option (List D)
  | [] => some []
  | d :: ds => (D.mapR g d).bind fun d => (D.mapRs g ds).map fun ds => d :: ds
end
/-- what stands at a new place, by value -/
def frz (h : AH) (n0 : Nat) : Nat → D → Option D
  | 0, d => d.mapR fun m => if m < n0 then some (.ref m) else none
  | k + 1, d => d.mapR fun m => if m < n0 then some (.ref m) else match h[m]? with
    | some (.lst ds) => (ds.mapM (frz h n0 k)).map .lst
    | some (.dic ks vs) => (ks.mapM (frz h n0 k)).bind fun ks => (vs.mapM (frz h n0 k)).map fun vs => .dic ks vs
    | _ => none
structure Fd where
  ps : Nat
  slots : Nat
  frz : Bool
  body : Ss
abbrev Tb := Nat → Option Fd
noncomputable def cut (h0 h : AH) : Option AH := if h.take h0.length = h0 ∨ wfH h0.length (h.take h0.length) = true then some (h.take h0.length) else none
noncomputable def clo (fr : Bool) (h0 : AH) (d : D) (h : AH) : Res D :=
  if fr then match frz h h0.length 3 d, cut h0 h with
    | some d, some h => .ok d h
    | _, _ => .stk
  else .ok d h
noncomputable def fin (fr : Bool) (h0 : AH) : SRes → Res D
  | .rt d h => clo fr h0 d h
  | .nx _ h => clo fr h0 .non h
  | .exc c fs _ h => if fr then match cut h0 h with
    | some h => if D.wfs h0.length fs = true then .exc c fs h else .stk
    | none => .stk
    else .exc c fs h
  | .stk => .stk
def start (n : Nat) (ds : List D) : Env := ds.map some ++ List.replicate (n - ds.length) none
noncomputable def callN (M : Mo) (B : Tb) : Nat → Orc
  | 0, _, _, _ => .stk
  | k + 1, f, ds, h => match B f with
    | some fd => if ds.length = fd.ps then fin fd.frz h (evSs M (callN M B k) fd.body (start fd.slots ds) h) else .stk
    | none => .stk
end Ev

/-! The values and the heap of the evaluator against the hand layer's. -/
namespace Ev
open PySem PySem.Spec PyProof.Rows L2

/-- where the objects of the heap lie; what is hidden from all values (a list that a comprehension fills) -/
structure Phi where
  m : Nat → Option Addr
  hid : Addr → Prop
instance : CoeFun Phi (fun _ => Nat → Option Addr) := ⟨Phi.m⟩
def Off (φ : Phi) (a : Addr) : Prop := (∀ n, φ n ≠ some a) ∧ ¬ φ.hid a

/-- what does not change: the fixed data of a proof -/
structure Gl0 where
  K : PySem.W.Frag
  fa : Nat → Option Addr
  ea : Nat → Option Addr
  ef : Nat → Str

def TupAt (G : Gl0) (φ : Phi) (H : Hp) (a : Addr) (xs : List V) : Prop := (Rd H a (.tup xs) ∧ Off φ a) ∨
  ∃ (o : Obj) (its : Array Value) (n : Nat), G.K.lookup a = some o ∧ o.cls = .type "tuple" ∧ o.data = .seq its n ∧ its.size ≤ sizeLine ∧ Vals xs its.toList
def LstAt (φ : Phi) (H : Hp) (a : Addr) (xs : List V) : Prop := H a = some (.lst xs) ∧ Off φ a
/-- the script's list, or one of the module's -/
def ScrAt (G : Gl0) (φ : Phi) (H : Hp) (a : Addr) (xs : List V) : Prop := (Rd H a (.lst xs) ∧ Off φ a) ∨
  ∃ (o : Obj) (its : Array Value) (n : Nat), G.K.lookup a = some o ∧ o.cls = .type "list" ∧ o.dict = none ∧ o.data = .seq its n ∧ its.size ≤ sizeLine ∧ Vals xs its.toList
theorem TupAt.sq {G : Gl0} {φ : Phi} {H : Hp} {a : Addr} {xs : List V} (h : TupAt G φ H a xs) : SqT G.K H a xs := h.elim (fun x => .inl x.1) .inr
theorem LstAt.sq {G : Gl0} {φ : Phi} {H : Hp} {a : Addr} {xs : List V} (h : LstAt φ H a xs) : SqL G.K H a xs := .inl (.inl h.1)
theorem ScrAt.sq {G : Gl0} {φ : Phi} {H : Hp} {a : Addr} {xs : List V} (h : ScrAt G φ H a xs) : SqL G.K H a xs := h.elim (fun x => .inl x.1) .inr

mutual
inductive RD (G : Gl0) (φ : Phi) (H : Hp) : D → V → Prop
  | non : RD G φ H .non .non
  | bl (b : Bool) : RD G φ H (.bl b) (.bl b)
  | int (i : Int) : RD G φ H (.int i) (.int i)
  | str (x : Str) : RD G φ H (.str x) (.str x)
  | tup {ds : List D} {xs : List V} {a : Addr} : TupAt G φ H a xs → RDs G φ H ds xs → RD G φ H (.tup ds) (.ref a)
  | lst {ds : List D} {xs : List V} {a : Addr} : LstAt φ H a xs → RDs G φ H ds xs → RD G φ H (.lst ds) (.ref a)
  | ref {n : Nat} {a : Addr} : φ n = some a → RD G φ H (.ref n) (.ref a)
  | fn {x : Nat} {a : Addr} : G.fa x = some a → RD G φ H (.fn x) (.ref a)
  | scr {ns : List Int} {a : Addr} : ScrAt G φ H a (ns.map V.int) → RD G φ H (.scr ns) (.ref a)
inductive RDs (G : Gl0) (φ : Phi) (H : Hp) : List D → List V → Prop
  | nil : RDs G φ H [] []
  | cons {d : D} {v : V} {ds : List D} {vs : List V} : RD G φ H d v → RDs G φ H ds vs → RDs G φ H (d :: ds) (v :: vs)
end

/-- what values ask of a later state -/
structure Ext0 (φ : Phi) (H : Hp) (φ' : Phi) (H' : Hp) : Prop where
  dom : ∀ n a, φ n = some a → φ' n = some a
  keep : ∀ a o, H a = some o → Off φ a → H' a = some o ∧ Off φ' a
/-- from one state to a later one -/
structure Ext (φ : Phi) (H : Hp) (φ' : Phi) (H' : Hp) : Prop where
  dom : ∀ n a, φ n = some a → φ' n = some a
  keep : ∀ a o, H a = some o → Off φ a → H' a = some o ∧ Off φ' a
  hid : ∀ a, φ.hid a → φ'.hid a ∧ H' a = H a
theorem Ext.z {φ φ' : Phi} {H H' : Hp} (e : Ext φ H φ' H') : Ext0 φ H φ' H' := ⟨e.dom, e.keep⟩
theorem Ext0.trans {φ φ1 φ2 : Phi} {H H1 H2 : Hp} (a : Ext0 φ H φ1 H1) (b : Ext0 φ1 H1 φ2 H2) : Ext0 φ H φ2 H2 :=
  ⟨fun n x h => b.dom n x (a.dom n x h), fun x o h f => let ⟨h1, f1⟩ := a.keep x o h f; b.keep x o h1 f1⟩
theorem Ext.refl (φ : Phi) (H : Hp) : Ext φ H φ H := ⟨fun _ _ h => h, fun _ _ h o => ⟨h, o⟩, fun _ h => ⟨h, rfl⟩⟩
theorem Ext.trans {φ φ1 φ2 : Phi} {H H1 H2 : Hp} (a : Ext φ H φ1 H1) (b : Ext φ1 H1 φ2 H2) : Ext φ H φ2 H2 :=
  ⟨fun n x h => b.dom n x (a.dom n x h), fun x o h f => let ⟨h1, f1⟩ := a.keep x o h f; b.keep x o h1 f1,
    fun x h => let ⟨h1, e1⟩ := a.hid x h; let ⟨h2, e2⟩ := b.hid x h1; ⟨h2, e2.trans e1⟩⟩
section
variable {G : Gl0} {φ φ' : Phi} {H H' : Hp}
theorem TupAt.ext0 {a : Addr} {xs : List V} (h : TupAt G φ H a xs) (e : Ext0 φ H φ' H') : TupAt G φ' H' a xs := by
  rcases h with ⟨h, f⟩ | h
  · rcases h with h | ⟨o, h⟩
    · obtain ⟨h1, f1⟩ := e.keep _ _ h f; exact .inl ⟨.inl h1, f1⟩
    · obtain ⟨h1, f1⟩ := e.keep _ _ h f; exact .inl ⟨.inr ⟨o, h1⟩, f1⟩
  · exact .inr h
theorem LstAt.ext0 {a : Addr} {xs : List V} (h : LstAt φ H a xs) (e : Ext0 φ H φ' H') : LstAt φ' H' a xs := e.keep _ _ h.1 h.2
theorem ScrAt.ext0 {a : Addr} {xs : List V} (h : ScrAt G φ H a xs) (e : Ext0 φ H φ' H') : ScrAt G φ' H' a xs := by
  rcases h with ⟨h, f⟩ | h
  · rcases h with h | ⟨o, h⟩
    · obtain ⟨h1, f1⟩ := e.keep _ _ h f; exact .inl ⟨.inl h1, f1⟩
    · obtain ⟨h1, f1⟩ := e.keep _ _ h f; exact .inl ⟨.inr ⟨o, h1⟩, f1⟩
  · exact .inr h
mutual
theorem RD.ext0 {d : D} {v : V} (e : Ext0 φ H φ' H') : RD G φ H d v → RD G φ' H' d v
  | .non => .non
  | .bl b => .bl b
  | .int i => .int i
  | .str x => .str x
  | .tup h r => .tup (h.ext0 e) (RDs.ext0 e r)
  | .lst h r => .lst (h.ext0 e) (RDs.ext0 e r)
  | .ref h => .ref (e.dom _ _ h)
  | .fn h => .fn h
  | .scr h => .scr (h.ext0 e)
theorem RDs.ext0 {ds : List D} {vs : List V} (e : Ext0 φ H φ' H') : RDs G φ H ds vs → RDs G φ' H' ds vs
  | .nil => .nil
  | .cons h r => .cons (RD.ext0 e h) (RDs.ext0 e r)
end
theorem TupAt.ext {a : Addr} {xs : List V} (h : TupAt G φ H a xs) (e : Ext φ H φ' H') : TupAt G φ' H' a xs := h.ext0 e.z
theorem LstAt.ext {a : Addr} {xs : List V} (h : LstAt φ H a xs) (e : Ext φ H φ' H') : LstAt φ' H' a xs := h.ext0 e.z
theorem ScrAt.ext {a : Addr} {xs : List V} (h : ScrAt G φ H a xs) (e : Ext φ H φ' H') : ScrAt G φ' H' a xs := h.ext0 e.z
theorem RD.ext {d : D} {v : V} (e : Ext φ H φ' H') (h : RD G φ H d v) : RD G φ' H' d v := RD.ext0 e.z h
theorem RDs.ext {ds : List D} {vs : List V} (e : Ext φ H φ' H') (h : RDs G φ H ds vs) : RDs G φ' H' ds vs := RDs.ext0 e.z h
theorem RDs.length {ds : List D} {vs : List V} : RDs G φ H ds vs → ds.length = vs.length
  | .nil => rfl
  | .cons _ r => by simp [RDs.length r]
theorem RDs.append {ds ds' : List D} {vs vs' : List V} : RDs G φ H ds vs → RDs G φ H ds' vs' → RDs G φ H (ds ++ ds') (vs ++ vs')
  | .nil, r => r
  | .cons h r, r' => .cons h (RDs.append r r')
theorem RDs.get {ds : List D} {vs : List V} : RDs G φ H ds vs → ∀ {i : Nat} {d : D}, ds[i]? = some d → ∃ v, vs[i]? = some v ∧ RD G φ H d v
  | .nil, i, d, h => by simp at h
  | .cons h r, 0, d, e => by simp at e; subst e; exact ⟨_, rfl, h⟩
  | .cons h r, i + 1, d, e => by simpa using RDs.get r (by simpa using e)
theorem RDs.get' {ds : List D} {vs : List V} : RDs G φ H ds vs → ∀ {i : Nat} {v : V}, vs[i]? = some v → ∃ d, ds[i]? = some d ∧ RD G φ H d v
  | .nil, i, d, h => by simp at h
  | .cons h r, 0, d, e => by simp at e; subst e; exact ⟨_, rfl, h⟩
  | .cons h r, i + 1, d, e => by simpa using RDs.get' r (by simpa using e)
theorem RDs.set {ds : List D} {vs : List V} {d : D} {v : V} (x : RD G φ H d v) : RDs G φ H ds vs → ∀ i : Nat, RDs G φ H (ds.set i d) (vs.set i v)
  | .nil, _ => .nil
  | .cons _ r, 0 => .cons x r
  | .cons h r, i + 1 => .cons h (RDs.set x r i)
theorem RDs.take {ds : List D} {vs : List V} : RDs G φ H ds vs → ∀ n : Nat, RDs G φ H (ds.take n) (vs.take n)
  | _, 0 => .nil
  | .nil, _ + 1 => .nil
  | .cons h r, n + 1 => .cons h (RDs.take r n)
theorem RDs.drop {ds : List D} {vs : List V} : RDs G φ H ds vs → ∀ n : Nat, RDs G φ H (ds.drop n) (vs.drop n)
  | r, 0 => r
  | .nil, _ + 1 => .nil
  | .cons _ r, n + 1 => RDs.drop r n
theorem RDs.eraseIdx {ds : List D} {vs : List V} : RDs G φ H ds vs → ∀ n : Nat, RDs G φ H (ds.eraseIdx n) (vs.eraseIdx n)
  | .nil, n => .nil
  | .cons _ r, 0 => r
  | .cons h r, n + 1 => .cons h (RDs.eraseIdx r n)
theorem RDs.dropLast {ds : List D} {vs : List V} : RDs G φ H ds vs → RDs G φ H ds.dropLast vs.dropLast
  | .nil => .nil
  | .cons _ .nil => .nil
  | .cons h (.cons h' r) => .cons h (RDs.dropLast (.cons h' r))
theorem RDs.flat {ds : List D} {vs : List V} (r : RDs G φ H ds vs) : ∀ n : Nat, RDs G φ H (List.replicate n ds).flatten (List.replicate n vs).flatten
  | 0 => .nil
  | n + 1 => by simpa [List.replicate_succ] using RDs.append r (RDs.flat r n)
end

/-- an object of the evaluator's heap -/
def AOR (G : Gl0) (φ : Phi) (H : Hp) (a : Addr) : AO → Prop
  | .lst ds => ∃ xs, H a = some (.lst xs) ∧ RDs G φ H ds xs
  | .dic _ _ => False
  | .ins _ _ => False
structure HRel (G : Gl0) (φ : Phi) (h : AH) (H : Hp) : Prop where
  tot : ∀ n o, h[n]? = some o → ∃ a, φ n = some a ∧ AOR G φ H a o
  dom : ∀ n a, φ n = some a → n < h.length
  inj : ∀ n m a, φ n = some a → φ m = some a → n = m
  hid : ∀ a, φ.hid a → ∃ o, H a = some o
  hdj : ∀ n a, φ n = some a → ¬ φ.hid a
section
variable {G : Gl0} {φ φ' : Phi} {h h' : AH} {H H' : Hp}
theorem HRel.at' (r : HRel G φ h H) {n : Nat} {a : Addr} (e : φ n = some a) : ∃ o, h[n]? = some o ∧ AOR G φ H a o := by
  have hn := r.dom n a e
  obtain ⟨b, h1, h2⟩ := r.tot n h[n] (by simp [hn])
  rw [e] at h1; cases h1
  exact ⟨h[n], by simp [hn], h2⟩
theorem AOR.there {a : Addr} {o : AO} (x : AOR G φ H a o) : ∃ u, H a = some u := by
  cases o with
  | lst ds => obtain ⟨xs, e, _⟩ := x; exact ⟨_, e⟩
  | dic => exact x.elim
  | ins => exact x.elim
theorem HRel.off (r : HRel G φ h H) {a : Addr} (e : H a = none) : Off φ a := by
  refine ⟨fun n z => ?_, fun z => ?_⟩
  · obtain ⟨o, _, x⟩ := r.at' z
    obtain ⟨u, hu⟩ := x.there
    rw [e] at hu; cases hu
  · obtain ⟨u, hu⟩ := r.hid a z
    rw [e] at hu; cases hu
/-- an object that is not one of the heap's is laid -/
theorem HRel.ext_new (r : HRel G φ h H) {p : Addr} {u : HO} (e : H p = none) : Ext φ H φ (upd H p u) :=
  ⟨fun _ _ z => z, fun a o z f => ⟨by rw [upd_ne (ne_of_none z e)]; exact z, f⟩, fun a z => ⟨z, by
    obtain ⟨o, ho⟩ := r.hid a z
    rw [upd_ne (ne_of_none ho e)]⟩⟩
theorem AOR.ext0 {a : Addr} {o : AO} (x : AOR G φ H a o) (e : Ext0 φ H φ' H') (k : H' a = H a) : AOR G φ' H' a o := by
  cases o with
  | lst ds => obtain ⟨xs, e1, r⟩ := x; exact ⟨xs, by rw [k]; exact e1, RDs.ext0 e r⟩
  | dic => exact x.elim
  | ins => exact x.elim
theorem AOR.ext {a : Addr} {o : AO} (x : AOR G φ H a o) (e : Ext φ H φ' H') (k : H' a = H a) : AOR G φ' H' a o := x.ext0 e.z k
theorem HRel.new (r : HRel G φ h H) {p : Addr} {u : HO} (e : H p = none) : HRel G φ h (upd H p u) := by
  refine ⟨fun n o z => ?_, r.dom, r.inj, fun a z => ?_, r.hdj⟩
  · obtain ⟨a, h1, h2⟩ := r.tot n o z
    obtain ⟨v, hv⟩ := h2.there
    exact ⟨a, h1, h2.ext (r.ext_new e) (upd_ne (ne_of_none hv e))⟩
  · obtain ⟨o, ho⟩ := r.hid a z
    exact ⟨o, by rw [upd_ne (ne_of_none ho e)]; exact ho⟩
/-- a new list of the heap -/
def Phi.put (φ : Phi) (n : Nat) (a : Addr) : Phi := ⟨fun m => if m = n then some a else φ m, φ.hid⟩
theorem Phi.put_same {n : Nat} {a : Addr} : φ.put n a n = some a := if_pos rfl
theorem Phi.put_ne {n m : Nat} {a : Addr} (e : m ≠ n) : φ.put n a m = φ m := if_neg e
theorem HRel.none_at (r : HRel G φ h H) {n : Nat} (e : h.length ≤ n) : φ n = none := by
  cases q : φ n with
  | none => rfl
  | some a => exact absurd (r.dom n a q) (by omega)
theorem HRel.ext_mk (r : HRel G φ h H) {p : Addr} {u : HO} (e : H p = none) : Ext φ H (φ.put h.length p) (upd H p u) := by
  refine ⟨fun n a z => ?_, fun a o z f => ⟨by rw [upd_ne (ne_of_none z e)]; exact z, fun n q => ?_, f.2⟩, fun a z => ⟨z, by
    obtain ⟨o, ho⟩ := r.hid a z
    rw [upd_ne (ne_of_none ho e)]⟩⟩
  · rw [Phi.put_ne (Nat.ne_of_lt (r.dom n a z))]; exact z
  · by_cases hn : n = h.length
    · subst hn; rw [Phi.put_same] at q; cases q; rw [e] at z; cases z
    · rw [Phi.put_ne hn] at q; exact f.1 n q
theorem HRel.mk_lst (r : HRel G φ h H) {p : Addr} {ds : List D} {xs : List V} (e : H p = none) (rd : RDs G φ H ds xs) : HRel G (φ.put h.length p) (h ++ [.lst ds]) (upd H p (.lst xs)) := by
  have ex := r.ext_mk (u := .lst xs) e
  refine ⟨fun n o z => ?_, fun n a z => ?_, fun n m a z1 z2 => ?_, fun a z => ?_, fun n a z hz => ?_⟩
  · by_cases hn : n < h.length
    · rw [List.getElem?_append_left hn] at z
      obtain ⟨a, h1, h2⟩ := r.tot n o z
      obtain ⟨v, hv⟩ := h2.there
      exact ⟨a, ex.dom _ _ h1, h2.ext ex (upd_ne (ne_of_none hv e))⟩
    · have hn' : n = h.length := by
        have := List.getElem?_eq_some_iff.mp z
        obtain ⟨q, _⟩ := this
        simp at q; omega
      subst hn'
      simp at z
      subst z
      exact ⟨p, Phi.put_same, xs, upd_same, RDs.ext ex rd⟩
  · by_cases hn : n = h.length
    · simp [hn]
    · rw [Phi.put_ne hn] at z; have := r.dom n a z; simp; omega
  · by_cases hn : n = h.length
    · by_cases hm : m = h.length
      · omega
      · rw [Phi.put_ne hm] at z2; subst hn; rw [Phi.put_same] at z1; cases z1
        exact absurd z2 ((r.off e).1 m)
    · by_cases hm : m = h.length
      · rw [Phi.put_ne hn] at z1; subst hm; rw [Phi.put_same] at z2; cases z2
        exact absurd z1 ((r.off e).1 n)
      · rw [Phi.put_ne hn] at z1; rw [Phi.put_ne hm] at z2; exact r.inj n m a z1 z2
  · obtain ⟨o, ho⟩ := r.hid a z
    exact ⟨o, by rw [upd_ne (ne_of_none ho e)]; exact ho⟩
  · by_cases hn : n = h.length
    · subst hn; rw [Phi.put_same] at z; cases z
      exact (r.off e).2 hz
    · rw [Phi.put_ne hn] at z; exact r.hdj n a z hz
/-- an object of the heap changes -/
theorem HRel.ext_set (r : HRel G φ h H) {n : Nat} {a : Addr} {u : HO} (e : φ n = some a) : Ext φ H φ (upd H a u) := by
  refine ⟨fun _ _ z => z, fun b o z f => ⟨?_, f⟩, fun b z => ⟨z, ?_⟩⟩
  · rw [upd_ne]; exact z
    intro q; subst q; exact f.1 n e
  · rw [upd_ne]
    intro q; subst q; exact r.hdj n _ e z
theorem HRel.set_lst (r : HRel G φ h H) {n : Nat} {a : Addr} {ds : List D} {xs : List V} (e : φ n = some a) (rd : RDs G φ H ds xs) : HRel G φ (h.set n (.lst ds)) (upd H a (.lst xs)) := by
  have ex := r.ext_set (u := .lst xs) e
  refine ⟨fun m o z => ?_, fun m b z => by simpa using r.dom m b z, r.inj, fun b z => ?_, r.hdj⟩
  rotate_left
  · obtain ⟨o, ho⟩ := r.hid b z
    refine ⟨o, ?_⟩
    rw [upd_ne]
    · exact ho
    · intro q; subst q; exact r.hdj n _ e z
  by_cases hm : m = n
  · subst hm
    have hn := r.dom _ _ e
    rw [List.getElem?_set_self hn] at z
    cases z
    exact ⟨a, e, xs, upd_same, RDs.ext ex rd⟩
  · rw [List.getElem?_set_ne (Ne.symm hm)] at z
    obtain ⟨b, h1, h2⟩ := r.tot m o z
    exact ⟨b, h1, h2.ext ex (upd_ne fun q => hm (by subst q; exact r.inj _ _ _ h1 e))⟩
end

/-! ### frames -/
def EnvR (G : Gl0) (φ : Phi) (H : Hp) (e : Env) (σ : L2.St) : Prop := e.length = σ.length ∧ ∀ (i : Nat) (d : D), e[i]? = some (some d) → ∃ v, σ[i]? = some (some v) ∧ RD G φ H d v
section
variable {G : Gl0} {φ φ' : Phi} {h h' : AH} {H H' : Hp} {e : Env} {σ : L2.St}
theorem EnvR.ext0 (r : EnvR G φ H e σ) (x : Ext0 φ H φ' H') : EnvR G φ' H' e σ := ⟨r.1, fun i d z => let ⟨v, h1, h2⟩ := r.2 i d z; ⟨v, h1, RD.ext0 x h2⟩⟩
theorem EnvR.ext (r : EnvR G φ H e σ) (x : Ext φ H φ' H') : EnvR G φ' H' e σ := ⟨r.1, fun i d z => let ⟨v, h1, h2⟩ := r.2 i d z; ⟨v, h1, RD.ext x h2⟩⟩
theorem EnvR.put (r : EnvR G φ H e σ) {i : Nat} {d : D} {v : V} (x : RD G φ H d v) : EnvR G φ H (e.set i (some d)) (σ.set i (some v)) := by
  refine ⟨by simpa using r.1, fun j d' z => ?_⟩
  by_cases hj : j = i
  · subst hj
    have hl : j < e.length := by
      have := (List.getElem?_eq_some_iff.mp z).1; simpa using this
    rw [List.getElem?_set_self hl] at z; cases z
    exact ⟨v, by rw [List.getElem?_set_self (by rw [← r.1]; exact hl)], x⟩
  · rw [List.getElem?_set_ne (Ne.symm hj)] at z
    rw [List.getElem?_set_ne (Ne.symm hj)]
    exact r.2 j d' z
theorem EnvR.putN (r : EnvR G φ H e σ) (i : Nat) : EnvR G φ H (e.set i none) (σ.set i none) := by
  refine ⟨by simpa using r.1, fun j d' z => ?_⟩
  by_cases hj : j = i
  · subst hj
    have hl : j < e.length := by
      have := (List.getElem?_eq_some_iff.mp z).1; simpa using this
    rw [List.getElem?_set_self hl] at z; cases z
  · rw [List.getElem?_set_ne (Ne.symm hj)] at z
    rw [List.getElem?_set_ne (Ne.symm hj)]
    exact r.2 j d' z
theorem EnvR.wipe (r : EnvR G φ H e σ) : ∀ vs : List Nat, EnvR G φ H (e.wipe vs) (L2.wipe σ vs)
  | [] => r
  | v :: vs => (EnvR.wipe r vs).putN v
end

/-! ### what is wanted behind an evaluation -/
/-- an error: its class, its fields -/
structure XRel (G : Gl0) (φ : Phi) (H : Hp) (c : Nat) (ds : List D) (cls : Value) (dct : Option Addr) : Prop where
  cls : ∃ C, G.ea c = some C ∧ cls = .ref C
  fld : (ds = [] ∧ dct = none) ∨ ∃ d v dx, ds = [d] ∧ dct = some dx ∧ H dx = some (.xd [(G.ef c, v)]) ∧ RD G φ H d v
end Ev

/-! The operators. -/
namespace Ev
open PySem PySem.Spec PyProof.Rows L2 PySem.W PySem.SeqAt

section
variable {X : Cx} {G : Gl0} {pins : List (Addr × Obj)} {σ : L2.St} {H : Hp} {s : Shared} {φ : Phi} {h : AH}
mutual
theorem plain_toP : ∀ d : D, d.pur = true → d.toP.plain = true
  | .non, _ => rfl
  | .bl _, _ => rfl
  | .int _, _ => rfl
  | .str _, _ => rfl
  | .tup ds, e => by simp only [D.toP, PyData.plain]; exact plain_toPs ds (by simpa [D.pur] using e)
  | .lst ds, e => by simp only [D.toP, PyData.plain]; exact plain_toPs ds (by simpa [D.pur] using e)
  | .dic _ _, e => by simp [D.pur] at e
  | .set _, e => by simp [D.pur] at e
  | .ref _, e => by simp [D.pur] at e
  | .fn _, e => by simp [D.pur] at e
  | .scr _, e => by simp [D.pur] at e
theorem plain_toPs : ∀ ds : List D, D.purs ds = true → PyData.plainAll (D.toPs ds) = true
  | [], _ => rfl
  | d :: ds, e => by
    simp only [D.purs, Bool.and_eq_true] at e
    simp only [D.toPs, PyData.plainAll, plain_toP d e.1, plain_toPs ds e.2, Bool.and_self]
end
theorem toPs_map : ∀ ds : List D, D.toPs ds = ds.map D.toP
  | [] => rfl
  | d :: ds => by simp [D.toPs, toPs_map ds]
theorem purs_all : ∀ ds : List D, D.purs ds = ds.all D.pur
  | [] => rfl
  | d :: ds => by simp [D.purs, purs_all ds]
mutual
theorem reads_of (I : Inv X pins σ H s) (hK : X.K = G.K) : ∀ (d : D) (v : V) (u : Value), d.pur = true → RD G φ H d v → RelV v u → ∃ as, Reads s.heap u d.toP as
  | .non, _, _, _, .non, e => by cases e; exact ⟨_, .none⟩
  | .bl b, _, _, _, .bl _, e => by cases e; exact ⟨_, .bool b⟩
  | .int i, _, _, _, .int _, e => by obtain ⟨t, rfl⟩ := e; exact ⟨_, .int i t⟩
  | .str x, _, _, _, .str _, e => by obtain ⟨t, rfl⟩ := e; exact ⟨_, .str x t⟩
  | .tup ds, _, _, p, .tup (xs := xs) hx r, e => by
    cases e
    have hq := hx.sq; rw [← hK] at hq
    obtain ⟨its, rv, ⟨o, h1, h2, n, h3⟩, _⟩ := I.tuple hq
    obtain ⟨as, ra⟩ := readsAll_of I hK ds xs its (by simpa [D.pur] using p) r rv
    exact ⟨as, by rw [D.toP]; exact .tuple h1 h2 h3 (by simpa using ra)⟩
  | .lst ds, _, _, p, .lst (xs := xs) hx r, e => by
    cases e
    have hq : SqL X.K H _ xs := hx.sq (G := ⟨X.K, G.fa, G.ea, G.ef⟩)
    obtain ⟨its, rv, ⟨o, n, h1, h2, _, h3⟩, _⟩ := I.list hq
    obtain ⟨as, ra⟩ := readsAll_of I hK ds xs its (by simpa [D.pur] using p) r rv
    exact ⟨_, by rw [D.toP]; exact .list h1 h2 h3 (by simpa using ra)⟩
theorem readsAll_of (I : Inv X pins σ H s) (hK : X.K = G.K) : ∀ (ds : List D) (vs : List V) (us : List Value), D.purs ds = true → RDs G φ H ds vs → Vals vs us → ∃ as, ReadsAll s.heap us (D.toPs ds) as
  | [], _, _, _, .nil, e => by cases e; exact ⟨_, .nil⟩
  | d :: ds, _, _, p, .cons h r, e => by
    cases e with
    | cons e1 e2 =>
      simp only [D.purs, Bool.and_eq_true] at p
      obtain ⟨as, h1⟩ := reads_of I hK d _ _ p.1 h e1
      obtain ⟨bs, h2⟩ := readsAll_of I hK ds _ _ p.2 r e2
      exact ⟨_, .cons h1 h2⟩
end
theorem reads_resP (I : Inv X pins σ H s) (hK : X.K = G.K) (R : HRel G φ h H) {d : D} {v : V} {u : Value} {p : PyData} (rd : RD G φ H d v) (rv : RelV v u) (e : resP h d = some p) : (∃ as, Reads s.heap u p as) ∧ p.plain = true := by
  unfold resP at e
  split at e
  · rename_i hp
    cases e
    exact ⟨reads_of I hK d v u hp rd rv, plain_toP d hp⟩
  · cases d with
    | ref n =>
      simp only at e
      split at e
      · rename_i ds hn
        split at e
        · rename_i hp
          cases e
          cases rd with
          | ref ha =>
            obtain ⟨o, ho, x⟩ := R.at' ha
            rw [hn] at ho; cases ho
            obtain ⟨xs, h1, rs⟩ := x
            cases rv
            obtain ⟨z, its, n, r, hb⟩ := I.hok _ _ h1
            obtain ⟨as, ra⟩ := readsAll_of I hK ds xs its hp rs r
            exact ⟨⟨_, .list hb rfl rfl (by simpa using ra)⟩, by simp only [PyData.plain]; exact plain_toPs ds hp⟩
        · cases e
      · cases e
    | _ => simp at e

/-- an operator, as the evaluator has it -/
def rOp (G : Gl0) (f : D → D → AH → Option D) : R2 := fun x y H Q => ∃ φ h dx dy dz, HRel G φ h H ∧ RD G φ H dx x ∧ RD G φ H dy y ∧ f dx dy h = some dz ∧
  ∀ φ' H' v, Ext φ H φ' H' → HRel G φ' h H' → RD G φ' H' dz v → Q v H'
variable {k : Nat}
theorem room_min (hr : Room k X.A) {a : Nat} (h : a ≤ deepest) : X.A.units + a < cLine := by
  have := hr.un; unfold deepest at h; omega
theorem op_eqS (hK : X.K = G.K) (hr : Room k X.A) : OpR X (compareOp .Eq) (rOp G (opD .eq)) := by
  rintro pins s σ H x y v u Q I rx ry ⟨φ, h, dx, dy, dz, R, r1, r2, e, q⟩
  simp only [opD, eqD] at e
  split at e
  · rename_i p1 p2 h1 h2
    split at e
    · rename_i hd
      simp at e; subst e
      obtain ⟨⟨as, ra⟩, pa⟩ := reads_resP I hK R r1 rx h1
      obtain ⟨⟨bs, rb⟩, pb⟩ := reads_resP I hK R r2 ry h2
      exact eq_plain ra rb pa pb (room_min hr hd) ⟨.bl _, H, I, rfl, q _ _ _ (.refl _ _) R (.bl _)⟩
    · simp at e
  · simp at e
theorem op_neS (hK : X.K = G.K) (hr : Room k X.A) : OpR X (compareOp .NotEq) (rOp G (opD .ne)) := by
  rintro pins s σ H x y v u Q I rx ry ⟨φ, h, dx, dy, dz, R, r1, r2, e, q⟩
  simp only [opD, eqD] at e
  split at e
  · rename_i p1 p2 h1 h2
    split at e
    · rename_i hd
      simp at e; subst e
      obtain ⟨⟨as, ra⟩, pa⟩ := reads_resP I hK R r1 rx h1
      obtain ⟨⟨bs, rb⟩, pb⟩ := reads_resP I hK R r2 ry h2
      exact ne_plain ra rb pa pb (room_min hr hd) ⟨.bl _, H, I, rfl, q _ _ _ (.refl _ _) R (.bl _)⟩
    · simp at e
  · simp at e

/-! ### sums -/
theorem RD.lst_at {a : Addr} (R : HRel G φ h H) {d : D} {ds : List D} (rd : RD G φ H d (.ref a)) (e : lstOf h d = some ds) : ∃ xs, H a = some (.lst xs) ∧ RDs G φ H ds xs := by
  cases d with
  | lst ds' =>
    simp only [lstOf, Option.some.injEq] at e; subst e
    cases rd with
    | lst h1 r => exact ⟨_, h1.1, r⟩
  | ref n =>
    cases rd with
    | ref ha =>
      obtain ⟨o, ho, x⟩ := R.at' ha
      simp only [lstOf, ho] at e
      cases o with
      | lst ds' =>
        simp only [Option.some.injEq] at e; subst e
        obtain ⟨xs, h1, r⟩ := x
        exact ⟨xs, h1, r⟩
      | dic => simp at e
      | ins => simp at e
  | _ => simp [lstOf] at e
theorem RD.of_lst (R : HRel G φ h H) {d : D} {ds : List D} {v : V} (rd : RD G φ H d v) (e : lstOf h d = some ds) : ∃ a, v = .ref a := by
  cases rd <;> first | exact ⟨_, rfl⟩ | simp [lstOf] at e
theorem RD.of_seq (R : HRel G φ h H) {d : D} {ds : List D} {v : V} (rd : RD G φ H d v) (e : seqOf h d = some ds) : ∃ a xs, v = .ref a ∧ (SqL G.K H a xs ∨ SqT G.K H a xs) ∧ RDs G φ H ds xs := by
  cases rd with
  | tup h1 r => simp only [seqOf, Option.some.injEq] at e; subst e; exact ⟨_, _, rfl, .inr h1.sq, r⟩
  | lst h1 r => simp only [seqOf, Option.some.injEq] at e; subst e; exact ⟨_, _, rfl, .inl (.inl (.inl h1.1)), r⟩
  | @ref n a ha =>
    obtain ⟨o, ho, x⟩ := R.at' ha
    simp only [seqOf, ho] at e
    cases o with
    | lst ds' =>
      simp only [Option.some.injEq] at e; subst e
      obtain ⟨xs, h1, r⟩ := x
      exact ⟨a, xs, rfl, .inl (.inl (.inl h1)), r⟩
    | dic => simp at e
    | ins => simp at e
  | _ => simp [seqOf] at e
/-- a new list or tuple that nobody will change -/
theorem RD.new_lst (R : HRel G φ h H) {p : Addr} {ds : List D} {xs : List V} (e : H p = none) (r : RDs G φ H ds xs) :
    Ext φ H φ (upd H p (.lst xs)) ∧ HRel G φ h (upd H p (.lst xs)) ∧ RD G φ (upd H p (.lst xs)) (.lst ds) (.ref p) :=
  ⟨R.ext_new e, R.new e, .lst ⟨upd_same, R.off e⟩ (RDs.ext (R.ext_new e) r)⟩
theorem RD.new_tup (R : HRel G φ h H) {p : Addr} {ds : List D} {xs : List V} (e : H p = none) (r : RDs G φ H ds xs) :
    Ext φ H φ (upd H p (.tup xs)) ∧ HRel G φ h (upd H p (.tup xs)) ∧ RD G φ (upd H p (.tup xs)) (.tup ds) (.ref p) :=
  ⟨R.ext_new e, R.new e, .tup (.inl ⟨.inl upd_same, R.off e⟩) (RDs.ext (R.ext_new e) r)⟩
theorem RDs.nil_iff {ds : List D} {xs : List V} (r : RDs G φ H ds xs) : ds = [] ↔ xs = [] := by
  have := r.length
  constructor <;> intro e <;> subst e <;> simp at this
  · exact List.eq_nil_of_length_eq_zero this.symm
  · exact this

theorem op_addS (hK : X.K = G.K) : OpR X (binaryOp .Add) (rOp G (opD .add)) := by
  rintro pins s σ H x y v u Q I rx ry ⟨φ, h, dx, dy, dz, R, r1, r2, e, q⟩
  have lists : ∀ {a b : List D}, lstOf h dx = some a → lstOf h dy = some b → a.length + b.length ≤ Z → dz = .lst (a ++ b) → wpAny (model X.prog X.w) X.A (binaryOp .Add v u) (EP X pins σ Q) X.xe s := by
    intro a b e1 e2 hz e3
    subst e3
    obtain ⟨p1, rfl⟩ := RD.of_lst R r1 e1
    obtain ⟨p2, rfl⟩ := RD.of_lst R r2 e2
    obtain ⟨xs, q1, s1⟩ := r1.lst_at R e1
    obtain ⟨zs, q2, s2⟩ := r2.lst_at R e2
    refine op_cat pins s σ H _ _ v u Q I rx ry ⟨_, _, xs, zs, rfl, rfl, q1, q2, by rw [← s1.length, ← s2.length]; exact hz, fun p hp => ?_⟩
    obtain ⟨E1, R1, D1⟩ := RD.new_lst R hp (s1.append s2)
    exact q _ _ _ E1 R1 D1
  cases dx with
  | int i =>
    cases dy with
    | int j =>
      simp only [opD, catD, Option.some.injEq] at e; subst e
      cases r1; cases r2
      exact op_add pins s σ H _ _ v u Q I rx ry ⟨i, j, rfl, rfl, q _ _ _ (.refl _ _) R (.int _)⟩
    | _ => simp [opD, catD, lstOf] at e
  | str a =>
    cases dy with
    | str b =>
      simp only [opD, catD] at e
      split at e
      · cases e; cases r1; cases r2
        exact op_add_str pins s σ H _ _ v u Q I rx ry ⟨a, b, rfl, rfl, by assumption, q _ _ _ (.refl _ _) R (.str _)⟩
      · cases e
    | _ => simp [opD, catD, lstOf] at e
  | tup a =>
    cases dy with
    | tup b =>
      simp only [opD, catD] at e
      split at e
      · rename_i hz
        cases e
        cases r1 with
        | tup t1 s1 =>
          cases r2 with
          | tup t2 s2 =>
            refine op_catA pins s σ H _ _ v u Q I rx ry ⟨_, _, _, _, rfl, rfl, by rw [hK]; exact t1.sq, by rw [hK]; exact t2.sq, by rw [← s1.length, ← s2.length]; exact hz, fun z => ?_, fun z1 z2 => ?_, fun z1 z2 p hp => ?_⟩
            · have := s1.nil_iff.mpr z; subst this
              exact q _ _ _ (.refl _ _) R (.tup t2 (by simpa using s2))
            · have := s2.nil_iff.mpr z2; subst this
              exact q _ _ _ (.refl _ _) R (.tup t1 (by simpa using s1))
            · obtain ⟨E1, R1, D1⟩ := RD.new_tup R hp (s1.append s2)
              exact q _ _ _ E1 R1 D1
      · cases e
    | _ => simp [opD, catD, lstOf] at e
  | lst a =>
    simp only [opD, catD] at e
    split at e
    · rename_i a' b' e1 e2
      split at e
      · cases e; exact lists e1 e2 (by assumption) rfl
      · cases e
    · cases e
  | ref n =>
    simp only [opD, catD] at e
    split at e
    · rename_i a' b' e1 e2
      split at e
      · cases e; exact lists e1 e2 (by assumption) rfl
      · cases e
    · cases e
  | _ => simp [opD, catD, lstOf] at e
theorem op_subS : OpR X (binaryOp .Sub) (rOp G (opD .sub)) := by
  rintro pins s σ H x y v u Q I rx ry ⟨φ, h, dx, dy, dz, R, r1, r2, e, q⟩
  cases dx <;> cases dy <;> simp only [opD, reduceCtorEq, Option.some.injEq] at e
  subst e; cases r1; cases r2
  exact op_sub pins s σ H _ _ v u Q I rx ry ⟨_, _, rfl, rfl, q _ _ _ (.refl _ _) R (.int _)⟩
theorem op_fdvS : OpR X (binaryOp .FloorDiv) (rOp G (opD .fdv)) := by
  rintro pins s σ H x y v u Q I rx ry ⟨φ, h, dx, dy, dz, R, r1, r2, e, q⟩
  cases dx <;> cases dy <;> simp only [opD, reduceCtorEq, Option.ite_none_right_eq_some, Option.some.injEq] at e
  obtain ⟨hc, e⟩ := e
  subst e; cases r1; cases r2
  exact op_fdivW pins s σ H _ _ v u Q I rx ry ⟨_, _, rfl, rfl, hc, q _ _ _ (.refl _ _) R (.int _)⟩
theorem op_modS : OpR X (binaryOp .Mod) (rOp G (opD .mod)) := by
  rintro pins s σ H x y v u Q I rx ry ⟨φ, h, dx, dy, dz, R, r1, r2, e, q⟩
  cases dx <;> cases dy <;> simp only [opD, reduceCtorEq, Option.ite_none_right_eq_some, Option.some.injEq] at e
  obtain ⟨hc, e⟩ := e
  subst e; cases r1; cases r2
  exact op_mod pins s σ H _ _ v u Q I rx ry ⟨_, _, rfl, rfl, hc, q _ _ _ (.refl _ _) R (.int _)⟩
theorem op_powS : OpR X (binaryOp .Pow) (rOp G (opD .pow)) := by
  rintro pins s σ H x y v u Q I rx ry ⟨φ, h, dx, dy, dz, R, r1, r2, e, q⟩
  cases dx <;> cases dy <;> simp only [opD, reduceCtorEq, Option.ite_none_right_eq_some, Option.some.injEq] at e
  obtain ⟨⟨h1, h2, h3⟩, e⟩ := e
  subst e; cases r1; cases r2
  exact op_pow pins s σ H _ _ v u Q I rx ry ⟨_, _, rfl, rfl, ⟨h1, by omega, h3⟩, q _ _ _ (.refl _ _) R (.int _)⟩
theorem op_leS : OpR X (compareOp .LtE) (rOp G (opD .le)) := by
  rintro pins s σ H x y v u Q I rx ry ⟨φ, h, dx, dy, dz, R, r1, r2, e, q⟩
  cases dx <;> cases dy <;> simp only [opD, reduceCtorEq, Option.some.injEq] at e
  subst e; cases r1; cases r2
  exact op_le pins s σ H _ _ v u Q I rx ry ⟨_, _, rfl, rfl, q _ _ _ (.refl _ _) R (.bl _)⟩
theorem op_gtS : OpR X (compareOp .Gt) (rOp G (opD .gt)) := by
  rintro pins s σ H x y v u Q I rx ry ⟨φ, h, dx, dy, dz, R, r1, r2, e, q⟩
  cases dx <;> cases dy <;> simp only [opD, reduceCtorEq, Option.some.injEq] at e
  subst e; cases r1; cases r2
  exact op_gt pins s σ H _ _ v u Q I rx ry ⟨_, _, rfl, rfl, q _ _ _ (.refl _ _) R (.bl _)⟩
theorem op_geS : OpR X (compareOp .GtE) (rOp G (opD .ge)) := by
  rintro pins s σ H x y v u Q I rx ry ⟨φ, h, dx, dy, dz, R, r1, r2, e, q⟩
  cases dx <;> cases dy <;> simp only [opD, reduceCtorEq, Option.some.injEq] at e
  subst e; cases r1; cases r2
  exact op_ge pins s σ H _ _ v u Q I rx ry ⟨_, _, rfl, rfl, q _ _ _ (.refl _ _) R (.bl _)⟩

/-! ### products -/
theorem mul_tup0 (l : Addr) (items : Array Value) (n : Nat) (dd : Option Addr) (sl : Array (Option Value)) (x : Int) (u : Tok) (c0 : (decide (x < -(2 ^ 63)) || decide (x ≥ 2 ^ 63)) = false) (c1 : (items.isEmpty || x == 1) = false) (c2 : (decide (x ≤ 0) || items.isEmpty) = true) :
    Meets (Builtin.«tuple.__mul__» ⟨[.ref l, .int x u], []⟩) (fun _ R s => s.heap.get? l = some { cls := .type "tuple", dict := dd, data := .seq items n, slots := sl } ∧
      R (.ok (.ret (Value.ref s.heap.objs.size))) { s with heap := s.heap.push { cls := Value.type "tuple", data := Data.seq #[] }, toks := s.toks }) :=
  .of_wp fun prog w A R s h => by
    obtain ⟨hp, g, d, tk, os⟩ := s
    obtain ⟨hl, h⟩ := h
    have f1 := AutoSeq1.idx_int
    wp_walk using AutoSeq1.wpAny_loadPart' hl
    refine wpAny_ite_false (decide_eq_false (by rw [c0]; simp)) ?_
    wp_walk using AutoSeq1.wpAny_loadPart' hl
    exact ⟨_, rfl, h⟩
theorem mul_tup1 (l : Addr) (items : Array Value) (n : Nat) (dd : Option Addr) (sl : Array (Option Value)) (x : Int) (u : Tok) (c0 : (decide (x < -(2 ^ 63)) || decide (x ≥ 2 ^ 63)) = false) (c1 : (items.isEmpty || x == 1) = true) :
    Meets (Builtin.«tuple.__mul__» ⟨[.ref l, .int x u], []⟩) (fun _ R s => s.heap.get? l = some { cls := .type "tuple", dict := dd, data := .seq items n, slots := sl } ∧
      R (.ok (.ret (Value.ref l))) s) :=
  .of_wp fun prog w A R s h => by
    obtain ⟨hp, g, d, tk, os⟩ := s
    obtain ⟨hl, h⟩ := h
    have f1 := AutoSeq1.idx_int
    wp_walk using AutoSeq1.wpAny_loadPart' hl
    refine wpAny_ite_false (decide_eq_false (by rw [c0]; simp)) ?_
    wp_walk using AutoSeq1.wpAny_loadPart' hl
    exact ⟨_, rfl, h⟩
theorem op_mulS (hK : X.K = G.K) : OpR X (binaryOp .Mult) (rOp G (opD .mul)) := by
  rintro pins s σ H x y v u Q I rx ry ⟨φ, h, dx, dy, dz, R, r1, r2, e, q⟩
  cases dx with
  | int i =>
    cases dy <;> simp only [opD, mulD, reduceCtorEq, Option.ite_none_right_eq_some, Option.some.injEq] at e
    obtain ⟨hc, e⟩ := e
    subst e; cases r1; cases r2
    obtain ⟨t, rfl⟩ := rx
    obtain ⟨t', rfl⟩ := ry
    exact mul_int ⟨.int _, H, I.tok _, ⟨_, rfl⟩, q _ _ _ (.refl _ _) R (.int _)⟩ hc
  | tup a =>
    cases dy <;> simp only [opD, mulD, reduceCtorEq, Option.ite_none_right_eq_some, Option.some.injEq] at e
    rename_i j
    obtain ⟨⟨hne, h0, h1, hl⟩, e⟩ := e
    subst e
    cases r2
    cases r1 with
    | @tup _ xs ad t1 s1 =>
      have sl := s1.length
      by_cases hj : 2 ≤ j
      · refine op_repT pins s σ H _ _ v u Q I rx ry ⟨_, j, xs, rfl, rfl, by rw [hK]; exact t1.sq, fun z => hne (s1.nil_iff.mpr z), hj, by omega, by omega, fun p hp => ?_⟩
        obtain ⟨E1, R1, D1⟩ := RD.new_tup R hp (s1.flat j.toNat)
        exact q _ _ _ E1 R1 D1
      · cases rx
        obtain ⟨t, rfl⟩ := ry
        have hq := t1.sq; rw [← hK] at hq
        obtain ⟨its, r, ⟨⟨cls, dd, data, sl⟩, ho, hc, n, hd⟩, hs⟩ := I.tuple hq
        simp only at hc hd
        subst hc hd
        have c0 : (decide (j < -(2 ^ 63)) || decide (j ≥ 2 ^ 63)) = false := by
          rw [decide_eq_false (by omega), decide_eq_false (by omega)]; rfl
        have hne' : its ≠ [] := fun z => hne (s1.nil_iff.mpr (by subst z; cases r; rfl))
        have hemp : its.toArray.isEmpty = false := by
          cases its with
          | nil => exact absurd rfl hne'
          | cons => rfl
        by_cases h1' : j = 1
        · subst h1'
          have c1 : (its.toArray.isEmpty || (1 : Int) == 1) = true := by rw [hemp]; rfl
          refine wpAny_binaryOp_repeat_ref (T := "tuple") (U := "int") (by decide) ⟨_, ho, rfl⟩ (fun s' => typeIs_int s' 1 t) noFill_tuple_mul F.fills_int_mul F.slot_int_rmul repeat_tuple F.slot_int_index.lookup
            (call_meets F.slot_int_rmul (typeIs_int s 1 t) F.entry_int_rmul (F.args_int_rmul_2 _ _) (int_rmul_tuple 1 t ad its.toArray n dd sl)
              ⟨ho, rfl, ⟨_, ho, rfl⟩, call_meets F.slot_tuple_mul ⟨_, ho, rfl⟩ F.entry_tuple_mul (F.args_tuple_mul_2 _ _) (mul_tup1 ad its.toArray n dd sl 1 t c0 c1) ⟨ho, ?_⟩⟩)
          exact ⟨.ref ad, H, I, rfl, q _ _ _ (.refl _ _) R (.tup t1 (by simpa using s1))⟩
        · have hj0 : j = 0 := by omega
          subst hj0
          have c1 : (its.toArray.isEmpty || (0 : Int) == 1) = false := by rw [hemp]; rfl
          have c2 : (decide ((0 : Int) ≤ 0) || its.toArray.isEmpty) = true := by simp
          refine wpAny_binaryOp_repeat_ref (T := "tuple") (U := "int") (by decide) ⟨_, ho, rfl⟩ (fun s' => typeIs_int s' 0 t) noFill_tuple_mul F.fills_int_mul F.slot_int_rmul repeat_tuple F.slot_int_index.lookup
            (call_meets F.slot_int_rmul (typeIs_int s 0 t) F.entry_int_rmul (F.args_int_rmul_2 _ _) (int_rmul_tuple 0 t ad its.toArray n dd sl)
              ⟨ho, rfl, ⟨_, ho, rfl⟩, call_meets F.slot_tuple_mul ⟨_, ho, rfl⟩ F.entry_tuple_mul (F.args_tuple_mul_2 _ _) (mul_tup0 ad its.toArray n dd sl 0 t c0 c1 c2) ⟨ho, ?_⟩⟩)
          obtain ⟨E1, R1, D1⟩ := RD.new_tup R (I.hok.fresh (Nat.le_refl _)) (ds := []) (xs := []) .nil
          exact ⟨.ref s.heap.objs.size, _, I.laid (t' := s.toks) (o := .tup []) (fun b ob q => Heap.get?_push_of_some _ q) (Nat.le_refl _) ⟨Nat.zero_le _, [], .nil, IsTup.new _ _⟩, rfl, q _ _ _ E1 R1 D1⟩
  | _ => simp [opD, mulD] at e

/-! ### order, is, in -/
theorem pur_resP {d : D} (hp : d.pur = true) : resP h d = some d.toP := by unfold resP; rw [if_pos hp]
theorem op_ltS (hK : X.K = G.K) (hr : Room k X.A) : OpR X (compareOp .Lt) (rOp G (opD .lt)) := by
  rintro pins s σ H x y v u Q I rx ry ⟨φ, h, dx, dy, dz, R, r1, r2, e, q⟩
  have gen : (ltD dx dy).map D.bl = some dz → wpAny (model X.prog X.w) X.A (compareOp .Lt v u) (EP X pins σ Q) X.xe s := by
    intro e
    unfold ltD at e
    split at e
    · rename_i hc
      obtain ⟨h1, h2, hn, ha, hd⟩ := hc
      simp at e; subst e
      obtain ⟨as, ra⟩ := reads_of I hK dx x v h1 r1 rx
      obtain ⟨bs, rb⟩ := reads_of I hK dy y u h2 r2 ry
      exact rcLt_alike _ _ X.A s v u as bs ra rb (ha _ (by simp) _ (by simp)) hn (room_min hr (Nat.le_trans (Nat.min_le_left _ _) (hd _ (by simp)))) X.prog X.w X.xe _ ⟨.bl _, H, I, rfl, q _ _ _ (.refl _ _) R (.bl _)⟩
    · simp at e
  cases dx with
  | int i =>
    cases dy with
    | int j =>
      simp only [opD, Option.some.injEq] at e
      subst e; cases r1; cases r2
      exact op_lt pins s σ H _ _ v u Q I rx ry ⟨_, _, rfl, rfl, q _ _ _ (.refl _ _) R (.bl _)⟩
    | _ => exact gen e
  | _ => exact gen e
theorem RD.non_iff {d : D} {v : V} (r : RD G φ H d v) : (v = .non ↔ d = .non) := by cases r <;> simp
/-- x is None, is not None: the right side is the constant -/
theorem op_isnS : OpR X (compareOp .Is) (fun x y H Q => y = .non ∧ rOp G (opD .isn) x y H Q) := by
  rintro pins s σ H x y v u Q I rx ry ⟨rfl, φ, h, dx, dy, dz, R, r1, r2, e, q⟩
  refine op_isN pins s σ H x _ v u Q I rx ry ⟨rfl, ?_⟩
  have hi := r1.non_iff
  cases dx <;> simp only [opD, Option.some.injEq] at e <;> subst e <;>
    first
    | (rw [decide_eq_true (hi.mpr rfl)]; exact q _ _ _ (.refl _ _) R (.bl _))
    | (rw [decide_eq_false (fun z => nomatch hi.mp z)]; exact q _ _ _ (.refl _ _) R (.bl _))
theorem op_nisS : OpR X (compareOp .IsNot) (fun x y H Q => y = .non ∧ rOp G (opD .nis) x y H Q) := by
  rintro pins s σ H x y v u Q I rx ry ⟨rfl, φ, h, dx, dy, dz, R, r1, r2, e, q⟩
  refine op_notN pins s σ H x _ v u Q I rx ry ⟨rfl, ?_⟩
  have hi := r1.non_iff
  cases dx <;> simp only [opD, Option.some.injEq] at e <;> subst e <;>
    first
    | (rw [decide_eq_true (hi.mpr rfl)]; exact q _ _ _ (.refl _ _) R (.bl _))
    | (rw [decide_eq_false (fun z => nomatch hi.mp z)]; exact q _ _ _ (.refl _ _) R (.bl _))
theorem depthAll_le {n : Nat} : ∀ {ps : List PyData}, (∀ p ∈ ps, p.depth ≤ n) → PyData.depthAll ps ≤ n
  | [], _ => by simp [PyData.depthAll]
  | p :: ps, h => by
    simp only [PyData.depthAll]
    exact Nat.max_le.mpr ⟨h p (by simp), depthAll_le fun q hq => h q (by simp [hq])⟩
/-- a list or a tuple of data, read -/
theorem reads_seq (I : Inv X pins σ H s) (hK : X.K = G.K) (R : HRel G φ h H) {d : D} {v : V} {u : Value} {ds : List D} (rd : RD G φ H d v) (rv : RelV v u) (e : seqOf h d = some ds) (hp : D.purs ds = true) :
    (∃ as, Reads s.heap u (.list (D.toPs ds)) as) ∨ ∃ as, Reads s.heap u (.tuple (D.toPs ds)) as := by
  cases rd with
  | tup h1 r =>
    simp only [seqOf, Option.some.injEq] at e; subst e
    exact .inr (by simpa [D.toP] using reads_of I hK (.tup _) _ u (by simpa [D.pur] using hp) (.tup h1 r) rv)
  | lst h1 r =>
    simp only [seqOf, Option.some.injEq] at e; subst e
    exact .inl (by simpa [D.toP] using reads_of I hK (.lst _) _ u (by simpa [D.pur] using hp) (.lst h1 r) rv)
  | @ref n a ha =>
    obtain ⟨o, ho, x⟩ := R.at' ha
    simp only [seqOf, ho] at e
    cases o with
    | lst ds' =>
      simp only [Option.some.injEq] at e; subst e
      obtain ⟨xs, h1, r⟩ := x
      cases rv
      obtain ⟨z, its, n, rr, hb⟩ := I.hok _ _ h1
      obtain ⟨as, ra⟩ := readsAll_of I hK _ xs its hp r rr
      exact .inl ⟨_, .list hb rfl rfl (by simpa using ra)⟩
    | dic => simp at e
    | ins => simp at e
  | _ => simp [seqOf] at e
theorem dic_none {d : D} {v : V} {ks vs : List D} (R : HRel G φ h H) (rd : RD G φ H d v) (e : dicOf h d = some (ks, vs)) : False := by
  cases rd with
  | ref ha =>
    obtain ⟨o, ho, x⟩ := R.at' ha
    simp only [dicOf, ho] at e
    cases o with
    | lst => simp at e
    | dic => exact x
    | ins => exact x
  | _ => simp [dicOf] at e
theorem inD_str {a b : Str} : inD h (.str a) (.str b) = some (!(Builtin.Str.occurrences b a 0 b.length 1).isEmpty) := rfl
open Classical in
theorem inD_other {x y : D} (hn : ∀ a b, ¬ (x = .str a ∧ y = .str b)) : inD h x y = match dicOf h y with
    | some (ks, _) => if keyOk x then some (findK ks x).isSome else none
    | none =>
      match seqOf h y with
      | some ds => if x.pur = true ∧ D.purs ds = true ∧ x.toP.depth ≤ deepest then some ((D.toPs ds).any fun p => PyData.eqv p x.toP) else none
      | none => none := by
  unfold inD
  split
  · rename_i a b; exact absurd ⟨rfl, rfl⟩ (hn a b)
  · rfl
theorem op_innS (hK : X.K = G.K) (hr : Room k X.A) : OpR X (compareOp .In) (rOp G (opD .inn)) := by
  rintro pins s σ H x y v u Q I rx ry ⟨φ, h, dx, dy, dz, R, r1, r2, e, q⟩
  by_cases hs : ∃ a b, dx = .str a ∧ dy = .str b
  · obtain ⟨a, b, rfl, rfl⟩ := hs
    simp only [opD, inD_str, Option.map_some, Option.some.injEq] at e
    subst e; cases r1; cases r2
    exact op_in_str pins s σ H _ _ v u Q I rx ry ⟨a, b, rfl, rfl, q _ _ _ (.refl _ _) R (.bl _)⟩
  · simp only [opD] at e
    rw [inD_other fun a b z => hs ⟨a, b, z⟩] at e
    split at e
    · rename_i hd; exact (dic_none R r2 hd).elim
    · split at e
      · rename_i ds hd
        split at e
        · rename_i hc
          obtain ⟨h1, h2, h3⟩ := hc
          simp at e; subst e
          obtain ⟨bs, rb⟩ := reads_of I hK dx x v h1 r1 rx
          have hu : X.A.units + 1 + min (PyData.depthAll (D.toPs ds)) dx.toP.depth < cLine := by
            have := hr.un; have := Nat.min_le_right (PyData.depthAll (D.toPs ds)) dx.toP.depth; unfold deepest at h3; omega
          have fin : EP X pins σ Q (.bool ((D.toPs ds).any fun p => PyData.eqv p dx.toP)) s := ⟨.bl _, H, I, rfl, q _ _ _ (.refl _ _) R (.bl _)⟩
          rcases reads_seq I hK R r2 ry hd h2 with ⟨as, ra⟩ | ⟨as, ra⟩
          · exact in_list_data ra rb (plain_toPs ds h2) (plain_toP dx h1) hu fin
          · exact in_tuple_data ra rb (plain_toPs ds h2) (plain_toP dx h1) hu fin
        · simp at e
      · simp at e
theorem op_ninS (hK : X.K = G.K) (hr : Room k X.A) : OpR X (compareOp .NotIn) (rOp G (opD .nin)) := by
  rintro pins s σ H x y v u Q I rx ry ⟨φ, h, dx, dy, dz, R, r1, r2, e, q⟩
  by_cases hs : ∃ a b, dx = .str a ∧ dy = .str b
  · obtain ⟨a, b, rfl, rfl⟩ := hs
    simp only [opD, inD_str, Option.map_some, Option.some.injEq] at e
    subst e; cases r1; cases r2
    exact L2.op_notin_str pins s σ H _ _ v u Q I rx ry ⟨a, b, rfl, rfl, q _ _ _ (.refl _ _) R (.bl _)⟩
  · simp only [opD] at e
    rw [inD_other fun a b z => hs ⟨a, b, z⟩] at e
    split at e
    · rename_i hd; exact (dic_none R r2 hd).elim
    · split at e
      · rename_i ds hd
        split at e
        · rename_i hc
          obtain ⟨h1, h2, h3⟩ := hc
          simp at e; subst e
          obtain ⟨bs, rb⟩ := reads_of I hK dx x v h1 r1 rx
          have hu : X.A.units + 1 + min (PyData.depthAll (D.toPs ds)) dx.toP.depth < cLine := by
            have := hr.un; have := Nat.min_le_right (PyData.depthAll (D.toPs ds)) dx.toP.depth; unfold deepest at h3; omega
          have fin : EP X pins σ Q (.bool (!(D.toPs ds).any fun p => PyData.eqv p dx.toP)) s := ⟨.bl _, H, I, rfl, q _ _ _ (.refl _ _) R (by simpa using RD.bl _)⟩
          rcases reads_seq I hK R r2 ry hd h2 with ⟨as, ra⟩ | ⟨as, ra⟩
          · exact notIn_list_data ra rb (plain_toPs ds h2) (plain_toP dx h1) hu fin
          · exact notIn_tuple_data ra rb (plain_toPs ds h2) (plain_toP dx h1) hu fin
        · simp at e
      · simp at e
end
end Ev

/-! Readings by the evaluator, and how they go together. -/
namespace Ev
open PySem PySem.Spec PyProof.Rows L2 PySem.W PySem.SeqAt

section
variable {X : Cx} {e : Expr}
theorem pe_imp {t t' : TE} (h : PE X e t) (hi : ∀ σ H Q, t' σ H Q → t σ H Q) : PE X e t' := ⟨fun pins s σ H Q I q => h.run pins s σ H Q I (hi σ H Q q)⟩
theorem pt_imp {t t' : TT} (h : PT X e t) (hi : ∀ σ H Q, t' σ H Q → t σ H Q) : PT X e t' := ⟨fun pins s σ H Q I q => h.run pins s σ H Q I (hi σ H Q q)⟩
theorem pw_imp {t t' : TT} (h : PW X e t) (hi : ∀ σ H Q, t' σ H Q → t σ H Q) : PW X e t' := ⟨fun wh pins s σ H Q I q => h.run wh pins s σ H Q I (hi σ H Q q)⟩
theorem pa_imp {es : List Expr} {t t' : TA} (h : PA X es t) (hi : ∀ σ H Q, t' σ H Q → t σ H Q) : PA X es t' := ⟨fun pos pins s σ H Q I q => h.run pos pins s σ H Q I (hi σ H Q q)⟩
end

/-- what is wanted behind an evaluation that ends as r -/
def Post {α β : Type} (G : Gl0) (Rel : Phi → Hp → α → β → Prop) (W : WX) (σ : L2.St) (φ : Phi) (H : Hp) (Q : β → Hp → Prop) : Res α → Prop
  | .ok a h => ∀ φ' H' b, Ext φ H φ' H' → HRel G φ' h H' → Rel φ' H' a b → Q b H'
  | .exc c ds h => ∀ φ' H' cls dct, Ext φ H φ' H' → HRel G φ' h H' → XRel G φ' H' c ds cls dct → W cls dct σ H'
  | .stk => False
section
variable {α β γ δ : Type} {G : Gl0} {Rel : Phi → Hp → α → β → Prop} {Rel' : Phi → Hp → γ → δ → Prop} {W : WX} {σ : L2.St} {φ φ1 : Phi} {H H1 : Hp} {Q : β → Hp → Prop} {Q' : δ → Hp → Prop}
theorem Post.later {r : Res α} (p : Post G Rel W σ φ H Q r) (x : Ext φ H φ1 H1) : Post G Rel W σ φ1 H1 Q r := by
  cases r with
  | ok a h => exact fun φ' H' b e => p φ' H' b (x.trans e)
  | exc c ds h => exact fun φ' H' cls dct e => p φ' H' cls dct (x.trans e)
  | stk => exact p
theorem Post.bind {r : Res γ} {f : γ → AH → Res α} (p : Post G Rel W σ φ H Q (r.bind f))
    (k : ∀ a h1 φ1 H1 b, Ext φ H φ1 H1 → HRel G φ1 h1 H1 → Rel' φ1 H1 a b → Post G Rel W σ φ1 H1 Q (f a h1) → Q' b H1) : Post G Rel' W σ φ H Q' r := by
  cases r with
  | ok a h => exact fun φ' H' b e R r => k a h φ' H' b e R r (p.later e)
  | exc c ds h => exact p
  | stk => exact p
end

/-- the module for the checks: names by their numbers -/
structure Nt where
  fn : Nat → Option Str
  gc : Nat → Option Str
  ex : Nat → Option Str
  exn : Nat → Nat
section
variable (G : Gl0) (M : Mo) (C : Orc) (W : WX)
def rE (e : E) : TE := fun σ H Q => ∃ φ ev h, HRel G φ h H ∧ EnvR G φ H ev σ ∧ Post G (RD G) W σ φ H Q (evE M C e ev h)
def rEs (es : Es) : TA := fun σ H Q => ∃ φ ev h, HRel G φ h H ∧ EnvR G φ H ev σ ∧ Post G (RDs G) W σ φ H Q (evEs M C es ev h)
def toB (r : Res D) : Res Bool := r.bind fun d h => match d with
  | .bl b => .ok b h
  | _ => .stk
def rT (e : E) : TT := fun σ H Q => ∃ φ ev h, HRel G φ h H ∧ EnvR G φ H ev σ ∧ Post G (fun _ _ a b => a = b) W σ φ H Q (toB (evE M C e ev h))
def rO (e : Eo) : TO := fun σ H Q => ∃ φ ev h, HRel G φ h H ∧ EnvR G φ H ev σ ∧ Post G (fun _ _ a b => a = b) W σ φ H Q (evO M C e ev h)
def rIf (es : Es) : TT := fun σ H Q => ∃ φ ev h, HRel G φ h H ∧ EnvR G φ H ev σ ∧ Post G (fun _ _ a b => a = b) W σ φ H Q (evIf M C es ev h)
end

/-- what a def promises: what the evaluator's oracle says -/
def spF (G : Gl0) (C : Orc) (f : Nat) : Sp := fun vs H Q Ex => ∃ φ h ds, HRel G φ h H ∧ RDs G φ H ds vs ∧ Post G (RD G) (fun cls dct _ H' => Ex cls dct H') [] φ H Q (C f ds h)
def biNames : List Str := ["len", "all", "any", "sum", "min", "max", "sorted", "set", "tuple", "list", "dict", "abs", "int", "str", "bool", "isinstance", "enumerate", "zip", "range"]
/-- a class of errors: how one is made -/
def XFacts (P : Program) (w : World) (K : PySem.W.Frag) (mg : Str → Option Value) (base : Heap) (G : Gl0) (M : Mo) (c n : Nat) (name : Str) : Prop :=
  n ≤ 1 ∧ M.ex c = some n ∧ ∃ D, G.ea c = some D ∧ mg name = some (.ref D) ∧ ∀ X : Cx, X.prog = P → X.w = w → X.K = K → X.mg = mg → X.base = base → X.calm = true → Room 2 X.A → Gl X name → (name == ("__debug__" : Str)) = false →
    (n = 0 ∧ ∀ pos' pos : Pos, PMk X (.Call (.Name name pos') [] [] pos) (fun _ H Q => Q (.ref D) none H)) ∨
    (n = 1 ∧ ∀ (e : Expr) (te : TE) (pos' pos : Pos), PE X e te → starEach [e] X.env = (false, eval e X.env) :: starEach [] X.env →
      PMk X (.Call (.Name name pos') [e] [] pos) (fun σ H Q => te σ H fun v H1 => ∀ dx, H1 dx = none → Q (.ref D) (some dx) (upd H1 dx (.xd [(G.ef c, v)]))))
/-- the context in which a def's text runs -/
structure Gd (G : Gl0) (M : Mo) (C : Orc) (T : Nt) (k : Nat) (N : List Str) (sc : Scope) (fc : Str → Bool) (W : WX) (X : Cx) : Prop where
  hK : X.K = G.K
  hN : X.N = N
  nd : N.Nodup
  hsc : X.env.scope = sc
  kind : sc.kind = .function
  fnc : ∀ x, fc x = true → X.fn x = true
  calm : X.calm = true
  room : Room k X.A
  po : PassesOwn (model X.prog X.w) X.A X.env X.xe
  tk : Takes X W
  bi : ∀ x ∈ biNames, X.mg x = none
  fns : ∀ f name, T.fn f = some name → ∃ a fd ps, G.fa f = some a ∧ X.mg name = some (.ref a) ∧ PySem.W.keepIn X.K (.ref a) = true ∧ Binds X.K fd ps [] ∧ FnOk X.prog X.w X.K X.mg X.base (L2.CX X.prog X.w) k a fd ps (spF G C f)
  fan : ∀ f a, G.fa f = some a → ∃ name, T.fn f = some name
  two : 2 ≤ k
  xns : ∀ c name, T.ex c = some name → XFacts X.prog X.w X.K X.mg X.base G M c (T.exn c) name
  exm : ∀ c c' D D', G.ea c = some D → G.ea c' = some D' → PySem.W.exmOne G.K (.ref D') (.ref D) = some (decide (c' = c))
  gcs : ∀ x name d, T.gc x = some name → M.gc x = some d → ∃ v u, X.mg name = some u ∧ RelV v u ∧ ∀ φ H, RD G φ H d v

/-! ### the checks -/
section
variable (T : Nt) (N : List Str) (sc : Scope)
def visC (i : Nat) (x : Str) : Bool := decide (N[i]? = some x) && (match sc.names.lookup x with | some .local => true | some .cell => true | some .free => true | _ => false) &&
  !(x == ("__debug__" : Str)) && !(x == ("__classdict__" : Str))
def glC (x : Str) : Bool := (match sc.names.lookup x with | some .globalImplicit => true | _ => false) && !(x == ("__debug__" : Str)) && decide (x ≠ "__name__")
def biC (x : Str) : Bool := glC sc x && biNames.contains x
def opB : Op → Option Operator
  | .add => some .Add | .sub => some .Sub | .mul => some .Mult | .fdv => some .FloorDiv | .mod => some .Mod | .pow => some .Pow
  | _ => none
def opC : Op → Option CmpOp
  | .eq => some .Eq | .ne => some .NotEq | .lt => some .Lt | .le => some .LtE | .gt => some .Gt | .ge => some .GtE | .inn => some .In | .nin => some .NotIn
  | .isn => some .Is | .nis => some .IsNot
  | _ => none
def isNone : Expr → Bool
  | .Constant .none _ _ => true
  | _ => false
def isNon : E → Bool
  | .cst .non => true
  | _ => false
def noSet : Expr → Bool
  | .Set _ _ _ => false
  | _ => true
end
end Ev

/-! Each construct's rule by the evaluator's reading. -/
namespace Ev
open PySem PySem.Spec PyProof.Rows L2 PySem.W PySem.SeqAt

section
variable {G : Gl0} {M : Mo} {C : Orc} {T : Nt} {k : Nat} {N : List Str} {sc : Scope} {fc : Str → Bool} {W : WX} {X : Cx} {a b c : Expr} {es : List Expr} {a' b' c' : E} {es' : Es} {pos pos' : Pos}

theorem Post.opt {α : Type} {G : Gl0} {β : Type} {Rel : Phi → Hp → α → β → Prop} {W : WX} {σ : L2.St} {φ : Phi} {H : Hp} {Q : β → Hp → Prop} {h : AH} {o : Option α} (p : Post G Rel W σ φ H Q (optR h o)) :
    ∃ a, o = some a ∧ ∀ φ' H' b, Ext φ H φ' H' → HRel G φ' h H' → Rel φ' H' a b → Q b H' := by
  cases o with
  | none => exact p.elim
  | some a => exact ⟨a, rfl, p⟩

theorem s_int {i : Int} {j : Nat} : PE X (.Constant (.int i) j pos) (rE G M C W (.cst (.int i))) := pe_imp pe_int fun _ _ _ ⟨φ, ev, h, R, r, p⟩ => p _ _ _ (.refl _ _) R (.int i)
theorem s_bl {i : Bool} {j : Nat} : PE X (.Constant (.bool i) j pos) (rE G M C W (.cst (.bl i))) := pe_imp pe_bl fun _ _ _ ⟨φ, ev, h, R, r, p⟩ => p _ _ _ (.refl _ _) R (.bl i)
theorem s_str {i : Str} {j : Nat} : PE X (.Constant (.str i) j pos) (rE G M C W (.cst (.str i))) := pe_imp pe_str fun _ _ _ ⟨φ, ev, h, R, r, p⟩ => p _ _ _ (.refl _ _) R (.str i)
theorem s_non {j : Nat} : PE X (.Constant .none j pos) (rE G M C W (.cst .non)) := pe_imp pe_non fun _ _ _ ⟨φ, ev, h, R, r, p⟩ => p _ _ _ (.refl _ _) R .non
theorem s_var {i : Nat} {x : Str} (g : Gd G M C T k N sc fc W X) (hv : visC N sc i x = true) : PE X (.Name x pos) (rE G M C W (.var i)) := by
  simp only [visC, Bool.and_eq_true, decide_eq_true_eq, Bool.not_eq_true'] at hv
  obtain ⟨⟨⟨h1, h2⟩, h3⟩, h4⟩ := hv
  have hvis : Vis X.env.scope x := by
    rw [g.hsc]
    split at h2
    · exact .inl (by assumption)
    · exact .inr (.inl (by assumption))
    · exact .inr (.inr (by assumption))
    · cases h2
  refine pe_imp (pe_var (i := i) (by rw [g.hN]; exact h1) hvis h3 h4) fun σ H Q ⟨φ, ev, h, R, r, p⟩ => ?_
  simp only [evE] at p
  split at p
  · rename_i d hd
    obtain ⟨v, e1, e2⟩ := r.2 i d hd
    exact ⟨v, e1, p _ _ _ (.refl _ _) R e2⟩
  · exact p.elim
theorem gl_of (g : Gd G M C T k N sc fc W X) {x : Str} (h : glC sc x = true) : Gl X x ∧ (x == ("__debug__" : Str)) = false ∧ x ≠ "__name__" := by
  simp only [glC, Bool.and_eq_true, decide_eq_true_eq, Bool.not_eq_true'] at h
  obtain ⟨⟨h1, h2⟩, h3⟩ := h
  refine ⟨?_, h2, h3⟩
  show X.env.scope.names.lookup x = _
  rw [g.hsc]
  split at h1
  · assumption
  · cases h1
theorem s_gc {i : Nat} {x : Str} (g : Gd G M C T k N sc fc W X) (hx : T.gc i = some x) (hg : glC sc x = true) : PE X (.Name x pos) (rE G M C W (.gc i)) := by
  obtain ⟨h1, h2, h3⟩ := gl_of g hg
  cases hd : M.gc i with
  | none =>
    refine ⟨fun pins s σ H Q I ⟨φ, ev, h, R, r, p⟩ => ?_⟩
    simp only [evE, hd] at p
    exact p.elim
  | some d =>
    obtain ⟨v, u, m, rv, rd⟩ := g.gcs i x d hx hd
    refine pe_imp (pe_glob h1 m rv h2) fun σ H Q ⟨φ, ev, h, R, r, p⟩ => ?_
    simp only [evE, hd] at p
    exact p _ _ _ (.refl _ _) R (rd _ _)
theorem s_binop {op : Operator} {o : Op} (ho : OpR X (binaryOp op) (rOp G (opD o))) (ha : PE X a (rE G M C W a')) (hb : PE X b (rE G M C W b')) : PE X (.BinOp a op b pos) (rE G M C W (.op o a' b')) := by
  refine pe_imp (pe_op ho ha hb) fun σ H Q ⟨φ, ev, h, R, r, p⟩ => ?_
  refine ⟨φ, ev, h, R, r, Post.bind (Rel' := RD G) p fun dx h1 φ1 H1 x E1 R1 d1 p1 => ⟨φ1, ev, h1, R1, r.ext E1, Post.bind (Rel' := RD G) p1 fun dy h2 φ2 H2 y E2 R2 d2 p2 => ?_⟩⟩
  obtain ⟨dz, e, q⟩ := p2.opt
  exact ⟨φ2, h2, dx, dy, dz, R2, d1.ext E2, d2, e, q⟩
theorem s_cmpop {op : CmpOp} {o : Op} (ho : OpR X (compareOp op) (rOp G (opD o))) (ha : PE X a (rE G M C W a')) (hb : PE X b (rE G M C W b')) (hm : behindInMarks op b = false) : PE X (.Compare a [op] [b] pos) (rE G M C W (.op o a' b')) := by
  refine pe_imp (pe_cmpR ho ha hb hm) fun σ H Q ⟨φ, ev, h, R, r, p⟩ => ?_
  refine ⟨φ, ev, h, R, r, Post.bind (Rel' := RD G) p fun dx h1 φ1 H1 x E1 R1 d1 p1 => ⟨φ1, ev, h1, R1, r.ext E1, Post.bind (Rel' := RD G) p1 fun dy h2 φ2 H2 y E2 R2 d2 p2 => ?_⟩⟩
  obtain ⟨dz, e, q⟩ := p2.opt
  exact ⟨φ2, h2, dx, dy, dz, R2, d1.ext E2, d2, e, q⟩
theorem s_isop {op : CmpOp} {o : Op} {j : Nat} (ho : OpR X (compareOp op) (fun x y H Q => y = .non ∧ rOp G (opD o) x y H Q)) (ha : PE X a (rE G M C W a')) (hm : behindInMarks op (.Constant .none j pos') = false) :
    PE X (.Compare a [op] [.Constant .none j pos'] pos) (rE G M C W (.op o a' (.cst .non))) := by
  refine pe_imp (pe_cmpR ho ha pe_non hm) fun σ H Q ⟨φ, ev, h, R, r, p⟩ => ?_
  refine ⟨φ, ev, h, R, r, Post.bind (Rel' := RD G) p fun dx h1 φ1 H1 x E1 R1 d1 p1 => ?_⟩
  simp only [evE, Res.bind_ok] at p1
  obtain ⟨dz, e, q⟩ := p1.opt
  exact ⟨rfl, φ1, h1, dx, .non, dz, R1, d1, .non, e, q⟩
theorem s_neg (ha : PE X a (rE G M C W a')) : PE X (.UnaryOp .USub a pos) (rE G M C W (.neg a')) := by
  refine pe_imp (pe_un un_neg ha) fun σ H Q ⟨φ, ev, h, R, r, p⟩ => ?_
  refine ⟨φ, ev, h, R, r, Post.bind (Rel' := RD G) p fun dx h1 φ1 H1 x E1 R1 d1 p1 => ?_⟩
  cases dx with
  | int i => cases d1; exact ⟨i, rfl, p1 _ _ _ (.refl _ _) R1 (.int _)⟩
  | _ => exact p1.elim
theorem boolR_post {β : Type} {Rel : Phi → Hp → D → β → Prop} {σ : L2.St} {φ : Phi} {H : Hp} {Q : β → Hp → Prop} {x : D} {f : Bool → Res D} (p : Post G Rel W σ φ H Q (boolR x f)) : ∃ b, x = .bl b ∧ Post G Rel W σ φ H Q (f b) := by
  cases x with
  | bl b => exact ⟨b, rfl, p⟩
  | _ => exact p.elim
/-- a test from its value -/
theorem s_val (ha : PE X a (rE G M C W a')) (he : ∀ whole, isTrue a X.env whole = (do let v ← whole; standAt a.pos; holding [v] (truthy v))) : PT X a (rT G M C W a') := by
  refine pt_imp (pt_val ha he) fun σ H Q ⟨φ, ev, h, R, r, p⟩ => ?_
  refine ⟨φ, ev, h, R, r, Post.bind (Rel' := RD G) p fun dx h1 φ1 H1 x E1 R1 d1 p1 => ?_⟩
  cases dx with
  | bl b => cases d1; exact ⟨b, rfl, p1 _ _ _ (.refl _ _) R1 rfl⟩
  | _ => exact p1.elim
theorem s_cmpT {op : CmpOp} {o : Op} (ho : OpR X (compareOp op) (rOp G (opD o))) (ha : PE X a (rE G M C W a')) (hb : PE X b (rE G M C W b')) (hm : behindInMarks op b = false) : PT X (.Compare a [op] [b] pos) (rT G M C W (.op o a' b')) := by
  refine pt_imp (pt_cmpR ho ha hb hm) fun σ H Q ⟨φ, ev, h, R, r, p⟩ => ?_
  have e0 : toB (evE M C (.op o a' b') ev h) = (evE M C a' ev h).bind fun x h => (evE M C b' ev h).bind fun y h => toB (optR h (opD o x y h)) := by
    simp only [evE, toB]
    cases evE M C a' ev h <;> simp only [Res.bind_ok, Res.bind_exc, Res.bind_stk]
    rename_i x h1
    cases evE M C b' ev h1 <;> simp only [Res.bind_ok, Res.bind_exc, Res.bind_stk]
  rw [e0] at p
  refine ⟨φ, ev, h, R, r, Post.bind (Rel' := RD G) p fun dx h1 φ1 H1 x E1 R1 d1 p1 => ⟨φ1, ev, h1, R1, r.ext E1, Post.bind (Rel' := RD G) p1 fun dy h2 φ2 H2 y E2 R2 d2 p2 => ?_⟩⟩
  cases e : opD o dx dy h2 with
  | none => rw [e] at p2; exact p2.elim
  | some dz =>
    rw [e] at p2
    refine ⟨φ2, h2, dx, dy, dz, R2, d1.ext E2, d2, e, fun φ' H' v E3 R3 d3 => ?_⟩
    cases dz with
    | bl b => cases d3; exact ⟨b, rfl, p2 _ _ _ E3 R3 rfl⟩
    | _ => exact p2.elim
theorem s_isT {op : CmpOp} {o : Op} {j : Nat} (ho : OpR X (compareOp op) (fun x y H Q => y = .non ∧ rOp G (opD o) x y H Q)) (ha : PE X a (rE G M C W a')) (hm : behindInMarks op (.Constant .none j pos') = false) :
    PT X (.Compare a [op] [.Constant .none j pos'] pos) (rT G M C W (.op o a' (.cst .non))) := by
  refine pt_imp (pt_cmpR ho ha pe_non hm) fun σ H Q ⟨φ, ev, h, R, r, p⟩ => ?_
  have e0 : toB (evE M C (.op o a' (.cst .non)) ev h) = (evE M C a' ev h).bind fun x h => toB (optR h (opD o x .non h)) := by
    simp only [evE, toB]
    cases evE M C a' ev h <;> simp only [Res.bind_ok, Res.bind_exc, Res.bind_stk]
  rw [e0] at p
  refine ⟨φ, ev, h, R, r, Post.bind (Rel' := RD G) p fun dx h1 φ1 H1 x E1 R1 d1 p1 => ?_⟩
  cases e : opD o dx .non h1 with
  | none => rw [e] at p1; exact p1.elim
  | some dz =>
    rw [e] at p1
    refine ⟨rfl, φ1, h1, dx, .non, dz, R1, d1, .non, e, fun φ' H' v E3 R3 d3 => ?_⟩
    cases dz with
    | bl b => cases d3; exact ⟨b, rfl, p1 _ _ _ E3 R3 rfl⟩
    | _ => exact p1.elim
theorem toB_boolR {r : Res D} {f : Bool → Res D} (r' : Res D) : toB (r.bind fun x h => boolR x fun b => .ok (.bl b) h) = toB r := by
  cases r with
  | ok d h => cases d <;> rfl
  | _ => rfl
theorem s_not (ha : PT X a (rT G M C W a')) : PT X (.UnaryOp .Not a pos) (rT G M C W (.nt a')) := by
  refine pt_imp (pt_not ha) fun σ H Q ⟨φ, ev, h, R, r, p⟩ => ?_
  have e0 : toB (evE M C (.nt a') ev h) = (toB (evE M C a' ev h)).bind fun b h => .ok (!b) h := by
    simp only [evE, toB]
    cases q : evE M C a' ev h <;> simp only [Res.bind_ok, Res.bind_exc, Res.bind_stk]
    rename_i d h1
    cases d <;> rfl
  rw [e0] at p
  exact ⟨φ, ev, h, R, r, Post.bind (Rel' := fun _ _ x y => x = y) p fun dx h1 φ1 H1 x E1 R1 d1 p1 => p1 _ _ _ (.refl _ _) R1 (by rw [d1])⟩
theorem s_notV (ha : PE X a (rE G M C W a')) : PE X (.UnaryOp .Not a pos) (rE G M C W (.nt a')) := by
  refine pe_imp (pe_not ha) fun σ H Q ⟨φ, ev, h, R, r, p⟩ => ?_
  refine ⟨φ, ev, h, R, r, Post.bind (Rel' := RD G) p fun dx h1 φ1 H1 x E1 R1 d1 p1 => ?_⟩
  obtain ⟨b, rfl, p2⟩ := boolR_post p1
  cases d1
  exact ⟨b, rfl, p2 _ _ _ (.refl _ _) R1 (.bl _)⟩

/-! ### and, or -/
/-- the rest of an and: one or more -/
def AndV (X : Cx) (pos : Pos) (op : BoolOp) (es : List Expr) (t : TE) : Prop := PE X (.BoolOp op es pos) t
theorem s_and (ha : PE X a (rE G M C W a')) (hb : PE X (.BoolOp .And (b :: es) pos) (rE G M C W b')) : PE X (.BoolOp .And (a :: b :: es) pos) (rE G M C W (.and a' b')) := by
  refine pe_imp (pe_and ha hb) fun σ H Q ⟨φ, ev, h, R, r, p⟩ => ?_
  refine ⟨φ, ev, h, R, r, Post.bind (Rel' := RD G) p fun dx h1 φ1 H1 x E1 R1 d1 p1 => ?_⟩
  obtain ⟨b, rfl, p2⟩ := boolR_post p1
  cases d1
  refine ⟨b, rfl, ?_⟩
  cases b with
  | false => exact p2 _ _ _ (.refl _ _) R1 (.bl _)
  | true =>
    refine ⟨φ1, ev, h1, R1, r.ext E1, Post.bind (Rel' := RD G) p2 fun dy h2 φ2 H2 y E2 R2 d2 p3 => ?_⟩
    obtain ⟨b, rfl, p4⟩ := boolR_post p3
    exact p4 _ _ _ (.refl _ _) R2 d2
theorem s_or (ha : PE X a (rE G M C W a')) (hb : PE X (.BoolOp .Or (b :: es) pos) (rE G M C W b')) : PE X (.BoolOp .Or (a :: b :: es) pos) (rE G M C W (.or a' b')) := by
  refine pe_imp (pe_or ha hb) fun σ H Q ⟨φ, ev, h, R, r, p⟩ => ?_
  refine ⟨φ, ev, h, R, r, Post.bind (Rel' := RD G) p fun dx h1 φ1 H1 x E1 R1 d1 p1 => ?_⟩
  obtain ⟨b, rfl, p2⟩ := boolR_post p1
  cases d1
  refine ⟨b, rfl, ?_⟩
  cases b with
  | true => exact p2 _ _ _ (.refl _ _) R1 (.bl _)
  | false =>
    refine ⟨φ1, ev, h1, R1, r.ext E1, Post.bind (Rel' := RD G) p2 fun dy h2 φ2 H2 y E2 R2 d2 p3 => ?_⟩
    obtain ⟨b, rfl, p4⟩ := boolR_post p3
    exact p4 _ _ _ (.refl _ _) R2 d2
theorem toB_and (ev : Env) (h : AH) : toB (evE M C (.and a' b') ev h) = (toB (evE M C a' ev h)).bind fun b h => if b then toB (evE M C b' ev h) else .ok false h := by
  simp only [evE, toB]
  cases q : evE M C a' ev h <;> simp only [Res.bind_ok, Res.bind_exc, Res.bind_stk]
  rename_i d h1
  cases d <;> try rfl
  rename_i b
  cases b
  · rfl
  · simp only [boolR_bl, ↓reduceIte, Res.bind_ok]
    cases q : evE M C b' ev h1 <;> simp only [Res.bind_ok, Res.bind_exc, Res.bind_stk]
    rename_i d h1
    cases d <;> rfl
theorem toB_or (ev : Env) (h : AH) : toB (evE M C (.or a' b') ev h) = (toB (evE M C a' ev h)).bind fun b h => if b then .ok true h else toB (evE M C b' ev h) := by
  simp only [evE, toB]
  cases q : evE M C a' ev h <;> simp only [Res.bind_ok, Res.bind_exc, Res.bind_stk]
  rename_i d h1
  cases d <;> try rfl
  rename_i b
  cases b
  · simp only [boolR_bl, Bool.false_eq_true, ↓reduceIte, Res.bind_ok]
    cases q : evE M C b' ev h1 <;> simp only [Res.bind_ok, Res.bind_exc, Res.bind_stk]
    rename_i d h1
    cases d <;> rfl
  · rfl
theorem s_andT (ha : PT X a (rT G M C W a')) (hb : PW X (.BoolOp .And (b :: es) pos) (rT G M C W b')) : PW X (.BoolOp .And (a :: b :: es) pos) (rT G M C W (.and a' b')) := by
  refine pw_imp (pw_and ha hb) fun σ H Q ⟨φ, ev, h, R, r, p⟩ => ?_
  rw [toB_and] at p
  refine ⟨φ, ev, h, R, r, Post.bind (Rel' := fun _ _ x y => x = y) p fun dx h1 φ1 H1 x E1 R1 d1 p1 => ?_⟩
  subst d1
  cases dx with
  | false => exact p1 _ _ _ (.refl _ _) R1 rfl
  | true => exact ⟨φ1, ev, h1, R1, r.ext E1, p1⟩
theorem s_orT (ha : PT X a (rT G M C W a')) (hb : PW X (.BoolOp .Or (b :: es) pos) (rT G M C W b')) : PW X (.BoolOp .Or (a :: b :: es) pos) (rT G M C W (.or a' b')) := by
  refine pw_imp (pw_or ha hb) fun σ H Q ⟨φ, ev, h, R, r, p⟩ => ?_
  rw [toB_or] at p
  refine ⟨φ, ev, h, R, r, Post.bind (Rel' := fun _ _ x y => x = y) p fun dx h1 φ1 H1 x E1 R1 d1 p1 => ?_⟩
  subst d1
  cases dx with
  | true => exact p1 _ _ _ (.refl _ _) R1 rfl
  | false => exact ⟨φ1, ev, h1, R1, r.ext E1, p1⟩
theorem s_ite (hc : PT X c (rT G M C W c')) (ha : PE X a (rE G M C W a')) (hb : PE X b (rE G M C W b')) : PE X (.IfExp c a b pos) (rE G M C W (.ite c' a' b')) := by
  refine pe_imp (pe_ifExp hc ha hb) fun σ H Q ⟨φ, ev, h, R, r, p⟩ => ?_
  have e0 : evE M C (.ite c' a' b') ev h = (toB (evE M C c' ev h)).bind fun k h => if k then evE M C a' ev h else evE M C b' ev h := by
    simp only [evE, toB]
    cases q : evE M C c' ev h <;> simp only [Res.bind_ok, Res.bind_exc, Res.bind_stk]
    rename_i d h1
    cases d <;> rfl
  rw [e0] at p
  refine ⟨φ, ev, h, R, r, Post.bind (Rel' := fun _ _ x y => x = y) p fun dx h1 φ1 H1 x E1 R1 d1 p1 => ?_⟩
  subst d1
  cases dx with
  | true => exact ⟨φ1, ev, h1, R1, r.ext E1, p1⟩
  | false => exact ⟨φ1, ev, h1, R1, r.ext E1, p1⟩

/-! ### argument lists, displays -/
theorem s_nil : PA X [] (rEs G M C W .nil) := pa_imp pa_nil fun σ H Q ⟨φ, ev, h, R, r, p⟩ => p _ _ _ (.refl _ _) R .nil
theorem s_cons (ha : PE X a (rE G M C W a')) (hr : PA X es (rEs G M C W es')) (hs : starEach (a :: es) X.env = (false, eval a X.env) :: starEach es X.env) : PA X (a :: es) (rEs G M C W (.cons a' es')) := by
  refine pa_imp (pa_cons ha hr hs) fun σ H Q ⟨φ, ev, h, R, r, p⟩ => ?_
  refine ⟨φ, ev, h, R, r, Post.bind (Rel' := RD G) p fun dx h1 φ1 H1 x E1 R1 d1 p1 => ⟨φ1, ev, h1, R1, r.ext E1, Post.bind (Rel' := RDs G) p1 fun dy h2 φ2 H2 y E2 R2 d2 p2 => ?_⟩⟩
  exact p2 _ _ _ (.refl _ _) R2 (.cons (d1.ext E2) d2)
theorem s_tup {j : Nat} (ha : PA X es (rEs G M C W es')) : PE X (.Tuple es j pos) (rE G M C W (.tup es')) := by
  refine pe_imp (pe_tup ha) fun σ H Q ⟨φ, ev, h, R, r, p⟩ => ?_
  refine ⟨φ, ev, h, R, r, Post.bind (Rel' := RDs G) p fun dx h1 φ1 H1 x E1 R1 d1 p1 => ?_⟩
  split at p1
  · rename_i hz
    refine ⟨by rw [← d1.length]; exact hz, fun q hq => ?_⟩
    obtain ⟨E2, R2, D2⟩ := RD.new_tup R1 hq d1
    exact p1 _ _ _ E2 R2 D2
  · exact p1.elim
theorem s_lst (ha : PA X es (rEs G M C W es')) : PE X (.List es pos) (rE G M C W (.lst es')) := by
  refine pe_imp (pe_lst ha) fun σ H Q ⟨φ, ev, h, R, r, p⟩ => ?_
  refine ⟨φ, ev, h, R, r, Post.bind (Rel' := RDs G) p fun dx h1 φ1 H1 x E1 R1 d1 p1 => ?_⟩
  split at p1
  · rename_i hz
    refine ⟨by rw [← d1.length]; exact hz, fun q hq => ?_⟩
    obtain ⟨E2, R2, D2⟩ := RD.new_lst R1 hq d1
    exact p1 _ _ _ E2 R2 D2
  · exact p1.elim
/-- a new list that may change -/
theorem mk_ref {φ : Phi} {H : Hp} {h : AH} {p : Addr} {ds : List D} {xs : List V} (R : HRel G φ h H) (e : H p = none) (rd : RDs G φ H ds xs) :
    Ext φ H (φ.put h.length p) (upd H p (.lst xs)) ∧ HRel G (φ.put h.length p) (h ++ [.lst ds]) (upd H p (.lst xs)) ∧ RD G (φ.put h.length p) (upd H p (.lst xs)) (.ref h.length) (.ref p) :=
  ⟨R.ext_mk e, R.mk_lst e rd, .ref Phi.put_same⟩
theorem s_mls (ha : PA X es (rEs G M C W es')) : PE X (.List es pos) (rE G M C W (.mls es')) := by
  refine pe_imp (pe_lst ha) fun σ H Q ⟨φ, ev, h, R, r, p⟩ => ?_
  refine ⟨φ, ev, h, R, r, Post.bind (Rel' := RDs G) p fun dx h1 φ1 H1 x E1 R1 d1 p1 => ?_⟩
  split at p1
  · rename_i hz
    refine ⟨by rw [← d1.length]; exact hz, fun q hq => ?_⟩
    obtain ⟨E2, R2, D2⟩ := mk_ref R1 hq d1
    exact p1 _ _ _ E2 R2 D2
  · exact p1.elim
end
end Ev

/-! Places, slices, calls. -/
namespace Ev
open PySem PySem.Spec PyProof.Rows L2 PySem.W PySem.SeqAt

section
variable {G : Gl0} {M : Mo} {C : Orc} {T : Nt} {k : Nat} {N : List Str} {sc : Scope} {fc : Str → Bool} {W : WX} {X : Cx} {a b c : Expr} {es : List Expr} {a' b' c' : E} {es' : Es} {pos pos' : Pos}
variable {pins : List (Addr × Obj)} {σ : L2.St} {H : Hp} {s : Shared} {φ : Phi} {h : AH}

theorem RDs.atI {ds : List D} {xs : List V} {i : Int} {d : D} (r : RDs G φ H ds xs) (e : L2.atI ds i = some d) : ∃ v, L2.atI xs i = some v ∧ RD G φ H d v := by
  unfold L2.atI at e ⊢
  rw [← r.length]
  cases q : L2.ixN ds.length i with
  | none => rw [q] at e; cases e
  | some j => rw [q] at e; exact r.get (by simpa using e)
theorem idxD_other {x i : D} (hn : ∀ z k, ¬ (x = .str z ∧ i = .int k)) : idxD h x i = idxQ h x i := by
  unfold idxD
  split
  · rename_i z k; exact absurd ⟨rfl, rfl⟩ (hn z k)
  · rfl
theorem ix_S (hK : X.K = G.K) : IxR X (rOp G fun x y h => idxD h x y) := by
  rintro value slice pins s σ H x y v u Q I rx ry ⟨φ, h, dx, dy, dz, R, r1, r2, e, q⟩ hs
  have seq : ∀ ds k, seqOf h dx = some ds → dy = .int k → L2.atI ds k = some dz → wpAny (model X.prog X.w) X.A (subscriptTail value slice v u) (EP X pins σ Q) X.xe s := by
    intro ds k e1 e2 e3
    subst e2; cases r2
    obtain ⟨a, xs, rfl, hx, rs⟩ := RD.of_seq R r1 e1
    obtain ⟨w, hw, rw'⟩ := rs.atI e3
    rcases hx with hx | hx
    · exact ix_list value slice pins s σ H _ _ v u Q I rx ry ⟨a, xs, k, w, rfl, rfl, by rw [hK]; exact hx, hw, q _ _ _ (.refl _ _) R rw'⟩ hs
    · exact ix_tup value slice pins s σ H _ _ v u Q I rx ry ⟨a, xs, k, w, rfl, rfl, by rw [hK]; exact hx, hw, q _ _ _ (.refl _ _) R rw'⟩ hs
  by_cases hst : ∃ z k, dx = .str z ∧ dy = .int k
  · obtain ⟨z, k, rfl, rfl⟩ := hst
    simp only [idxD] at e
    split at e
    · rename_i hz
      obtain ⟨c, hc, e2⟩ := Option.map_eq_some_iff.mp e
      subst e2; cases r1; cases r2
      exact ix_str value slice pins s σ H _ _ v u Q I rx ry ⟨z, k, c, rfl, rfl, hz, hc, q _ _ _ (.refl _ _) R (.str _)⟩ hs
    · cases e
  · have e : idxD h dx dy = some dz := e
    rw [idxD_other fun z k q => hst ⟨z, k, q⟩] at e
    unfold idxQ at e
    cases q1 : seqOf h dx with
    | some ds =>
      rw [q1] at e
      cases dy with
      | int k => exact seq ds k q1 rfl e
      | _ =>
        simp only at e
        split at e
        · rename_i ks vs hd; exact (dic_none R r1 hd).elim
        · cases e
    | none =>
      rw [q1] at e
      simp only at e
      split at e
      · rename_i ks vs hd; exact (dic_none R r1 hd).elim
      · cases e
theorem s_idx (hK : X.K = G.K) (ha : PE X a (rE G M C W a')) (hb : PE X b (rE G M C W b')) (hs : PlainIx b) : PE X (.Subscript a b pos) (rE G M C W (.idx a' b')) := by
  refine pe_imp (pe_ix (ix_S hK) ha hb hs) fun σ H Q ⟨φ, ev, h, R, r, p⟩ => ?_
  refine ⟨φ, ev, h, R, r, Post.bind (Rel' := RD G) p fun dx h1 φ1 H1 x E1 R1 d1 p1 => ⟨φ1, ev, h1, R1, r.ext E1, Post.bind (Rel' := RD G) p1 fun dy h2 φ2 H2 y E2 R2 d2 p2 => ?_⟩⟩
  obtain ⟨dz, e, q⟩ := p2.opt
  exact ⟨φ2, h2, dx, dy, dz, R2, d1.ext E2, d2, e, q⟩

/-! ### slices -/
theorem RDs.cut {ds : List D} {xs : List V} (r : RDs G φ H ds xs) (lo hi : Option Int) : RDs G φ H (cutL ds lo hi) (cutV xs lo hi) := by
  unfold cutL cutV
  rw [← r.length]
  exact (r.drop _).take _
def rSl (G : Gl0) : V → Option Int → Option Int → Hp → VK → Prop := fun x lo hi H Q => ∃ φ h dx dz, HRel G φ h H ∧ RD G φ H dx x ∧ slcD h dx lo hi = some dz ∧
  ∀ φ' H' v, Ext φ H φ' H' → HRel G φ' h H' → RD G φ' H' dz v → Q v H'
theorem sIx_self (n : Nat) : HT.sIx n 0 none = 0 ∧ HT.sIx n n none = n := ⟨rfl, rfl⟩
theorem ints_RDs (ns : List Int) : RDs G φ H (ns.map D.int) (ns.map V.int) := by
  induction ns with
  | nil => exact .nil
  | cons n ns ih => exact .cons (.int n) ih
theorem sl_S (hK : X.K = G.K) : SlR X (rSl G) := by
  rintro pins s σ H x v vl vu lo hi sl Q I rx hs pl pu ⟨φ, h, dx, dz, R, r1, e, q⟩
  have lst : ∀ {a : Addr} {xs : List V} {ds : List D}, x = .ref a → SqL X.K H a xs → RDs G φ H ds xs → dz = .lst (cutL ds lo hi) →
      ∃ T id, typeLookup (.type T) "__getitem__" = pure (some (.builtin id)) ∧ s.TypeIs v T ∧ wpAny (model X.prog X.w) X.A (getItem v (.ref sl)) (EP X pins σ Q) X.xe s := by
    rintro a xs ds rfl hx rs rfl
    refine sl_list pins s σ H _ v vl vu lo hi sl Q I rx hs pl pu ⟨a, xs, rfl, hx, fun p hp => ?_⟩
    obtain ⟨E1, R1, D1⟩ := RD.new_lst R hp (rs.cut lo hi)
    exact q _ _ _ E1 R1 D1
  cases r1 with
  | @tup ds xs a h1 rs =>
    simp only [slcD, Option.some.injEq] at e
    subst e
    refine sl_tupA pins s σ H _ v vl vu lo hi sl Q I rx hs pl pu ⟨a, xs, rfl, by rw [hK]; exact h1.sq, fun z => ?_, fun _ p hp => ?_⟩
    · refine q _ _ _ (.refl _ _) R (.tup h1 ?_)
      have : cutL ds lo hi = ds := by
        unfold cutL
        rw [rs.length, z.1, z.2, ← rs.length]
        simp
      rw [this]; exact rs
    · obtain ⟨E1, R1, D1⟩ := RD.new_tup R hp (rs.cut lo hi)
      exact q _ _ _ E1 R1 D1
  | @lst ds xs a h1 rs =>
    simp only [slcD, lstOf, Option.some.injEq] at e
    exact lst rfl (.inl (.inl h1.1)) rs e.symm
  | @ref n a ha =>
    obtain ⟨o, ho, w⟩ := R.at' ha
    simp only [slcD, lstOf, ho] at e
    cases o with
    | lst ds =>
      simp only [Option.some.injEq] at e
      obtain ⟨xs, h1, rs⟩ := w
      exact lst rfl (.inl (.inl h1)) rs e.symm
    | dic => simp at e
    | ins => simp at e
  | @scr ns a h1 =>
    simp only [slcD, Option.some.injEq] at e
    exact lst rfl (by rw [hK]; exact h1.sq) (ints_RDs ns) e.symm
  | _ => simp [slcD, lstOf] at e
theorem po_imp {e : Option Expr} {t t' : TO} (h : PO X e t) (hi : ∀ σ H Q, t' σ H Q → t σ H Q) : PO X e t' := ⟨fun pins s σ H Q I q => h.run pins s σ H Q I (hi σ H Q q)⟩
theorem s_no : PO X none (rO G M C W .no) := po_imp po_none fun σ H Q ⟨φ, ev, h, R, r, p⟩ => p _ _ _ (.refl _ _) R rfl
theorem s_so (ha : PE X a (rE G M C W a')) : PO X (some a) (rO G M C W (.so a')) := by
  refine po_imp (po_some ha) fun σ H Q ⟨φ, ev, h, R, r, p⟩ => ?_
  refine ⟨φ, ev, h, R, r, Post.bind (Rel' := RD G) p fun dx h1 φ1 H1 x E1 R1 d1 p1 => ?_⟩
  cases dx with
  | int i => cases d1; exact ⟨i, rfl, p1 _ _ _ (.refl _ _) R1 rfl⟩
  | _ => exact p1.elim
theorem s_slc {lo hi : Option Expr} {lo' hi' : Eo} (hK : X.K = G.K) (ha : PE X a (rE G M C W a')) (hl : PO X lo (rO G M C W lo')) (hu : PO X hi (rO G M C W hi')) :
    PE X (.Subscript a (.Slice lo hi none pos') pos) (rE G M C W (.slc a' lo' hi')) := by
  refine pe_imp (pe_slice (sl_S hK) ha hl hu) fun σ H Q ⟨φ, ev, h, R, r, p⟩ => ?_
  refine ⟨φ, ev, h, R, r, Post.bind (Rel' := RD G) p fun dx h1 φ1 H1 x E1 R1 d1 p1 => ⟨φ1, ev, h1, R1, r.ext E1, Post.bind (Rel' := fun _ _ x y => x = y) p1 fun l h2 φ2 H2 y E2 R2 d2 p2 => ?_⟩⟩
  subst d2
  refine ⟨φ2, ev, h2, R2, (r.ext E1).ext E2, Post.bind (Rel' := fun _ _ x y => x = y) p2 fun u h3 φ3 H3 y E3 R3 d3 p3 => ?_⟩
  subst d3
  obtain ⟨dz, e, q⟩ := p3.opt
  exact ⟨φ3, h3, dx, dz, R3, (d1.ext E2).ext E3, e, q⟩

/-! ### a list display, several times -/
theorem s_rpl {mu : Bool} (ha : PA X es (rEs G M C W es')) (hb : PE X b (rE G M C W b')) : PE X (.BinOp (.List es pos') .Mult b pos) (rE G M C W (.rpl mu es' b')) := by
  refine pe_imp (pe_op op_rep (pe_lst ha) hb) fun σ H Q ⟨φ, ev, h, R, r, p⟩ => ?_
  refine ⟨φ, ev, h, R, r, Post.bind (Rel' := RDs G) p fun ds h1 φ1 H1 xs E1 R1 d1 p1 => ?_⟩
  split at p1
  · rename_i hl
    refine ⟨by rw [← d1.length, sizeLine_eq]; omega, fun l hl0 => ?_⟩
    obtain ⟨E2, R2, D2⟩ := RD.new_lst R1 hl0 d1
    have E12 := E1.trans E2
    refine ⟨φ1, ev, h1, R2, r.ext E12, Post.bind (Rel' := RD G) (p1.later E2) fun dy h2 φ2 H2 y E3 R3 d3 p3 => ?_⟩
    cases dy with
    | int j =>
      cases d3
      simp only at p3
      split at p3
      · rename_i hj
        have D3 := D2.ext E3
        cases D3 with
        | @lst _ xs' _ hx rs =>
          have hx' := E3.keep l _ upd_same (R1.off hl0)
          rw [hx.1] at hx'
          have e0 : xs' = xs := by have := hx'.1; simpa using this
          subst e0
          have hxl := rs.length
          refine ⟨l, j, xs', rfl, rfl, hx.1, by omega, by omega, ?_, fun q hq => ?_⟩
          · rw [sizeLine_eq]
            have a1 : xs'.length * j.toNat ≤ 1000 * 1000 := Nat.mul_le_mul (by omega) (by omega)
            omega
          · cases mu with
            | true =>
              obtain ⟨E4, R4, D4⟩ := mk_ref R3 hq (rs.flat j.toNat)
              exact p3 _ _ _ E4 R4 D4
            | false =>
              obtain ⟨E4, R4, D4⟩ := RD.new_lst R3 hq (rs.flat j.toNat)
              exact p3 _ _ _ E4 R4 D4
      · exact p3.elim
    | _ => exact p3.elim
  · exact p1.elim

/-! ### calls -/
theorem post_sig {σ σ' : L2.St} {Q : VK} {r : Res D} {Ex : XK} (p : Post G (RD G) W σ φ H Q r) (hE : ∀ cls d H', W cls d σ H' → Ex cls d H') : Post G (RD G) (fun cls dct _ H' => Ex cls dct H') σ' φ H Q r := by
  cases r with
  | ok a h => exact p
  | exc c ds h => exact fun φ' H' cls dct e R x => hE _ _ _ (p φ' H' cls dct e R x)
  | stk => exact p
theorem spF_of {f : Nat} {σ : L2.St} {vs : List V} {ds : List D} {Q : VK} (R : HRel G φ h H) (r : RDs G φ H ds vs) (p : Post G (RD G) W σ φ H Q (C f ds h)) : spF G C f vs H Q (WE W σ) :=
  ⟨φ, h, ds, R, r, post_sig p fun _ _ _ w => w⟩
theorem s_call {f : Nat} {x : Str} (g : Gd G M C T k N sc fc W X) (hx : T.fn f = some x) (hg : glC sc x = true) (ha : PA X (a :: es) (rEs G M C W es'))
    (he : starEach (a :: es) X.env = (false, eval a X.env) :: starEach es X.env) (hpl : (backTo pos (starEach es X.env)).any (·.1) = false) : PE X (.Call (.Name x pos') (a :: es) [] pos) (rE G M C W (.call f es')) := by
  obtain ⟨ad, fd, ps, h1, h2, h3, h4, h5⟩ := g.fns f x hx
  obtain ⟨g1, g2, g3⟩ := gl_of g hg
  refine pe_imp (pe_callS h5 g.room g1 h2 h3 h4 (fun σ => passAt g.tk σ) ha g2 he hpl) fun σ H Q ⟨φ, ev, h, R, r, p⟩ => ?_
  exact ⟨φ, ev, h, R, r, Post.bind (Rel' := RDs G) p fun ds h1 φ1 H1 xs E1 R1 d1 p1 => spF_of R1 d1 p1⟩
end
end Ev

/-! The built-ins. -/
namespace Ev
open PySem PySem.Spec PyProof.Rows L2 PySem.W PySem.SeqAt

open Classical in
noncomputable instance : DecidableEq PyData := fun a b => Classical.propDecidable (a = b)
section
variable {prog : Program} {w : World} {A : Around} {E : Value → Shared → Prop} {s : Shared}
/-- two tuples by the sort's one-type comparison -/
theorem oneLt_tup {xs ys : List PyData} {a b : Value} {as bs : List Addr} {Q : Bool → Shared → Prop} (ra : Reads s.heap a (.tuple xs) as) (rb : Reads s.heap b (.tuple ys) bs) (hal : alikeAll xs ys = true)
    (hu : A.units + min (PyData.tuple xs).depth (PyData.tuple ys).depth < cLine) (hq : Q (dataLt (.tuple xs) (.tuple ys)) s) : wpAny (model prog w) A (oneLt' true a b) Q E s := by
  cases ra with
  | @tuple l o vs n _ as₁ h1 h2 h3 h4 =>
    cases rb with
    | @tuple l' o' vs' n' _ bs₁ k1 k2 k3 k4 =>
      have n1 : vs.size = xs.length := by simpa using ReadsAll.length _ _ _ h4
      have n2 : vs'.size = ys.length := by simpa using ReadsAll.length _ _ _ k4
      rw [dataLt_tuple, ← firstLt_toks xs ys hal, ← n1, ← n2] at hq
      obtain ⟨oc, od, odt, osl⟩ := o
      obtain ⟨oc', od', odt', osl'⟩ := o'
      simp only at h2 h3 k2 k3
      subst h2 h3 k2 k3
      rw [oneLt'_eq, if_pos rfl]
      refine wpAny_bind (wpAny_cRoomFor (room_here hu) ?_)
      refine wpAny_bind (wpAny_callSpecialIfBound?_slot (T := "tuple") ⟨_, h1, rfl⟩ F.slot_tuple_lt
        (call_meets F.slot_tuple_lt ⟨_, h1, rfl⟩ F.entry_tuple_lt (F.args_tuple_lt_2 _ _)
          (PySem.SeqAt.tuple_ltAt l l' vs vs' n n' od od' osl osl' (pairEq xs ys) (fun j => dataLt (xs.getD j .none) (ys.getD j .none))) ⟨h1, k1, fun j j1 j2 => ?_, fun j j1 j2 hj => ?_, ?_⟩))
      · have := eqAt_alikeAll xs ys A.in1 s vs.toList vs'.toList _ _ h4 k4 hal (room_in hu) j (by simpa using j1) (by simpa using j2)
        simpa using this
      · have := rcLt_alikeAll xs ys A.in1 s vs.toList vs'.toList _ _ h4 k4 hal (room_in hu) j (by simpa using j1) (by simpa using j2) hj
        simpa using this
      · exact wpAny_truthy_bool hq

/-- the first items of tuples, none of an empty one -/
theorem first_tups : ∀ (vs : List Value) (ds : List PyData) {Q : List (Option Value) → Shared → Prop}, EachIs (fun v d => ∃ as, Reads s.heap v d as) vs ds → (∀ d ∈ ds, ∃ xs, d = .tuple xs) →
    (∀ r : List (Option Value), r.map Option.isSome = ds.map (fun d => !decide (d = .tuple [])) → Q r s) → wpAny (model prog w) A (vs.mapM firstOfTuple') Q E s
  | _, _, Q, .nil, _, h => by
    rw [List.mapM_nil]
    exact wpAny_pure (h [] rfl)
  | v :: vs, d :: ds, Q, .cons ⟨as, r⟩ t, ht, h => by
    obtain ⟨xs, rfl⟩ := ht d (by simp)
    cases r with
    | @tuple a o its n _ _ ho hc hd hr =>
      rw [List.mapM_cons]
      refine wpAny_bind ?_
      rw [kas_first_eq]
      refine wpAny_bind (Looks.here (show Looks (model prog w) s.heap (typeOf (.ref a)) o.cls from (Looks.ld ho).andThen .now) ?_)
      rw [hc, if_neg (by simp)]
      refine wpAny_bind (listItems_at ho hd (wpAny_pure ?_))
      refine wpAny_bind (first_tups vs ds (Q := fun bs s' => wpAny (model prog w) A (pure (its[0]? :: bs)) Q E s') t (fun d hd => ht d (by simp [hd])) fun r hr' => wpAny_pure (h _ ?_))
      rw [List.map_cons, List.map_cons, hr']
      congr 1
      cases xs with
      | nil =>
        cases q : its.toList with
        | nil => rw [← Array.getElem?_toList, q]; simp
        | cons => rw [q] at hr; cases hr
      | cons x xs =>
        cases q : its.toList with
        | nil => rw [q] at hr; cases hr
        | cons f fr => rw [← Array.getElem?_toList, q]; simp
theorem kind_emp {vs : List Value} {ds : List PyData} {Q : SortKind → Shared → Prop} (e : EachIs (fun v d => ∃ as, Reads s.heap v d as) vs ds) (ht : ∀ d ∈ ds, ∃ xs, d = .tuple xs) (hem : PyData.tuple [] ∈ ds)
    (h : Q (if ds[0]? = some (.tuple []) then oneType' else general') s) : wpAny (model prog w) A (keyKind' vs.toArray) Q E s := by
  rw [kat_kind_eq, List.mapM_toArray, map_eq_pure_bind]
  refine wpAny_bind (wpAny_bind (first_tups vs ds e ht fun r hr => wpAny_pure ?_))
  have hall : (r.toArray.all fun x => x.isSome) = false := by
    have : (r.map Option.isSome).all id = false := by
      rw [hr]
      rw [List.all_eq_false]
      exact ⟨_, List.mem_map.mpr ⟨_, hem, rfl⟩, by simp⟩
    simpa [List.all_map, Function.comp_def] using this
  rw [if_neg (by rw [hall]; simp)]
  have h0 : (r.toArray[0]?.bind id).isSome = !decide (ds[0]? = some (.tuple [])) := by
    cases ds with
    | nil => cases hem
    | cons d ds =>
      cases r with
      | nil => simp at hr
      | cons x r =>
        simp only [List.map_cons, List.cons.injEq] at hr
        simp [hr.1]
  by_cases hz : ds[0]? = some (.tuple [])
  · rw [h0, if_neg (by simp [hz])]
    rw [if_pos hz] at h
    rw [oneTypeOnly'_eq, List.mapM_toArray, map_eq_pure_bind]
    refine wpAny_bind (wpAny_bind (wpAny_bind (kas_mapM (r := Value.type "tuple") _ (fun v hv Q' hq => ?_) (wpAny_pure ?_))))
    · obtain ⟨d, hd, as, r⟩ := e.left v hv
      obtain ⟨xs, rfl⟩ := ht d hd
      exact (looks_reads (M := model prog w) r).here hq
    · cases vs with
      | nil => cases e; cases hem
      | cons v vs =>
        have hq2 : ((List.map (fun _ => Value.type "tuple") (v :: vs)).toArray.all fun x => x == Value.type "tuple") = true := by simp
        simp only [List.map_cons, List.getElem?_toArray, List.getElem?_cons_zero]
        rw [if_pos (by simpa using hq2)]
        exact wpAny_pure (wpAny_pure h)
  · rw [h0, if_pos (by simp [hz])]
    rw [if_neg hz] at h
    exact wpAny_pure h
/-- tuples of which some are empty can be sorted -/
theorem sorts_emp {vs : List Value} {ds : List PyData} (e : EachIs (fun v d => ∃ as, Reads s.heap v d as) vs ds) (hal : AllAlike ds) (ht : ∀ d ∈ ds, ∃ xs, d = .tuple xs) (hem : PyData.tuple [] ∈ ds) (hu : ∀ d, d ∈ ds → A.units + d.depth < cLine) :
    SortsAt prog w A s (dataKind s.heap ds) vs := by
  have room : ∀ {d d' : PyData}, d ∈ ds → A.units + min d.depth d'.depth < cLine := fun {d d'} hd => Nat.lt_of_le_of_lt (Nat.add_le_add_left (Nat.min_le_left _ _) _) (hu d hd)
  refine ⟨fun v hv => ?_, if ds[0]? = some (.tuple []) then oneType' else general', ?_, fun _ E Q hq => kind_emp e ht hem hq⟩
  · obtain ⟨d, hd, as, r⟩ := e.left v hv
    exact ⟨_, dataKind_some hal hd r⟩
  · intro E x y a b Q ha hb hq
    obtain ⟨d, as, hd, ra, rfl⟩ := dataKind_inv ha
    obtain ⟨d', as', hd', rb, rfl⟩ := dataKind_inv hb
    have hdd := hal d hd d' hd'
    obtain ⟨xs, rfl⟩ := ht d hd
    obtain ⟨ys, rfl⟩ := ht d' hd'
    split
    · rw [keyLt'_oneType]
      exact oneLt_tup ra rb (by simpa [alike] using hdd) (room hd) hq
    · show wpAny _ _ (oneLt' false x y) _ _ _
      exact oneLt_alike (f := false) (fun z => nomatch z) ra rb hdd (by simp) (room hd) hq
theorem sorts_any {vs : List Value} {ds : List PyData} (e : EachIs (fun v d => ∃ as, Reads s.heap v d as) vs ds) (hal : AllAlike ds) (hn : ∀ d ∈ ds, d ≠ .none) (hu : ∀ d, d ∈ ds → A.units + d.depth < cLine) : SortsAt prog w A s (dataKind s.heap ds) vs := by
  cases ds with
  | nil => exact SortsAt.data e hal (.inl fun d hd => nomatch hd) hu
  | cons d₀ r =>
    by_cases h0 : ∃ xs, d₀ = .tuple xs
    · obtain ⟨x0, rfl⟩ := h0
      have ht : ∀ d ∈ PyData.tuple x0 :: r, ∃ xs, d = .tuple xs := fun d hd => by
        have := hal d hd (.tuple x0) (by simp)
        cases d <;> first | exact ⟨_, rfl⟩ | simp [alike] at this
      by_cases hem : PyData.tuple [] ∈ PyData.tuple x0 :: r
      · exact sorts_emp e hal ht hem hu
      · refine SortsAt.data e hal (.inl fun d hd => ?_) hu
        obtain ⟨xs, rfl⟩ := ht d hd
        cases xs with
        | nil => exact absurd hd hem
        | cons x r => exact ⟨x, r, rfl⟩
    · refine SortsAt.data e hal (.inr fun d hd => ⟨hn d hd, fun xs z => ?_⟩) hu
      subst z
      have := hal (.tuple xs) hd d₀ (by simp)
      cases d₀ <;> first | exact h0 ⟨_, rfl⟩ | simp [alike] at this
end
end Ev

/-! The built-ins called. -/
namespace Ev
open PySem PySem.Spec PyProof.Rows L2 PySem.W PySem.SeqAt

section
variable {G : Gl0} {M : Mo} {C : Orc} {T : Nt} {k : Nat} {N : List Str} {sc : Scope} {fc : Str → Bool} {W : WX} {X : Cx} {a b c : Expr} {es : List Expr} {a' b' c' : E} {es' : Es} {pos pos' : Pos}
variable {pins : List (Addr × Obj)} {σ : L2.St} {H : Hp} {s : Shared} {φ : Phi} {h : AH}

/-- a built-in, as the evaluator has it -/
def rBi (G : Gl0) (b : Bi) : List V → Hp → VK → Prop := fun xs H Q => ∃ φ h ds, HRel G φ h H ∧ RDs G φ H ds xs ∧ Post G (RD G) (fun _ _ _ _ => False) [] φ H Q (biD b ds h)
theorem cr_lenS (hK : X.K = G.K) : CallR X (.builtin "len") (rBi G .len) := by
  rintro pins s σ H xs us Q I r ⟨φ, h, ds, R, rd, p⟩
  cases rd with
  | nil => simp only [biD] at p; exact p.elim
  | @cons d v ds vs h1 rd =>
    cases rd with
    | cons => simp only [biD] at p; exact p.elim
    | nil =>
      simp only [biD] at p
      split at p
      · rename_i z
        split at p
        · cases h1
          exact call_len_str pins s σ H _ us Q I r ⟨_, rfl, by assumption, p _ _ _ (.refl _ _) R (.int _)⟩
        · exact p.elim
      · cases h1
      · split at p
        · rename_i es he
          unfold walkOf at he
          split at he
          · rename_i es' hs
            cases he
            obtain ⟨ad, ys, rfl, hx, rs⟩ := RD.of_seq R h1 hs
            refine call_len_seq pins s σ H _ us Q I r ⟨ad, ys, rfl, by rw [hK]; exact hx, ?_⟩
            rw [← rs.length]
            exact p _ _ _ (.refl _ _) R (.int _)
          · split at he
            · rename_i hd; exact (dic_none R h1 hd).elim
            · cases he
        · exact p.elim
theorem bls_of : ∀ {ds : List D} {xs : List V} {bs : List Bool}, RDs G φ H ds xs → boolsD ds = some bs → xs = bs.map V.bl
  | [], _, _, .nil, e => by simp [boolsD] at e; subst e; rfl
  | d :: ds, _, _, .cons h r, e => by
    cases d <;> simp only [boolsD, reduceCtorEq] at e
    obtain ⟨bs', e1, rfl⟩ := Option.map_eq_some_iff.mp e
    cases h
    rw [bls_of r e1]; rfl
theorem ints_of : ∀ {ds : List D} {xs : List V} {bs : List Int}, RDs G φ H ds xs → intsD ds = some bs → xs = bs.map V.int
  | [], _, _, .nil, e => by simp [intsD] at e; subst e; rfl
  | d :: ds, _, _, .cons h r, e => by
    cases d <;> simp only [intsD, reduceCtorEq] at e
    obtain ⟨bs', e1, rfl⟩ := Option.map_eq_some_iff.mp e
    cases h
    rw [ints_of r e1]; rfl
/-- one argument that is a list -/
theorem lst_arg (R : HRel G φ h H) {d : D} {v : V} {ds : List D} (r : RD G φ H d v) (e : lstOf h d = some ds) : ∃ a xs, v = .ref a ∧ H a = some (.lst xs) ∧ RDs G φ H ds xs := by
  obtain ⟨a, rfl⟩ := RD.of_lst R r e
  obtain ⟨xs, h1, h2⟩ := r.lst_at R e
  exact ⟨a, xs, rfl, h1, h2⟩
theorem cr_allS (g : X.calm = true) : CallR X (.builtin "all") (rBi G .all) := by
  rintro pins s σ H xs us Q I r ⟨φ, h, ds, R, rd, p⟩
  cases rd with
  | nil => simp only [biD] at p; exact p.elim
  | @cons d v ds vs h1 rd =>
    cases rd with
    | cons => simp only [biD] at p; exact p.elim
    | nil =>
      simp only [biD] at p
      split at p
      · rename_i bs hb
        obtain ⟨es, e1, e2⟩ := Option.bind_eq_some_iff.mp hb
        obtain ⟨ad, xs, rfl, h2, h3⟩ := lst_arg R h1 e1
        exact cr_all g pins s σ H _ us Q I r ⟨ad, bs, rfl, .inl (.inl (by rw [h2, bls_of h3 e2])), p _ _ _ (.refl _ _) R (.bl _)⟩
      · exact p.elim
theorem cr_anyS (g : X.calm = true) : CallR X (.builtin "any") (rBi G .any) := by
  rintro pins s σ H xs us Q I r ⟨φ, h, ds, R, rd, p⟩
  cases rd with
  | nil => simp only [biD] at p; exact p.elim
  | @cons d v ds vs h1 rd =>
    cases rd with
    | cons => simp only [biD] at p; exact p.elim
    | nil =>
      simp only [biD] at p
      split at p
      · rename_i bs hb
        obtain ⟨es, e1, e2⟩ := Option.bind_eq_some_iff.mp hb
        obtain ⟨ad, xs, rfl, h2, h3⟩ := lst_arg R h1 e1
        exact cr_any g pins s σ H _ us Q I r ⟨ad, bs, rfl, .inl (.inl (by rw [h2, bls_of h3 e2])), p _ _ _ (.refl _ _) R (.bl _)⟩
      · exact p.elim
theorem cr_sumS (g : X.calm = true) : CallR X (.builtin "sum") (rBi G .sum) := by
  rintro pins s σ H xs us Q I r ⟨φ, h, ds, R, rd, p⟩
  cases rd with
  | nil => simp only [biD] at p; exact p.elim
  | @cons d v ds vs h1 rd =>
    cases rd with
    | cons => simp only [biD] at p; exact p.elim
    | nil =>
      simp only [biD] at p
      split at p
      · rename_i bs hb
        obtain ⟨es, e1, e2⟩ := Option.bind_eq_some_iff.mp hb
        obtain ⟨ad, xs, rfl, h2, h3⟩ := lst_arg R h1 e1
        exact cr_sum g pins s σ H _ us Q I r ⟨ad, bs, rfl, .inl (.inl (by rw [h2, ints_of h3 e2])), p _ _ _ (.refl _ _) R (.int _)⟩
      · exact p.elim
theorem foldl_max_spec : ∀ (l : List Int) (i : Int), (l.foldl max i ∈ i :: l) ∧ ∀ y ∈ i :: l, y ≤ l.foldl max i
  | [], i => by simp
  | x :: l, i => by
    obtain ⟨h1, h2⟩ := foldl_max_spec l (max i x)
    refine ⟨?_, fun y hy => ?_⟩
    · simp only [List.foldl_cons]
      rcases List.mem_cons.mp h1 with h | h
      · rw [h]
        rcases Int.le_total i x with z | z
        · rw [Int.max_eq_right z]; simp
        · rw [Int.max_eq_left z]; simp
      · simp [h]
    · simp only [List.foldl_cons]
      have hm := h2 (max i x) (by simp)
      rcases List.mem_cons.mp hy with h | h
      · subst h; exact Int.le_trans (Int.le_max_left _ _) hm
      · rcases List.mem_cons.mp h with h | h
        · subst h; exact Int.le_trans (Int.le_max_right _ _) hm
        · exact h2 y (by simp [h])
theorem foldl_min_spec : ∀ (l : List Int) (i : Int), (l.foldl min i ∈ i :: l) ∧ ∀ y ∈ i :: l, l.foldl min i ≤ y
  | [], i => by simp
  | x :: l, i => by
    obtain ⟨h1, h2⟩ := foldl_min_spec l (min i x)
    refine ⟨?_, fun y hy => ?_⟩
    · simp only [List.foldl_cons]
      rcases List.mem_cons.mp h1 with h | h
      · rw [h]
        rcases Int.le_total i x with z | z
        · rw [Int.min_eq_left z]; simp
        · rw [Int.min_eq_right z]; simp
      · simp [h]
    · simp only [List.foldl_cons]
      have hm := h2 (min i x) (by simp)
      rcases List.mem_cons.mp hy with h | h
      · subst h; exact Int.le_trans hm (Int.min_le_left _ _)
      · rcases List.mem_cons.mp h with h | h
        · subst h; exact Int.le_trans hm (Int.min_le_right _ _)
        · exact h2 y (by simp [h])
theorem cr_maxS (g : X.calm = true) : CallR X (.builtin "max") (fun xs H Q => rBi G .mx xs H Q ∨ rBi G .mx2 xs H Q) := by
  rintro pins s σ H xs us Q I r (⟨φ, h, ds, R, rd, p⟩ | ⟨φ, h, ds, R, rd, p⟩)
  · cases rd with
    | nil => simp only [biD] at p; exact p.elim
    | @cons d v ds vs h1 rd =>
      cases rd with
      | cons => simp only [biD] at p; exact p.elim
      | nil =>
        simp only [biD] at p
        split at p
        · rename_i i is hb
          obtain ⟨es, e1, e2⟩ := Option.bind_eq_some_iff.mp hb
          obtain ⟨ad, xs, rfl, h2, h3⟩ := lst_arg R h1 e1
          refine cr_max g pins s σ H _ us Q I r ⟨ad, i :: is, rfl, .inl (.inl (by rw [h2, ints_of h3 e2])), by simp, fun m hm hu => ?_⟩
          obtain ⟨q1, q2⟩ := foldl_max_spec is i
          have : m = is.foldl max i := Int.le_antisymm (q2 m hm) (hu _ q1)
          rw [this]
          exact p _ _ _ (.refl _ _) R (.int _)
        · exact p.elim
  · cases rd with
    | nil => simp only [biD] at p; exact p.elim
    | @cons d v ds vs h1 rd =>
      cases rd with
      | nil => simp only [biD] at p; exact p.elim
      | @cons d2 v2 ds2 vs2 h2 rd =>
        cases rd with
        | cons => cases d <;> cases d2 <;> exact p.elim
        | nil =>
          cases d <;> cases d2 <;> simp only [biD] at p <;> first | exact p.elim | skip
          cases h1; cases h2
          exact call_max2 g pins s σ H _ us Q I r ⟨_, _, rfl, p _ _ _ (.refl _ _) R (.int _)⟩
theorem cr_minS (g : X.calm = true) : CallR X (.builtin "min") (fun xs H Q => rBi G .mn xs H Q ∨ rBi G .mn2 xs H Q) := by
  rintro pins s σ H xs us Q I r (⟨φ, h, ds, R, rd, p⟩ | ⟨φ, h, ds, R, rd, p⟩)
  · cases rd with
    | nil => simp only [biD] at p; exact p.elim
    | @cons d v ds vs h1 rd =>
      cases rd with
      | cons => simp only [biD] at p; exact p.elim
      | nil =>
        simp only [biD] at p
        split at p
        · rename_i i is hb
          obtain ⟨es, e1, e2⟩ := Option.bind_eq_some_iff.mp hb
          obtain ⟨ad, xs, rfl, h2, h3⟩ := lst_arg R h1 e1
          refine cr_min g pins s σ H _ us Q I r ⟨ad, i :: is, rfl, .inl (.inl (by rw [h2, ints_of h3 e2])), by simp, fun m hm hu => ?_⟩
          obtain ⟨q1, q2⟩ := foldl_min_spec is i
          have : m = is.foldl min i := Int.le_antisymm (hu _ q1) (q2 m hm)
          rw [this]
          exact p _ _ _ (.refl _ _) R (.int _)
        · exact p.elim
  · cases rd with
    | nil => simp only [biD] at p; exact p.elim
    | @cons d v ds vs h1 rd =>
      cases rd with
      | nil => simp only [biD] at p; exact p.elim
      | @cons d2 v2 ds2 vs2 h2 rd =>
        cases rd with
        | cons => cases d <;> cases d2 <;> exact p.elim
        | nil =>
          cases d <;> cases d2 <;> simp only [biD] at p <;> first | exact p.elim | skip
          cases h1; cases h2
          exact call_min2 g pins s σ H _ us Q I r ⟨_, _, rfl, p _ _ _ (.refl _ _) R (.int _)⟩
theorem cr_absS : CallR X (.builtin "abs") (rBi G .abs) := by
  rintro pins s σ H xs us Q I r ⟨φ, h, ds, R, rd, p⟩
  cases rd with
  | nil => simp only [biD] at p; exact p.elim
  | @cons d v ds vs h1 rd =>
    cases rd with
    | cons => cases d <;> exact p.elim
    | nil =>
      cases d <;> simp only [biD] at p <;> first | exact p.elim | skip
      cases h1
      exact call_abs pins s σ H _ us Q I r ⟨_, rfl, p _ _ _ (.refl _ _) R (.int _)⟩
theorem cr_intS : CallR X (.type "int") (rBi G .int) := by
  rintro pins s σ H xs us Q I r ⟨φ, h, ds, R, rd, p⟩
  cases rd with
  | nil => simp only [biD] at p; exact p.elim
  | @cons d v ds vs h1 rd =>
    cases rd with
    | cons => cases d <;> exact p.elim
    | nil =>
      cases d <;> simp only [biD] at p <;> first | exact p.elim | skip
      · cases h1
        exact call_int1 pins s σ H _ us Q I r (.inr ⟨_, rfl, p _ _ _ (.refl _ _) R (.int _)⟩)
      · cases h1
        exact call_int1 pins s σ H _ us Q I r (.inl ⟨_, rfl, p _ _ _ (.refl _ _) R (.int _)⟩)
theorem cr_tupS (hK : X.K = G.K) : CallR X (.type "tuple") (rBi G .tup) := by
  rintro pins s σ H xs us Q I r ⟨φ, h, ds, R, rd, p⟩
  cases rd with
  | nil => simp only [biD] at p; exact p.elim
  | @cons d v ds vs h1 rd =>
    cases rd with
    | cons => simp only [biD] at p; exact p.elim
    | nil =>
      simp only [biD] at p
      split at p
      · rename_i es he
        cases h1 with
        | @tup ds' xs a t1 rs =>
          simp only [seqOf, Option.some.injEq] at he; subst he
          exact call_tuple_of pins s σ H _ us Q I r ⟨_, _, rfl, .inr ⟨by rw [hK]; exact t1.sq, p _ _ _ (.refl _ _) R (.tup t1 rs)⟩⟩
        | @lst ds' xs a t1 rs =>
          simp only [seqOf, Option.some.injEq] at he; subst he
          refine call_tuple_of pins s σ H _ us Q I r ⟨_, xs, rfl, .inl ⟨.inl (.inl t1.1), fun l hl => ?_⟩⟩
          obtain ⟨E1, R1, D1⟩ := RD.new_tup R hl rs
          exact p _ _ _ E1 R1 D1
        | @ref n a ha =>
          obtain ⟨o, ho, w⟩ := R.at' ha
          simp only [seqOf, ho] at he
          cases o with
          | lst ds' =>
            simp only [Option.some.injEq] at he; subst he
            obtain ⟨xs, t1, rs⟩ := w
            refine call_tuple_of pins s σ H _ us Q I r ⟨_, xs, rfl, .inl ⟨.inl (.inl t1), fun l hl => ?_⟩⟩
            obtain ⟨E1, R1, D1⟩ := RD.new_tup R hl rs
            exact p _ _ _ E1 R1 D1
          | dic => simp at he
          | ins => simp at he
        | _ => simp [seqOf] at he
      · exact p.elim
theorem cr_lstS (hK : X.K = G.K) {mu : Bool} : CallR X (.type "list") (rBi G (if mu then .lstM else .lst)) := by
  rintro pins s σ H xs us Q I r ⟨φ, h, ds, R, rd, p⟩
  cases rd with
  | nil => cases mu <;> exact p.elim
  | @cons d v ds vs h1 rd =>
    cases rd with
    | cons => cases mu <;> exact p.elim
    | nil =>
      cases he : seqOf h d with
      | none => cases mu <;> (simp only [Bool.false_eq_true, ↓reduceIte, biD, he] at p; exact p.elim)
      | some es =>
        obtain ⟨ad, ys, rfl, hx, rs⟩ := RD.of_seq R h1 he
        refine call_list_of pins s σ H _ us Q I r ⟨ad, ys, rfl, by rw [hK]; exact hx, fun l hl => ?_⟩
        cases mu with
        | false =>
          simp only [Bool.false_eq_true, ↓reduceIte, biD, he] at p
          obtain ⟨E1, R1, D1⟩ := RD.new_lst R hl rs
          exact p _ _ _ E1 R1 D1
        | true =>
          simp only [↓reduceIte, biD, he] at p
          obtain ⟨E1, R1, D1⟩ := mk_ref R hl rs
          exact p _ _ _ E1 R1 D1

/-! ### sorted -/
theorem zip_fst {α β : Type} : ∀ {as : List α} {bs : List β}, as.length = bs.length → (as.zip bs).map Prod.fst = as
  | [], [], _ => rfl
  | a :: as, b :: bs, e => by simp [zip_fst (as := as) (bs := bs) (by simpa using e)]
theorem zip_reads (I : Inv X pins σ H s) (hK : X.K = G.K) : ∀ {ds : List D} {xs : List V} {us : List Value}, D.purs ds = true → RDs G φ H ds xs → Vals xs us →
    EachIs (fun u (p : D × V) => RelV p.2 u ∧ RD G φ H p.1 p.2 ∧ ∃ as, Reads s.heap u p.1.toP as) us (ds.zip xs)
  | [], _, _, _, .nil, .nil => .nil
  | d :: ds, _, _, hp, .cons h r, .cons h' r' => by
    simp only [D.purs, Bool.and_eq_true] at hp
    exact .cons ⟨h', h, reads_of I hK d _ _ hp.1 h h'⟩ (zip_reads I hK hp.2 r r')
theorem each_back {us : List Value} {ps : List (D × V)} (e : EachIs (fun u (p : D × V) => RelV p.2 u ∧ RD G φ H p.1 p.2) us ps) : Vals (ps.map Prod.snd) us ∧ RDs G φ H (ps.map Prod.fst) (ps.map Prod.snd) := by
  induction e with
  | nil => exact ⟨.nil, .nil⟩
  | cons h t ih => exact ⟨.cons h.1 ih.1, .cons h.2 ih.2⟩
theorem sortL_zip {ds : List D} {xs : List V} (e : ds.length = xs.length) : ((ds.zip xs).mergeSort (dataLe false fun p => p.1.toP)).map Prod.fst = sortL ds := by
  unfold sortL
  have := List.map_mergeSort (r := dataLe false fun p : D × V => p.1.toP) (s := dataLe false D.toP) (f := Prod.fst) (l := ds.zip xs) (fun a _ b _ => rfl)
  rw [this, zip_fst e]
theorem cr_sortedL (hK : X.K = G.K) {k : Nat} (hr : Room k X.A) {ad : Addr} {ds : List D} {xs : List V} {Q : VK} (R : HRel G φ h H) (I : Inv X pins σ H s) (hx : H ad = some (.lst xs)) (rs : RDs G φ H ds xs) (ok : okSort ds)
    (q : ∀ φ' H' v, Ext φ H φ' H' → HRel G φ' h H' → RD G φ' H' (.lst (sortL ds)) v → Q v H') : wpAny (model X.prog X.w) X.A (call (.builtin "sorted") [.ref ad]) (EP X pins σ Q) X.xe s := by
  obtain ⟨hp, ⟨hal, hdp⟩, hl, hn⟩ := ok
  obtain ⟨its, rv, pl, hz⟩ := I.list (.inl (.inl hx))
  have e := zip_reads I hK hp rs rv
  have hlen := rs.length
  have hvl := rv.length
  let enc : D × V → PyData := fun p => p.1.toP
  have hmap : (ds.zip xs).map enc = D.toPs ds := by
    rw [toPs_map, show enc = D.toP ∘ Prod.fst from rfl, ← List.map_map, zip_fst hlen]
  have hal' : AllAlike ((ds.zip xs).map enc) := by rw [hmap]; exact hal
  have keep : ∀ b o, s.heap.get? b = some o → (sortingHeap (copyHeap s.heap its) (s.heap.objs.size + 1) its).get? b = some o := fun _ _ => sorting_copy_old
  have er' : EachIs (fun v b => ∃ as, Reads (sortingHeap (copyHeap s.heap its) (s.heap.objs.size + 1) its) v (enc b) as) its (ds.zip xs) := e.mono fun _ _ ⟨_, _, as, r⟩ => ⟨as, PyProof.Rows.Reads.keeps keep r⟩
  have S : SortsAt X.prog X.w X.A.in1.in1 { s with heap := sortingHeap (copyHeap s.heap its) (s.heap.objs.size + 1) its } (dataKind (sortingHeap (copyHeap s.heap its) (s.heap.objs.size + 1) its) ((ds.zip xs).map enc)) its := by
    refine sorts_any (s := { s with heap := sortingHeap (copyHeap s.heap its) (s.heap.objs.size + 1) its }) (each_map (R := fun v d => ∃ as, Reads (sortingHeap (copyHeap s.heap its) (s.heap.objs.size + 1) its) v d as) enc er') hal' (fun d hd => ?_) (fun d hd => ?_)
    · rw [hmap, toPs_map] at hd
      obtain ⟨x, hx, rfl⟩ := List.mem_map.mp hd
      exact hn x hx
    · rw [hmap] at hd
      have := hdp d hd
      have := hr.un
      show X.A.units + 1 + 1 + d.depth < cLine
      unfold deepest at *
      omega
  refine sorted_vals pl.isList S (by rw [← hvl]; exact hz) ?_
  have out := sortVals_data (R := fun u (p : D × V) => RelV p.2 u ∧ RD G φ H p.1 p.2) false (e.mono fun _ _ z => ⟨z.1, z.2.1⟩) er' hal'
  generalize hO : sortVals (dataKind (sortingHeap (copyHeap s.heap its) (s.heap.objs.size + 1) its) ((ds.zip xs).map enc)) false its its = outs at out
  obtain ⟨v1, r1⟩ := each_back out
  rw [sortL_zip hlen] at r1
  obtain ⟨ep, he'⟩ := PyProof.Rows.sortedAll_at s.heap its outs.toArray
  have hle : (((ds.zip xs).mergeSort (dataLe false enc)).map Prod.snd).length ≤ sizeLine := by
    rw [List.length_map, List.length_mergeSort, List.length_zip, hlen, Nat.min_self]; exact hz
  have hf : H (s.heap.objs.size + 1) = none := I.hok.fresh (Nat.le_succ _)
  obtain ⟨E1, R1, D1⟩ := RD.new_lst R hf r1
  exact ⟨.ref _, _, I.laid (t' := s.toks) (fun _ _ => PyProof.Rows.sortedAll_old) (Nat.le_succ _) (show ObjOk X.prog X.w _ _ _ (.lst _) from ⟨hle, outs, ep, v1, by simpa using he'⟩), rfl, q _ _ _ E1 R1 D1⟩
open Classical in
theorem cr_sortedS (hK : X.K = G.K) {k : Nat} (hr : Room k X.A) : CallR X (.builtin "sorted") (rBi G .sorted) := by
  rintro pins s σ H xs us Q I r ⟨φ, h, ds, R, rd, p⟩
  cases rd with
  | nil => simp only [biD] at p; exact p.elim
  | @cons d v ds vs h1 rd =>
    cases rd with
    | cons => simp only [biD] at p; exact p.elim
    | nil =>
      by_cases hset : ∃ es, d = .set es
      · obtain ⟨es, rfl⟩ := hset
        cases h1
      · have p' : Post G (RD G) (fun _ _ _ _ => False) [] φ H Q (match lstOf h d with
            | some ds => if okSort ds then .ok (.lst (sortL ds)) h else .stk
            | none => .stk) := by
          simp only [biD] at p
          cases d <;> first | exact p | exact absurd ⟨_, rfl⟩ hset
        split at p'
        · rename_i es he
          split at p'
          · rename_i ok
            obtain ⟨ad, xs, rfl, h2, h3⟩ := lst_arg R h1 he
            rw [Vals.ref1 r]
            exact cr_sortedL hK hr R I h2 h3 ok p'
          · exact p'.elim
        · exact p'.elim
end
end Ev

/-! Built-ins, methods, isinstance, chains: the rules by the evaluator's readings. -/
namespace Ev
open PySem PySem.Spec PyProof.Rows L2 PySem.W PySem.SeqAt

section
variable {G : Gl0} {M : Mo} {C : Orc} {T : Nt} {k : Nat} {N : List Str} {sc : Scope} {fc : Str → Bool} {W : WX} {X : Cx} {a b c : Expr} {es : List Expr} {a' b' c' : E} {es' : Es} {pos pos' : Pos}
variable {pins : List (Addr × Obj)} {σ : L2.St} {H : Hp} {s : Shared} {φ : Phi} {h : AH}

def isStar : Expr → Bool
  | .Starred _ _ => true
  | _ => false
theorem star_of (e : isStar a = false) : starEach (a :: es) X.env = (false, eval a X.env) :: starEach es X.env := by
  cases a <;> first | rfl | (simp [isStar] at e)
def noStars (es : List Expr) : Bool := es.all fun e => !isStar e
theorem star_none : ∀ {es : List Expr}, noStars es = true → (backTo pos (starEach es X.env)).any (·.1) = false
  | [], _ => rfl
  | [a], h => by
    simp only [noStars, List.all_cons, Bool.and_eq_true, Bool.not_eq_true'] at h
    rw [star_of h.1]; rfl
  | a :: b :: es, h => by
    simp only [noStars, List.all_cons, Bool.and_eq_true, Bool.not_eq_true'] at h
    have ih := star_none (es := b :: es) (by simp [noStars, h.2])
    rw [star_of (es := b :: es) h.1]
    rw [star_of (es := es) h.2.1] at ih ⊢
    simpa [backTo] using ih

theorem biD_quiet {b : Bi} {ds : List D} {n : Nat} {fs : List D} {h' : AH} : biD b ds h ≠ .exc n fs h' := by
  unfold biD
  intro e
  split at e <;> (repeat' split at e) <;> cases e
theorem metD_quiet {m : Me} {d : D} {ds : List D} {n : Nat} {fs : List D} {h' : AH} : metD m d ds h ≠ .exc n fs h' := by
  unfold metD
  intro e
  split at e <;> (repeat' split at e) <;> cases e
theorem Post.quiet {α β : Type} {Rel : Phi → Hp → α → β → Prop} {W W' : WX} {σ σ' : L2.St} {Q : β → Hp → Prop} {r : Res α} (p : Post G Rel W σ φ H Q r) (q : ∀ n fs h', r ≠ .exc n fs h') : Post G Rel W' σ' φ H Q r := by
  cases r with
  | ok a h => exact p
  | exc c ds h => exact absurd rfl (q c ds h)
  | stk => exact p

/-- the name by which a built-in is called -/
def biName : Bi → Str
  | .len => "len" | .all => "all" | .any => "any" | .sum => "sum" | .mn => "min" | .mx => "max" | .mn2 => "min" | .mx2 => "max"
  | .sorted => "sorted" | .set => "set" | .tup => "tuple" | .lst => "list" | .lstM => "list" | .dct => "dict" | .abs => "abs" | .int => "int" | .str => "str"
def biOk : Bi → Bool
  | .set | .dct | .str => false
  | _ => true
theorem cr_imp {f : Value} {r r' : List V → Hp → VK → Prop} (h : CallR X f r) (hi : ∀ vs H Q, r' vs H Q → r vs H Q) : CallR X f r' := fun pins s σ H xs us Q I rx q => h pins s σ H xs us Q I rx (hi _ _ _ q)
theorem bi_read {b : Bi} {f : Value} (hp : CallR X f (rBi G b)) : ∀ {σ : L2.St} {H : Hp} {Q : VK}, rE G M C W (.bi b es') σ H Q → tCB (rBi G b) (rEs G M C W es') σ H Q := by
  intro σ H Q ⟨φ, ev, h, R, r, p⟩
  exact ⟨φ, ev, h, R, r, Post.bind (Rel' := RDs G) p fun ds h1 φ1 H1 xs E1 R1 d1 p1 => ⟨φ1, h1, ds, R1, d1, p1.quiet fun _ _ _ => biD_quiet⟩⟩
theorem bi_call {b : Bi} {id : String} (g : Gd G M C T k N sc fc W X) (hp : CallR X (.builtin id) (rBi G b)) (hb : biC sc (biName b) = true) (hv : bootBuiltins (biName b) = some (.builtin id)) (ha : PA X (a :: es) (rEs G M C W es'))
    (hs : noStars (a :: es) = true) : PE X (.Call (.Name (biName b) pos') (a :: es) [] pos) (rE G M C W (.bi b es')) := by
  simp only [biC, Bool.and_eq_true] at hb
  obtain ⟨g1, g2, g3⟩ := gl_of g hb.1
  have hm := g.bi _ (by simpa using hb.2)
  have hs' : isStar a = false ∧ noStars es = true := by simpa [noStars] using hs
  exact pe_imp (pe_callB hp g1 hm hv ha g3 g2 (star_of hs'.1) (star_none hs'.2)) fun σ H Q q => bi_read hp q
theorem bi_callTy {b : Bi} {id : String} (g : Gd G M C T k N sc fc W X) (hp : CallR X (.type id) (rBi G b)) (hb : biC sc (biName b) = true) (hv : bootBuiltins (biName b) = some (.type id)) (ha : PA X (a :: es) (rEs G M C W es'))
    (hs : noStars (a :: es) = true) : PE X (.Call (.Name (biName b) pos') (a :: es) [] pos) (rE G M C W (.bi b es')) := by
  simp only [biC, Bool.and_eq_true] at hb
  obtain ⟨g1, g2, g3⟩ := gl_of g hb.1
  have hm := g.bi _ (by simpa using hb.2)
  have hs' : isStar a = false ∧ noStars es = true := by simpa [noStars] using hs
  exact pe_imp (pe_callTy hp g1 hm hv ha g3 g2 (star_of hs'.1) (star_none hs'.2)) fun σ H Q q => bi_read hp q
theorem bt_len : bootBuiltins "len" = some (.builtin "len") := by decide +kernel
theorem bt_all : bootBuiltins "all" = some (.builtin "all") := by decide +kernel
theorem bt_any : bootBuiltins "any" = some (.builtin "any") := by decide +kernel
theorem bt_sum : bootBuiltins "sum" = some (.builtin "sum") := by decide +kernel
theorem bt_min : bootBuiltins "min" = some (.builtin "min") := by decide +kernel
theorem bt_max : bootBuiltins "max" = some (.builtin "max") := by decide +kernel
theorem bt_sorted : bootBuiltins "sorted" = some (.builtin "sorted") := by decide +kernel
theorem bt_abs : bootBuiltins "abs" = some (.builtin "abs") := by decide +kernel
theorem bt_int : bootBuiltins "int" = some (.type "int") := by decide +kernel
theorem bt_tuple : bootBuiltins "tuple" = some (.type "tuple") := by decide +kernel
theorem bt_list : bootBuiltins "list" = some (.type "list") := by decide +kernel
theorem bt_isi : bootBuiltins "isinstance" = some (.builtin "isinstance") := by decide +kernel
theorem s_bi {b : Bi} (g : Gd G M C T k N sc fc W X) (ok : biOk b = true) (hb : biC sc (biName b) = true) (ha : PA X (a :: es) (rEs G M C W es')) (hs : noStars (a :: es) = true) : PE X (.Call (.Name (biName b) pos') (a :: es) [] pos) (rE G M C W (.bi b es')) := by
  cases b with
  | len => exact bi_call g (cr_lenS g.hK) hb bt_len ha hs
  | all => exact bi_call g (cr_allS g.calm) hb bt_all ha hs
  | any => exact bi_call g (cr_anyS g.calm) hb bt_any ha hs
  | sum => exact bi_call g (cr_sumS g.calm) hb bt_sum ha hs
  | mn => exact bi_call g (cr_imp (cr_minS g.calm) fun _ _ _ q => .inl q) hb bt_min ha hs
  | mx => exact bi_call g (cr_imp (cr_maxS g.calm) fun _ _ _ q => .inl q) hb bt_max ha hs
  | mn2 => exact bi_call g (cr_imp (cr_minS g.calm) fun _ _ _ q => .inr q) hb bt_min ha hs
  | mx2 => exact bi_call g (cr_imp (cr_maxS g.calm) fun _ _ _ q => .inr q) hb bt_max ha hs
  | sorted => exact bi_call g (cr_sortedS g.hK g.room) hb bt_sorted ha hs
  | tup => exact bi_callTy g (cr_tupS g.hK) hb bt_tuple ha hs
  | lst => exact bi_callTy g (cr_lstS (mu := false) g.hK) hb bt_list ha hs
  | lstM => exact bi_callTy g (cr_lstS (mu := true) g.hK) hb bt_list ha hs
  | abs => exact bi_call g cr_absS hb bt_abs ha hs
  | int => exact bi_callTy g cr_intS hb bt_int ha hs
  | set => cases ok
  | dct => cases ok
  | str => cases ok
end
end Ev

namespace Ev
open PySem PySem.Spec PyProof.Rows L2 PySem.W PySem.SeqAt

section
variable {G : Gl0} {M : Mo} {C : Orc} {T : Nt} {k : Nat} {N : List Str} {sc : Scope} {fc : Str → Bool} {W : WX} {X : Cx} {a b c : Expr} {es : List Expr} {a' b' c' : E} {es' : Es} {pos pos' : Pos}
variable {pins : List (Addr × Obj)} {σ : L2.St} {H : Hp} {s : Shared} {φ : Phi} {h : AH}

/-! ### isinstance -/
def tyS : Ty → String
  | .int => "int" | .bool => "bool" | .str => "str" | .lst => "list" | .tup => "tuple"
def tyX : Ty → Str
  | .int => "int" | .bool => "bool" | .str => "str" | .lst => "list" | .tup => "tuple"
theorem bt_ty (t : Ty) : bootBuiltins (tyX t) = some (.type (tyS t)) := by cases t <;> decide +kernel
theorem ty_of (R : HRel G φ h H) {d : D} {v : V} (r : RD G φ H d v) : (∃ t0, TyX G.K H v (.type t0) ∧ ∀ t b, tyD t h d = some b → kitOne G.K (.type t0) (.type (tyS t)) = some b) ∨ ∀ t b, tyD t h d ≠ some b := by
  cases r with
  | non => exact .inl ⟨_, .base .non, fun t b e => by cases e; cases t <;> exact kit_ty (by decide +kernel)⟩
  | bl x => exact .inl ⟨_, .base (.bl x), fun t b e => by cases e; cases t <;> exact kit_ty (by decide +kernel)⟩
  | int x => exact .inl ⟨_, .base (.int x), fun t b e => by cases e; cases t <;> exact kit_ty (by decide +kernel)⟩
  | str x => exact .inl ⟨_, .base (.str x), fun t b e => by cases e; cases t <;> exact kit_ty (by decide +kernel)⟩
  | @tup ds xs a ha rs =>
    refine .inl ⟨"tuple", ?_, fun t b e => by cases e; cases t <;> exact kit_ty (by decide +kernel)⟩
    rcases ha with ⟨ha, _⟩ | ⟨o, its, n, h1, h2, _⟩
    · rcases ha with ha | ⟨o, ha⟩
      · exact .base (.tup ha)
      · exact .fTuple ha
    · exact .kTuple h1 h2
  | @lst ds xs a ha rs => exact .inl ⟨"list", .base (.lst ha.1), fun t b e => by cases e; cases t <;> exact kit_ty (by decide +kernel)⟩
  | @ref n a ha =>
    obtain ⟨o, ho, w⟩ := R.at' ha
    cases o with
    | lst ds =>
      obtain ⟨xs, h1, _⟩ := w
      refine .inl ⟨"list", .base (.lst h1), fun t b e => ?_⟩
      simp only [tyD, ho] at e
      cases e; cases t <;> exact kit_ty (by decide +kernel)
    | dic => exact w.elim
    | ins => exact w.elim
  | fn => exact .inr fun t b e => by cases e
  | scr => exact .inr fun t b e => by cases e
theorem kit_any (R : HRel G φ h H) {d : D} {t0 : String} (ht : ∀ t b, tyD t h d = some b → kitOne G.K (.type t0) (.type (tyS t)) = some b) :
    ∀ (ts : List Ty) (b : Bool), isiD ts h d = some b → kitAny G.K (.type t0) (ts.map fun t => .type (tyS t)) = some b
  | [], b, e => by
    simp only [isiD, Option.some.injEq] at e; subst e; rfl
  | t :: ts, b, e => by
    simp only [isiD] at e
    obtain ⟨b1, e1, e2⟩ := Option.bind_eq_some_iff.mp e
    have h1 := ht t b1 e1
    have e0 : kitAny G.K (.type t0) ((t :: ts).map fun t => .type (tyS t)) = (match kitOne G.K (.type t0) (.type (tyS t)) with
      | some true => some true
      | some false => kitAny G.K (.type t0) (ts.map fun t => .type (tyS t))
      | none => none) := rfl
    rw [e0, h1]
    cases b1 with
    | true => simpa using e2
    | false =>
      simp only [Bool.false_eq_true, ↓reduceIte] at e2
      exact kit_any R ht ts b e2
def tyC (sc : Scope) (t : Ty) : Expr → Bool
  | .Name x _ => decide (x = tyX t) && biC sc x
  | _ => false
theorem pe_ty (g : Gd G M C T k N sc fc W X) {t : Ty} (hc : tyC sc t a = true) : PE X a (tC (.ty (tyS t))) := by
  cases a <;> simp only [tyC, Bool.false_eq_true] at hc
  simp only [Bool.and_eq_true, decide_eq_true_eq, biC] at hc
  obtain ⟨rfl, h1, h2⟩ := hc
  obtain ⟨g1, g2, g3⟩ := gl_of g h1
  exact pe_bltn g1 (g.bi _ (by simpa using h2)) (bt_ty t) rfl g3 g2
def tysC (sc : Scope) : List Ty → List Expr → Bool
  | [], [] => true
  | t :: ts, e :: es => tyC sc t e && tysC sc ts es
  | _, _ => false
theorem tyC_star {t : Ty} {e : Expr} (h : tyC sc t e = true) : isStar e = false := by
  cases e <;> simp only [tyC, Bool.false_eq_true, isStar] at h ⊢
theorem pa_tys (g : Gd G M C T k N sc fc W X) : ∀ {ts : List Ty} {es : List Expr}, tysC sc ts es = true → PA X es (fun _ H Q => Q (ts.map fun t => .ty (tyS t)) H)
  | [], [], _ => pa_imp pa_nil fun _ _ _ q => q
  | t :: ts, e :: es, h => by
    simp only [tysC, Bool.and_eq_true] at h
    exact pa_imp (pa_cons (pe_ty g h.1) (pa_tys g h.2) (star_of (tyC_star h.1))) fun _ _ _ q => q
  | [], _ :: _, h => by cases h
  | _ :: _, [], h => by cases h
theorem kit_nil (t : Value) : kitAny G.K t [] = some false := rfl
theorem s_isi1 {t : Ty} (g : Gd G M C T k N sc fc W X) (hg : biC sc "isinstance" = true) (ha : PE X a (rE G M C W a')) (hs : isStar a = false) (hb : tyC sc t b = true) :
    PE X (.Call (.Name "isinstance" pos') [a, b] [] pos) (rE G M C W (.isi a' [t])) := by
  simp only [biC, Bool.and_eq_true] at hg
  obtain ⟨g1, g2, g3⟩ := gl_of g hg.1
  have hns : noStars [b] = true := by simp [noStars, tyC_star hb]
  refine pe_imp (pe_callB call_isi g1 (g.bi _ (by simpa using hg.2)) bt_isi (pa_cons ha (pa_cons (pe_ty g hb) pa_nil (star_of (tyC_star hb))) (star_of hs)) g3 g2 (star_of hs) (star_none hns)) fun σ H Q ⟨φ, ev, h, R, r, p⟩ => ?_
  refine ⟨φ, ev, h, R, r, Post.bind (Rel' := RD G) p fun dx h1 φ1 H1 x E1 R1 d1 p1 => ?_⟩
  obtain ⟨dz, e, q⟩ := p1.opt
  obtain ⟨bb, e1, rfl⟩ := Option.map_eq_some_iff.mp e
  have e2 : tyD t h1 dx = some bb := by
    simp only [isiD] at e1
    obtain ⟨b1, e3, e4⟩ := Option.bind_eq_some_iff.mp e1
    rw [e3, ← e4]; cases b1 <;> rfl
  rcases ty_of R1 d1 with ⟨t0, h3, h4⟩ | h3
  · exact ⟨x, _, _, _, bb, rfl, .ty _, by rw [g.hK]; exact h3, by rw [g.hK]; exact h4 t bb e2, q _ _ _ (.refl _ _) R1 (.bl _)⟩
  · exact absurd e2 (h3 t bb)
theorem paired_ty (ts : List Ty) : Paired ClsV (ts.map fun t => V.ty (tyS t)) (ts.map fun t => Value.type (tyS t)) := by
  induction ts with
  | nil => exact .nil
  | cons t ts ih => exact .cons (.ty _) ih
theorem s_isiT {ts : List Ty} {j : Nat} {p2 : Pos} (g : Gd G M C T k N sc fc W X) (hg : biC sc "isinstance" = true) (ha : PE X a (rE G M C W a')) (hs : isStar a = false) (hl : ts.length ≤ 1000) (h0 : ts ≠ []) (hb : tysC sc ts es = true) :
    PE X (.Call (.Name "isinstance" pos') [a, .Tuple es j p2] [] pos) (rE G M C W (.isi a' ts)) := by
  simp only [biC, Bool.and_eq_true] at hg
  obtain ⟨g1, g2, g3⟩ := gl_of g hg.1
  refine pe_imp (pe_callB call_isiT g1 (g.bi _ (by simpa using hg.2)) bt_isi (pa_cons ha (pa_cons (pe_tup (pa_tys g hb)) pa_nil (star_of rfl)) (star_of hs)) g3 g2 (star_of hs) (star_none rfl)) fun σ H Q ⟨φ, ev, h, R, r, p⟩ => ?_
  refine ⟨φ, ev, h, R, r, Post.bind (Rel' := RD G) p fun dx h1 φ1 H1 x E1 R1 d1 p1 => ?_⟩
  obtain ⟨dz, e, q⟩ := p1.opt
  obtain ⟨bb, e1, rfl⟩ := Option.map_eq_some_iff.mp e
  refine ⟨by rw [List.length_map, sizeLine_eq]; omega, fun qa hq => ?_⟩
  have E2 := R1.ext_new (u := .tup (ts.map fun t => .ty (tyS t))) hq
  have R2 := R1.new (u := .tup (ts.map fun t => .ty (tyS t))) hq
  have d2 := d1.ext E2
  rcases ty_of R2 d2 with ⟨t0, h3, h4⟩ | h3
  · exact ⟨x, qa, _, _, _, bb, rfl, upd_same, paired_ty ts, by rw [g.hK]; exact h3, by rw [g.hK]; exact kit_any R2 h4 ts bb e1, q _ _ _ E2 R2 (.bl _)⟩
  · cases ts with
    | nil => exact absurd rfl h0
    | cons t ts =>
      simp only [isiD] at e1
      obtain ⟨b1, e3, e4⟩ := Option.bind_eq_some_iff.mp e1
      exact absurd e3 (h3 t b1)

/-! ### methods of lists -/
theorem met_lst {m : Me} {d : D} {v : V} (R : HRel G φ h H) (r : RD G φ H d v) (ok : metOk m h d = true) : ∃ n ad ds xs, d = .ref n ∧ v = .ref ad ∧ φ n = some ad ∧ h[n]? = some (.lst ds) ∧ H ad = some (.lst xs) ∧ RDs G φ H ds xs := by
  have : ∃ n ds, d = .ref n ∧ h[n]? = some (.lst ds) := by
    unfold metOk at ok
    split at ok <;> first | (split at ok <;> first | exact ⟨_, _, rfl, by assumption⟩ | cases ok) | cases ok
  obtain ⟨n, ds, rfl, e⟩ := this
  cases r with
  | @ref n a ha =>
    obtain ⟨o, ho, w⟩ := R.at' ha
    rw [e] at ho; cases ho
    obtain ⟨xs, h1, h2⟩ := w
    exact ⟨n, a, ds, xs, rfl, rfl, ha, e, h1, h2⟩
theorem rPost_non {n : Nat} {ad : Addr} {ds : List D} {xs : List V} {Q : VK} (R : HRel G φ h H) (e : φ n = some ad) (rs : RDs G φ H ds xs) (p : Post G (RD G) W σ φ H Q (.ok .non (h.set n (.lst ds)))) : Q .non (upd H ad (.lst xs)) :=
  p _ _ _ (R.ext_set e) (R.set_lst e rs) .non
theorem ops_ok (hs : isStar a = false) : (((((backTo pos (starEach [a] X.env)).all fun x => !x.fst) && (backToKw pos (keywordEach [] X.env)).all fun x => x.fst.isSome) &&
    decide (([a].length + ([] : List Keyword).length + if ([] : List Keyword).isEmpty = true then 0 else 1) < 30)) = true) := by
  rw [star_of hs]; rfl
theorem s_append (g : Gd G M C T k N sc fc W X) {o : Expr} {o' : E} {apos : Pos} (ho : PE X o (rE G M C W o')) (ha : PA X [a] (rEs G M C W es')) (hs : isStar a = false) (hat : attributeBase o "append" X.env (eval o X.env) = eval o X.env)
    (hp : (apos.endLine == pos.line) = true) : PE X (.Call (.Attribute o "append" apos) [a] [] pos) (rE G M C W (.met .append o' es')) := by
  refine pe_imp (pe_bm PySem.F.plainAttrs_list PySem.F.slot_list_append PySem.F.type_list_append mt_append ho ha hat (ops_ok hs) hp (star_of hs) (star_none rfl)) fun σ H Q ⟨φ, ev, h, R, r, p⟩ => ?_
  refine ⟨φ, ev, h, R, r, Post.bind (Rel' := RD G) p fun dx h1 φ1 H1 x E1 R1 d1 p1 => ?_⟩
  split at p1
  · rename_i ok
    obtain ⟨n, ad, ds, xs, rfl, rfl, e1, e2, e3, e4⟩ := met_lst R1 d1 ok
    refine ⟨.inl ⟨rfl, xs, .inl (.inl e3)⟩, φ1, ev, h1, R1, r.ext E1, Post.bind (Rel' := RDs G) p1 fun ys h2 φ2 H2 vs E2 R2 d2 p2 => ?_⟩
    cases d2 with
    | nil => exact p2.elim
    | @cons y v ys vs hy rs =>
      cases rs with
      | cons => exact p2.elim
      | nil =>
        simp only [metD] at p2
        split at p2
        · rename_i ds2 hd
          split at p2
          · rename_i hl
            have e5 := E2.dom _ _ e1
            obtain ⟨u, hu, w⟩ := R2.at' e5
            rw [hd] at hu; cases hu
            obtain ⟨xs2, h3, h4⟩ := w
            exact ⟨ad, xs2, _, rfl, rfl, h3, by rw [← h4.length]; exact hl, rPost_non R2 e5 (RDs.append h4 (.cons hy .nil)) p2⟩
          · exact p2.elim
        · exact p2.elim
  · exact p1.elim
theorem s_extend (g : Gd G M C T k N sc fc W X) {o : Expr} {o' : E} {apos : Pos} (ho : PE X o (rE G M C W o')) (ha : PA X [a] (rEs G M C W es')) (hs : isStar a = false) (hat : attributeBase o "extend" X.env (eval o X.env) = eval o X.env)
    (hp : (apos.endLine == pos.line) = true) : PE X (.Call (.Attribute o "extend" apos) [a] [] pos) (rE G M C W (.met .extend o' es')) := by
  refine pe_imp (pe_bm PySem.F.plainAttrs_list PySem.F.slot_list_extend PySem.F.type_list_extend mt_extend ho ha hat (ops_ok hs) hp (star_of hs) (star_none rfl)) fun σ H Q ⟨φ, ev, h, R, r, p⟩ => ?_
  refine ⟨φ, ev, h, R, r, Post.bind (Rel' := RD G) p fun dx h1 φ1 H1 x E1 R1 d1 p1 => ?_⟩
  split at p1
  · rename_i ok
    obtain ⟨n, ad, ds, xs, rfl, rfl, e1, e2, e3, e4⟩ := met_lst R1 d1 ok
    refine ⟨.inl ⟨rfl, xs, .inl (.inl e3)⟩, φ1, ev, h1, R1, r.ext E1, Post.bind (Rel' := RDs G) p1 fun ys h2 φ2 H2 vs E2 R2 d2 p2 => ?_⟩
    cases d2 with
    | nil => exact p2.elim
    | @cons y v ys vs hy rs =>
      cases rs with
      | cons => exact p2.elim
      | nil =>
        simp only [metD] at p2
        split at p2
        · rename_i ds2 fs hd hy2
          split at p2
          · rename_i hl
            have e5 := E2.dom _ _ e1
            obtain ⟨u, hu, w⟩ := R2.at' e5
            rw [hd] at hu; cases hu
            obtain ⟨xs2, h3, h4⟩ := w
            obtain ⟨b2, zs, rfl, h5, h6⟩ := lst_arg R2 hy hy2
            exact ⟨ad, b2, xs2, zs, rfl, rfl, h3, h5, by rw [← h4.length, ← h6.length]; exact hl, rPost_non R2 e5 (RDs.append h4 h6) p2⟩
          · exact p2.elim
        · exact p2.elim
  · exact p1.elim
theorem s_pop (g : Gd G M C T k N sc fc W X) {o : Expr} {o' : E} {apos : Pos} (ho : PE X o (rE G M C W o')) (hat : attributeBase o "pop" X.env (eval o X.env) = eval o X.env)
    (hp : (apos.endLine == pos.line) = true) : PE X (.Call (.Attribute o "pop" apos) [] [] pos) (rE G M C W (.met .pop o' .nil)) := by
  refine pe_imp (pe_bm0 PySem.F.plainAttrs_list PySem.F.slot_list_pop PySem.F.type_list_pop mt_pop ho hat hp) fun σ H Q ⟨φ, ev, h, R, r, p⟩ => ?_
  refine ⟨φ, ev, h, R, r, Post.bind (Rel' := RD G) p fun dx h1 φ1 H1 x E1 R1 d1 p1 => ?_⟩
  split at p1
  · rename_i ok
    obtain ⟨n, ad, ds, xs, rfl, rfl, e1, e2, e3, e4⟩ := met_lst R1 d1 ok
    refine ⟨.inl ⟨rfl, xs, .inl (.inl e3)⟩, ?_⟩
    simp only [evEs, Res.bind_ok, metD, e2] at p1
    split at p1
    · rename_i y hy
      obtain ⟨v, hv, ry⟩ := e4.get hy
      refine ⟨ad, xs, v, rfl, rfl, e3, by rw [← e4.length]; exact hv, ?_⟩
      exact p1 _ _ _ (R1.ext_set e1) (R1.set_lst e1 e4.dropLast) (ry.ext (R1.ext_set e1))
    · exact p1.elim
  · exact p1.elim
theorem s_popAt (g : Gd G M C T k N sc fc W X) {o : Expr} {o' : E} {apos : Pos} (ho : PE X o (rE G M C W o')) (ha : PA X [a] (rEs G M C W es')) (hs : isStar a = false) (hat : attributeBase o "pop" X.env (eval o X.env) = eval o X.env)
    (hp : (apos.endLine == pos.line) = true) : PE X (.Call (.Attribute o "pop" apos) [a] [] pos) (rE G M C W (.met .popAt o' es')) := by
  refine pe_imp (pe_bm PySem.F.plainAttrs_list PySem.F.slot_list_pop PySem.F.type_list_pop mt_popAt ho ha hat (ops_ok hs) hp (star_of hs) (star_none rfl)) fun σ H Q ⟨φ, ev, h, R, r, p⟩ => ?_
  refine ⟨φ, ev, h, R, r, Post.bind (Rel' := RD G) p fun dx h1 φ1 H1 x E1 R1 d1 p1 => ?_⟩
  split at p1
  · rename_i ok
    obtain ⟨n, ad, ds, xs, rfl, rfl, e1, e2, e3, e4⟩ := met_lst R1 d1 ok
    refine ⟨.inl ⟨rfl, xs, .inl (.inl e3)⟩, φ1, ev, h1, R1, r.ext E1, Post.bind (Rel' := RDs G) p1 fun ys h2 φ2 H2 vs E2 R2 d2 p2 => ?_⟩
    cases d2 with
    | nil => exact p2.elim
    | @cons y v ys vs hy rs =>
      cases rs with
      | cons => cases y <;> exact p2.elim
      | nil =>
        cases y with
        | int i =>
          simp only [metD] at p2
          split at p2
          · rename_i ds2 hd
            split at p2
            · rename_i hi
              split at p2
              · rename_i y hy2
                cases hy
                have e5 := E2.dom _ _ e1
                obtain ⟨u, hu, w⟩ := R2.at' e5
                rw [hd] at hu; cases hu
                obtain ⟨xs2, h3, h4⟩ := w
                obtain ⟨v, hv, ry⟩ := h4.get hy2
                have hlt : i.toNat < xs2.length := (List.getElem?_eq_some_iff.mp hv).1
                refine ⟨ad, xs2, i, i.toNat, v, rfl, rfl, h3, by omega, by omega, ?_, hv, p2 _ _ _ (R2.ext_set e5) (R2.set_lst e5 (h4.eraseIdx _)) (ry.ext (R2.ext_set e5))⟩
                have hq : ¬ i < 0 := by omega
                have hr : i < (xs2.length : Int) := by omega
                simp [seqIndex?, hq, hr, hi.1]
              · exact p2.elim
            · exact p2.elim
          · exact p2.elim
        | _ => exact p2.elim
  · exact p1.elim
end
end Ev

/-! Chains, or by truth, is True, calls of what a place holds. -/
namespace Ev
open PySem PySem.Spec PyProof.Rows L2 PySem.W PySem.SeqAt

section
variable {G : Gl0} {M : Mo} {C : Orc} {T : Nt} {k : Nat} {N : List Str} {sc : Scope} {fc : Str → Bool} {W : WX} {X : Cx} {a b c : Expr} {es : List Expr} {a' b' c' : E} {es' : Es} {pos pos' : Pos}
variable {pins : List (Addr × Obj)} {σ : L2.St} {H : Hp} {s : Shared} {φ : Phi} {h : AH}

theorem s_callv {fe i : Expr} {f' : E} {sp : Pos} (g : Gd G M C T k N sc fc W X) (hf : PE X (.Subscript fe i sp) (rE G M C W f')) (ha : PA X (a :: es) (rEs G M C W es'))
    (hs : noStars (a :: es) = true) : PE X (.Call (.Subscript fe i sp) (a :: es) [] pos) (rE G M C W (.callv f' es')) := by
  have hs' : isStar a = false ∧ noStars es = true := by simpa [noStars] using hs
  refine ⟨fun pins s σ H Q I ⟨φ, ev, h, R, r, p⟩ => ?_⟩
  have e0 : eval (.Call (.Subscript fe i sp) (a :: es) [] pos) X.env = (do let f ← eval (.Subscript fe i sp) X.env; callWith pos f [] (backTo pos (starEach (a :: es) X.env)) (backToKw pos (keywordEach [] X.env))) := rfl
  rw [e0]
  refine wpAny_bind (thn (hf.run pins s σ H (fun x H1 => ∃ f φ1 h1, x = .ref f ∧ HRel G φ1 h1 H1 ∧ EnvR G φ1 H1 ev σ ∧ ∃ n, G.fa n = some f ∧ Post G (RD G) W σ φ1 H1 Q ((evEs M C es' ev h1).bind fun ds h => C n ds h)) I
    ⟨φ, ev, h, R, r, Post.bind (Rel' := RD G) p fun dx h1 φ1 H1 x E1 R1 d1 p1 => ?_⟩) fun v s1 hq => ?_)
  · cases d1 with
    | fn hf => exact ⟨_, φ1, h1, rfl, R1, r.ext E1, _, hf, p1⟩
    | _ => exact p1.elim
  · obtain ⟨x, H1, I1, rx, f, φ1, h1, rfl, R1, r1, n, hn, p1⟩ := hq
    cases rx
    obtain ⟨name, hname⟩ := g.fan n f hn
    obtain ⟨ad, fd, ps, q1, q2, q3, q4, q5⟩ := g.fns n name hname
    rw [hn] at q1; cases q1
    refine PySem.W.callWith_K I1.ok.mod.kin q3 (thn (ha.run pos pins s1 σ H1 (fun vs H2 => spF G C n vs H2 Q (WE W σ)) I1 ⟨φ1, ev, h1, R1, r1, Post.bind (Rel' := RDs G) p1 fun ds h2 φ2 H2 xs E2 R2 d2 p2 => spF_of R2 d2 p2⟩) fun us s2 hx => ?_) (star_of hs'.1) (star_none hs'.2)
    obtain ⟨vs, H2, I2, rv, q⟩ := hx
    exact ⟨Inv.kIn I2, run_fnS q5 g.room q4 (passAt g.tk σ) I2 rv q⟩

/-! ### chains -/
theorem chain_read {o o' : Op} {Q : VK} (q : rE G M C W (.chn o o' a' b' c') σ H Q) : tChain (rOp G (opD o)) (rOp G (opD o')) (rE G M C W a') (rE G M C W b') (rE G M C W c') σ H Q := by
  obtain ⟨φ, ev, h, R, r, p⟩ := q
  refine ⟨φ, ev, h, R, r, Post.bind (Rel' := RD G) p fun dx h1 φ1 H1 x E1 R1 d1 p1 => ⟨φ1, ev, h1, R1, r.ext E1, Post.bind (Rel' := RD G) p1 fun dy h2 φ2 H2 y E2 R2 d2 p2 => ?_⟩⟩
  cases e : opD o dx dy h2 with
  | none => rw [e] at p2; exact p2.elim
  | some dz =>
    rw [e] at p2
    refine ⟨φ2, h2, dx, dy, dz, R2, d1.ext E2, d2, e, fun φ3 H3 v E3 R3 d3 => ?_⟩
    obtain ⟨bb, rfl, p3⟩ := boolR_post p2
    cases d3
    refine ⟨bb, rfl, ?_⟩
    cases bb with
    | false => exact p3 _ _ _ E3 R3 (.bl _)
    | true =>
      refine ⟨φ3, ev, h2, R3, (r.ext (E1.trans (E2.trans E3))), Post.bind (Rel' := RD G) (p3.later E3) fun dw h4 φ4 H4 z E4 R4 d4 p4 => ?_⟩
      obtain ⟨du, e2, q⟩ := p4.opt
      exact ⟨φ4, h4, dy, dw, du, R4, (d2.ext E3).ext E4, d4, e2, q⟩
theorem s_chn {op op' : CmpOp} {o o' : Op} (ho : OpR X (compareOp op) (rOp G (opD o))) (ho' : OpR X (compareOp op') (rOp G (opD o'))) (ha : PE X a (rE G M C W a')) (hb : PE X b (rE G M C W b')) (hc : PE X c (rE G M C W c'))
    (hm : lastMarks [op, op'] [b, c] = false) : PE X (.Compare a [op, op'] [b, c] pos) (rE G M C W (.chn o o' a' b' c')) := pe_imp (pe_chain ho ho' ha hb hc hm) fun _ _ _ q => chain_read q
theorem toB_val {Q : Bool → Hp → Prop} (q : rT G M C W a' σ H Q) : rE G M C W a' σ H (fun v H' => ∃ b, v = .bl b ∧ Q b H') := by
  obtain ⟨φ, ev, h, R, r, p⟩ := q
  refine ⟨φ, ev, h, R, r, ?_⟩
  unfold toB at p
  cases e : evE M C a' ev h with
  | ok d h1 =>
    rw [e] at p
    intro φ1 H1 v E1 R1 d1
    cases d with
    | bl bb => cases d1; exact ⟨bb, rfl, p _ _ _ E1 R1 rfl⟩
    | _ => exact p.elim
  | exc n fs h1 => rw [e] at p; exact p
  | stk => rw [e] at p; exact p
theorem s_chnT {op op' : CmpOp} {o o' : Op} (ho : OpR X (compareOp op) (rOp G (opD o))) (ho' : OpR X (compareOp op') (rOp G (opD o'))) (ha : PE X a (rE G M C W a')) (hb : PE X b (rE G M C W b')) (hc : PE X c (rE G M C W c'))
    (hm : lastMarks [op, op'] [b, c] = false) : PT X (.Compare a [op, op'] [b, c] pos) (rT G M C W (.chn o o' a' b' c')) :=
  pt_imp (pt_chain ho ho' ha hb hc hm) fun _ _ _ q => chain_read (toB_val q)

/-! ### or, by truth -/
theorem tru_of (hK : X.K = G.K) (R : HRel G φ h H) {d : D} {v : V} (r : RD G φ H d v) {t : Bool} (e : truD h d = some t) : TruV X.K v H t := by
  cases r with
  | non => simp only [truD, Option.some.injEq] at e; exact e.symm
  | bl b => simp only [truD, Option.some.injEq] at e; exact e.symm
  | int i => simp only [truD, Option.some.injEq] at e; exact e.symm
  | str x =>
    simp only [truD] at e
    split at e
    · rename_i hz
      refine ⟨hz, ?_⟩
      simp only [Option.some.injEq] at e
      rw [← e]
      cases hx : x.length
      · rfl
      · simp; omega
    · cases e
  | @tup ds xs a ha rs =>
    simp only [truD, seqOf, Option.some.injEq] at e
    refine .inr (.inl ⟨xs, by rw [hK]; exact ha.sq, ?_⟩)
    rw [← e]; cases rs <;> rfl
  | @lst ds xs a ha rs =>
    simp only [truD, seqOf, Option.some.injEq] at e
    refine .inl ⟨xs, .inl (.inl ha.1), ?_⟩
    rw [← e]; cases rs <;> rfl
  | @ref n a ha =>
    obtain ⟨o, ho, w⟩ := R.at' ha
    cases o with
    | lst ds =>
      obtain ⟨xs, h1, rs⟩ := w
      simp only [truD, seqOf, ho, Option.some.injEq] at e
      refine .inl ⟨xs, .inl (.inl h1), ?_⟩
      rw [← e]; cases rs <;> rfl
    | dic => exact w.elim
    | ins => exact w.elim
  | fn => simp [truD, seqOf] at e
  | scr => simp [truD, seqOf] at e
theorem s_orv (g : Gd G M C T k N sc fc W X) (ha : PE X a (rE G M C W a')) (hb : PE X (.BoolOp .Or (b :: es) pos) (rE G M C W b')) : PE X (.BoolOp .Or (a :: b :: es) pos) (rE G M C W (.orv a' b')) := by
  refine pe_imp (pe_orT ha hb) fun σ H Q ⟨φ, ev, h, R, r, p⟩ => ?_
  refine ⟨φ, ev, h, R, r, Post.bind (Rel' := RD G) p fun dx h1 φ1 H1 x E1 R1 d1 p1 => ?_⟩
  cases e : truD h1 dx with
  | none => rw [e] at p1; exact p1.elim
  | some t =>
    rw [e] at p1
    refine ⟨t, tru_of g.hK R1 d1 e, ?_⟩
    cases t with
    | true => exact p1 _ _ _ (.refl _ _) R1 d1
    | false => exact ⟨φ1, ev, h1, R1, r.ext E1, p1⟩

/-! ### is True, is False -/
def rIs (G : Gl0) (o : Op) (t : Bool) : R2 := fun x y H Q => y = .bl t ∧ rOp G (opD o) x y H Q
theorem s_isB {op : CmpOp} {o : Op} {t : Bool} {j : Nat} (ho : OpR X (compareOp op) (rIs G o t)) (ha : PE X a (rE G M C W a')) (hm : behindInMarks op (.Constant (.bool t) j pos') = false) :
    PE X (.Compare a [op] [.Constant (.bool t) j pos'] pos) (rE G M C W (.op o a' (.cst (.bl t)))) := by
  refine pe_imp (pe_cmpR ho ha pe_bl hm) fun σ H Q ⟨φ, ev, h, R, r, p⟩ => ?_
  refine ⟨φ, ev, h, R, r, Post.bind (Rel' := RD G) p fun dx h1 φ1 H1 x E1 R1 d1 p1 => ?_⟩
  simp only [evE, Res.bind_ok] at p1
  obtain ⟨dz, e, q⟩ := p1.opt
  exact ⟨rfl, φ1, h1, dx, .bl t, dz, R1, d1, .bl t, e, q⟩
end
end Ev

/-! What is walked. -/
namespace Ev
open PySem PySem.Spec PyProof.Rows L2 PySem.W PySem.SeqAt

/-- the walk goes as the evaluator says, as long as what is walked stays -/
def WkR (G : Gl0) (w : Wk) (h0 : AH) (φ0 : Phi) (H0 : Hp) (J : L2.It) : Prop := ∀ φ h H, Ext0 φ0 H0 φ H → HRel G φ h H → stays w.dep h0 h → ∀ i,
  (w.items.length ≤ i → J.stop i H) ∧ ∀ d, w.items[i]? = some d → J.go i H ∧ ∀ x H', J.yld i H x H' → Ext φ H φ H' ∧ HRel G φ h H' ∧ RD G φ H' d x
theorem WkR.later {G : Gl0} {w : Wk} {h0 : AH} {φ0 φ1 : Phi} {H0 H1 : Hp} {J : L2.It} (r : WkR G w h0 φ0 H0 J) (e : Ext0 φ0 H0 φ1 H1) : WkR G w h0 φ1 H1 J := fun φ h H E => r φ h H (e.trans E)
section
variable (G : Gl0) (M : Mo) (C : Orc) (W : WX)
def rIt (it : It) : TI := fun σ H R => ∃ φ ev h, HRel G φ h H ∧ EnvR G φ H ev σ ∧ Post G (fun φ' H' (p : Wk × AH) J => HRel G φ' p.2 H' ∧ WkR G p.1 p.2 φ' H' J) W σ φ H R ((evIt M C it ev h).bind fun w h => .ok (w, h) h)
end
section
variable {G : Gl0} {M : Mo} {C : Orc} {T : Nt} {k : Nat} {N : List Str} {sc : Scope} {fc : Str → Bool} {W : WX} {X : Cx} {a b c tg : Expr} {es : List Expr} {a' b' c' : E} {es' : Es} {pos pos' : Pos}
variable {pins : List (Addr × Obj)} {σ : L2.St} {H : Hp} {s : Shared} {φ φ0 : Phi} {h h0 : AH} {H0 : Hp}

theorem seqOf_stays {x : D} (e : stays (depOf x) h0 h) : seqOf h x = seqOf h0 x := by
  cases x <;> first | rfl | skip
  rename_i n
  have := e n (by simp [depOf])
  simp only [seqOf, this]
theorem SqL_or (hK : X.K = G.K) {d : D} {v : V} {ds : List D} (R : HRel G φ h H) (r : RD G φ H d v) (e : seqOf h d = some ds) :
    ∃ a, v = .ref a ∧ ((∃ xs, SqL X.K H a xs ∧ RDs G φ H ds xs) ∨ (∃ ts, d = .tup ts) ∧ ∃ xs, SqT X.K H a xs ∧ RDs G φ H ds xs) := by
  cases r with
  | @tup ds' xs a ha rs =>
    simp only [seqOf, Option.some.injEq] at e; subst e
    exact ⟨a, rfl, .inr ⟨⟨_, rfl⟩, xs, by rw [hK]; exact ha.sq, rs⟩⟩
  | @lst ds' xs a ha rs =>
    simp only [seqOf, Option.some.injEq] at e; subst e
    exact ⟨a, rfl, .inl ⟨xs, .inl (.inl ha.1), rs⟩⟩
  | @ref n a ha =>
    obtain ⟨o, ho, w⟩ := R.at' ha
    simp only [seqOf, ho] at e
    cases o with
    | lst ds' =>
      simp only [Option.some.injEq] at e; subst e
      obtain ⟨xs, t1, rs⟩ := w
      exact ⟨a, rfl, .inl ⟨xs, .inl (.inl t1), rs⟩⟩
    | dic => simp at e
    | ins => simp at e
  | _ => simp [seqOf] at e
/-- a list stands still -/
theorem seq_lst (hK : X.K = G.K) {d : D} {a : Addr} {ds : List D} (hd : ∀ ts, d ≠ .tup ts) (r : RD G φ0 H0 d (.ref a)) (e : seqOf h0 d = some ds) (E : Ext0 φ0 H0 φ H) (R : HRel G φ h H) (st : stays (depOf d) h0 h) : ∃ xs, SqL X.K H a xs ∧ RDs G φ H ds xs := by
  rw [← seqOf_stays st] at e
  obtain ⟨a', q, hx⟩ := SqL_or hK R (RD.ext0 E r) e
  cases q
  rcases hx with hx | ⟨⟨ts, rfl⟩, _⟩
  · exact hx
  · exact absurd rfl (hd ts)
theorem seq_tup (hK : X.K = G.K) {ts : List D} {a : Addr} {ds : List D} (r : RD G φ0 H0 (.tup ts) (.ref a)) (e : seqOf h0 (.tup ts) = some ds) (E : Ext0 φ0 H0 φ H) : ∃ xs, SqT X.K H a xs ∧ RDs G φ H ds xs := by
  simp only [seqOf, Option.some.injEq] at e; subst e
  have r' := RD.ext0 E r
  cases r' with
  | tup ha rs => exact ⟨_, by rw [hK]; exact ha.sq, rs⟩
theorem wk_list (hK : X.K = G.K) {d : D} {a : Addr} {ds : List D} (hd : ∀ ts, d ≠ .tup ts) (r : RD G φ0 H0 d (.ref a)) (e : seqOf h0 d = some ds) : WkR G ⟨ds, depOf d⟩ h0 φ0 H0 (Itl X.K a) := by
  intro φ h H E R st i
  obtain ⟨xs, h1, h2⟩ := seq_lst hK hd r e E R st
  refine ⟨fun hi => ⟨xs, h1, by rw [← h2.length]; exact hi⟩, fun y hy => ?_⟩
  obtain ⟨v, hv, rv⟩ := h2.get hy
  refine ⟨⟨xs, v, h1, hv⟩, fun x H' q => ?_⟩
  obtain ⟨rfl, q⟩ := q
  have := q xs h1
  rw [hv] at this; cases this
  exact ⟨.refl _ _, R, rv⟩
theorem wk_tup (hK : X.K = G.K) {ts : List D} {a : Addr} {ds : List D} (r : RD G φ0 H0 (.tup ts) (.ref a)) (e : seqOf h0 (.tup ts) = some ds) : WkR G ⟨ds, depOf (.tup ts)⟩ h0 φ0 H0 (Itt X.K a) := by
  intro φ h H E R st i
  obtain ⟨xs, h1, h2⟩ := seq_tup hK r e E
  refine ⟨fun hi => ⟨xs, h1, by rw [← h2.length]; exact hi⟩, fun y hy => ?_⟩
  obtain ⟨v, hv, rv⟩ := h2.get hy
  refine ⟨⟨xs, v, h1, hv⟩, fun x H' q => ?_⟩
  obtain ⟨rfl, q⟩ := q
  have := q xs h1
  rw [hv] at this; cases this
  exact ⟨.refl _ _, R, rv⟩
theorem i_seq (g : Gd G M C T k N sc fc W X) (ha : PE X a (rE G M C W a')) : PI X tg a (rIt G M C W (.seq a')) := by
  refine ⟨fun pins s σ H R I ⟨φ, ev, h, Rl, r, p⟩ => ?_⟩
  refine thn (ha.run pins s σ H (fun x H1 => (∃ a, x = .ref a ∧ (∃ xs, SqL X.K H1 a xs) ∧ R (Itl X.K a) H1) ∨ ∃ a, x = .ref a ∧ (∃ xs, SqT X.K H1 a xs) ∧ R (Itt X.K a) H1) I ⟨φ, ev, h, Rl, r, ?_⟩) fun v s1 hq => ?_
  · have p' : Post G (fun φ' H' (p : Wk × AH) J => HRel G φ' p.2 H' ∧ WkR G p.1 p.2 φ' H' J) W σ φ H R ((evE M C a' ev h).bind fun x h => (match walkOf h x with
      | some ds => Res.ok (⟨ds, depOf x⟩, h) h
      | none => .stk)) := by
      simp only [evIt] at p
      cases hh : evE M C a' ev h with
      | ok d h1 =>
        rw [hh] at p
        simp only [Res.bind_ok] at p ⊢
        cases hw : walkOf h1 d with
        | none => rw [hw] at p; exact p
        | some ds => rw [hw] at p; exact p
      | exc n fs h1 => rw [hh] at p; exact p
      | stk => rw [hh] at p; exact p
    refine Post.bind (Rel' := RD G) p' fun dx h1 φ1 H1 x E1 R1 d1 p1 => ?_
    cases hw : walkOf h1 dx with
    | none => rw [hw] at p1; exact p1.elim
    | some ds =>
      rw [hw] at p1
      unfold walkOf at hw
      split at hw
      · rename_i ds' hs
        cases hw
        obtain ⟨ad, rfl, hx⟩ := SqL_or g.hK R1 d1 hs
        by_cases ht : ∃ ts, dx = .tup ts
        · obtain ⟨ts, rfl⟩ := ht
          obtain ⟨xs, q1, q2⟩ := seq_tup g.hK d1 hs (Ext.refl _ _).z
          exact .inr ⟨ad, rfl, ⟨xs, q1⟩, p1 _ _ _ (.refl _ _) R1 ⟨R1, wk_tup g.hK d1 hs⟩⟩
        · have ht' : ∀ ts, dx ≠ .tup ts := fun ts q => ht ⟨ts, q⟩
          obtain ⟨xs, q1, q2⟩ := seq_lst g.hK ht' d1 hs (Ext.refl _ _).z R1 (fun _ _ => rfl)
          exact .inl ⟨ad, rfl, ⟨xs, q1⟩, p1 _ _ _ (.refl _ _) R1 ⟨R1, wk_list g.hK ht' d1 hs⟩⟩
      · split at hw
        · rename_i hd; exact (dic_none R1 d1 hd).elim
        · cases hw
  · obtain ⟨x, H1, I1, rx, hx⟩ := hq
    rcases hx with ⟨ad, rfl, ⟨xs, q1⟩, q2⟩ | ⟨ad, rfl, ⟨xs, q1⟩, q2⟩
    · cases rx
      obtain ⟨its, rv, pl, hz⟩ := I1.list q1
      exact wpAny_pyIter_list pl.isList (L2.pi_one I1 _ (turn_list ad s1.heap.objs.size) ⟨_, Heap.get?_push_size s1.heap rfl, rfl, rfl⟩ q2)
    · cases rx
      obtain ⟨its, rv, pl, hz⟩ := I1.tuple q1
      exact wpAny_pyIter_tuple pl (L2.pi_one I1 _ (turn_tuple ad s1.heap.objs.size) ⟨_, Heap.get?_push_size s1.heap rfl, rfl, rfl⟩ q2)
end
end Ev

set_option maxRecDepth 100000
/-! enumerate over a tuple. -/
namespace Ev
open PySem PySem.Spec PyProof.Rows L2
open PySem.Sem (wp)
open AutoSeq1 (wpAny_loadPart')

theorem drawsT {prog : Program} {w : World} {A : Around} (hh : A.handled = none) (it l : Addr) (hne : l ≠ it) (items : Array Value) :
    Draws prog w A it [it, l] items.size (fun i v => items[i]? = some v) (fun i h => h.IsTupleIter it l i ∧ h.IsTuple l items) where
  live := fun _ _ ⟨⟨o, q, _⟩, _⟩ => ⟨o, q⟩
  frame := fun _ _ _ ⟨⟨o, q, r⟩, ⟨o2, q2, r2⟩⟩ keep => ⟨⟨o, keep it (by simp) o q, r⟩, ⟨o2, keep l (by simp) o2 q2, r2⟩⟩
  item := fun i s Q E lt st out => RZ.nextOf_tuple_item st.1 st.2 (x := items[i]) (by simp [lt]) fun h' a b => out _ h' s.toks (by simp [lt]) ⟨a, st.2.extBut b.extBut hne⟩ b
  done := fun s Q E st out => RZ.nextOf_tuple_end hh st.1 st.2 (by simp) out

set_option maxHeartbeats 1000000 in
theorem meets_enumT (l : Addr) (items : Array Value) (n : Nat) (dct : Option Addr) (sl : Array (Option Value)) :
    Meets (Builtin.«enumerate.__new__» ⟨[.type "enumerate", .ref l], []⟩) (fun _ R s => s.heap.get? l = some { cls := .type "tuple", dict := dct, data := .seq items n, slots := sl } ∧
      R (.ok (.ret (.ref (s.heap.push { cls := .type "tuple_iterator", data := .fields #[.ref l, .int 0 0] }).objs.size)))
        { s with heap := (s.heap.push { cls := .type "tuple_iterator", data := .fields #[.ref l, .int 0 0] }).push { cls := .type "enumerate", data := .fields #[.none, .bool false, .ref s.heap.objs.size, rawInt 0, .none, .none] } }) :=
  .of_wp fun prog w A R s h => by
    obtain ⟨hp, g, d, tk, os⟩ := s
    obtain ⟨at_, out⟩ := h
    have hsub := sub_enumerate
    have hL : Heap.IsTuple (Shared.heap ⟨hp, g, d, tk, os⟩) l items := ⟨_, at_, rfl, n, rfl⟩
    wp_walk using wpAny_loadPart' at_
    refine wpAny_stack_any fun st => wpAny_pure ?_
    split
    · rename_i c _ _ _ _ _
      cases (c == Value.type "enumerate")
      all_goals (wp_walk using wpAny_loadPart' at_, wpAny_pyIter_tuple hL; exact ⟨_, rfl, out⟩)
    · wp_walk using wpAny_loadPart' at_, wpAny_pyIter_tuple hL
      exact ⟨_, rfl, out⟩

section
variable {prog : Program} {w : World} {A : Around} {E : Value → Shared → Prop} {s : Shared}
theorem call_enumT {l : Addr} {items : Array Value} {Q : Value → Shared → Prop} (ht : s.heap.IsTuple l items)
    (out : ∀ h', IsEnum h' (s.heap.objs.size + 1) s.heap.objs.size 0 .none → h'.IsTupleIter s.heap.objs.size l 0 → h'.objs.size = s.heap.objs.size + 2 →
      (∀ b o, s.heap.get? b = some o → h'.get? b = some o) → Q (.ref (s.heap.objs.size + 1)) { s with heap := h' }) :
    wpAny (model prog w) A (call (.type "enumerate") [.ref l]) Q E s := by
  obtain ⟨⟨c, dct, dt, sl⟩, hl, hc, n, hd⟩ := ht
  replace hc : c = .type "tuple" := hc
  replace hd : dt = .seq items n := hd
  subst hc hd
  refine callType_new F.called_enumerate (by decide) (F.typeCall_enumerate_1 _) (F.newCall_enumerate_1 _) (fun obj => F.args_object_init_2 obj _) F.entry_enumerate_new
    (meets_enumT l items n dct sl) ⟨hl, ?_⟩
  have hz : (s.heap.push { cls := .type "tuple_iterator", data := .fields #[.ref l, .int 0 0] }).objs.size = s.heap.objs.size + 1 := Heap.size_push ..
  show _ ∧ _
  rw [hz]
  have he : IsEnum ((s.heap.push { cls := .type "tuple_iterator", data := .fields #[.ref l, .int 0 0] }).push
      { cls := .type "enumerate", data := .fields #[.none, .bool false, .ref s.heap.objs.size, rawInt 0, .none, .none] }) (s.heap.objs.size + 1) s.heap.objs.size 0 .none := by
    have q := Heap.get?_push_size (s.heap.push { cls := .type "tuple_iterator", data := .fields #[.ref l, .int 0 0] })
      (o := { cls := .type "enumerate", data := .fields #[.none, .bool false, .ref s.heap.objs.size, rawInt 0, .none, .none] }) rfl
    rw [hz] at q
    exact q
  exact ⟨⟨_, he, rfl⟩, out _ he ⟨_, Heap.get?_push_of_some _ (Heap.get?_push_size _ rfl), rfl, rfl⟩ (by rw [Heap.size_push, hz]) fun b o x => Heap.get?_push_of_some _ (Heap.get?_push_of_some _ x)⟩
end

/-- the tuple at a, each item in a new pair -/
def IteT (K : PySem.W.Frag) (a : Addr) : L2.It :=
  ⟨fun i H => ∃ (xs : List V) (x : V), SqT K H a xs ∧ xs[i]? = some x, fun i H v H' => ∃ T x, v = .ref T ∧ H T = none ∧ H' = upd H T (.tup [.int (i : Nat), x]) ∧ ∀ xs, SqT K H a xs → xs[i]? = some x, fun i H => ∃ xs : List V, SqT K H a xs ∧ xs.length ≤ i⟩
theorem turn_enumT {P : Program} {w : World} {K : PySem.W.Frag} {elts : List Expr} {kk : Nat} {tpos : Pos} (a e it : Addr) (hai : a ≠ it) (hae : a ≠ e) :
    Turn P w K (.Tuple elts kk tpos) (IteT K a) [e, it] e (fun i h => (∃ old, IsEnum h e it ((i : Nat) : Int) old) ∧ h.IsTupleIter it a i ∧ e ≠ it) where
  mem := by simp
  obj := fun i h st b hb => by
    obtain ⟨⟨old, he⟩, ⟨o, ho, hc, hd⟩, _⟩ := st
    rcases (show b = e ∨ b = it by simpa using hb) with rfl | rfl
    · exact ⟨_, he, fun v q => nomatch q⟩
    · exact ⟨o, ho, fun v q => by rw [hd] at q; cases q⟩
  keep := fun i h h' ⟨⟨old, he⟩, ⟨o, q, r⟩, hne⟩ k => ⟨⟨old, k e (by simp) _ he⟩, ⟨o, k it (by simp) o q, r⟩, hne⟩
  item := by
    intro X hP hw hK hc i pins s σ H E I hf st hg
    subst hP hw hK
    obtain ⟨⟨old, he⟩, hit, hne⟩ := st
    obtain ⟨xs, x, hq, hx⟩ := hg
    obtain ⟨its, rv, p, hz⟩ := I.tuple hq
    obtain ⟨u, hu, ru⟩ := rv.get hx
    have hel : e < s.heap.objs.size := Heap.lt_size he
    have hil : it < s.heap.objs.size := by obtain ⟨_, q, _⟩ := hit; exact Heap.lt_size q
    have hlt : i < its.toArray.size := by
      have := (List.getElem?_eq_some_iff.mp hu).1
      simpa using this
    have hpt : s.heap.IsTuple a its.toArray := p
    refine wpAny_pyNext_enum_itemD (drawsT (A := X.A.in1) (show X.A.in1.handled = none from I.ok.hd hc) it a hai its.toArray) he ⟨hit, hpt⟩ hlt hne (by simp [hne, Ne.symm hae]) fun u' h' tk hu' ho hit' hT hsz hk => ?_
    have : u' = u := by
      have q1 : its[i]? = some u' := by simpa using hu'
      rw [hu] at q1; exact (Option.some.inj q1).symm
    subst this
    refine ⟨_, rfl, wpAny_letOwnedTupleGo_enum (s := { s with heap := h', toks := tk + 1 }) ho fun h'' he' sb => ?_⟩
    have hT2 : h''.get? s.heap.objs.size = some { cls := .type "tuple", data := .seq #[.int i tk, u'] } := (sb.2 _ (Nat.ne_of_gt hel)).trans hT
    have new : ObjOk X.prog X.w (upd H s.heap.objs.size (.tup [.int (i : Nat), x])) h'' s.heap.objs.size (.tup [.int (i : Nat), x]) :=
      ⟨by show 2 ≤ sizeLine; decide, [.int i tk, u'], .cons ⟨_, rfl⟩ (.cons ru .nil), ⟨_, hT2, rfl, _, rfl⟩⟩
    have I1 : Inv X pins σ (upd H s.heap.objs.size (.tup [.int (i : Nat), x])) { s with heap := h'', toks := tk + 1 } :=
      I.turnedNew (ch := [e, it]) (fun b ob hb q => (sb.2 b (fun z => hb (by simp [z]))).trans (hk b ob (fun z => hb (by simp [z])) (fun z => hb (by simp [z])) q)) hf (Nat.le_refl _) new
    refine ⟨.ref s.heap.objs.size, _, I1, rfl, ⟨_, x, rfl, I.hok.fresh (Nat.le_refl _), rfl, fun ys hy => by rw [I.tuple_inj hy hq]; exact hx⟩, ⟨⟨u', ?_⟩, ?_, hne⟩, fun b hb => ?_⟩
    · have e1 : ((i + 1 : Nat) : Int) = (i : Int) + 1 := by omega
      rw [e1]; exact he'
    · obtain ⟨⟨o, q, r⟩, _⟩ := hit'
      exact ⟨o, (sb.2 it (Ne.symm hne)).trans q, r⟩
    · have hb' : b < s.heap.objs.size := by
        rcases (show b = e ∨ b = it by simpa using hb) with rfl | rfl <;> assumption
      rw [upd_ne (Nat.ne_of_lt hb')]
      exact (hf b hb).1
  done := by
    intro X hP hw hK hc i pins s σ H E I hf st hg
    subst hP hw hK
    obtain ⟨⟨old, he⟩, hit, hne⟩ := st
    obtain ⟨xs, hq, hx⟩ := hg
    obtain ⟨its, rv, p, hz⟩ := I.tuple hq
    obtain ⟨f0, f1, f2, f3, f4, f5⟩ := hf it (by simp)
    have hl := rv.length
    have hpt : s.heap.IsTuple a its.toArray := p
    have hnone : its.toArray[i]? = none := by simp; omega
    have hT : s.TypeIs (.ref e) "enumerate" := ⟨_, he, rfl⟩
    unfold pyNext
    refine wpAny_bind (wpAny_attempt (wpAny_callSpecial?_slot (name := Str.ofString "__next__") hT F.slot_enumerate_next
      (wpAny_call_entry F.slot_enumerate_next hT F.entry_enumerate_next ?_ (F.args_enumerate_next_1 _))))
    show wpAny _ _ (field (.ref e) 2 >>= _) _ _ _
    refine wpAny_bind (wpAny_field he rfl (x := .ref it) rfl ?_)
    refine wpAny_bind (RZ.nextOf_tuple_end (I.ok.hd hc) hit hpt hnone fun h' x eb hx' => ?_)
    obtain ⟨o, ho, hcl⟩ := hx'
    refine wpAny_bind (wpAny_isInstance (T := "StopIteration") (b := true) ⟨o, ho, hcl⟩ isSubtype_stop ?_)
    exact wpAny_pure ⟨rfl, I.turned (t' := s.toks) (fun b o hb q => eb b o hb q) f0 f1 f3 f4 f5⟩
  self := fun A i s Q E st h => let ⟨⟨_, he⟩, _⟩ := st; wpAny_pyIter_enum he h
def iEnumA (K : PySem.W.Frag) (ta : TA) : TI := fun σ H R => ta σ H fun vs H1 => ∃ a xs, vs = [.ref a] ∧ ((SqL K H1 a xs ∧ R (Ite K a) H1) ∨ (SqT K H1 a xs ∧ R (IteT K a) H1))
theorem pi_enumA {X : Cx} {e : Expr} {ta : TA} {p pos tpos : Pos} {elts : List Expr} {kk : Nat} (hg : Gl X "enumerate") (hm : X.mg "enumerate" = none) (ha : PA X [e] ta) (hs : starEach [e] X.env = [(false, eval e X.env)] := by rfl) :
    PI X (.Tuple elts kk tpos) (.Call (.Name "enumerate" p) [e] [] pos) (iEnumA X.K ta) := by
  refine ⟨fun pins s σ H R I h => ?_⟩
  refine Call_ (ld_blt I hg hm boot_enumerate (PyProof.Rows.callWith_type1 (thn (ha.run pos pins s σ H _ I h) fun us s1 ⟨vs, H1, I1, r1, q1⟩ => ?_) hs rfl))
  obtain ⟨a, xs, ex, q⟩ := q1
  subst ex
  cases r1 with
  | cons r rr =>
    cases rr
    cases r
    have fresh : ∀ b, b ∈ [s1.heap.objs.size + 1, s1.heap.objs.size] → FpOk X pins H1 b := fun b hb => by
      have hle : s1.heap.objs.size ≤ b := by
        rcases (show b = s1.heap.objs.size + 1 ∨ b = s1.heap.objs.size by simpa using hb) with z | z <;> omega
      exact I1.fpOk hle (I1.hok.fresh hle)
    rcases q with ⟨hq, q⟩ | ⟨hq, q⟩
    · obtain ⟨its, rv, p', hz⟩ := I1.list hq
      refine call_enumerate_list p'.isList fun h' he hit hsz hk => wpAny_pyIter_enum he ?_
      exact ⟨s1.heap.objs.size + 1, [s1.heap.objs.size + 1, s1.heap.objs.size], _, _, H1, rfl, I1.kept (t' := s1.toks) hk, turn_enum a (s1.heap.objs.size + 1) s1.heap.objs.size, ⟨⟨.none, he⟩, hit, Nat.succ_ne_self _⟩, fresh, q⟩
    · obtain ⟨its, rv, p', hz⟩ := I1.tuple hq
      obtain ⟨o, ho, _⟩ := id p'
      have hlt := Heap.lt_size ho
      refine call_enumT (show s1.heap.IsTuple a its.toArray from p') fun h' he hit hsz hk => wpAny_pyIter_enum he ?_
      exact ⟨s1.heap.objs.size + 1, [s1.heap.objs.size + 1, s1.heap.objs.size], _, _, H1, rfl, I1.kept (t' := s1.toks) hk, turn_enumT a (s1.heap.objs.size + 1) s1.heap.objs.size (Nat.ne_of_lt hlt) (Nat.ne_of_lt (Nat.lt_succ_of_lt hlt)), ⟨⟨.none, he⟩, hit, Nat.succ_ne_self _⟩, fresh, q⟩
end Ev

/-! range, enumerate, zip. -/
namespace Ev
open PySem PySem.Spec PyProof.Rows L2 PySem.W PySem.SeqAt

section
variable {G : Gl0} {M : Mo} {C : Orc} {T : Nt} {k : Nat} {N : List Str} {sc : Scope} {fc : Str → Bool} {W : WX} {X : Cx} {a b c tg : Expr} {es : List Expr} {a' b' c' : E} {es' : Es} {pos pos' : Pos}
variable {pins : List (Addr × Obj)} {σ : L2.St} {H : Hp} {s : Shared} {φ φ0 : Phi} {h h0 : AH} {H0 : Hp}

theorem pi_imp {wi wi' : TI} (h : PI X tg a wi) (hi : ∀ σ H R, wi' σ H R → wi σ H R) : PI X tg a wi' := ⟨fun pins s σ H R I q => h.run pins s σ H R I (hi σ H R q)⟩
/-- one argument, as a list of one -/
theorem pa_one (ha : PE X a (rE G M C W a')) (hs : isStar a = false) : PA X [a] (tCons (rE G M C W a') tNil) := pa_cons ha pa_nil (star_of hs)
theorem biG (g : Gd G M C T k N sc fc W X) {x : Str} (hb : biC sc x = true) : Gl X x ∧ X.mg x = none := by
  simp only [biC, Bool.and_eq_true] at hb
  exact ⟨(gl_of g hb.1).1, g.bi _ (by simpa using hb.2)⟩
theorem i_rng (g : Gd G M C T k N sc fc W X) (hb : biC sc "range" = true) (ha : PE X a (rE G M C W a')) (hs : isStar a = false) : PI X tg (.Call (.Name "range" pos') [a] [] pos) (rIt G M C W (.rng a')) := by
  obtain ⟨g1, g2⟩ := biG g hb
  refine pi_imp (pi_range1 g1 g2 (pa_one ha hs) (star_of hs)) fun σ H R ⟨φ, ev, h, Rl, r, p⟩ => ?_
  refine ⟨φ, ev, h, Rl, r, ?_⟩
  have p' : Post G (fun φ' H' (p : Wk × AH) J => HRel G φ' p.2 H' ∧ WkR G p.1 p.2 φ' H' J) W σ φ H R ((evE M C a' ev h).bind fun x h => (match x with
    | .int n => if n < 2 ^ 62 ∧ -(2 ^ 62) ≤ n then .ok (⟨(List.range n.toNat).map fun (k : Nat) => D.int k, []⟩, h) h else .stk
    | _ => .stk : Res (Wk × AH))) := by
    simp only [evIt] at p
    cases hh : evE M C a' ev h with
    | ok d h1 =>
      rw [hh] at p
      simp only [Res.bind_ok] at p ⊢
      cases d <;> try exact p
      rename_i n
      by_cases hn : n < 2 ^ 62 ∧ -(2 ^ 62) ≤ n
      · simp only [hn, and_self, if_true, Res.bind_ok] at p ⊢; exact p
      · simp only [hn, if_false, Res.bind_stk] at p; exact p.elim
    | exc n fs h1 => rw [hh] at p; exact p
    | stk => rw [hh] at p; exact p
  refine Post.bind (Rel' := RD G) p' fun dx h1 φ1 H1 x E1 R1 d1 p1 => ?_
  cases dx <;> try exact p1.elim
  rename_i n
  cases d1
  simp only at p1
  split at p1
  · rename_i hn
    refine ⟨n, rfl, hn.2, hn.1, p1 _ _ _ (.refl _ _) R1 ⟨R1, fun φ h H E R st i => ⟨fun hi => ?_, fun d hd => ?_⟩⟩⟩
    · show n.toNat ≤ i
      simp only [List.length_map, List.length_range] at hi
      exact hi
    · simp only [List.getElem?_map, Option.map_eq_some_iff] at hd
      obtain ⟨j, hj, rfl⟩ := hd
      have hj' : i < n.toNat ∧ i = j := by
        obtain ⟨q1, q2⟩ := List.getElem?_eq_some_iff.mp hj
        simp at q1 q2
        exact ⟨by omega, q2⟩
      refine ⟨hj'.1, fun x H' q => ?_⟩
      obtain ⟨rfl, rfl⟩ := q
      obtain ⟨_, rfl⟩ := hj'
      refine ⟨.refl _ _, R, ?_⟩
      rw [Int.zero_add]
      exact .int _
  · exact p1.elim
theorem enumL_get : ∀ (ds : List D) (k i : Nat), (enumL k ds)[i]? = ds[i]?.map fun d => .tup [.int ((k + i : Nat) : Int), d]
  | [], k, i => by simp [enumL]
  | d :: ds, k, 0 => by simp [enumL]
  | d :: ds, k, i + 1 => by
    have := enumL_get ds (k + 1) i
    simp only [enumL, List.getElem?_cons_succ, this]
    congr 1
    funext d
    rw [show k + 1 + i = k + (i + 1) by omega]
theorem enumL_len : ∀ (ds : List D) (k : Nat), (enumL k ds).length = ds.length
  | [], _ => rfl
  | d :: ds, k => by simp [enumL, enumL_len ds]
theorem zipL_get : ∀ (as bs : List D) (i : Nat), (zipL as bs)[i]? = (match as[i]?, bs[i]? with
    | some a, some b => some (.tup [a, b])
    | _, _ => none)
  | [], bs, i => by simp [zipL]
  | a :: as, [], i => by
    simp only [zipL, List.getElem?_nil]
    split <;> simp_all
  | a :: as, b :: bs, 0 => by simp [zipL]
  | a :: as, b :: bs, i + 1 => by simpa [zipL] using zipL_get as bs i
theorem zipL_len : ∀ (as bs : List D), (zipL as bs).length = min as.length bs.length
  | [], bs => by simp [zipL]
  | a :: as, [] => by simp [zipL]
  | a :: as, b :: bs => by simp [zipL, zipL_len as bs]
theorem i_enm {elts : List Expr} {kk : Nat} {tp : Pos} (g : Gd G M C T k N sc fc W X) (hb : biC sc "enumerate" = true) (ha : PE X a (rE G M C W a')) (hs : isStar a = false) : PI X (.Tuple elts kk tp) (.Call (.Name "enumerate" pos') [a] [] pos) (rIt G M C W (.enm a')) := by
  obtain ⟨g1, g2⟩ := biG g hb
  refine pi_imp (pi_enumA g1 g2 (pa_one ha hs) (star_of hs)) fun σ H R ⟨φ, ev, h, Rl, r, p⟩ => ?_
  refine ⟨φ, ev, h, Rl, r, ?_⟩
  have p' : Post G (fun φ' H' (p : Wk × AH) J => HRel G φ' p.2 H' ∧ WkR G p.1 p.2 φ' H' J) W σ φ H R ((evE M C a' ev h).bind fun x h => (match seqOf h x with
    | some ds => .ok (⟨enumL 0 ds, depOf x⟩, h) h
    | none => .stk : Res (Wk × AH))) := by
    simp only [evIt] at p
    cases hh : evE M C a' ev h with
    | ok d h1 =>
      rw [hh] at p
      simp only [Res.bind_ok] at p ⊢
      cases hw : seqOf h1 d with
      | none => rw [hw] at p; exact p
      | some ds => rw [hw] at p; exact p
    | exc n fs h1 => rw [hh] at p; exact p
    | stk => rw [hh] at p; exact p
  refine Post.bind (Rel' := RD G) p' fun dx h1 φ1 H1 x E1 R1 d1 p1 => ?_
  cases hs : seqOf h1 dx with
  | none => rw [hs] at p1; exact p1.elim
  | some ds =>
    rw [hs] at p1
    obtain ⟨ad, rfl, hx⟩ := SqL_or g.hK R1 d1 hs
    by_cases ht : isTup dx = true
    · obtain ⟨ts, rfl⟩ : ∃ ts, dx = .tup ts := by cases dx <;> first | exact ⟨_, rfl⟩ | cases ht
      obtain ⟨xs, q1, q2⟩ := seq_tup g.hK d1 hs (Ext.refl _ _).z
      refine ⟨ad, xs, rfl, .inr ⟨q1, p1 _ _ _ (.refl _ _) R1 ⟨R1, fun φ h H E R st i => ?_⟩⟩⟩
      obtain ⟨xs, h1, h2⟩ := seq_tup g.hK d1 hs E
      refine ⟨fun hi => ⟨xs, h1, by rw [← h2.length]; simpa [enumL_len] using hi⟩, fun y hy => ?_⟩
      simp only [enumL_get, Option.map_eq_some_iff] at hy
      obtain ⟨d, hd, rfl⟩ := hy
      obtain ⟨v, hv, rv⟩ := h2.get hd
      refine ⟨⟨xs, v, h1, hv⟩, fun x H' q => ?_⟩
      obtain ⟨t, y, rfl, hn, rfl, hq⟩ := q
      have := hq xs h1
      rw [hv] at this; cases this
      have Z := RD.new_tup R hn (RDs.cons (.int ((0 + i : Nat) : Int)) (.cons rv .nil))
      rw [Nat.zero_add] at Z
      rw [Nat.zero_add]
      exact Z
    · have ht' : ∀ ts, dx ≠ .tup ts := fun ts q => ht (by rw [q]; rfl)
      obtain ⟨xs, q1, q2⟩ := seq_lst g.hK ht' d1 hs (Ext.refl _ _).z R1 (fun _ _ => rfl)
      refine ⟨ad, xs, rfl, .inl ⟨q1, p1 _ _ _ (.refl _ _) R1 ⟨R1, fun φ h H E R st i => ?_⟩⟩⟩
      obtain ⟨xs, h1, h2⟩ := seq_lst g.hK ht' d1 hs E R st
      refine ⟨fun hi => ⟨xs, h1, by rw [← h2.length]; simpa [enumL_len] using hi⟩, fun y hy => ?_⟩
      simp only [enumL_get, Option.map_eq_some_iff] at hy
      obtain ⟨d, hd, rfl⟩ := hy
      obtain ⟨v, hv, rv⟩ := h2.get hd
      refine ⟨⟨xs, v, h1, hv⟩, fun x H' q => ?_⟩
      obtain ⟨t, y, rfl, hn, rfl, hq⟩ := q
      have := hq xs h1
      rw [hv] at this; cases this
      have Z := RD.new_tup R hn (RDs.cons (.int ((0 + i : Nat) : Int)) (.cons rv .nil))
      rw [Nat.zero_add] at Z
      rw [Nat.zero_add]
      exact Z
theorem i_zip {elts : List Expr} {kk : Nat} {tp : Pos} (g : Gd G M C T k N sc fc W X) (hb : biC sc "zip" = true) (ha : PE X a (rE G M C W a')) (hs : isStar a = false) (ha2 : PE X b (rE G M C W b')) (hs2 : isStar b = false) :
    PI X (.Tuple elts kk tp) (.Call (.Name "zip" pos') [a, b] [] pos) (rIt G M C W (.zip a' b')) := by
  obtain ⟨g1, g2⟩ := biG g hb
  refine pi_imp (RZ.pi_zipA g1 g2 (pa_cons ha (pa_one ha2 hs2) (star_of hs)) (star_of hs) (star_none (by simp [noStars, hs2]))) fun σ H R ⟨φ, ev, h, Rl, r, p⟩ => ?_
  refine ⟨φ, ev, h, Rl, r, ?_⟩
  have p' : Post G (fun φ' H' (p : Wk × AH) J => HRel G φ' p.2 H' ∧ WkR G p.1 p.2 φ' H' J) W σ φ H R ((evE M C a' ev h).bind fun x h => (evE M C b' ev h).bind fun y h => (match seqOf h x, seqOf h y with
    | some ds, some es => if isTup x = isTup y then .ok (⟨zipL ds es, depOf x ++ depOf y⟩, h) h else .stk
    | _, _ => .stk : Res (Wk × AH))) := by
    simp only [evIt] at p
    cases hh : evE M C a' ev h with
    | ok d h1 =>
      rw [hh] at p
      simp only [Res.bind_ok] at p ⊢
      cases hh2 : evE M C b' ev h1 with
      | ok d2 h2 =>
        rw [hh2] at p
        simp only [Res.bind_ok] at p ⊢
        cases hw : seqOf h2 d with
        | none => rw [hw] at p; exact p
        | some ds =>
          cases hw2 : seqOf h2 d2 with
          | none => rw [hw, hw2] at p; exact p
          | some ds2 =>
            rw [hw, hw2] at p
            by_cases ht : isTup d = isTup d2
            · simp only [ht, if_true, Res.bind_ok] at p ⊢; exact p
            · simp only [ht, if_false, Res.bind_stk] at p; exact p.elim
      | exc n fs h1 => rw [hh2] at p; exact p
      | stk => rw [hh2] at p; exact p
    | exc n fs h1 => rw [hh] at p; exact p
    | stk => rw [hh] at p; exact p
  refine Post.bind (Rel' := RD G) p' fun dx h1 φ1 H1 x E1 R1 d1 p1 => ⟨φ1, ev, h1, R1, r.ext E1, Post.bind (Rel' := RD G) p1 fun dy h2 φ2 H2 y E2 R2 d2 p2 => ?_⟩
  have d1' := d1.ext E2
  cases hx : seqOf h2 dx with
  | none => rw [hx] at p2; exact p2.elim
  | some ds =>
    cases hy : seqOf h2 dy with
    | none => rw [hx, hy] at p2; exact p2.elim
    | some es =>
      rw [hx, hy] at p2
      simp only at p2
      split at p2
      · rename_i heq
        obtain ⟨ad, rfl, _⟩ := SqL_or g.hK R2 d1' hx
        obtain ⟨bd, rfl, _⟩ := SqL_or g.hK R2 d2 hy
        have stl : ∀ {h3 : AH}, stays (depOf dx ++ depOf dy) h2 h3 → stays (depOf dx) h2 h3 ∧ stays (depOf dy) h2 h3 := fun st => ⟨fun n hn => st n (List.mem_append_left _ hn), fun n hn => st n (List.mem_append_right _ hn)⟩
        by_cases ht : isTup dx = true
        · obtain ⟨ts, rfl⟩ : ∃ ts, dx = .tup ts := by cases dx <;> first | exact ⟨_, rfl⟩ | cases ht
          obtain ⟨us, rfl⟩ : ∃ ts, dy = .tup ts := by rw [ht] at heq; cases dy <;> first | exact ⟨_, rfl⟩ | cases heq
          obtain ⟨xs, q1, q2⟩ := seq_tup g.hK d1' hx (Ext.refl _ _).z
          obtain ⟨ys, q3, q4⟩ := seq_tup g.hK d2 hy (Ext.refl _ _).z
          refine ⟨ad, bd, xs, ys, rfl, .inr ⟨q1, q3, p2 _ _ _ (.refl _ _) R2 ⟨R2, fun φ h H E R st i => ?_⟩⟩⟩
          obtain ⟨xs, h1, r1⟩ := seq_tup g.hK d1' hx E
          obtain ⟨ys, h2, r2⟩ := seq_tup g.hK d2 hy E
          refine ⟨fun hi => ⟨xs, ys, h1, h2, ?_⟩, fun z hz => ?_⟩
          · rw [← r1.length, ← r2.length]; simp only [zipL_len] at hi; omega
          · simp only [zipL_get] at hz
            split at hz
            · rename_i d1 d2 e1 e2
              cases hz
              obtain ⟨v, hv, rv⟩ := r1.get e1
              obtain ⟨w, hw, rw'⟩ := r2.get e2
              refine ⟨⟨xs, ys, v, w, h1, h2, hv, hw⟩, fun x H' q => ?_⟩
              obtain ⟨t, y1, y2, rfl, hn, rfl, hq1, hq2⟩ := q
              have z1 := hq1 xs h1
              have z2 := hq2 ys h2
              rw [hv] at z1; cases z1
              rw [hw] at z2; cases z2
              exact RD.new_tup R hn (.cons rv (.cons rw' .nil))
            · cases hz
        · have ht1 : ∀ ts, dx ≠ .tup ts := fun ts q => ht (by rw [q]; rfl)
          have ht2 : ∀ ts, dy ≠ .tup ts := fun ts q => ht (by rw [heq, q]; rfl)
          obtain ⟨xs, q1, q2⟩ := seq_lst g.hK ht1 d1' hx (Ext.refl _ _).z R2 (fun _ _ => rfl)
          obtain ⟨ys, q3, q4⟩ := seq_lst g.hK ht2 d2 hy (Ext.refl _ _).z R2 (fun _ _ => rfl)
          refine ⟨ad, bd, xs, ys, rfl, .inl ⟨q1, q3, p2 _ _ _ (.refl _ _) R2 ⟨R2, fun φ h H E R st i => ?_⟩⟩⟩
          obtain ⟨xs, h1, r1⟩ := seq_lst g.hK ht1 d1' hx E R (stl st).1
          obtain ⟨ys, h2, r2⟩ := seq_lst g.hK ht2 d2 hy E R (stl st).2
          refine ⟨fun hi => ⟨xs, ys, h1, h2, ?_⟩, fun z hz => ?_⟩
          · rw [← r1.length, ← r2.length]; simp only [zipL_len] at hi; omega
          · simp only [zipL_get] at hz
            split at hz
            · rename_i d1 d2 e1 e2
              cases hz
              obtain ⟨v, hv, rv⟩ := r1.get e1
              obtain ⟨w, hw, rw'⟩ := r2.get e2
              refine ⟨⟨xs, ys, v, w, h1, h2, hv, hw⟩, fun x H' q => ?_⟩
              obtain ⟨t, y1, y2, rfl, hn, rfl, hq1, hq2⟩ := q
              have z1 := hq1 xs h1
              have z2 := hq2 ys h2
              rw [hv] at z1; cases z1
              rw [hw] at z2; cases z2
              exact RD.new_tup R hn (.cons rv (.cons rw' .nil))
            · cases hz
      · exact p2.elim
end
end Ev

/-! Targets; the block of a comprehension. -/
namespace Ev
open PySem PySem.Spec PyProof.Rows L2 PySem.W PySem.SeqAt

mutual
def gT (K : PySem.W.Frag) : T → TG
  | .nm i => gName i
  | .nil => gTup K 0 gNil
  | .cons t u => gTup K (u.len + 1) (gCons (gT K t) (gTs K u))
def gTs (K : PySem.W.Frag) : T → TGs
  | .nil => gNil
  | .cons t u => gCons (gT K t) (gTs K u)
  | .nm _ => fun _ _ _ _ => False
def T.len : T → Nat
  | .nil => 0
  | .cons _ u => u.len + 1
  | .nm _ => 0
end
def T.vars : T → List Nat
  | .nm i => [i]
  | .nil => []
  | .cons t u => t.vars ++ u.vars
/-- a tuple's targets: no bare slot at the end -/
def T.chain : T → Bool
  | .nil => true
  | .cons _ u => u.chain
  | .nm _ => false
def T.good : T → Bool
  | .nil => true
  | .nm _ => true
  | .cons t u => t.good && u.good && u.chain
section
variable {G : Gl0} {M : Mo} {C : Orc} {T : Nt} {k : Nat} {N : List Str} {sc : Scope} {fc : Str → Bool} {W : WX} {X : Cx} {a b c tg : Expr} {es : List Expr} {a' b' c' : E} {es' : Es} {pos pos' : Pos}
variable {pins : List (Addr × Obj)} {σ : L2.St} {H : Hp} {s : Shared} {φ φ0 : Phi} {h h0 : AH} {H0 : Hp} {ev : Env}

def apart (vs : List Nat) (σ σ' : L2.St) : Prop := ∀ ws : List Nat, (∀ v ∈ vs, v ∈ ws) → L2.wipe σ' ws = L2.wipe σ ws
theorem wipe_set (σ : L2.St) (i : Nat) (x : Option V) : ∀ ws : List Nat, i ∈ ws → L2.wipe (σ.set i x) ws = L2.wipe σ ws
  | [], h => by cases h
  | w :: ws, h => by
    show (L2.wipe (σ.set i x) ws).set w none = (L2.wipe σ ws).set w none
    by_cases hw : i ∈ ws
    · rw [wipe_set σ i x ws hw]
    · have : i = w := by simpa [hw] using h
      subst this
      have aux : ∀ (τ : L2.St) (vs : List Nat), i ∉ vs → L2.wipe (τ.set i x) vs = (L2.wipe τ vs).set i x := by
        intro τ vs hv
        induction vs with
        | nil => rfl
        | cons v vs ih =>
          show (L2.wipe (τ.set i x) vs).set v none = ((L2.wipe τ vs).set v none).set i x
          rw [ih (fun q => hv (List.mem_cons_of_mem _ q)), List.set_comm]
          intro q; subst q; exact hv (by simp)
      rw [aux σ ws hw, List.set_set]
theorem T_len : ∀ (t : Ev.T) (ds : List D) (e e' : Env), t.chain = true → t.put (.tup ds) e = some e' → ds.length = t.len
  | .nm _, _, _, _, c, _ => by cases c
  | .nil, ds, e, e', c, p => by
    cases ds with
    | nil => rfl
    | cons => cases p
  | .cons t u, ds, e, e', c, p => by
    cases ds with
    | nil => cases p
    | cons d ds =>
      simp only [Ev.T.put] at p
      obtain ⟨e1, h1, h2⟩ := Option.bind_eq_some_iff.mp p
      have := T_len u ds e1 e' c h2
      simp [T.len, this]
mutual
theorem put_gT (hK : X.K = G.K) : ∀ (t : Ev.T) (d : D) (v : V) (e e' : Env) (σ : L2.St) (H : Hp) (Q : L2.St → Hp → Prop), t.good = true → RD G φ H d v → EnvR G φ H e σ → t.put d e = some e' → (∀ σ', EnvR G φ H e' σ' → apart t.vars σ σ' → Q σ' H) → gT X.K t v σ H Q
  | .nm i, d, v, e, e', σ, H, Q, _, r, er, p, q => by
    simp only [Ev.T.put, Option.some.injEq] at p; subst p
    exact q _ (er.put r) fun ws hw => wipe_set σ i (some v) ws (hw i (by simp [Ev.T.vars]))
  | .nil, d, v, e, e', σ, H, Q, _, r, er, p, q => by
    simp only [Ev.T.put] at p
    split at p
    · cases p
      cases r with
      | @tup ds xs a ha rs => cases rs; exact ⟨a, [], rfl, by rw [hK]; exact ha.sq, rfl, rfl, q _ er fun _ _ => rfl⟩
    · cases p
  | .cons t u, d, v, e, e', σ, H, Q, gd, r, er, p, q => by
    simp only [Ev.T.good, Bool.and_eq_true] at gd
    have hp := p
    simp only [Ev.T.put] at p
    split at p
    · rename_i y ys
      cases r with
      | @tup ds xs a ha rs =>
        have hl := rs.length
        have hn := T_len (.cons t u) _ e e' gd.2 hp
        refine ⟨a, xs, rfl, by rw [hK]; exact ha.sq, by rw [← hl]; exact hn, ?_⟩
        cases rs with
        | @cons d1 v1 ds vs hd rs =>
          obtain ⟨e1, h1, h2⟩ := Option.bind_eq_some_iff.mp p
          refine ⟨v1, vs, rfl, put_gT hK t _ v1 e e1 σ H _ gd.1.1 hd er h1 fun σ1 er1 ap1 => ?_⟩
          exact put_gTs hK u _ vs e1 e' σ1 H Q gd.1.2 gd.2 rs er1 h2 fun σ2 er2 ap2 => q σ2 er2 fun ws hw => by
            rw [ap2 ws fun v hv => hw v (by simp [Ev.T.vars, hv]), ap1 ws fun v hv => hw v (by simp [Ev.T.vars, hv])]
    · cases p
theorem put_gTs (hK : X.K = G.K) : ∀ (t : Ev.T) (ds : List D) (vs : List V) (e e' : Env) (σ : L2.St) (H : Hp) (Q : L2.St → Hp → Prop), t.good = true → t.chain = true → RDs G φ H ds vs → EnvR G φ H e σ → t.put (.tup ds) e = some e' → (∀ σ', EnvR G φ H e' σ' → apart t.vars σ σ' → Q σ' H) → gTs X.K t vs σ H Q
  | .nm _, _, _, _, _, _, _, _, _, c, _, _, _, _ => by cases c
  | .nil, ds, vs, e, e', σ, H, Q, _, _, rs, er, p, q => by
    cases rs with
    | nil => cases p; exact ⟨rfl, q _ er fun _ _ => rfl⟩
    | cons => cases p
  | .cons t u, ds, vs, e, e', σ, H, Q, gd, c, rs, er, p, q => by
    simp only [Ev.T.good, Bool.and_eq_true] at gd
    cases rs with
    | nil => cases p
    | @cons d1 v1 ds vs hd rs =>
      simp only [Ev.T.put] at p
      obtain ⟨e1, h1, h2⟩ := Option.bind_eq_some_iff.mp p
      refine ⟨v1, vs, rfl, put_gT hK t _ v1 e e1 σ H _ gd.1.1 hd er h1 fun σ1 er1 ap1 => ?_⟩
      exact put_gTs hK u _ vs e1 e' σ1 H Q gd.1.2 gd.2 rs er1 h2 fun σ2 er2 ap2 => q σ2 er2 fun ws hw => by
        rw [ap2 ws fun v hv => hw v (by simp [Ev.T.vars, hv]), ap1 ws fun v hv => hw v (by simp [Ev.T.vars, hv])]
end

/-! ### the checks for targets -/
def locC (N : List Str) (sc : Scope) (fc : Str → Bool) (i : Nat) (x : Str) : Bool := decide (N[i]? = some x) && (match sc.names.lookup x with
  | some .local => true
  | some .cell => fc x
  | _ => false)
theorem loc_of (g : Gd G M C T k N sc fc W X) {i : Nat} {x : Str} (h : locC N sc fc i x = true) : X.N[i]? = some x ∧ Loc X.env.scope x ∧ (X.fn x = true ∨ X.env.scope.names.lookup x = some .local) := by
  simp only [locC, Bool.and_eq_true, decide_eq_true_eq] at h
  rw [g.hN, g.hsc]
  refine ⟨h.1, ?_⟩
  have h2 := h.2
  split at h2
  · exact ⟨.inl (by assumption), .inr (by assumption)⟩
  · exact ⟨.inr (by assumption), .inl (g.fnc _ h2)⟩
  · cases h2
mutual
def tgC (N : List Str) (sc : Scope) (fc : Str → Bool) : Ev.T → Expr → Bool
  | .nm i, .Name x _ => locC N sc fc i x
  | .nil, .Tuple [] _ _ => true
  | .cons t u, .Tuple (e :: es) _ _ => tgC N sc fc t e && tgsC N sc fc u es
  | _, _ => false
def tgsC (N : List Str) (sc : Scope) (fc : Str → Bool) : Ev.T → List Expr → Bool
  | .nil, [] => true
  | .cons t u, e :: es => tgC N sc fc t e && tgsC N sc fc u es
  | _, _ => false
end
theorem assignEach_cons {e : Expr} {es : List Expr} (h : isStar e = false) : assignEach (e :: es) X.env = (false, assign e X.env) :: assignEach es X.env := by
  cases e <;> first | rfl | (simp [isStar] at h)
theorem tgC_star {t : Ev.T} {e : Expr} (h : tgC N sc fc t e = true) : isStar e = false := by
  cases t <;> cases e <;> first | rfl | simp [tgC] at h
theorem tgsC_len : ∀ {t : Ev.T} {es : List Expr}, tgsC N sc fc t es = true → (assignEach es X.env).length = t.len ∧ List.findIdx? (fun x => x.fst) (assignEach es X.env) = none
  | .nil, [], _ => ⟨rfl, rfl⟩
  | .cons t u, e :: es, h => by
    simp only [tgsC, Bool.and_eq_true] at h
    rw [assignEach_cons (tgC_star h.1)]
    obtain ⟨h1, h2⟩ := tgsC_len h.2
    exact ⟨by simp [T.len, h1], by simp [List.findIdx?_cons, h2]⟩
  | .nil, _ :: _, h => by cases h
  | .cons _ _, [], h => by cases h
  | .nm _, _, h => by simp [tgsC] at h
mutual
theorem pg_T (g : Gd G M C T k N sc fc W X) : ∀ (t : Ev.T) (e : Expr), tgC N sc fc t e = true → PG X e (gT X.K t)
  | .nm i, e, h => by
    cases e <;> simp only [tgC, Bool.false_eq_true] at h
    obtain ⟨h1, h2, h3⟩ := loc_of g h
    exact pg_name (by rw [g.hN]; exact g.nd) h1 h2 h3
  | .nil, e, h => by
    cases e <;> try (simp only [tgC, Bool.false_eq_true] at h)
    rename_i es _ _
    cases es with
    | nil => exact pg_tup g.calm pgs_nil rfl rfl
    | cons => simp [tgC] at h
  | .cons t u, e, h => by
    cases e <;> try (simp only [tgC, Bool.false_eq_true] at h)
    rename_i es _ _
    cases es with
    | nil => simp [tgC] at h
    | cons e es =>
      simp only [tgC, Bool.and_eq_true] at h
      have h' : tgsC N sc fc (.cons t u) (e :: es) = true := by simp [tgsC, h.1, h.2]
      obtain ⟨q1, q2⟩ := tgsC_len (X := X) h'
      exact pg_tup g.calm (pgs_cons (pg_T g t e h.1) (pgs_T g u es h.2) (by rw [assignEach_cons (tgC_star h.1)]; rfl)) q1 q2
theorem pgs_T (g : Gd G M C T k N sc fc W X) : ∀ (t : Ev.T) (es : List Expr), tgsC N sc fc t es = true → PGs X es (gTs X.K t)
  | .nil, es, h => by
    cases es with
    | nil => exact pgs_nil
    | cons => simp [tgsC] at h
  | .cons t u, es, h => by
    cases es with
    | nil => simp [tgsC] at h
    | cons e es =>
      simp only [tgsC, Bool.and_eq_true] at h
      exact pgs_cons (pg_T g t e h.1) (pgs_T g u es h.2) (by rw [assignEach_cons (tgC_star h.1)]; rfl)
  | .nm _, es, h => by simp [tgsC] at h
end
theorem tgsC_good : ∀ {t : Ev.T} {es : List Expr}, tgsC N sc fc t es = true → t.chain = true
  | .nil, _, _ => rfl
  | .cons t u, [], h => by simp [tgsC] at h
  | .cons t u, e :: es, h => by
    simp only [tgsC, Bool.and_eq_true] at h
    exact tgsC_good (t := u) h.2
  | .nm _, _, h => by simp [tgsC] at h
mutual
theorem tgC_ok : ∀ {t : Ev.T} {e : Expr}, tgC N sc fc t e = true → t.good = true
  | .nm _, _, _ => rfl
  | .nil, _, _ => rfl
  | .cons t u, e, h => by
    cases e <;> try (simp only [tgC, Bool.false_eq_true] at h)
    rename_i es _ _
    cases es with
    | nil => simp [tgC] at h
    | cons e es =>
      simp only [tgC, Bool.and_eq_true] at h
      simp only [T.good, Bool.and_eq_true]
      exact ⟨⟨tgC_ok h.1, tgsC_ok h.2⟩, tgsC_good h.2⟩
theorem tgsC_ok : ∀ {t : Ev.T} {es : List Expr}, tgsC N sc fc t es = true → t.good = true
  | .nil, _, _ => rfl
  | .nm _, _, _ => rfl
  | .cons t u, es, h => by
    cases es with
    | nil => simp [tgsC] at h
    | cons e es =>
      simp only [tgsC, Bool.and_eq_true] at h
      simp only [T.good, Bool.and_eq_true]
      exact ⟨⟨tgC_ok h.1, tgsC_ok h.2⟩, tgsC_good h.2⟩
end
end
end Ev

/-! Comprehensions. -/
namespace Ev
open PySem PySem.Spec PyProof.Rows L2 PySem.W PySem.SeqAt

def Phi.hide (φ : Phi) (q : Addr) : Phi := ⟨φ.m, fun a => φ.hid a ∨ a = q⟩
def Phi.show' (φ : Phi) (q : Addr) : Phi := ⟨φ.m, fun a => φ.hid a ∧ a ≠ q⟩
def less (H : Hp) (q : Addr) : Hp := fun a => if a = q then none else H a
def noW : WX := fun _ _ _ _ => False
section
variable {G : Gl0} {M : Mo} {C : Orc} {T : Nt} {k : Nat} {N : List Str} {sc : Scope} {fc : Str → Bool} {W : WX} {X : Cx} {a b c tg : Expr} {es : List Expr} {a' b' c' : E} {es' : Es} {pos pos' : Pos}
variable {pins : List (Addr × Obj)} {σ : L2.St} {H H1 : Hp} {s : Shared} {φ φ1 φ0 : Phi} {h h0 : AH} {H0 : Hp} {ev : Env}

theorem hide_new (R : HRel G φ h H) {q : Addr} {u : HO} (e : H q = none) : Ext φ H (φ.hide q) (upd H q u) ∧ HRel G (φ.hide q) h (upd H q u) := by
  have ex : Ext φ H (φ.hide q) (upd H q u) := by
    refine ⟨fun _ _ z => z, fun a o z f => ⟨by rw [upd_ne (ne_of_none z e)]; exact z, f.1, ?_⟩, fun a z => ⟨.inl z, (R.ext_new e).hid a z |>.2⟩⟩
    rintro (hh | rfl)
    · exact f.2 hh
    · rw [e] at z; cases z
  refine ⟨ex, fun n o z => ?_, R.dom, R.inj, fun a z => ?_, fun n a z => ?_⟩
  · obtain ⟨a, h1, h2⟩ := R.tot n o z
    obtain ⟨v, hv⟩ := h2.there
    exact ⟨a, h1, h2.ext ex (upd_ne (ne_of_none hv e))⟩
  · rcases z with z | rfl
    · obtain ⟨o, ho⟩ := R.hid a z
      exact ⟨o, by rw [upd_ne (ne_of_none ho e)]; exact ho⟩
    · exact ⟨u, upd_same⟩
  · rintro (hh | rfl)
    · exact R.hdj n a z hh
    · exact (R.off e).1 n z
theorem upd_hid0 {q : Addr} {u : HO} (e : φ.hid q) : Ext0 φ H φ (upd H q u) :=
  ⟨fun _ _ z => z, fun a o z f => ⟨by rw [upd_ne (fun r => f.2 (by subst r; exact e))]; exact z, f⟩⟩
theorem upd_hid (R : HRel G φ h H) {q : Addr} {u : HO} (e : φ.hid q) : HRel G φ h (upd H q u) := by
  refine ⟨fun n o z => ?_, R.dom, R.inj, fun a z => ?_, R.hdj⟩
  · obtain ⟨a, h1, h2⟩ := R.tot n o z
    exact ⟨a, h1, h2.ext0 (upd_hid0 e) (upd_ne fun r => R.hdj n a h1 (by subst r; exact e))⟩
  · by_cases ha : a = q
    · subst ha; exact ⟨u, upd_same⟩
    · obtain ⟨o, ho⟩ := R.hid a z
      exact ⟨o, by rw [upd_ne ha]; exact ho⟩
/-- something that was not there before changes -/
theorem Ext.upd_new (E : Ext φ1 H1 φ H) (R1 : HRel G φ1 h H1) {q : Addr} {u : HO} (e : H1 q = none) : Ext φ1 H1 φ (upd H q u) := by
  refine ⟨E.dom, fun a o z f => ?_, fun a z => ?_⟩
  · obtain ⟨h1, h2⟩ := E.keep a o z f
    exact ⟨by rw [upd_ne (ne_of_none z e)]; exact h1, h2⟩
  · obtain ⟨h1, h2⟩ := E.hid a z
    obtain ⟨o, ho⟩ := R1.hid a z
    exact ⟨h1, by rw [upd_ne (ne_of_none ho e)]; exact h2⟩
theorem Ext.drop (E : Ext φ1 H1 φ H) (R1 : HRel G φ1 h H1) {q : Addr} (e : H1 q = none) : Ext φ1 H1 (φ.show' q) (less H q) := by
  refine ⟨E.dom, fun a o z f => ?_, fun a z => ?_⟩
  · obtain ⟨h1, h2⟩ := E.keep a o z f
    have : a ≠ q := ne_of_none z e
    exact ⟨by simp only [less, if_neg this]; exact h1, h2.1, fun hh => h2.2 hh.1⟩
  · obtain ⟨h1, h2⟩ := E.hid a z
    obtain ⟨o, ho⟩ := R1.hid a z
    have : a ≠ q := ne_of_none ho e
    exact ⟨⟨h1, this⟩, by simp only [less, if_neg this]; exact h2⟩
theorem dropE {q : Addr} (e : φ.hid q) : Ext0 φ H (φ.show' q) (less H q) := by
  refine ⟨fun _ _ z => z, fun a o z f => ?_⟩
  have : a ≠ q := fun r => f.2 (by subst r; exact e)
  exact ⟨by simp only [less, if_neg this]; exact z, f.1, fun hh => f.2 hh.1⟩
theorem HRel.drop (R : HRel G φ h H) {q : Addr} (e : φ.hid q) : HRel G (φ.show' q) h (less H q) := by
  refine ⟨fun n o z => ?_, R.dom, R.inj, fun a z => ?_, fun n a z hh => R.hdj n a z hh.1⟩
  · obtain ⟨a, h1, h2⟩ := R.tot n o z
    have : a ≠ q := fun r => R.hdj n a h1 (by subst r; exact e)
    exact ⟨a, h1, h2.ext0 (dropE e) (by simp only [less, if_neg this])⟩
  · obtain ⟨o, ho⟩ := R.hid a z.1
    exact ⟨o, by simp only [less, if_neg z.2]; exact ho⟩
theorem less_upd {q : Addr} {u : HO} (e : H q = some u) : upd (less H q) q u = H := by
  funext a
  by_cases ha : a = q
  · subst ha; rw [upd_same, e]
  · rw [upd_ne ha]; simp [less, ha]

/-! ### the block -/
theorem gd_blk (g : Gd G M C T k N sc fc W X) {scope : Scope} (hk : scope.kind = .function) (s : Shared) (H : Hp) (D : Addr) (cl : List (Str × Addr)) (fp : List Addr) :
    Gd G M C T k N (relS scope sc) (fun x => scope.names.lookup x == some .cell) noW (X.blk s H scope (compEnvC scope cl D X.env) fp) where
  hK := g.hK
  hN := g.hN
  nd := g.nd
  hsc := by rw [← g.hsc]; rfl
  kind := hk
  fnc := fun x e => e
  calm := g.calm
  room := g.room
  po := fun _ _ z => z.elim
  tk := fun u s' z => by obtain ⟨_, _, _, _, _, _, _, _, _, _, _, _, _, _, _, _, z⟩ := z; exact z.elim
  bi := g.bi
  fns := g.fns
  fan := g.fan
  two := g.two
  xns := g.xns
  exm := g.exm
  gcs := g.gcs
theorem wipe_get (σ : L2.St) : ∀ (vs : List Nat) (i : Nat), (L2.wipe σ vs)[i]? = if i ∈ vs ∧ i < σ.length then some none else σ[i]?
  | [], i => by simp [L2.wipe]
  | v :: vs, i => by
    show ((L2.wipe σ vs).set v none)[i]? = _
    rw [List.getElem?_set]
    have hl : ∀ vs : List Nat, (L2.wipe σ vs).length = σ.length := by
      intro vs; induction vs with
      | nil => rfl
      | cons v vs ih => show ((L2.wipe σ vs).set v none).length = _; simpa using ih
    by_cases hv : v = i
    · subst hv
      by_cases h2 : v < σ.length
      · simp [hl, h2]
      · simp [hl, h2]
    · have : i ≠ v := fun q => hv q.symm
      simp only [hv, if_false, wipe_get σ vs i, List.mem_cons, this, false_or]
theorem wipe_wipe (σ : L2.St) (vs : List Nat) : L2.wipe (L2.wipe σ vs) vs = L2.wipe σ vs := by
  have hl : ∀ (τ : L2.St) (vs : List Nat), (L2.wipe τ vs).length = τ.length := by
    intro τ vs; induction vs with
    | nil => rfl
    | cons v vs ih => show ((L2.wipe τ vs).set v none).length = _; simpa using ih
  apply List.ext_getElem?
  intro i
  rw [wipe_get, hl, wipe_get]
  by_cases hi : i ∈ vs ∧ i < σ.length <;> simp [hi]
/-- one turn of the evaluator's comprehension -/
noncomputable def turnC (M : Mo) (C : Orc) (elt : E) (t : Ev.T) (ifs : Es) (own : List Nat) (e : Env) (x : D) (h : AH) : Res (Option D) := match t.put x (e.wipe own) with
  | some e => (evIf M C ifs e h).bind fun k h => if k then (evE M C elt e h).bind fun y h => .ok (some y) h else .ok none h
  | none => .stk
theorem Post.quiet_noW {α β : Type} {Rel : Phi → Hp → α → β → Prop} {σ : L2.St} {Q : β → Hp → Prop} {r : Res α} (q1 : ∀ n fs h', r ≠ .exc n fs h') (q2 : r ≠ .stk) (p : ∀ a h, r = .ok a h → ∀ φ' H' b, Ext φ H φ' H' → HRel G φ' h H' → Rel φ' H' a b → Q b H') : Post G Rel noW σ φ H Q r := by
  cases r with
  | ok a h => exact p a h rfl
  | exc c ds h => exact absurd rfl (q1 c ds h)
  | stk => exact absurd rfl q2
theorem s_lcR {t : Ev.T} {ifs' : Es} {it' : It} {mu : Bool} {own : List Nat} (g : Gd G M C T k N sc fc W X) (ht : ∀ i ∈ t.vars, i ∈ own) (hgood : t.good = true) {Q : VK}
    (q : rE G M C W (.cmp mu a' t it' ifs' own) σ H Q) : tLc (rIt G M C W it') (gT X.K t) (rIf G M C noW ifs') (rE G M C noW a') own σ H Q := by
  obtain ⟨φ, ev, h, R, r, p⟩ := q
  let fin : List D → AH → Res D := fun ds h => if mu then .ok (.ref h.length) (h ++ [.lst ds]) else .ok (.lst ds) h
  have p' : Post G (RD G) W σ φ H Q (((evIt M C it' ev h).bind fun w h => .ok (w, h) h).bind fun p h => (compL p.1.dep p.2 (turnC M C a' t ifs' own ev) p.1.items [] p.2).bind fin) := by
    have e0 : evE M C (.cmp mu a' t it' ifs' own) ev h = ((evIt M C it' ev h).bind fun w h => .ok (w, h) h).bind fun p h => (compL p.1.dep p.2 (turnC M C a' t ifs' own ev) p.1.items [] p.2).bind fin := by
      simp only [evE]
      cases evIt M C it' ev h <;> rfl
    rw [e0] at p
    exact p
  refine ⟨φ, ev, h, R, r, Post.bind (Rel' := fun φ' H' (p : Wk × AH) J => HRel G φ' p.2 H' ∧ WkR G p.1 p.2 φ' H' J) p' fun p h1' φ1 H1 J E1 R1' wk p1 => ?_⟩
  obtain ⟨w, h1⟩ := p
  obtain ⟨R1, wk⟩ := wk
  simp only at wk p1 R1
  have er1 := r.ext E1
  intro D hD
  obtain ⟨E2, R2⟩ := hide_new (u := .lst []) R1 hD
  refine ⟨fun i m H' => ∃ φ' h' acc xs, i ≤ w.items.length ∧ m = w.items.length - i ∧ Ext φ1 H1 φ' H' ∧ HRel G φ' h' H' ∧ φ'.hid D ∧ H' D = some (.lst xs) ∧ RDs G φ' H' acc xs ∧
    Post G (RD G) W σ φ1 H1 Q ((compL w.dep h1 (turnC M C a' t ifs' own ev) (w.items.drop i) acc h').bind fin),
    ⟨_, φ1.hide D, h1, [], [], Nat.zero_le _, rfl, E2, R2, .inr rfl, upd_same, .nil, p1⟩, ?_⟩
  intro i m H' ⟨φ', h', acc, xs, hi, hm, E, R', hh, hl, rs, p2⟩
  by_cases hst : stays w.dep h1 h'
  · obtain ⟨w1, w2⟩ := wk φ' h' H' E.z R' hst i
    cases hx : w.items[i]? with
    | none =>
      have hi' : w.items.length ≤ i := List.getElem?_eq_none_iff.mp hx
      refine .inl ⟨w1 hi', ?_⟩
      rw [List.drop_eq_nil_of_le hi'] at p2
      simp only [compL, hst, if_true, Res.bind_ok] at p2
      have Ef := E.drop R1 hD
      have Rf := R'.drop hh
      have rf := RDs.ext0 (dropE hh) rs
      have hf : less H' D D = none := by simp [less]
      have hu : upd (less H' D) D (.lst xs) = H' := less_upd hl
      cases mu with
      | true =>
        obtain ⟨E4, R4, D4⟩ := mk_ref Rf hf rf
        rw [hu] at E4 R4 D4
        exact p2 _ _ _ (Ef.trans E4) R4 D4
      | false =>
        obtain ⟨E4, R4, D4⟩ := RD.new_lst Rf hf rf
        rw [hu] at E4 R4 D4
        exact p2 _ _ _ (Ef.trans E4) R4 D4
    | some x =>
      have hi' : i < w.items.length := (List.getElem?_eq_some_iff.mp hx).1
      obtain ⟨go, yl⟩ := w2 x hx
      refine .inr ⟨go, fun H2 => ∃ φ' h' acc xs, Ext φ1 H1 φ' H2 ∧ HRel G φ' h' H2 ∧ φ'.hid D ∧ H2 D = some (.lst xs) ∧ RDs G φ' H2 acc xs ∧
        Post G (RD G) W σ φ1 H1 Q ((compL w.dep h1 (turnC M C a' t ifs' own ev) (w.items.drop (i + 1)) acc h').bind fin), ?_, ?_⟩
      · rintro H2 ⟨φ'', h'', acc', xs', q1, q2, q3, q4, q5, q6⟩
        exact ⟨w.items.length - (i + 1), by omega, φ'', h'', acc', xs', by omega, rfl, q1, q2, q3, q4, q5, q6⟩
      · intro v H2 hy
        obtain ⟨E3, R3, d3⟩ := yl v H2 hy
        have hd : w.items.drop i = x :: w.items.drop (i + 1) := by
          have := List.getElem?_eq_some_iff.mp hx
          obtain ⟨q1, q2⟩ := this
          rw [← q2]; exact List.drop_eq_getElem_cons q1
        rw [hd] at p2
        simp only [compL, hst, if_true] at p2
        cases hput : t.put x (ev.wipe own) with
        | none =>
          have h0 : turnC M C a' t ifs' own ev x h' = .stk := by simp only [turnC, hput]
          rw [h0] at p2; exact p2.elim
        | some ev2 =>
          have h0 : turnC M C a' t ifs' own ev x h' = (evIf M C ifs' ev2 h').bind fun k h => if k then (evE M C a' ev2 h).bind fun y h => .ok (some y) h else .ok none h := by simp only [turnC, hput]
          rw [h0] at p2
          have er2 : EnvR G φ' H2 (ev.wipe own) (L2.wipe σ own) := ((er1.ext E).ext E3).wipe own
          refine put_gT g.hK t x v _ ev2 _ H2 _ hgood d3 er2 hput fun σ2 er3 ap => ⟨by rw [ap own ht, wipe_wipe], ?_⟩
          refine ⟨φ', ev2, h', R3, er3, ?_⟩
          cases hif : evIf M C ifs' ev2 h' with
          | exc n fs h5 => rw [hif] at p2; exact p2.elim
          | stk => rw [hif] at p2; exact p2.elim
          | ok kk h5 =>
            rw [hif] at p2
            simp only [Res.bind_ok] at p2
            intro φ5 H5 b5 E5 R5 eb
            subst eb
            have E35 := E3.trans E5
            have hh5 := (E35.hid D hh).1
            have hl5 : H5 D = some (.lst xs) := by rw [(E35.hid D hh).2]; exact hl
            have rs5 := RDs.ext E35 rs
            cases kk with
            | false =>
              simp only [Bool.false_eq_true, if_false] at p2 ⊢
              exact ⟨φ5, h5, acc, xs, E.trans E35, R5, hh5, hl5, rs5, p2⟩
            | true =>
              simp only [if_true] at p2 ⊢
              refine ⟨φ5, ev2, h5, R5, er3.ext E5, ?_⟩
              cases hel : evE M C a' ev2 h5 with
              | exc n fs h6 => rw [hel] at p2; exact p2.elim
              | stk => rw [hel] at p2; exact p2.elim
              | ok y h6 =>
                rw [hel] at p2
                simp only [Res.bind_ok] at p2
                intro φ6 H6 v6 E6 R6 d6
                have hh6 := (E6.hid D hh5).1
                have hl6 : H6 D = some (.lst xs) := by rw [(E6.hid D hh5).2]; exact hl5
                have rs6 := RDs.ext E6 rs5
                have hlen := rs6.length
                split at p2
                · rename_i hz
                  refine ⟨xs, hl6, by rw [← hlen]; exact hz, φ6, h6, acc ++ [y], xs ++ [v6], ((E.trans E35).trans E6).upd_new R1 hD, upd_hid R6 hh6, hh6, upd_same, ?_, p2⟩
                  exact RDs.ext0 (upd_hid0 hh6) (RDs.append rs6 (.cons d6 .nil))
                · exact p2.elim
  · exfalso
    cases hx : w.items.drop i with
    | nil => rw [hx] at p2; simp only [compL, hst, if_false] at p2; exact p2
    | cons y ys => rw [hx] at p2; simp only [compL, hst, if_false] at p2; exact p2
end
end Ev

namespace Ev
open PySem PySem.Spec PyProof.Rows L2 PySem.W PySem.SeqAt

section
variable {G : Gl0} {M : Mo} {C : Orc} {T : Nt} {k : Nat} {N : List Str} {sc : Scope} {fc : Str → Bool} {W : WX} {X : Cx} {a b c tg : Expr} {es : List Expr} {a' b' c' : E} {es' : Es} {pos pos' : Pos}
variable {pins : List (Addr × Obj)} {σ : L2.St} {H H1 : Hp} {s : Shared} {φ φ1 φ0 : Phi} {h h0 : AH} {H0 : Hp} {ev : Env}

noncomputable def turn2 (M : Mo) (C : Orc) (elt : E) (t2 : Ev.T) (own2 : List Nat) (e : Env) (x : D) (acc : List D) (h : AH) : Res (List D) := match t2.put x (e.wipe own2) with
  | some e => (evE M C elt e h).bind fun y h => if acc.length < Z then .ok (acc ++ [y]) h else .stk
  | none => .stk
noncomputable def turn1 (M : Mo) (C : Orc) (elt : E) (t : Ev.T) (it2 : It) (t2 : Ev.T) (own own2 : List Nat) (e : Env) (x : D) (acc : List D) (h : AH) : Res (List D) := match t.put x (e.wipe own) with
  | some e => (evIt M C it2 e h).bind fun w2 h => compLL w2.dep h (turn2 M C elt t2 own2 e) w2.items acc h
  | none => .stk
theorem drop_cons {α : Type} {l : List α} {i : Nat} {x : α} (hx : l[i]? = some x) : l.drop i = x :: l.drop (i + 1) := by
  obtain ⟨q1, q2⟩ := List.getElem?_eq_some_iff.mp hx
  rw [← q2]; exact List.drop_eq_getElem_cons q1
theorem s_lc2R {t t2 : Ev.T} {it' it2 : It} {own own2 : List Nat} (g : Gd G M C T k N sc fc W X) (ht : ∀ i ∈ t.vars, i ∈ own) (hgood : t.good = true) (ht2 : ∀ i ∈ t2.vars, i ∈ own2) (hgood2 : t2.good = true) {Q : VK}
    (q : rE G M C W (.cmp2 a' t it' t2 it2 own own2) σ H Q) : tLc2 (rIt G M C W it') (gT X.K t) tYes (rIt G M C noW it2) (gT X.K t2) tYes (rE G M C noW a') own own2 σ H Q := by
  obtain ⟨φ, ev, h, R, r, p⟩ := q
  let fin : List D → AH → Res D := fun ds h => .ok (.lst ds) h
  have p' : Post G (RD G) W σ φ H Q (((evIt M C it' ev h).bind fun w h => .ok (w, h) h).bind fun p h => (compLL p.1.dep p.2 (turn1 M C a' t it2 t2 own own2 ev) p.1.items [] p.2).bind fin) := by
    have e0 : evE M C (.cmp2 a' t it' t2 it2 own own2) ev h = ((evIt M C it' ev h).bind fun w h => .ok (w, h) h).bind fun p h => (compLL p.1.dep p.2 (turn1 M C a' t it2 t2 own own2 ev) p.1.items [] p.2).bind fin := by
      simp only [evE]
      cases evIt M C it' ev h <;> rfl
    rw [e0] at p
    exact p
  refine ⟨φ, ev, h, R, r, Post.bind (Rel' := fun φ' H' (p : Wk × AH) J => HRel G φ' p.2 H' ∧ WkR G p.1 p.2 φ' H' J) p' fun p h1' φ1 H1 J E1 R1' wk p1 => ?_⟩
  obtain ⟨w, h1⟩ := p
  obtain ⟨R1, wk⟩ := wk
  simp only at wk p1 R1
  have er1 := r.ext E1
  intro D hD
  obtain ⟨E2, R2⟩ := hide_new (u := .lst []) R1 hD
  refine ⟨fun i m H' => ∃ φ' h' acc xs, i ≤ w.items.length ∧ m = w.items.length - i ∧ Ext φ1 H1 φ' H' ∧ HRel G φ' h' H' ∧ φ'.hid D ∧ H' D = some (.lst xs) ∧ RDs G φ' H' acc xs ∧
    Post G (RD G) W σ φ1 H1 Q ((compLL w.dep h1 (turn1 M C a' t it2 t2 own own2 ev) (w.items.drop i) acc h').bind fin),
    ⟨_, φ1.hide D, h1, [], [], Nat.zero_le _, rfl, E2, R2, .inr rfl, upd_same, .nil, p1⟩, ?_⟩
  intro i m H' ⟨φ', h', acc, xs, hi, hm, E, R', hh, hl, rs, p2⟩
  by_cases hst : stays w.dep h1 h'
  · obtain ⟨w1, w2⟩ := wk φ' h' H' E.z R' hst i
    cases hx : w.items[i]? with
    | none =>
      have hi' : w.items.length ≤ i := List.getElem?_eq_none_iff.mp hx
      refine .inl ⟨w1 hi', ?_⟩
      rw [List.drop_eq_nil_of_le hi'] at p2
      simp only [compLL, hst, if_true, Res.bind_ok] at p2
      have Ef := E.drop R1 hD
      have Rf := R'.drop hh
      have rf := RDs.ext0 (dropE hh) rs
      have hf : less H' D D = none := by simp [less]
      have hu : upd (less H' D) D (.lst xs) = H' := less_upd hl
      obtain ⟨E4, R4, D4⟩ := RD.new_lst Rf hf rf
      rw [hu] at E4 R4 D4
      exact p2 _ _ _ (Ef.trans E4) R4 D4
    | some x =>
      have hi' : i < w.items.length := (List.getElem?_eq_some_iff.mp hx).1
      obtain ⟨go, yl⟩ := w2 x hx
      refine .inr ⟨go, fun H2 => ∃ φ' h' acc xs, Ext φ1 H1 φ' H2 ∧ HRel G φ' h' H2 ∧ φ'.hid D ∧ H2 D = some (.lst xs) ∧ RDs G φ' H2 acc xs ∧
        Post G (RD G) W σ φ1 H1 Q ((compLL w.dep h1 (turn1 M C a' t it2 t2 own own2 ev) (w.items.drop (i + 1)) acc h').bind fin), ?_, ?_⟩
      · rintro H2 ⟨φ'', h'', acc', xs', q1, q2, q3, q4, q5, q6⟩
        exact ⟨w.items.length - (i + 1), by omega, φ'', h'', acc', xs', by omega, rfl, q1, q2, q3, q4, q5, q6⟩
      · intro v H2 hy
        obtain ⟨E3, R3, d3⟩ := yl v H2 hy
        rw [drop_cons hx] at p2
        simp only [compLL, hst, if_true] at p2
        cases hput : t.put x (ev.wipe own) with
        | none =>
          have h0 : turn1 M C a' t it2 t2 own own2 ev x acc h' = .stk := by simp only [turn1, hput]
          rw [h0] at p2; exact p2.elim
        | some ev2 =>
          have h0 : turn1 M C a' t it2 t2 own own2 ev x acc h' = (evIt M C it2 ev2 h').bind fun w2 h => compLL w2.dep h (turn2 M C a' t2 own2 ev2) w2.items acc h := by simp only [turn1, hput]
          rw [h0] at p2
          have er2 : EnvR G φ' H2 (ev.wipe own) (L2.wipe σ own) := ((er1.ext E).ext E3).wipe own
          refine put_gT g.hK t x v _ ev2 _ H2 _ hgood d3 er2 hput fun σ2 er3 ap => ⟨by rw [ap own ht, wipe_wipe], ?_⟩
          simp only [tYes, if_true]
          refine ⟨φ', ev2, h', R3, er3, ?_⟩
          cases hit : evIt M C it2 ev2 h' with
          | exc n fs h5 => rw [hit] at p2; exact p2.elim
          | stk => rw [hit] at p2; exact p2.elim
          | ok wi h5 =>
            rw [hit] at p2
            simp only [Res.bind_ok] at p2 ⊢
            intro φ5 H5 J5 E5 _ wkr
            obtain ⟨R5, wk5⟩ := wkr
            simp only at R5 wk5
            have E35 := E3.trans E5
            have hh5 := (E35.hid D hh).1
            have hl5 : H5 D = some (.lst xs) := by rw [(E35.hid D hh).2]; exact hl
            have rs5 := RDs.ext E35 rs
            have er5 := er3.ext E5
            -- the rest of the outer walk
            let K2 : Res (List Ev.D) → Prop := fun r => Post G (RD G) W σ φ1 H1 Q ((match r with
              | .ok acc h => compLL w.dep h1 (turn1 M C a' t it2 t2 own own2 ev) (w.items.drop (i + 1)) acc h
              | _ => .stk).bind fin)
            have p3 : K2 (compLL wi.dep h5 (turn2 M C a' t2 own2 ev2) wi.items acc h5) := p2
            refine ⟨fun j m H' => ∃ φ' h' acc xs, j ≤ wi.items.length ∧ m = wi.items.length - j ∧ Ext φ1 H1 φ' H' ∧ Ext0 φ5 H5 φ' H' ∧ HRel G φ' h' H' ∧ φ'.hid D ∧ H' D = some (.lst xs) ∧ RDs G φ' H' acc xs ∧
              K2 (compLL wi.dep h5 (turn2 M C a' t2 own2 ev2) (wi.items.drop j) acc h'),
              ⟨_, φ5, h5, acc, xs, Nat.zero_le _, rfl, E.trans E35, (Ext.refl _ _).z, R5, hh5, hl5, rs5, p3⟩, ?_⟩
            intro j m2 H6 ⟨φ6, h6, acc6, xs6, hj, hm2, Ea, Eb, R6, hh6, hl6, rs6, p6⟩
            by_cases hst2 : stays wi.dep h5 h6
            · obtain ⟨v1, v2⟩ := wk5 φ6 h6 H6 Eb R6 hst2 j
              cases hx2 : wi.items[j]? with
              | none =>
                have hj' : wi.items.length ≤ j := List.getElem?_eq_none_iff.mp hx2
                refine .inl ⟨v1 hj', ?_⟩
                rw [List.drop_eq_nil_of_le hj'] at p6
                simp only [compLL, hst2, if_true] at p6
                exact ⟨φ6, h6, acc6, xs6, Ea, R6, hh6, hl6, rs6, p6⟩
              | some y =>
                obtain ⟨go2, yl2⟩ := v2 y hx2
                have hj' : j < wi.items.length := (List.getElem?_eq_some_iff.mp hx2).1
                refine .inr ⟨go2, fun H' => ∃ φ' h' acc xs, Ext φ1 H1 φ' H' ∧ Ext0 φ5 H5 φ' H' ∧ HRel G φ' h' H' ∧ φ'.hid D ∧ H' D = some (.lst xs) ∧ RDs G φ' H' acc xs ∧
                  K2 (compLL wi.dep h5 (turn2 M C a' t2 own2 ev2) (wi.items.drop (j + 1)) acc h'), ?_, ?_⟩
                · rintro H7 ⟨φ'', h'', acc', xs', q1, q1b, q2, q3, q4, q5, q6⟩
                  exact ⟨wi.items.length - (j + 1), by omega, φ'', h'', acc', xs', by omega, rfl, q1, q1b, q2, q3, q4, q5, q6⟩
                · intro u H7 hy7
                  obtain ⟨E7, R7, d7⟩ := yl2 u H7 hy7
                  rw [drop_cons hx2] at p6
                  simp only [compLL, hst2, if_true] at p6
                  cases hput2 : t2.put y (ev2.wipe own2) with
                  | none =>
                    have h0 : turn2 M C a' t2 own2 ev2 y acc6 h6 = .stk := by simp only [turn2, hput2]
                    rw [h0] at p6; exact p6.elim
                  | some ev3 =>
                    have h0 : turn2 M C a' t2 own2 ev2 y acc6 h6 = (evE M C a' ev3 h6).bind fun y h => if acc6.length < Z then .ok (acc6 ++ [y]) h else .stk := by simp only [turn2, hput2]
                    rw [h0] at p6
                    have er7 : EnvR G φ6 H7 (ev2.wipe own2) (L2.wipe σ2 own2) := ((er5.ext0 Eb).ext E7).wipe own2
                    refine put_gT g.hK t2 y u _ ev3 _ H7 _ hgood2 d7 er7 hput2 fun σ3 er8 ap2 => ⟨by rw [ap2 own2 ht2, wipe_wipe], ?_⟩
                    refine ⟨φ6, ev3, h6, R7, er8, ?_⟩
                    cases hel : evE M C a' ev3 h6 with
                    | exc n fs h8 => rw [hel] at p6; exact p6.elim
                    | stk => rw [hel] at p6; exact p6.elim
                    | ok z h8 =>
                      rw [hel] at p6
                      simp only [Res.bind_ok] at p6
                      intro φ8 H8 v8 E8 R8 d8
                      have E78 := E7.trans E8
                      have hh8 := (E78.hid D hh6).1
                      have hl8 : H8 D = some (.lst xs6) := by rw [(E78.hid D hh6).2]; exact hl6
                      have rs8 := RDs.ext E78 rs6
                      have hlen := rs8.length
                      by_cases hz : acc6.length < Z
                      · simp only [hz, if_true] at p6
                        refine ⟨xs6, hl8, by rw [← hlen]; exact hz, φ8, h8, acc6 ++ [z], xs6 ++ [v8], (Ea.trans E78).upd_new R1 hD, (Eb.trans E78.z).trans (upd_hid0 hh8), upd_hid R8 hh8, hh8, upd_same, ?_, p6⟩
                        exact RDs.ext0 (upd_hid0 hh8) (RDs.append rs8 (.cons d8 .nil))
                      · simp only [hz, if_false] at p6; exact p6.elim
            · exfalso
              cases hx : wi.items.drop j with
              | nil => rw [hx] at p6; simp only [compLL, hst2, if_false] at p6; exact p6
              | cons y ys => rw [hx] at p6; simp only [compLL, hst2, if_false] at p6; exact p6
  · exfalso
    cases hx : w.items.drop i with
    | nil => rw [hx] at p2; simp only [compLL, hst, if_false] at p2; exact p2
    | cons y ys => rw [hx] at p2; simp only [compLL, hst, if_false] at p2; exact p2
end
end Ev

/-! Statements. -/
namespace Ev
open PySem PySem.Spec PyProof.Rows L2 PySem.W PySem.SeqAt

/-- what is wanted behind a statement that ends as r -/
def SPost (G : Gl0) (W : WX) (Dn : Ends) (φ : Phi) (H : Hp) : SRes → Prop
  | .nx e h => ∀ φ' H' σ', Ext φ H φ' H' → HRel G φ' h H' → EnvR G φ' H' e σ' → Dn.nx σ' H'
  | .rt d h => ∀ φ' H' v, Ext φ H φ' H' → HRel G φ' h H' → RD G φ' H' d v → Dn.rt v H'
  | .exc c ds e h => ∀ φ' H' σ' cls dct, Ext φ H φ' H' → HRel G φ' h H' → EnvR G φ' H' e σ' → XRel G φ' H' c ds cls dct → W cls dct σ' H'
  | .stk => False
section
variable {α β : Type} {G : Gl0} {Rel : Phi → Hp → α → β → Prop} {W : WX} {σ : L2.St} {φ φ1 : Phi} {H H1 : Hp} {Dn Dn' : Ends} {Q : β → Hp → Prop} {e : Env} {h : AH}
theorem SPost.later {r : SRes} (p : SPost G W Dn φ H r) (x : Ext φ H φ1 H1) : SPost G W Dn φ1 H1 r := by
  cases r with
  | nx e h => exact fun φ' H' σ' e => p φ' H' σ' (x.trans e)
  | rt d h => exact fun φ' H' v e => p φ' H' v (x.trans e)
  | exc c ds e h => exact fun φ' H' σ' cls dct e => p φ' H' σ' cls dct (x.trans e)
  | stk => exact p
theorem SPost.toS {r : Res α} {f : α → AH → SRes} (p : SPost G W Dn φ H (r.toS e f)) (er : EnvR G φ H e σ)
    (k : ∀ a h1 φ1 H1 b, Ext φ H φ1 H1 → HRel G φ1 h1 H1 → Rel φ1 H1 a b → EnvR G φ1 H1 e σ → SPost G W Dn φ1 H1 (f a h1) → Q b H1) : Post G Rel W σ φ H Q r := by
  cases r with
  | ok a h => exact fun φ' H' b x R z => k a h φ' H' b x R z (er.ext x) (p.later x)
  | exc c ds h => exact fun φ' H' cls dct x R z => p φ' H' σ cls dct x R (er.ext x) z
  | stk => exact p
theorem SPost.thn {r : SRes} {f : Env → AH → SRes} (p : SPost G W Dn φ H (r.thn f)) (hr : Dn'.rt = Dn.rt)
    (k : ∀ e h φ' H' σ', Ext φ H φ' H' → HRel G φ' h H' → EnvR G φ' H' e σ' → SPost G W Dn φ' H' (f e h) → Dn'.nx σ' H') : SPost G W Dn' φ H r := by
  cases r with
  | nx e h => exact fun φ' H' σ' x R er => k e h φ' H' σ' x R er (p.later x)
  | rt d h => intro φ' H' v x R z; rw [hr]; exact p φ' H' v x R z
  | exc c ds e h => exact p
  | stk => exact p
end
section
variable (G : Gl0) (M : Mo) (C : Orc) (W : WX)
def rS (s : S) : TS := fun Dn σ H => ∃ φ ev h, HRel G φ h H ∧ EnvR G φ H ev σ ∧ SPost G W Dn φ H (evS M C s ev h)
def rSs (s : Ss) : TS := fun Dn σ H => ∃ φ ev h, HRel G φ h H ∧ EnvR G φ H ev σ ∧ SPost G W Dn φ H (evSs M C s ev h)
end
section
variable {G : Gl0} {M : Mo} {C : Orc} {T : Nt} {k : Nat} {N : List Str} {sc : Scope} {fc : Str → Bool} {W : WX} {X : Cx} {a b c tg : Expr} {es : List Expr} {a' b' c' : E} {es' : Es} {pos pos' : Pos}
variable {pins : List (Addr × Obj)} {σ : L2.St} {H H1 : Hp} {s : Shared} {φ φ1 φ0 : Phi} {h h0 : AH} {H0 : Hp} {ev : Env} {st : Stmt} {sts : List Stmt} {s' : S} {ss' : Ss}

theorem ps_imp {t t' : TS} (h : PS X st t) (hi : ∀ Dn σ H, t' Dn σ H → t Dn σ H) : PS X st t' := ⟨fun pins s σ H Dn I q => h.run pins s σ H Dn I (hi Dn σ H q)⟩
theorem pss_imp {t t' : TS} (h : PSs X sts t) (hi : ∀ Dn σ H, t' Dn σ H → t Dn σ H) : PSs X sts t' := ⟨fun pins s σ H Dn I q => h.run pins s σ H Dn I (hi Dn σ H q)⟩
theorem z_nil : PSs X [] (rSs G M C W .nil) := pss_imp pss_nil fun Dn σ H ⟨φ, ev, h, R, r, p⟩ => p _ _ _ (.refl _ _) R r
theorem z_cons (hs : PS X st (rS G M C W s')) (hr : PSs X sts (rSs G M C W ss')) : PSs X (st :: sts) (rSs G M C W (.cons s' ss')) := by
  refine pss_imp (pss_cons hs hr) fun Dn σ H ⟨φ, ev, h, R, r, p⟩ => ?_
  exact ⟨φ, ev, h, R, r, SPost.thn p rfl fun e h φ' H' σ' x R er q => ⟨φ', e, h, R, er, q⟩⟩
theorem z_pas : PS X (.Pass pos) (rS G M C W .pas) := ps_imp ps_pass fun Dn σ H ⟨φ, ev, h, R, r, p⟩ => p _ _ _ (.refl _ _) R r
theorem asg_read {t : Ev.T} (g : Gd G M C T k N sc fc W X) (hg : t.good = true) {Dn : Ends} (q : rS G M C W (.asg t a') Dn σ H) : tAsg (rE G M C W a') (gT X.K t) Dn σ H := by
  obtain ⟨φ, ev, h, R, r, p⟩ := q
  refine ⟨φ, ev, h, R, r, SPost.toS (Rel := RD G) p r fun d h1 φ1 H1 v x R1 d1 er p1 => ?_⟩
  cases hp : t.put d ev with
  | none => rw [hp] at p1; exact p1.elim
  | some e2 =>
    rw [hp] at p1
    exact put_gT g.hK t d v ev e2 σ H1 _ hg d1 er hp fun σ' er' _ => p1 _ _ _ (.refl _ _) R1 er'
theorem z_asg {t : Ev.T} (g : Gd G M C T k N sc fc W X) (ha : PE X a (rE G M C W a')) (ht : tgC N sc fc t tg = true) (h1 : swapsWithSole [tg] a pos.line X.env = pure false) (h2 : swappedStores [tg] a X.env = pure none) :
    PS X (.Assign [tg] a pos) (rS G M C W (.asg t a')) := by
  have hs := tgC_star ht
  refine ps_imp (ps_asg ha (pg_T g t tg ht) h1 h2 (by rw [assignEach_cons (es := []) hs]; rfl)) fun Dn σ H q => asg_read g (tgC_ok ht) q
theorem z_par {i j : Nat} {x y : Str} {px py pt pt2 : Pos} {kt k2 : Nat} (g : Gd G M C T k N sc fc W X) (hi : X.N[i]? = some x) (hj : X.N[j]? = some y) (hij : i ≠ j) (lx : X.env.scope.names.lookup x = some .local) (ly : X.env.scope.names.lookup y = some .local)
    (ha : PA X [a, b] (rEs G M C W (.cons a' (.cons b' .nil)))) (h1 : swapsWithSole [Expr.Tuple [Expr.Name x px, Expr.Name y py] kt pt] (Expr.Tuple [a, b] k2 pt2) pos.line X.env = pure false)
    (h2 : swappedStores [Expr.Tuple [Expr.Name x px, Expr.Name y py] kt pt] (Expr.Tuple [a, b] k2 pt2) X.env = pure (some [x, y])) :
    PS X (.Assign [.Tuple [.Name x px, .Name y py] kt pt] (.Tuple [a, b] k2 pt2) pos) (rS G M C W (.par i j a' b')) := by
  refine ps_imp (ps_par g.calm (by rw [g.hN]; exact g.nd) hi hj hij lx ly ha h2 h1) fun Dn σ H ⟨φ, ev, h, R, r, p⟩ => ?_
  have p' : SPost G W Dn φ H ((evEs M C (.cons a' (.cons b' .nil)) ev h).toS ev fun ds h => match ds with
    | [d1, d2] => .nx ((ev.set i (some d1)).set j (some d2)) h
    | _ => .stk) := by
    simp only [evS] at p
    simp only [evEs]
    cases e1 : evE M C a' ev h with
    | ok d1 h1 =>
      rw [e1] at p
      simp only [Res.toS_ok, Res.bind_ok] at p ⊢
      cases e2 : evE M C b' ev h1 with
      | ok d2 h2 => rw [e2] at p; exact p
      | exc n fs h2 => rw [e2] at p; exact p
      | stk => rw [e2] at p; exact p
    | exc n fs h1 => rw [e1] at p; exact p
    | stk => rw [e1] at p; exact p
  refine ⟨φ, ev, h, R, r, SPost.toS (Rel := RDs G) p' r fun ds h1 φ1 H1 vs x R1 d1 er p1 => ?_⟩
  cases d1 with
  | nil => exact p1.elim
  | cons q1 d1 =>
    cases d1 with
    | nil => exact p1.elim
    | cons q2 d1 =>
      cases d1 with
      | nil => exact ⟨_, _, rfl, p1 _ _ _ (.refl _ _) R1 ((er.put q1).put q2)⟩
      | cons => exact p1.elim
theorem z_exp (ha : PE X a (rE G M C W a')) (h1 : swapsWith a none pos.line X.env = pure false) : PS X (.Expr a pos) (rS G M C W (.exp a')) := by
  refine ps_imp (ps_expr ha h1) fun Dn σ H ⟨φ, ev, h, R, r, p⟩ => ?_
  exact ⟨φ, ev, h, R, r, SPost.toS (Rel := RD G) p r fun d h1 φ1 H1 v x R1 d1 er p1 => p1 _ _ _ (.refl _ _) R1 er⟩
theorem z_ret (ha : PE X a (rE G M C W a')) : PS X (.Return (some a) pos) (rS G M C W (.ret a')) := by
  refine ps_imp (ps_ret ha) fun Dn σ H ⟨φ, ev, h, R, r, p⟩ => ?_
  exact ⟨φ, ev, h, R, r, SPost.toS (Rel := RD G) p r fun d h1 φ1 H1 v x R1 d1 er p1 => p1 _ _ _ (.refl _ _) R1 d1⟩
theorem z_retN : PS X (.Return none pos) (rS G M C W .retN) := ps_imp ps_retN fun Dn σ H ⟨φ, ev, h, R, r, p⟩ => p _ _ _ (.refl _ _) R .non
theorem z_ite {u v : List Stmt} {u' v' : Ss} (hc : PT X c (rT G M C W c')) (hu : PSs X u (rSs G M C W u')) (hv : PSs X v (rSs G M C W v')) : PS X (.If c u v pos) (rS G M C W (.ite c' u' v')) := by
  refine ps_imp (ps_if hc hu hv) fun Dn σ H ⟨φ, ev, h, R, r, p⟩ => ?_
  have p' : SPost G W Dn φ H ((toB (evE M C c' ev h)).toS ev fun b h => if b then evSs M C u' ev h else evSs M C v' ev h) := by
    simp only [evS] at p
    unfold toB
    cases e1 : evE M C c' ev h with
    | ok d1 h1 =>
      rw [e1] at p
      cases d1 <;> try exact p
      rename_i b; cases b <;> exact p
    | exc n fs h1 => rw [e1] at p; exact p
    | stk => rw [e1] at p; exact p
  refine ⟨φ, ev, h, R, r, SPost.toS (Rel := fun _ _ a b => a = b) p' r fun d h1 φ1 H1 v x R1 d1 er p1 => ?_⟩
  subst d1
  cases d with
  | true => exact ⟨φ1, ev, h1, R1, er, p1⟩
  | false => exact ⟨φ1, ev, h1, R1, er, p1⟩
theorem z_for {t : Ev.T} {it : Expr} {it' : It} {body : List Stmt} {b' : Ss} (g : Gd G M C T k N sc fc W X) (hi : PI X tg it (rIt G M C W it')) (ht : tgC N sc fc t tg = true) (hb : PSs X body (rSs G M C W b')) (hns : ∀ x, foldedSetIterable it X.env x = pure x) :
    PS X (.For tg it body [] pos) (rS G M C W (.for t it' b')) := by
  refine ps_imp (ps_for g.po g.calm hi (pg_T g t tg ht) hb hns) fun Dn σ H ⟨φ, ev, h, R, r, p⟩ => ?_
  have p' : SPost G W Dn φ H (((evIt M C it' ev h).bind fun w h => .ok (w, h) h).toS ev fun p h => forL p.1.dep p.2 t.put (evSs M C b') p.1.items ev p.2) := by
    simp only [evS] at p
    cases e1 : evIt M C it' ev h with
    | ok d1 h1 => rw [e1] at p; exact p
    | exc n fs h1 => rw [e1] at p; exact p
    | stk => rw [e1] at p; exact p
  refine ⟨φ, ev, h, R, r, SPost.toS (Rel := fun φ' H' (p : Wk × AH) J => HRel G φ' p.2 H' ∧ WkR G p.1 p.2 φ' H' J) p' r fun wp h1' φ1 H1 J x R1' wk er p1 => ?_⟩
  obtain ⟨w, h1⟩ := wp
  obtain ⟨R1, wk⟩ := wk
  simp only at wk p1 R1
  refine ⟨fun i m σ' H' => ∃ φ' ev' h', i ≤ w.items.length ∧ m = w.items.length - i ∧ Ext φ1 H1 φ' H' ∧ HRel G φ' h' H' ∧ EnvR G φ' H' ev' σ' ∧ SPost G W Dn φ' H' (forL w.dep h1 t.put (evSs M C b') (w.items.drop i) ev' h'),
    ⟨_, φ1, ev, h1, Nat.zero_le _, rfl, .refl _ _, R1, er, p1⟩, ?_⟩
  intro i m σ' H' ⟨φ', ev', h', hil, hm, E, R', er', p2⟩
  by_cases hst : stays w.dep h1 h'
  · obtain ⟨w1, w2⟩ := wk φ' h' H' E.z R' hst i
    cases hx : w.items[i]? with
    | none =>
      have hi' : w.items.length ≤ i := List.getElem?_eq_none_iff.mp hx
      rw [List.drop_eq_nil_of_le hi'] at p2
      simp only [forL, hst, if_true] at p2
      exact .inl ⟨w1 hi', p2 _ _ _ (.refl _ _) R' er'⟩
    | some y =>
      have hi' : i < w.items.length := (List.getElem?_eq_some_iff.mp hx).1
      obtain ⟨go, yl⟩ := w2 y hx
      rw [drop_cons hx] at p2
      simp only [forL, hst, if_true] at p2
      refine .inr ⟨go, fun σ2 H2 => ∃ φ' ev' h', Ext φ1 H1 φ' H2 ∧ HRel G φ' h' H2 ∧ EnvR G φ' H2 ev' σ2 ∧ SPost G W Dn φ' H2 (forL w.dep h1 t.put (evSs M C b') (w.items.drop (i + 1)) ev' h'), ?_, ?_⟩
      · rintro σ2 H2 ⟨φ2, ev2, h2, q1, q2, q3, q4⟩
        exact ⟨w.items.length - (i + 1), by omega, φ2, ev2, h2, by omega, rfl, q1, q2, q3, q4⟩
      · intro v H2 hy
        obtain ⟨E3, R3, d3⟩ := yl v H2 hy
        cases hput : t.put y ev' with
        | none => rw [hput] at p2; exact p2.elim
        | some ev2 =>
          rw [hput] at p2
          simp only at p2
          refine put_gT g.hK t y v ev' ev2 σ' H2 _ (tgC_ok ht) d3 (er'.ext E3) hput fun σ2 er2 _ => ?_
          exact ⟨φ', ev2, h', R3, er2, SPost.thn (p2.later E3) rfl fun e h φ5 H5 σ5 x5 R5 er5 q => ⟨φ5, e, h, (E.trans E3).trans x5, R5, er5, q⟩⟩
  · exfalso
    cases hx : w.items.drop i with
    | nil => rw [hx] at p2; simp only [forL, hst, if_false] at p2; exact p2
    | cons y ys => rw [hx] at p2; simp only [forL, hst, if_false] at p2; exact p2
theorem evW_some {c : Env → AH → Res D} {body : Env → AH → SRes} {e : Env} {h : AH} {Dn : Ends} (p : SPost G W Dn φ H (evW c body e h)) : ∃ n r, itW c body n e h = some r ∧ SPost G W Dn φ H r := by
  unfold evW at p
  split at p
  · rename_i q
    exact ⟨_, _, q.choose_spec.choose_spec, p⟩
  · exact p.elim
theorem z_whl {body : List Stmt} {b' : Ss} (g : Gd G M C T k N sc fc W X) (hc : PT X c (rT G M C W c')) (hb : PSs X body (rSs G M C W b')) : PS X (.While c body [] pos) (rS G M C W (.whl c' b')) := by
  refine ps_imp (ps_while g.po hc hb) fun Dn σ H ⟨φ, ev, h, R, r, p⟩ => ?_
  obtain ⟨n, rr, e0, p0⟩ := evW_some (by simpa only [evS] using p)
  refine ⟨fun m σ' H' => ∃ φ' ev' h' r', HRel G φ' h' H' ∧ EnvR G φ' H' ev' σ' ∧ SPost G W Dn φ' H' r' ∧ itW (evE M C c') (evSs M C b') m ev' h' = some r', ⟨n, φ, ev, h, rr, R, r, p0, e0⟩, ?_⟩
  intro m σ' H' ⟨φ', ev', h', r', R', er', p', e'⟩
  cases m with
  | zero => cases e'
  | succ m =>
    simp only [itW] at e'
    refine ⟨φ', ev', h', R', er', ?_⟩
    unfold toB
    cases e1 : evE M C c' ev' h' with
    | exc n fs h1 =>
      rw [e1] at e'
      simp only [Option.some.injEq] at e'; subst e'
      exact fun φ2 H2 cls dct x R z => p' φ2 H2 σ' cls dct x R (er'.ext x) z
    | stk =>
      rw [e1] at e'
      simp only [Option.some.injEq] at e'; subst e'
      exact p'.elim
    | ok d h1 =>
      rw [e1] at e'
      cases d <;> try (simp only [Option.some.injEq] at e'; subst e'; exact p'.elim)
      rename_i b
      intro φ2 H2 b2 x2 R2 eb
      subst eb
      cases b with
      | false =>
        simp only [Option.some.injEq] at e'; subst e'
        simp only [Bool.false_eq_true, if_false]
        exact p' _ _ _ x2 R2 (er'.ext x2)
      | true =>
        simp only [if_true]
        simp only at e'
        cases e2 : evSs M C b' ev' h1 with
        | nx e3 h3 =>
          rw [e2] at e'
          simp only at e'
          refine ⟨fun σ3 H3 => ∃ φ3 ev3 h3 r3, HRel G φ3 h3 H3 ∧ EnvR G φ3 H3 ev3 σ3 ∧ SPost G W Dn φ3 H3 r3 ∧ itW (evE M C c') (evSs M C b') m ev3 h3 = some r3, fun σ3 H3 q => ⟨m, Nat.lt_succ_self _, q⟩, φ2, ev', h1, R2, er'.ext x2, ?_⟩
          rw [e2]
          exact fun φ4 H4 σ4 x4 R4 er4 => ⟨φ4, e3, h3, r', R4, er4, p'.later (x2.trans x4), e'⟩
        | rt d3 h3 =>
          rw [e2] at e'
          simp only [Option.some.injEq] at e'; subst e'
          refine ⟨fun _ _ => False, fun _ _ q => q.elim, φ2, ev', h1, R2, er'.ext x2, ?_⟩
          rw [e2]
          exact fun φ4 H4 v x4 R4 z => p' φ4 H4 v (x2.trans x4) R4 z
        | exc n fs e3 h3 =>
          rw [e2] at e'
          simp only [Option.some.injEq] at e'; subst e'
          refine ⟨fun _ _ => False, fun _ _ q => q.elim, φ2, ev', h1, R2, er'.ext x2, ?_⟩
          rw [e2]
          exact fun φ4 H4 σ4 cls dct x4 R4 er4 z => p' φ4 H4 σ4 cls dct (x2.trans x4) R4 er4 z
        | stk =>
          rw [e2] at e'
          simp only [Option.some.injEq] at e'; subst e'
          exact p'.elim
end
end Ev

/-! Stores into places, raise. -/
namespace Ev
open PySem PySem.Spec PyProof.Rows L2 PySem.W PySem.SeqAt

section
variable {G : Gl0} {M : Mo} {C : Orc} {T : Nt} {k : Nat} {N : List Str} {sc : Scope} {fc : Str → Bool} {W : WX} {X : Cx} {a b c tg : Expr} {es : List Expr} {a' b' c' o' i' : E} {es' : Es} {pos pos' : Pos}
variable {pins : List (Addr × Obj)} {σ : L2.St} {H H1 : Hp} {s : Shared} {φ φ1 φ0 : Phi} {h h0 : AH} {H0 : Hp} {ev : Env} {st : Stmt} {sts : List Stmt} {s' : S} {ss' : Ss}

def isSl : Expr → Bool
  | .Slice _ _ _ _ => true
  | _ => false
def rSet (G : Gl0) : TSet := fun o i v H Q => ∃ φ h od id vd h', HRel G φ h H ∧ RD G φ H od o ∧ RD G φ H id i ∧ RD G φ H vd v ∧ setD h od id vd = some h' ∧ ∀ φ' H', Ext φ H φ' H' → HRel G φ' h' H' → Q H'
theorem set_S : PSet X (rSet G) := by
  rintro pins s σ H o i v ov iv u Q I ro ri rv ⟨φ, h, od, id, vd, h', R, r1, r2, r3, e, q⟩
  cases od with
  | ref n =>
    cases r1 with
    | @ref _ a ha =>
      obtain ⟨ob, ho, w⟩ := R.at' ha
      simp only [setD, ho] at e
      cases ob with
      | lst ds =>
        cases id with
        | int k =>
          cases r2
          obtain ⟨xs, h1, rs⟩ := w
          simp only [Option.map_eq_some_iff] at e
          obtain ⟨j, hj, rfl⟩ := e
          refine set_list pins s σ H _ _ v ov iv u Q I ro ri rv ⟨a, xs, k, j, rfl, rfl, h1, by rw [← rs.length]; exact hj, ?_⟩
          exact q _ _ (R.ext_set ha) (R.set_lst ha (RDs.set r3 rs j))
        | _ => simp at e
      | dic => exact w.elim
      | ins => exact w.elim
  | _ => simp [setD] at e
theorem z_set {o i : Expr} {p2 : Pos} (g : Gd G M C T k N sc fc W X) (ha : PE X a (rE G M C W a')) (ho : PE X o (rE G M C W o')) (hi : PE X i (rE G M C W i')) (hsl : isSl i = false) (hs : swapsWithSole [.Subscript o i p2] a pos.line X.env = pure false) :
    PS X (.Assign [.Subscript o i p2] a pos) (rS G M C W (.set o' i' a')) := by
  refine ps_imp (ps_asg ha (pg_sub ho hi (set_S (G := G)) (by intro v; cases i <;> first | rfl | cases hsl)) hs rfl rfl) fun Dn σ H ⟨φ, ev, h, R, r, p⟩ => ?_
  refine ⟨φ, ev, h, R, r, SPost.toS (Rel := RD G) p r fun vd h1 φ1 H1 v x1 R1 d1 er1 p1 => ?_⟩
  refine ⟨φ1, ev, h1, R1, er1, SPost.toS (Rel := RD G) p1 er1 fun od h2 φ2 H2 o x2 R2 d2 er2 p2 => ?_⟩
  refine ⟨φ2, ev, h2, R2, er2, SPost.toS (Rel := RD G) p2 er2 fun id h3 φ3 H3 i x3 R3 d3 er3 p3 => ?_⟩
  cases e : setD h3 od id vd with
  | none => rw [e] at p3; exact p3.elim
  | some h4 =>
    rw [e] at p3
    exact ⟨φ3, h3, od, id, vd, h4, R3, d2.ext x3, d3, (d1.ext x2).ext x3, e, fun φ' H' x R4 => p3 _ _ _ x R4 (er3.ext x)⟩

theorem room_le {A : Around} {j : Nat} (r : Room k A) (h : j ≤ k) : Room j A := ⟨r.hd, by have := r.dp; omega, by have := r.un; omega⟩
theorem z_rse0 {n : Nat} {name : Str} {pos2 : Pos} (g : Gd G M C T k N sc fc W X) (hx : T.ex n = some name) (hg : glC sc name = true) (hm : T.exn n = 0) :
    PS X (.Raise (some (.Call (.Name name pos') [] [] pos)) none pos2) (rS G M C W (.rse n .nil)) := by
  obtain ⟨h0, h1, D, h2, hmg, h3⟩ := g.xns n name hx
  obtain ⟨g1, g2, g3⟩ := gl_of g hg
  rcases h3 X rfl rfl rfl rfl rfl g.calm (room_le g.room g.two) g1 g2 with ⟨_, h3⟩ | ⟨z, _⟩
  · refine ps_imp (ps_raise g.calm g.tk (h3 pos' pos)) fun Dn σ H ⟨φ, ev, h, R, r, p⟩ => ?_
    simp only [evS, h1, evEs, Res.toS_ok, hm, List.length_nil, if_true] at p
    exact p _ _ _ _ _ (.refl _ _) R r ⟨⟨D, h2, rfl⟩, .inl ⟨rfl, rfl⟩⟩
  · rw [hm] at z; cases z
theorem z_rse1 {n : Nat} {name : Str} {pos2 : Pos} (g : Gd G M C T k N sc fc W X) (hx : T.ex n = some name) (hg : glC sc name = true) (hm : T.exn n = 1) (ha : PE X a (rE G M C W a')) (hs : isStar a = false) :
    PS X (.Raise (some (.Call (.Name name pos') [a] [] pos)) none pos2) (rS G M C W (.rse n (.cons a' .nil))) := by
  obtain ⟨h0, h1, D, h2, hmg, h3⟩ := g.xns n name hx
  obtain ⟨g1, g2, g3⟩ := gl_of g hg
  rcases h3 X rfl rfl rfl rfl rfl g.calm (room_le g.room g.two) g1 g2 with ⟨z, _⟩ | ⟨_, h3⟩
  · rw [hm] at z; cases z
  · refine ps_imp (ps_raise g.calm g.tk (h3 a _ pos' pos ha (star_of hs))) fun Dn σ H ⟨φ, ev, h, R, r, p⟩ => ?_
    have p' : SPost G W Dn φ H ((evE M C a' ev h).toS ev fun d h => .exc n [d] ev h) := by
      simp only [evS, h1, evEs] at p
      cases e : evE M C a' ev h with
      | ok d h4 =>
        rw [e] at p
        simp only [Res.bind_ok, Res.toS_ok, List.length_cons, List.length_nil, hm, if_true] at p
        exact p
      | exc c fs h4 => rw [e] at p; exact p
      | stk => rw [e] at p; exact p
    refine ⟨φ, ev, h, R, r, SPost.toS (Rel := RD G) p' r fun d h4 φ1 H1 v x1 R1 d1 er1 p1 dx hdx => ?_⟩
    have x2 := R1.ext_new (u := .xd [(G.ef n, v)]) hdx
    exact p1 _ _ _ _ _ x2 (R1.new hdx) (er1.ext x2) ⟨⟨D, h2, rfl⟩, .inr ⟨d, v, dx, rfl, rfl, upd_same, d1.ext x2⟩⟩
end
end Ev

/-! Sets of nested tuples, by probing: 1. what a set asks of a key. -/
namespace EvS
open PySem PySem.Spec PyProof.Rows L2

section
variable {P : Program} {w : World}
/-- a value of a nested key, seen from above: no class, quiet -/
theorem ty_tup {s : Shared} {a : Addr} {o : Obj} (h : s.heap.get? a = some o) (c : o.cls = .type "tuple") : s.TypeIs (.ref a) "tuple" := ⟨o, h, c⟩
theorem ofA_flat (n : Nat) (v : Value) (h : ∀ a, v ≠ .ref a) : ofAClassStatement n v = pure false := by
  rw [ofAClassStatement.eq_def]
  cases v <;> first | rfl | exact absurd rfl (h _)
theorem nested_flat {h : Heap} {k : NestedKey} {v : Value} (hk : NestedIs h k v) : (∀ a, v ≠ .ref a) ∨ ∃ a o vs n ks, v = .ref a ∧ k = .tup ks ∧ h.get? a = some o ∧ o.cls = .type "tuple" ∧ o.data = .seq vs n ∧ NestedAll h ks vs.toList := by
  cases hk with
  | none => exact .inl fun a => by simp
  | bool => exact .inl fun a => by simp
  | int => exact .inl fun a => by simp
  | text => exact .inl fun a => by simp
  | tup h1 h2 h3 h4 => exact .inr ⟨_, _, _, _, _, rfl, rfl, h1, h2, h3, h4⟩
theorem nestedAll_mem {h : Heap} : ∀ {ks : List NestedKey} {vs : List Value}, NestedAll h ks vs → ∀ v ∈ vs, ∃ k ∈ ks, NestedIs h k v
  | _, _, .nil, v, hv => by cases hv
  | _, _, .cons a r, v, hv => by
    rcases List.mem_cons.mp hv with rfl | hv
    · exact ⟨_, List.mem_cons_self, a⟩
    · obtain ⟨k, hk, z⟩ := nestedAll_mem r v hv
      exact ⟨k, List.mem_cons_of_mem _ hk, z⟩
theorem depth_mem : ∀ {ks : List NestedKey} {k : NestedKey}, k ∈ ks → k.depth ≤ NestedKey.depthAll ks
  | k0 :: ks, k, h => by
    rw [NestedKey.depthAll.eq_2]
    rcases List.mem_cons.mp h with rfl | h
    · exact Nat.le_max_left _ _
    · exact Nat.le_trans (depth_mem h) (Nat.le_max_right _ _)
theorem ofA_nested : ∀ (n : Nat) {A : Around} {E : Value → Shared → Prop} {s : Shared} {k : NestedKey} {v : Value} {Q : Bool → Shared → Prop}, NestedIs s.heap k v → k.depth ≤ n → Q false s → wpAny (model P w) A (ofAClassStatement n v) Q E s
  | n, A, E, s, k, v, Q, hk, hd, q => by
    rcases nested_flat hk with hf | ⟨a, o, vs, m, ks, rfl, rfl, h1, h2, h3, h4⟩
    · rw [ofA_flat n v hf]; exact wpAny_pure q
    · rw [NestedKey.depth.eq_4] at hd
      cases n with
      | zero => omega
      | succ n =>
        rw [ofAClassStatement.eq_def]
        refine wpAny_bind (wpAny_typeOf (ty_tup h1 h2) ?_)
        refine wpAny_bind (wpAny_pure ?_)
        refine wpAny_bind (wpAny_seqItems h1 h3 ?_)
        refine wpAny_bind ?_
        rw [← Array.forIn_toList]
        refine wpAny_forIn_list _ (fun rest (r : Option Bool × Unit) s' => r.1 = none ∧ s' = s ∧ ∀ v ∈ rest, v ∈ vs.toList) _ ?_ ?_ _ _ ⟨rfl, rfl, fun _ z => z⟩
        · rintro y rest r s' ⟨hr, rfl, hall⟩
          obtain ⟨k', hk', z⟩ := nestedAll_mem h4 y (hall y List.mem_cons_self)
          refine wpAny_bind (ofA_nested n z (Nat.le_trans (depth_mem hk') (by omega)) ?_)
          exact wpAny_pure ⟨rfl, rfl, fun u hu => hall u (List.mem_cons_of_mem _ hu)⟩
        · rintro ⟨r1, r2⟩ s' ⟨hr, rfl, _⟩
          simp only at hr
          subst hr
          exact wpAny_pure q
theorem flat_hashBy (n : Nat) {k : NestedKey} {h : Heap} {v : Value} (hk : NestedIs h k v) (hf : ∀ a, v ≠ .ref a) : ∃ b, hashByValue n v = pure b := by
  rw [hashByValue.eq_def]
  cases hk with
  | none => exact ⟨_, rfl⟩
  | bool => exact ⟨_, rfl⟩
  | int => exact ⟨_, rfl⟩
  | text => exact ⟨_, rfl⟩
  | tup => exact absurd rfl (hf _)
/-- whether the hash of a key tells by its value: some answer, and nothing else happens -/
theorem hashBy_nested : ∀ (n : Nat) {s : Shared} {k : NestedKey} {v : Value}, NestedIs s.heap k v → ∃ b, ∀ {A : Around} {E : Value → Shared → Prop} {Q : Bool → Shared → Prop}, Q b s → wpAny (model P w) A (hashByValue n v) Q E s
  | n, s, k, v, hk => by
    rcases nested_flat hk with hf | ⟨a, o, vs, m, ks, rfl, rfl, h1, h2, h3, h4⟩
    · obtain ⟨b, hb⟩ := flat_hashBy n hk hf
      exact ⟨b, fun q => by rw [hb]; exact wpAny_pure q⟩
    · cases n with
      | zero => exact ⟨false, fun q => by rw [hashByValue.eq_def]; exact wpAny_pure q⟩
      | succ n =>
        have each : ∀ v : Value, ∃ b : Bool, v ∈ vs.toList → ∀ {A : Around} {E : Value → Shared → Prop} {Q : Bool → Shared → Prop}, Q b s → wpAny (model P w) A (hashByValue n v) Q E s := fun v => by
          by_cases hv : v ∈ vs.toList
          · obtain ⟨k', hk', z⟩ := nestedAll_mem h4 v hv
            obtain ⟨b, f⟩ := hashBy_nested n z
            exact ⟨b, fun _ => f⟩
          · exact ⟨false, fun h => absurd h hv⟩
        let fb : Value → Bool := fun v => Classical.choose (each v)
        have hfb : ∀ v ∈ vs.toList, ∀ {A : Around} {E : Value → Shared → Prop} {Q : Bool → Shared → Prop}, Q (fb v) s → wpAny (model P w) A (hashByValue n v) Q E s := fun v hv => Classical.choose_spec (each v) hv
        refine ⟨vs.toList.all fb, fun {A E Q} q => ?_⟩
        rw [hashByValue.eq_def]
        refine wpAny_bind (wpAny_specialOf (s := s) (ty_tup h1 h2) (PySem.F.slot_tuple_hash.lookup) ?_)
        refine wpAny_bind (wpAny_seqItems h1 h3 ?_)
        refine wpAny_bind ?_
        simp only [Option.getD_some]
        rw [← Array.forIn_toList]
        refine wpAny_forIn_list _ (fun rest (r : Option Bool × Unit) s' => r.1 = none ∧ s' = s ∧ (∀ v ∈ rest, v ∈ vs.toList) ∧ rest.all fb = vs.toList.all fb) _ ?_ ?_ _ _ ⟨rfl, rfl, fun _ z => z, rfl⟩
        · rintro y rest r s' ⟨hr, rfl, hall, he⟩
          refine wpAny_bind (hfb y (hall y List.mem_cons_self) ?_)
          rw [List.all_cons] at he
          cases hy : fb y with
          | false =>
            rw [hy, Bool.false_and] at he
            refine wpAny_pure ?_
            show wpAny _ _ _ _ _ _
            rw [← he] at q
            exact wpAny_pure q
          | true =>
            rw [hy, Bool.true_and] at he
            exact wpAny_pure ⟨rfl, rfl, fun u hu => hall u (List.mem_cons_of_mem _ hu), he⟩
        · rintro ⟨r1, r2⟩ s' ⟨hr, rfl, _, he⟩
          simp only at hr
          subst hr
          rw [← he] at q
          exact wpAny_pure q
end
end EvS

/-! Sets of nested tuples: 2. the set, the search. -/
namespace EvS
open PySem PySem.Spec PyProof.Rows L2

def Is (h : Heap) (k : NestedKey) (a : Addr) : Prop := NestedIs h k (.ref a) ∧ k.depth ≤ 8
abbrev hsh (w : World) (k : NestedKey) : Int := NestedKey.hash w k
def rowsN (w : World) (L : List (Addr × NestedKey)) : List (Int × Value) := L.map fun p => (hsh w p.2, .ref p.1)
structure SetN (w : World) (h : Heap) (a : Addr) (L : List (Addr × NestedKey)) (es : Array (Int × Value)) (ep : Nat) (t : SetTable) : Prop where
  ob : ∃ o, h.get? a = some o ∧ o.ExactSet ∧ o.data = .set es ep t
  rows : es.toList = rowsN w L
  tab : TabOk t (L.map fun p => hsh w p.2)
  nd : (L.map (·.2)).Nodup
  tup : ∀ p ∈ L, Is h p.2 p.1
  led : w.params.followText "set-order" = true ∨ t.led = true
  room : L.length * 5 < t.mask * 3
  few : L.length < 64
section
variable {P : Program} {w : World} {A : Around} {E : Value → Shared → Prop} {s : Shared} {a : Addr} {L : List (Addr × NestedKey)} {es : Array (Int × Value)} {ep : Nat} {t : SetTable}

theorem SetN.size (R : SetN w s.heap a L es ep t) : es.size = L.length := by
  have := congrArg List.length R.rows
  simpa [rowsN] using this
theorem SetN.fits (R : SetN w s.heap a L es ep t) : t.fits es.size = true := by
  have h1 := R.tab.sz
  have h2 := R.tab.dm
  have h3 := R.room
  have h4 := R.size
  simp only [List.length_map] at h1
  have : t.fill ≤ t.mask := by
    unfold SetTable.fill
    rw [h2]; simp; omega
  simp [SetTable.fits, h1, h4, this]
theorem SetN.gw (R : SetN w s.heap a L es ep t) : ¬ t.gaveWay = true := by
  have := mask_odd R.tab.mok
  simp [SetTable.gaveWay, this]
theorem SetN.entry (R : SetN w s.heap a L es ep t) {i : Nat} {p : Addr × NestedKey} (h : L[i]? = some p) : es[i]? = some (hsh w p.2, .ref p.1) := by
  rw [← Array.getElem?_toList, R.rows, rowsN, List.getElem?_map, h]; rfl
theorem eq_nested {k k' : NestedKey} {x y : Addr} {Q : Bool → Shared → Prop} (hu : A.units + 8 < cLine) (hx : Is s.heap k x) (hy : Is s.heap k' y) (q : Q (decide (k = k')) s) : wpAny (model P w) A (eqBool (.ref x) (.ref y)) Q E s :=
  (nestedKind P w).eqBool hu hx hy q
theorem seen_nested {k : NestedKey} {x : Addr} {ys : List Value} {Q : Bool → Shared → Prop} (hx : Is s.heap k x) (hy : ∀ y ∈ ys, ∃ k' c, y = .ref c ∧ Is s.heap k' c) (q : Q false s) : wpAny (model P w) A (searchCouldBeSeen (.ref x) ys) Q E s := by
  unfold searchCouldBeSeen
  refine wpAny_bind ?_
  refine wpAny_forIn_list _ (fun rest (r : Option Bool × Unit) s' => r.1 = none ∧ s' = s ∧ ∀ v ∈ rest, v ∈ ys) _ ?_ ?_ _ _ ⟨rfl, rfl, fun _ z => z⟩
  · rintro y rest r s' ⟨hr, rfl, hall⟩
    obtain ⟨k', c, rfl, hc⟩ := hy y (hall y List.mem_cons_self)
    have next : ∀ u ∈ rest, u ∈ ys := fun u hu => hall u (List.mem_cons_of_mem _ hu)
    simp only
    split
    · exact wpAny_pure ⟨rfl, rfl, next⟩
    · refine wpAny_bind ((nestedKind P w).quiet hx ?_)
      simp only [Bool.not_true, Bool.false_eq_true, if_false]
      refine wpAny_bind ((nestedKind P w).quiet hc ?_)
      simp only [Bool.not_true, Bool.false_eq_true, if_false]
      refine wpAny_bind (ofA_nested 8 hx.1 hx.2 ?_)
      simp only [Bool.false_eq_true, if_false]
      refine wpAny_bind (ofA_nested 8 hc.1 hc.2 ?_)
      exact wpAny_pure ⟨rfl, rfl, next⟩
  · rintro ⟨r1, r2⟩ s' ⟨hr, rfl, _⟩
    simp only at hr
    subst hr
    exact wpAny_pure q
theorem ris_inj {l : List Nat} (h : Ris l) {i j : Nat} (hi : i < l.length) (hj : j < l.length) (e : l[i] = l[j]) : i = j := by
  have hp := List.pairwise_iff_getElem.mp h
  rcases Nat.lt_trichotomy i j with q | q | q
  · have := hp i j hi hj q; omega
  · exact q
  · have := hp j i hj hi q; omega
theorem search_fromN (R : SetN w s.heap a L es ep t) {x : Addr} {k : NestedKey} (hx : Is s.heap k x) (hu : A.units + 8 < cLine) {K : Nat} (hKf : K < 10 * SetTable.turns t.mask) (hK : ¬ way t.mask (hsh w k) K ∈ t.place.toList)
    (hKb : ∀ c, c < K → way t.mask (hsh w k) c ∈ t.place.toList) {Q : SetFound → Shared → Prop} (hin : k ∈ L.map (·.2) → Q (.there none) s) (hout : ¬ k ∈ L.map (·.2) → Q (.free (way t.mask (hsh w k) K) false) s) :
    ∀ (f c : Nat) (stand : Option SetTable.Probe), stand.getD (t.probeStart (hsh w k)) = nth t.mask (runAt t.mask (SetTable.bits (hsh w k) % (t.mask + 1)) (SetTable.bits (hsh w k))) c → c ≤ K → K - c < f →
      (∀ (i : Nat) (p : Addr × NestedKey), L[i]? = some p → p.2 = k → ∃ c', c ≤ c' ∧ c' < K ∧ t.place.toList[i]? = some (way t.mask (hsh w k) c')) → wpAny (model P w) A (setSearchFrom a (.ref x) (hsh w k) true f stand) Q E s
  | 0, c, stand, _, _, hf, _ => absurd hf (Nat.not_lt_zero _)
  | f + 1, c, stand, hst, hc, hf, hre => by
    obtain ⟨o, ho, hex, hd⟩ := R.ob
    rw [setSearchFrom_succ]
    refine wpAny_bind (wpAny_setState_of ho hd R.fits ?_)
    refine wp_if_neg R.gw ?_
    have hnd : ∀ (n : Nat) (p : SetTable.Probe), p.dummy = none → (nth t.mask p n).dummy = none := by
      intro n
      induction n with
      | zero => exact fun p h => h
      | succ n ih =>
        intro p h
        refine ih (adv t.mask p) ?_
        show (if _ then _ else _ : SetTable.Probe).dummy = none
        split <;> exact h
    have e1 : ∀ q, (nth t.mask (nth t.mask (runAt t.mask (SetTable.bits (hsh w k) % (t.mask + 1)) (SetTable.bits (hsh w k))) c) q) = nth t.mask (runAt t.mask (SetTable.bits (hsh w k) % (t.mask + 1)) (SetTable.bits (hsh w k))) (c + q) := fun q => (nth_add t.mask c _ q).symm
    have spec := go_spec t R.tab.ris R.tab.dm (fun i => (Option.map (fun x => x.fst) es[i]?).getD 0) (hsh w k) (10 * SetTable.turns t.mask) (K - c) (nth t.mask (runAt t.mask (SetTable.bits (hsh w k) % (t.mask + 1)) (SetTable.bits (hsh w k))) c)
      (hnd c _ rfl) (by omega) (fun q hq => by rw [e1]; exact hKb (c + q) (by omega)) (by rw [e1, show c + (K - c) = K by omega]; exact hK)
    have hat : ∀ i (p : Addr × NestedKey), L[i]? = some p → (Option.map (fun x : Int × Value => x.fst) es[i]?).getD 0 = hsh w p.2 := fun i p hp => by rw [R.entry hp]; rfl
    have hpr0 : t.probe (fun i => (Option.map (fun x => x.fst) es[i]?).getD 0) (hsh w k) (stand.getD (t.probeStart (hsh w k))) = SetTable.probe.go t (fun i => (Option.map (fun x => x.fst) es[i]?).getD 0) (hsh w k) (10 * SetTable.turns t.mask) (nth t.mask (runAt t.mask (SetTable.bits (hsh w k) % (t.mask + 1)) (SetTable.bits (hsh w k))) c) := by
      rw [hst]; rfl
    rw [hpr0]
    rcases spec with ⟨q, i, hq, hi, hh, hno, hpr⟩ | ⟨hno, hpr⟩
    · rw [hpr]
      rw [e1] at hi
      have hil : i < L.length := by
        have h1 := (List.getElem?_eq_some_iff.mp hi).1
        have h2 := R.tab.sz
        simp only [List.length_map, Array.length_toList] at h1 h2
        omega
      have hp : L[i]? = some L[i] := List.getElem?_eq_getElem hil
      have hmem := List.mem_of_getElem? hp
      have hpt := R.tup L[i] hmem
      have rest : ∀ next, next = nth t.mask (runAt t.mask (SetTable.bits (hsh w k) % (t.mask + 1)) (SetTable.bits (hsh w k))) (c + (q + 1)) → wpAny (model P w) A (searchRest a (.ref x) (hsh w k) true f es t (way t.mask (hsh w k) (c + q)) i next) Q E s := by
        rintro next rfl
        unfold searchRest
        rw [R.entry hp]
        refine wpAny_bind (wpAny_holding (eq_nested hu hpt hx ?_))
        refine wpAny_bind (wpAny_setState_of ho hd R.fits ?_)
        by_cases hkk : L[i].2 = k
        · refine wp_if_pos (by simp [hkk]) ?_
          exact wpAny_pure (hin (List.mem_map.mpr ⟨L[i], hmem, hkk⟩))
        · refine wp_if_neg (by simp [hkk]) ?_
          rw [sameMem t]
          have hsl : t.slot (way t.mask (hsh w k) (c + q)) = .live i := slot_live R.tab.ris hi
          simp only [if_true, hsl, R.entry hp]
          refine wpAny_bind (wpAny_isSame_ref_self ?_)
          refine wpAny_bind (wpAny_pure ?_)
          simp only [if_true]
          refine wp_if_neg (by simp [hkk]) ?_
          refine search_fromN R hx hu hKf hK hKb hin hout f (c + (q + 1)) _ rfl (by omega) (by omega) fun i' p' hp' hk' => ?_
          obtain ⟨c', h1, h2, h3⟩ := hre i' p' hp' hk'
          refine ⟨c', ?_, h2, h3⟩
          rcases Nat.lt_trichotomy c' (c + q) with hlt | heq | hgt
          · have z := hno (c' - c) i' (by omega) (by rw [e1, show c + (c' - c) = c' by omega]; exact h3)
            exact absurd (by rw [hat i' p' hp', hk']) z
          · subst heq
            have : i' = i := by
              have q1 := List.getElem?_eq_some_iff.mp h3
              have q2 := List.getElem?_eq_some_iff.mp hi
              obtain ⟨l1, v1⟩ := q1
              obtain ⟨l2, v2⟩ := q2
              exact ris_inj R.tab.ris l1 l2 (by rw [v1, v2])
            subst this
            rw [hp] at hp'
            cases hp'
            exact absurd hk' hkk
          · omega
      have e2 : (nth t.mask (nth t.mask (runAt t.mask (SetTable.bits (hsh w k) % (t.mask + 1)) (SetTable.bits (hsh w k))) c) q).j = way t.mask (hsh w k) (c + q) := by rw [e1]
      simp only [e2]
      have rest' := rest _ (e1 (q + 1))
      by_cases hled : (!t.led) = true
      · refine wp_if_pos hled ?_
        refine wpAny_bind (seen_nested hx (fun y hy => ?_) ?_)
        · obtain ⟨z, hz, rfl⟩ := List.mem_map.mp hy
          have hz' : z ∈ es.toList := (Array.mem_filter.mp (Array.mem_toList_iff.mp hz)).1 |> Array.mem_toList_iff.mpr
          rw [R.rows] at hz'
          obtain ⟨p', hp', rfl⟩ := List.mem_map.mp hz'
          exact ⟨p'.2, p'.1, rfl, R.tup p' hp'⟩
        · refine wp_if_neg (by simp) ?_
          exact rest'
      · refine wp_if_neg hled ?_
        exact rest'
    · rw [hpr]
      have e2 : (nth t.mask (nth t.mask (runAt t.mask (SetTable.bits (hsh w k) % (t.mask + 1)) (SetTable.bits (hsh w k))) c) (K - c)).j = way t.mask (hsh w k) K := by rw [e1, show c + (K - c) = K by omega]
      simp only [e2]
      refine wpAny_pure (hout fun hm => ?_)
      obtain ⟨p', hp', hk'⟩ := List.mem_map.mp hm
      obtain ⟨i', hi'⟩ := List.mem_iff_getElem?.mp hp'
      obtain ⟨c', h1, h2, h3⟩ := hre i' p' hi' hk'
      have z := hno (c' - c) i' (by omega) (by rw [e1, show c + (c' - c) = c' by omega]; exact h3)
      exact absurd (by rw [hat i' p' hi', hk']) z
end
end EvS

/-! Sets of nested tuples: 3. one more is put in. -/
namespace EvS
open PySem PySem.Spec PyProof.Rows L2
section
variable {P : Program} {w : World} {A : Around} {E : Value → Shared → Prop} {s : Shared} {a : Addr} {L : List (Addr × NestedKey)} {es : Array (Int × Value)} {ep : Nat} {t : SetTable}

theorem Is.same {h h' : Heap} {k : NestedKey} {b : Addr} {o : Obj} (hk : Is h k b) (ho : h.get? a = some o) (hd : o.data = .set es ep t) (sb : Heap.SameBut a h h') : Is h' k b :=
  ⟨hk.1.at fun c o' vs n e d => by rw [sb.2 c fun q => by subst q; rw [ho] at e; cases e; rw [hd] at d; cases d]; exact e, hk.2⟩
theorem Is.keep {h h' : Heap} {k : NestedKey} {b : Addr} (hk : Is h k b) (kp : ∀ c o, h.get? c = some o → h'.get? c = some o) : Is h' k b := ⟨hk.1.at fun c o vs n e d => kp c o e, hk.2⟩
theorem search_atN (R : SetN w s.heap a L es ep t) {x : Addr} {k : NestedKey} (hx : Is s.heap k x) (hu : A.units + 8 < cLine) {Q : SetFound → Shared → Prop} (hin : k ∈ L.map (·.2) → Q (.there none) s)
    (hout : ∀ K, ¬ k ∈ L.map (·.2) → ¬ way t.mask (hsh w k) K ∈ t.place.toList → (∀ c, c < K → way t.mask (hsh w k) c ∈ t.place.toList) → Q (.free (way t.mask (hsh w k) K) false) s) : wpAny (model P w) A (setSearch a (.ref x) (hsh w k) true) Q E s := by
  have hroom := R.room
  obtain ⟨K, hKf, hK, hKb⟩ := TabOk.first R.tab (by simp; omega) (hsh w k)
  have hbig : K < 100000 := by
    have : t.mask ≤ 127 := by rcases R.tab.mok with q | q | q <;> omega
    unfold SetTable.turns at hKf; omega
  refine search_fromN R hx hu hKf hK hKb hin (fun hn => hout K hn hK hKb) 100000 0 none rfl (Nat.zero_le _) (by omega) fun i p hp hk => ?_
  have hil : i < t.place.toList.length := by
    have h1 := (List.getElem?_eq_some_iff.mp hp).1
    have h2 := R.tab.sz
    simp only [List.length_map, Array.length_toList] at h2 ⊢
    omega
  have hj := List.getElem?_eq_getElem hil
  obtain ⟨c, hc, e⟩ := TabOk.before R.tab (h := hsh w k) (K := K) (i := i) hK (by rw [List.getElem?_map, hp, ← hk]; rfl) hj
  exact ⟨c, Nat.zero_le _, hc, by rw [hj, e]⟩
theorem order_rowsN (L : List (Addr × NestedKey)) (es : Array (Int × Value)) (order : Array Nat) (hr : es.toList = rowsN w L) (hp : order.toList.Perm (List.range L.length)) :
    ∃ L2, (order.filterMap fun x => es[x]?).toList = rowsN w L2 ∧ L2.Perm L ∧ L2.map (fun p => hsh w p.2) = order.toList.map fun i => (es.map fun x => x.1).getD i 0 := by
  have hmem : ∀ i ∈ order.toList, i < L.length := fun i hi => by simpa using (hp.mem_iff.mp hi)
  have hes : ∀ i, es[i]? = (L[i]?).map fun (p : Addr × NestedKey) => (hsh w p.2, Value.ref p.1) := fun i => by
    rw [← Array.getElem?_toList, hr, rowsN, List.getElem?_map]
  refine ⟨order.toList.filterMap fun i => L[i]?, ?_, ?_, ?_⟩
  · rw [Array.toList_filterMap]
    simp only [hes]
    rw [rowsN, List.map_filterMap]
  · have h1 : (order.toList.filterMap fun i => L[i]?).Perm ((List.range L.length).filterMap fun i => L[i]?) := hp.filterMap _
    have h2 : ((List.range L.length).filterMap fun i => L[i]?) = L := by
      apply List.ext_getElem?
      intro i
      have : ∀ n, n ≤ L.length → ((List.range n).filterMap fun i => L[i]?) = L.take n := by
        intro n
        induction n with
        | zero => intro _; simp
        | succ n ih =>
          intro hn
          rw [List.range_succ, List.filterMap_append, ih (by omega)]
          have hn' : n < L.length := by omega
          rw [List.take_succ, List.getElem?_eq_getElem hn']
          have : List.filterMap (fun i => L[i]?) [n] = [L[n]] := by
            rw [List.filterMap_cons, List.getElem?_eq_getElem hn']; rfl
          rw [this]; rfl
      rw [this _ (Nat.le_refl _), List.take_length]
    rw [h2] at h1
    exact h1
  · have : ∀ l : List Nat, (∀ i ∈ l, i < L.length) → (l.filterMap fun i => L[i]?).map (fun p => hsh w p.2) = l.map fun i => (es.map fun x => x.1).getD i 0 := by
      intro l
      induction l with
      | nil => intro _; rfl
      | cons i l ih =>
        intro h
        have hi := h i List.mem_cons_self
        have e : L[i]? = some L[i] := List.getElem?_eq_getElem hi
        have e2 : (es.map fun x => x.1).getD i 0 = hsh w L[i].2 := by
          rw [Array.getD_eq_getD_getElem?, Array.getElem?_map, hes i, e]; rfl
        rw [List.filterMap_cons, e]
        simp only [List.map_cons, e2, ih fun j hj => h j (List.mem_cons_of_mem _ hj)]
    exact this _ hmem
theorem fits_of {t : SetTable} {hs : List Int} (h : TabOk t hs) {n : Nat} (hn : n = hs.length) (hm : hs.length ≤ t.mask) : t.fits n = true := by
  have h1 := h.sz
  have h2 := h.dm
  have : t.fill ≤ t.mask := by unfold SetTable.fill; rw [h2]; simp; omega
  simp [SetTable.fits, h1, hn, this]
theorem relay_atN {o : Obj} (ho : s.heap.get? a = some o) (hex : o.ExactSet) (hd : o.data = .set es ep t) (hr : es.toList = rowsN w L) (htab : TabOk t (L.map fun p => hsh w p.2)) (hsz : L.length ≤ t.mask) (nd : (L.map (·.2)).Nodup) (tup : ∀ p ∈ L, Is s.heap p.2 p.1)
    (led : w.params.followText "set-order" = true ∨ t.led = true) (few : L.length < 64) {wanted M' : Nat} (hM : SetTable.sizeAbove wanted - 1 = M') (mok : MaskOk M') (hle : SetTable.sizeAbove wanted ≤ 128) (room : L.length * 5 < M' * 3) {Q : Unit → Shared → Prop}
    (q : ∀ h' L' es' ep' t', Heap.SameBut a s.heap h' → SetN w h' a L' es' ep' t' → L'.Perm L → Q () { s with heap := h' }) : wpAny (model P w) A (setRelay a wanted) Q E s := by
  have hes : es.size = L.length := by have := congrArg List.length hr; simpa [rowsN] using this
  rw [setRelay_eq]
  refine wpAny_bind (wpAny_setState_of ho hd (fits_of htab (by simp [hes]) (by simpa using hsz)) ?_)
  refine wp_if_neg (by rw [sizeLine_eq]; omega) ?_
  have hm127 : M' ≤ 127 := by rcases mok with z | z | z <;> omega
  obtain ⟨t', order, h1, h2, h3, h4, h5, h6, h7⟩ := relaid_ok t (hs := es.map fun x => x.1) hM mok (by simp [hes]; omega)
  rw [Array.size_map, hes] at h2
  obtain ⟨L2, g1, g2, g3⟩ := order_rowsN L es order hr h2
  rw [h1]
  have hl2 : L2.length = L.length := g2.length_eq
  have hsz2 : (order.filterMap fun x => es[x]?).size = es.size := by
    have := congrArg List.length g1
    simp only [rowsN, Array.length_toList, List.length_map] at this
    omega
  refine wpAny_bind ?_
  refine wp_if_neg (by simp [hsz2]) ?_
  refine wpAny_pure ?_
  have sb := Heap.SameBut.update s.heap a (Obj.putSet (order.filterMap fun x => es[x]?) t')
  obtain ⟨oc, od, oda, osl⟩ := o
  simp only at hd
  subst hd
  have hg : (s.heap.update a (Obj.putSet (order.filterMap fun x => es[x]?) t')).get? a = some ⟨oc, od, .set (order.filterMap fun x => es[x]?) (ep + 1) t', osl⟩ := Heap.get?_update_self _ ho rfl
  refine wpAny_storeSet_of ho rfl ?_ (by rw [hsz2, hes, sizeLine_eq]; omega)
  refine q _ L2 _ (ep + 1) t' sb ⟨⟨_, hg, ⟨hex.1, hex.2.1, hex.2.2⟩, rfl⟩, g1, ?_, ?_, fun p hp => (tup p (g2.mem_iff.mp hp)).same ho rfl sb, ?_, ?_, ?_⟩ g2
  · rw [g3]; exact h3
  · exact (g2.map _).nodup_iff.mpr nd
  · rw [h5]; exact led
  · rw [hl2, h4]; exact room
  · rw [hl2]; exact few
theorem add_atN (R : SetN w s.heap a L es ep t) {x : Addr} {k : NestedKey} (hx : Is s.heap k x) (hu : A.units + 8 < cLine) (hfew : L.length + 1 < 64) {Q : Bool → Shared → Prop}
    (q : ∀ b h' L' es' ep' t', Heap.SameBut a s.heap h' → SetN w h' a L' es' ep' t' → (k ∈ L.map (·.2) → L' = L) → (¬ k ∈ L.map (·.2) → L'.Perm ((x, k) :: L)) → Q b { s with heap := h' }) : wpAny (model P w) A (setAddHashed a (.ref x) (hsh w k)) Q E s := by
  obtain ⟨o, ho, hex, hd⟩ := R.ob
  unfold setAddHashed
  refine wpAny_holding ?_
  rw [setAddHashedIn_succ]
  refine wpAny_bind (wpAny_setState_of ho hd R.fits ?_)
  refine wp_if_neg (by simp [byScan, Value.scannable]) ?_
  refine wpAny_bind (search_atN R hx hu (fun hm => ?_) fun K hm hK hKb => ?_)
  · exact wpAny_pure (q false s.heap L es ep t (Heap.SameBut.refl _ _) R (fun _ => rfl) fun z => absurd hm z)
  · refine wpAny_bind (wpAny_setState_of ho hd R.fits ?_)
    obtain ⟨q1, q2, q3, q4, q5, q6, q7, q8, q9⟩ := TabOk.put R.tab hK hKb
    have hlen : (L.map fun p => hsh w p.2).length = L.length := List.length_map ..
    rw [hlen] at q2 q9
    have main : ∀ (t2 : SetTable), t2.mask = t.mask → t2.led = t.led → t2.place = (t.put (way t.mask (hsh w k) K)).1.place → t2.dummies = (t.put (way t.mask (hsh w k) K)).1.dummies → wpAny (model P w) A (do
        storeSet a (SetTable.insertAt es (SetTable.below t.place (way t.mask (hsh w k) K)) (hsh w k, .ref x)) t2
        if (!false && t2.tooFull) = true then do
          setRelay a (SetTable.grown (es.size + 1))
          pure true
        else pure true) Q E s := by
      intro t2 m1 m2 m3 m4
      have hes := R.size
      have hsz : (SetTable.insertAt es (SetTable.below t.place (way t.mask (hsh w k) K)) (hsh w k, Value.ref x)).size = L.length + 1 := by
        have := congrArg List.length (SetTable.toList_insertAt es (SetTable.below t.place (way t.mask (hsh w k) K)) (hsh w k, Value.ref x))
        simp only [Array.length_toList, List.length_append, List.length_take, List.length_cons, List.length_drop] at this
        omega
      let p := SetTable.below t.place (way t.mask (hsh w k) K)
      have hrow : (SetTable.insertAt es p (hsh w k, Value.ref x)).toList = rowsN w (L.take p ++ (x, k) :: L.drop p) := by
        rw [SetTable.toList_insertAt, R.rows]
        simp [rowsN, List.map_take, List.map_drop]
      have pm : (L.take p ++ (x, k) :: L.drop p).Perm ((x, k) :: L) := put_perm L p (x, k)
      have hL1 : (L.take p ++ (x, k) :: L.drop p).length = L.length + 1 := by simpa using pm.length_eq
      have htab : TabOk t2 ((L.take p ++ (x, k) :: L.drop p).map fun p => hsh w p.2) := by
        have e : ((L.take p ++ (x, k) :: L.drop p).map fun p => hsh w p.2) = (L.map fun p => hsh w p.2).take p ++ hsh w k :: (L.map fun p => hsh w p.2).drop p := by simp [List.map_take, List.map_drop]
        rw [e]
        refine ⟨by rw [m3]; exact q3.ris, by rw [m4]; exact q3.dm, by rw [m3]; exact q3.sz, by rw [m1]; exact R.tab.mok, fun z hz => by rw [m3] at hz; have := q3.bd z hz; rw [q4] at this; rw [m1]; exact this, fun i h j g1 g2 => ?_⟩
        rw [m3] at g2
        obtain ⟨kk, g3, g4⟩ := q3.reach i h j g1 g2
        rw [q4] at g3 g4
        exact ⟨kk, by rw [m1]; exact g3, fun k' hk' => by rw [m1, m3]; exact g4 k' hk'⟩
      have hnd : ((L.take p ++ (x, k) :: L.drop p).map (·.2)).Nodup := by
        rw [(pm.map _).nodup_iff]
        simp only [List.map_cons, List.nodup_cons]
        exact ⟨hm, R.nd⟩
      have htup : ∀ p' ∈ L.take p ++ (x, k) :: L.drop p, Is s.heap p'.2 p'.1 := fun p' hp' => by
        rcases List.mem_cons.mp (pm.mem_iff.mp hp') with rfl | z
        · exact hx
        · exact R.tup p' z
      have hfill : t2.fill = L.length + 1 := by
        unfold SetTable.fill at q9 ⊢
        rw [m3, m4]; exact q9
      have sb := Heap.SameBut.update s.heap a (Obj.putSet (SetTable.insertAt es p (hsh w k, Value.ref x)) t2)
      obtain ⟨oc, od, oda, osl⟩ := o
      simp only at hd
      subst hd
      have hg : (s.heap.update a (Obj.putSet (SetTable.insertAt es p (hsh w k, Value.ref x)) t2)).get? a = some ⟨oc, od, .set (SetTable.insertAt es p (hsh w k, Value.ref x)) (ep + 1) t2, osl⟩ := Heap.get?_update_self _ ho rfl
      refine wpAny_bind (wpAny_storeSet_of ho rfl ?_ (by rw [hsz, sizeLine_eq]; omega))
      have hled : w.params.followText "set-order" = true ∨ t2.led = true := by rw [m2]; exact R.led
      have htup2 : ∀ p' ∈ L.take p ++ (x, k) :: L.drop p, Is (s.heap.update a (Obj.putSet (SetTable.insertAt es p (hsh w k, Value.ref x)) t2)) p'.2 p'.1 := fun p' hp' => (htup p' hp').same ho rfl sb
      have hroom := R.room
      by_cases hf : t2.tooFull = true
      · refine wp_if_pos (by simp [hf]) ?_
        simp only [SetTable.tooFull, decide_eq_true_eq, hfill, m1] at hf
        have pick : ∃ M', SetTable.sizeAbove (SetTable.grown (es.size + 1)) - 1 = M' ∧ MaskOk M' ∧ SetTable.sizeAbove (SetTable.grown (es.size + 1)) ≤ 128 ∧ (L.length + 1) * 5 < M' * 3 := by
          rcases R.tab.mok with z | z | z
          · have hl : L.length = 4 := by omega
            rw [hes, hl]
            exact ⟨31, by rw [size_20], .inr (.inl rfl), by rw [size_20]; omega, by omega⟩
          · have hl : L.length = 18 := by omega
            rw [hes, hl]
            exact ⟨127, by rw [size_76], .inr (.inr rfl), by rw [size_76]; omega, by omega⟩
          · omega
        obtain ⟨M', g1, g2, g3, g4⟩ := pick
        refine wpAny_bind (relay_atN (L := L.take p ++ (x, k) :: L.drop p) (s := { s with heap := _ }) hg ⟨hex.1, hex.2.1, hex.2.2⟩ rfl hrow htab (by rw [hL1, m1]; omega) hnd htup2 hled (by omega) g1 g2 g3 (by rw [hL1]; exact g4) fun h' L' es' ep' t' sb' R' pm' => ?_)
        exact wpAny_pure (q true h' L' es' ep' t' (sb.trans sb') R' (fun z => absurd z hm) fun _ => pm'.trans pm)
      · refine wp_if_neg (by simp [hf]) ?_
        simp only [SetTable.tooFull, decide_eq_true_eq, hfill, m1] at hf
        refine wpAny_pure (q true _ (L.take p ++ (x, k) :: L.drop p) _ (ep + 1) t2 sb ⟨⟨_, hg, ⟨hex.1, hex.2.1, hex.2.2⟩, rfl⟩, hrow, htab, hnd, htup2, hled, ?_, ?_⟩ (fun z => absurd z hm) fun _ => pm)
        · rw [hL1, m1]; omega
        · omega
    obtain ⟨b, hb⟩ := hashBy_nested (P := P) (w := w) 8 hx.1
    dsimp only
    generalize hpt : t.put (way t.mask (hsh w k) K) = tp at q1 q3 q4 q5 q6 q7 q8 q9 main ⊢
    obtain ⟨t1, p1⟩ := tp
    simp only at q1 q3 q4 q5 q6 q7 q8 q9 main
    subst q1
    split
    · refine wpAny_bind (hb ?_)
      cases b with
      | true => exact main t1 q4 q5 rfl rfl
      | false => exact main { t1 with plain := false } q4 q5 rfl rfl
    · refine wpAny_bind (wpAny_pure ?_)
      exact main t1 q4 q5 rfl rfl
end
end EvS

set_option maxRecDepth 100000
/-! Sets of nested tuples: 4. set(x). -/
namespace EvS
open PySem PySem.Spec PyProof.Rows L2
def newSetO (w : World) : Obj := { cls := .type "set", data := .set #[] 0 (SetTable.fresh 0 0 !w.params.followText "set-order") }
section
variable {P : Program} {w : World} {A : Around} {E : Value → Shared → Prop} {s : Shared}
theorem init_gen {T : String} {l : Addr} {ol : Obj} (hol : s.heap.get? l = some ol) (hc : ol.cls = .type T) (h1 : isSubtype (.type T) (.type "set") = pure false) (h2 : isSubtype (.type T) (.type "frozenset") = pure false) (h3 : ((Value.type T) == Value.type "dict") = false)
    {S : Addr} {R : PySem.Fin → Shared → Prop} (hS : s.heap.get? S = some (newSetO w))
    (run : wpAny (model P w) A (pyIter (.ref l)) (fun x s1 => codeAny (model P w) A (.builtin "set.update.loop" ⟨[.ref S, x], []⟩) (fun r s' => match r with
      | .ok (.ret _) => R (.done (.ret .none)) s'
      | .ok _ => False
      | .error e => E e s') s1) E s) :
    wpAny (model P w) A (Builtin.«set.__init__» ⟨[.ref S, .ref l], []⟩) R E s := by
  have hT : s.TypeIs (.ref S) "set" := ⟨_, hS, rfl⟩
  have hne : (SetTable.fresh 0 0 !w.params.followText "set-order").fill = 0 := rfl
  unfold Builtin.«set.__init__»
  refine wpAny_bind (wpAny_ite_true rfl (wpAny_pure ?_))
  show wpAny _ _ (do let __x ← typeNameOfCut 200 (.ref S); _) _ _ _
  refine wpAny_bind ?_
  show wpAny _ _ (do let __x ← shownTypeOf (.ref S); _) _ _ _
  refine wpAny_bind ?_
  show wpAny _ _ (do let __x ← typeOf (.ref S); _) _ _ _
  refine wpAny_bind (wpAny_typeOf hT (wpAny_ite_false rfl (wpAny_pure ?_)))
  refine wpAny_pure ?_
  refine wpAny_bind ?_
  unfold checkCount
  refine wpAny_ite_false rfl (wpAny_ite_false rfl (wpAny_ite_false rfl (wpAny_pure ?_)))
  refine wpAny_bind (wpAny_pure ?_)
  show wpAny _ _ (do let __x ← setUsed S; _) _ _ _
  refine wpAny_bind ?_
  show wpAny _ _ (do let __x ← setState S; _) _ _ _
  refine wpAny_bind (wpAny_setState_of hS rfl rfl (wpAny_pure ?_))
  refine wpAny_ite_false rfl ?_
  show wpAny _ _ (do let __x ← Builtin.Frozenset.updateFrom "set.__init__" S (.ref l); _) _ _ _
  refine wpAny_bind ?_
  unfold Builtin.Frozenset.updateFrom
  have hl : s.TypeIs (.ref l) T := ⟨ol, hol, hc⟩
  refine wpAny_bind ?_
  unfold Builtin.Frozenset.isAnySet
  refine wpAny_bind (wpAny_isInstance hl h1 ?_)
  refine wpAny_bind (wpAny_typeOf hl ?_)
  refine wpAny_of_eq h2 ?_
  refine wpAny_ite_false rfl ?_
  refine wpAny_bind (wpAny_typeOf hl ?_)
  refine wpAny_ite_false (by rw [h3]; rfl) ?_
  refine wpAny_bind (thn run fun x s1 h => wpAny_bind (wpAny_runValue (codeAny_mono h fun r s2 hr => ?_)))
  match r, hr with
  | .ok (.ret v), hr => exact wpAny_pure (wpAny_pure hr)
  | .error e, hr => exact hr
  | .ok .next, hr => exact hr
  | .ok .brk, hr => exact hr
  | .ok .cont, hr => exact hr
/-- set(x): what the walk of x must do -/
theorem call_set_gen {T : String} {l : Addr} {ol : Obj} (hh : A.handled = none) (hol : s.heap.get? l = some ol) (hc : ol.cls = .type T) (h1 : isSubtype (.type T) (.type "set") = pure false) (h2 : isSubtype (.type T) (.type "frozenset") = pure false) (h3 : ((Value.type T) == Value.type "dict") = false)
    {Q : Value → Shared → Prop}
    (run : wpAny (model P w) A.in1.in1 (pyIter (.ref l)) (fun x s1 => codeAny (model P w) A.in1.in1 (.builtin "set.update.loop" ⟨[.ref s.heap.objs.size, x], []⟩) (fun r s' => match r with
      | .ok (.ret _) => Q (.ref s.heap.objs.size) s'
      | .ok _ => False
      | .error e => E e s') s1) E { s with heap := s.heap.push (newSetO w) }) : wpAny (model P w) A (call (.type "set") [.ref l]) Q E s := by
  obtain ⟨c, tl, hmro⟩ := F.called_set.mro
  have hmade := F.called_set.made
  have hsub := F.called_set.sub
  have hct := F.typeCall_set_1 (Value.ref l)
  refine wpAny_call (codeAny_of_tree ?_)
  refine wpAny_pure ⟨Code.quiet_builtin _ (by decide +kernel), codeAny_builtin F.entry_type_call ?_⟩
  rw [Around.under_plain (weight_type_call_type "set" [Value.ref l] []) rfl]
  unfold Builtin.«type.__call__»
  dsimp only
  refine wpAny_ite_false rfl (wpAny_ite_false rfl ?_)
  refine wpAny_bind (wpAny_of_eq hct ?_)
  refine wpAny_bind (wpAny_of_eq hmro ?_)
  refine wpAny_ite_false rfl ?_
  refine wpAny_bind (wpAny_of_eq hmade ?_)
  refine wpAny_bind (wpAny_pure ?_)
  refine wpAny_bind (wpAny_holding (wpAny_call (codeAny_mono (code_set_led1 (E := E) (Value.ref l) (Q₁ := fun obj s₁ => obj = .ref s.heap.objs.size ∧ s₁ = { s with heap := s.heap.push (newSetO w) }) ⟨rfl, rfl⟩) fun r s₁ hr => ?_)))
  match r, hr with
  | .error e, hr => exact hr
  | .ok .next, hr => exact hr.elim
  | .ok .brk, hr => exact hr.elim
  | .ok .cont, hr => exact hr.elim
  | .ok (.ret obj), hr =>
    obtain ⟨rfl, rfl⟩ := hr
    have hS : (s.heap.push (newSetO w)).get? s.heap.objs.size = some (newSetO w) := Heap.get?_push_size s.heap rfl
    have hT : Shared.TypeIs { s with heap := s.heap.push (newSetO w) } (.ref s.heap.objs.size) "set" := ⟨_, hS, rfl⟩
    have hli := F.called_set.init.lookup
    have hbi := F.called_set.init.bind (Value.ref s.heap.objs.size)
    refine wpAny_bind (wpAny_isInstance hT hsub (wpAny_ite_false rfl ?_))
    refine wpAny_bind (wpAny_holding ?_)
    show wpAny _ _ (do let __x ← specialOf (.ref s.heap.objs.size) "__init__"; _) _ _ _
    refine wpAny_bind (wpAny_specialOf hT hli (wpAny_holding ?_))
    refine wpAny_bind (wpAny_of_eq hbi ?_)
    refine wpAny_bind (wpAny_call (codeAny_mono (R := wants (fun r s₂ => r = .none ∧ Q (.ref s.heap.objs.size) s₂) E) (codeAny_call_builtin F.called_set.init.plain F.entry_set_init (check_set_init_1 hT (init_gen (A := A.in1.in1) (s := { s with heap := s.heap.push (newSetO w) }) (Heap.get?_push_of_some _ hol) hc h1 h2 h3 hS ?_))) ?_))
    · refine wpAny_mono run (fun x s1 h => codeAny_mono h fun r s2 hr => ?_) (fun e s1 h => h)
      match r, hr with
      | .error e, hr => exact hr
      | .ok .next, hr => exact hr.elim
      | .ok .brk, hr => exact hr.elim
      | .ok .cont, hr => exact hr.elim
      | .ok (.ret v), hr => exact ⟨rfl, hr⟩
    · intro r s2 hr
      match r, hr with
      | .error e, hr => exact hr
      | .ok .next, hr => exact hr.elim
      | .ok .brk, hr => exact hr.elim
      | .ok .cont, hr => exact hr.elim
      | .ok (.ret v), hr =>
        obtain ⟨rfl, hr⟩ := hr
        refine wpAny_pure ?_
        refine wpAny_ite_false rfl ?_
        exact wpAny_pure hr
end
end EvS

set_option maxRecDepth 100000
/-! Sets of nested tuples: 5. a list or a tuple, walked into a set. -/
namespace EvS
open PySem PySem.Spec PyProof.Rows L2
structure GotN (ks : List (Addr × NestedKey)) (i : Nat) (L : List (Addr × NestedKey)) : Prop where
  sub : ∀ p ∈ L, p ∈ ks.take i
  all : ∀ p ∈ ks.take i, p.2 ∈ L.map (·.2)
  len : L.length ≤ i
section
variable {P : Program} {w : World} {A : Around} {E : Value → Shared → Prop} {s : Shared}
theorem take_succ' {α : Type} {l : List α} {i : Nat} {x : α} (h : l[i]? = some x) : l.take (i + 1) = l.take i ++ [x] := by
  rw [List.take_succ, h]; rfl
theorem GotN.same {ks : List (Addr × NestedKey)} {i : Nat} {L : List (Addr × NestedKey)} (g : GotN ks i L) {p : Addr × NestedKey} (hp : ks[i]? = some p) (c : p.2 ∈ L.map (·.2)) : GotN ks (i + 1) L := by
  refine ⟨fun q hq => ?_, fun q hq => ?_, Nat.le_succ_of_le g.len⟩
  · rw [take_succ' hp]; exact List.mem_append_left _ (g.sub q hq)
  · rw [take_succ' hp] at hq
    rcases List.mem_append.mp hq with h | h
    · exact g.all q h
    · simp only [List.mem_singleton] at h; subst h; exact c
theorem GotN.more {ks : List (Addr × NestedKey)} {i : Nat} {L L' : List (Addr × NestedKey)} (g : GotN ks i L) {p : Addr × NestedKey} (hp : ks[i]? = some p) (pm : L'.Perm ((p.1, p.2) :: L)) : GotN ks (i + 1) L' := by
  refine ⟨fun q hq => ?_, fun q hq => ?_, ?_⟩
  · rw [take_succ' hp]
    rcases List.mem_cons.mp (pm.mem_iff.mp hq) with h | h
    · subst h; exact List.mem_append_right _ (by simp)
    · exact List.mem_append_left _ (g.sub q h)
  · rw [take_succ' hp] at hq
    rw [(pm.map _).mem_iff]
    rcases List.mem_append.mp hq with h | h
    · exact List.mem_cons_of_mem _ (g.all q h)
    · simp only [List.mem_singleton] at h; subst h; exact List.mem_cons_self
  · rw [pm.length_eq]; simpa using g.len
theorem SetN.keep {h h' : Heap} {a : Addr} {L : List (Addr × NestedKey)} {es : Array (Int × Value)} {ep : Nat} {t : SetTable} (R : SetN w h a L es ep t) (k : ∀ o, h.get? a = some o → h'.get? a = some o) (kt : ∀ p ∈ L, Is h' p.2 p.1) : SetN w h' a L es ep t := by
  obtain ⟨o, ho, hx⟩ := R.ob
  exact ⟨⟨o, k o ho, hx⟩, R.rows, R.tab, R.nd, kt, R.led, R.room, R.few⟩
theorem update_loopN {I : Addr} {fp wr : List Addr} {Gn : Array GenState → Array GenState → Prop} {n : Nat} {Pv : Nat → Value → Prop} {St : Nat → Shared → Prop} {R : Result → Shared → Prop} (W : WalksS P w A.in1 I fp wr Gn n Pv St) (S : Addr) (hSf : ¬ S ∈ fp)
    (ks : List (Addr × NestedKey)) (hn : n = ks.length) (hfew : ks.length < 64) (hval : ∀ i v, Pv i v → ∃ p, ks[i]? = some p ∧ v = .ref p.1) (h0 : Heap) (hk : ∀ p ∈ ks, Is h0 p.2 p.1) (hS0 : h0.get? S = none) (hw0 : ∀ b ∈ wr, h0.get? b = none) (hu : A.in1.units + 8 < cLine) :
    ∀ (k i : Nat) (s : Shared), n - i = k → i ≤ n → St i s → (∀ b o, h0.get? b = some o → s.heap.get? b = some o) → (∃ L es ep t, SetN w s.heap S L es ep t ∧ GotN ks i L) →
      (∀ s' L es ep t, Moved (S :: wr) Gn s s' → SetN w s'.heap S L es ep t → GotN ks n L → (∀ b o, h0.get? b = some o → s'.heap.get? b = some o) → R (.ok (.ret .none)) s') → codeAny (model P w) A (.builtin "set.update.loop" ⟨[.ref S, .ref I], []⟩) R s
  | 0, i, s, hk', hi, hst, hkp, ⟨L, es, ep, t, hS, g⟩, hR => by
    have hin : i = n := by omega
    subst hin
    have hSw : ¬ S ∈ wr := fun z => hSf (W.sub S z)
    refine codeAny_builtin PyProof.Rows.F.entry_set_update_loop ?_
    rw [Around.under_plainId PyProof.Rows.F.plain_set_update_loop]
    refine wpAny_bind (W.done s _ _ hst fun s' hm => ?_)
    have hkp' : ∀ b o, h0.get? b = some o → s'.heap.get? b = some o := fun b o e => hm.heap b o (fun z => by rw [hw0 b z] at e; cases e) (hkp b o e)
    have sub : ∀ p ∈ L, p ∈ ks := fun p hp => List.mem_of_mem_take (g.sub p hp)
    exact wpAny_pure (hR s' L es ep t ⟨fun b o hb e => hm.heap b o (fun z => hb (List.mem_cons_of_mem _ z)) e, hm.gens, hm.drawn, hm.os, hm.toks⟩ (hS.keep (fun o e => hm.heap S o hSw e) fun p hp => (hk p (sub p hp)).keep hkp') g hkp')
  | k + 1, i, s, hk', hi, hst, hkp, ⟨L, es, ep, t, hS, g⟩, hR => by
    have hlt : i < n := by omega
    have hSw : ¬ S ∈ wr := fun z => hSf (W.sub S z)
    refine codeAny_builtin PyProof.Rows.F.entry_set_update_loop ?_
    rw [Around.under_plainId PyProof.Rows.F.plain_set_update_loop]
    refine wpAny_bind (W.item i s _ _ hlt hst fun v s' hP hst' hm => ?_)
    obtain ⟨p, hp, rfl⟩ := hval i v hP
    have hkp' : ∀ b o, h0.get? b = some o → s'.heap.get? b = some o := fun b o e => hm.heap b o (fun z => by rw [hw0 b z] at e; cases e) (hkp b o e)
    have sub : ∀ p ∈ L, p ∈ ks := fun p hp => List.mem_of_mem_take (g.sub p hp)
    have hS' := hS.keep (h' := s'.heap) (fun o e => hm.heap S o hSw e) fun p hp => (hk p (sub p hp)).keep hkp'
    have hx := (hk p (List.mem_of_getElem? hp)).keep hkp'
    refine wpAny_bind (wpAny_holding ?_)
    show wpAny _ _ (setAdd S (.ref p.1)) _ _ _
    unfold setAdd
    refine wpAny_holding (wpAny_bind ((nestedKind P w).pyHash hu hx ?_))
    show wpAny (model P w) A.in1 (setAddHashed S (.ref p.1) (hsh w p.2)) _ _ _
    refine add_atN (P := P) (s := { s' with toks := s'.toks + (nestedKind P w).draws p.2 }) hS' hx hu (by have := g.len; omega) fun b h' L' es' ep' t' hsb hS2 c1 c2 => ?_
    have g' : GotN ks (i + 1) L' := by
      by_cases c : p.2 ∈ L.map (·.2)
      · rw [c1 c]; exact g.same hp c
      · exact g.more hp (c2 c)
    have hkp2 : ∀ b o, h0.get? b = some o → h'.get? b = some o := fun b o e => (hsb.2 b fun z => by subst z; rw [hS0] at e; cases e).trans (hkp' b o e)
    refine wpAny_pure ⟨plainId_quiet PyProof.Rows.F.plain_set_update_loop _, ?_⟩
    refine update_loopN W S hSf ks hn hfew hval h0 hk hS0 hw0 hu k (i + 1) _ (by omega) (by omega) ?_ hkp2 ⟨L', es', ep', t', hS2, g'⟩ fun s2 L2 es2 ep2 t2 hm2 hS3 g3 hk3 => hR s2 L2 es2 ep2 t2 ?_ hS3 g3 hk3
    · exact W.frame (i + 1) s' h' _ hst' (Nat.le_add_right _ _) fun b hb o e => by rw [hsb.2 b fun z => hSf (z ▸ hb)]; exact e
    · refine ⟨fun b o hb e => hm2.heap b o hb ?_, W.gtrans _ _ _ hm.gens hm2.gens, hm2.drawn.trans hm.drawn, hm2.os.trans hm.os, Nat.le_trans hm.toks (Nat.le_trans (Nat.le_add_right _ _) hm2.toks)⟩
      show h'.get? b = some o
      rw [hsb.2 b fun z => hb (by subst z; exact List.mem_cons_self)]
      exact hm.heap b o (fun z => hb (List.mem_cons_of_mem _ z)) e
theorem get_none_of {h : Heap} {a : Addr} (e : h.objs.size ≤ a) : h.get? a = none := by
  cases q : h.get? a with
  | none => rfl
  | some o => exact absurd (Heap.lt_size q) (Nat.not_lt.mpr e)
theorem setN_fresh (P : Program) {h : Heap} {a : Addr} (e : h.get? a = some (newSetO w)) : SetN w h a [] #[] 0 (SetTable.fresh 0 0 !w.params.followText "set-order") := by
  have z := (setTR_fresh (P := P) (w := w) e).tab
  refine ⟨⟨_, e, ⟨rfl, rfl, rfl⟩, rfl⟩, rfl, z, List.nodup_nil, fun p hp => (by cases hp), ?_, ?_, ?_⟩
  · cases hf : w.params.followText "set-order"
    · exact .inr rfl
    · exact .inl rfl
  · show 0 * 5 < 7 * 3; omega
  · show 0 < 64; omega
/-- set(x) of a list or a tuple of nested tuples, fewer than 64 -/
theorem call_setN (hh : A.handled = none) {l : Addr} {items : Array Value} (hl : s.heap.IsList l items ∨ s.heap.IsTuple l items) (ks : List (Addr × NestedKey)) (hit : items.toList = ks.map fun p => Value.ref p.1) (hk : ∀ p ∈ ks, Is s.heap p.2 p.1) (hfew : ks.length < 64) (hu : A.units + 20 < cLine)
    {Q : Value → Shared → Prop} (q : ∀ s' L es ep t, SetN w s'.heap s.heap.objs.size L es ep t → GotN ks ks.length L → (∀ b o, s.heap.get? b = some o → s'.heap.get? b = some o) → s'.gens = s.gens → s'.os = s.os → s'.drawn = s.drawn → Q (.ref s.heap.objs.size) s') :
    wpAny (model P w) A (call (.type "set") [.ref l]) Q E s := by
  have hsz : items.size = ks.length := by have := congrArg List.length hit; simpa using this
  have hval : ∀ (i : Nat) (v : Value), items[i]? = some v → ∃ p, ks[i]? = some p ∧ v = .ref p.1 := fun i v e => by
    rw [← Array.getElem?_toList, hit, List.getElem?_map] at e
    obtain ⟨p, h1, h2⟩ := Option.map_eq_some_iff.mp e
    exact ⟨p, h1, h2.symm⟩
  have hun : A.in1.in1.in1.units + 8 < cLine := by show A.units + 1 + 1 + 1 + 8 < cLine; omega
  have hS : (s.heap.push (newSetO w)).get? s.heap.objs.size = some (newSetO w) := Heap.get?_push_size s.heap rfl
  rcases hl with hl | hl
  · obtain ⟨ol, ho, hc, nl, hd⟩ := hl
    have hlS := Heap.lt_size ho
    have ho' := Heap.get?_push_of_some (newSetO w) ho
    refine call_set_gen hh ho hc F.sub_list_set F.sub_list_frozenset (by decide +kernel) ?_
    refine wpAny_pyIter_list (s := { s with heap := s.heap.push (newSetO w) }) ⟨ol, ho', hc, nl, hd⟩ ?_
    let h2 := (s.heap.push (newSetO w)).push { cls := Value.type "list_iterator", data := Data.fields #[Value.ref l, Value.int 0 0] }
    have hsz2 : (s.heap.push (newSetO w)).objs.size = s.heap.objs.size + 1 := Heap.size_push _ _
    have hne : l ≠ (s.heap.push (newSetO w)).objs.size := fun e => Nat.lt_irrefl _ (Nat.lt_of_lt_of_le hlS (Nat.le_trans (Nat.le_succ _) (Nat.le_of_eq (hsz2.symm.trans e.symm))))
    have hSf : ¬ s.heap.objs.size ∈ [(s.heap.push (newSetO w)).objs.size, l] := by
      rw [hsz2]
      intro z
      rcases List.mem_cons.mp z with z | z
      · exact Nat.ne_of_lt (Nat.lt_succ_self _) z
      · exact Nat.ne_of_gt hlS (List.mem_singleton.mp z)
    have ol2 : h2.get? l = some ol := Heap.get?_push_of_some _ ho'
    have hit2 : h2.get? (s.heap.push (newSetO w)).objs.size = some { cls := Value.type "list_iterator", data := Data.fields #[Value.ref l, Value.int 0 0] } := Heap.get?_push_size _ rfl
    have hS2 : h2.get? s.heap.objs.size = some (newSetO w) := Heap.get?_push_of_some _ hS
    refine update_loopN (Walks.toS (Walks.list (A := A.in1.in1.in1) (by simpa using hh) _ l hne items)) s.heap.objs.size hSf ks hsz hfew hval s.heap hk (get_none_of (Nat.le_refl _)) (fun b hb => by simp only [List.mem_singleton] at hb; subst hb; exact get_none_of (Nat.le_trans (Nat.le_succ _) (Nat.le_of_eq hsz2.symm))) hun _ 0 { s with heap := h2 } rfl (Nat.zero_le _)
      ⟨⟨_, hit2, rfl, rfl⟩, ol, ol2, hc, nl, hd⟩ (fun b o e => Heap.get?_push_of_some _ (Heap.get?_push_of_some _ e)) ⟨[], #[], 0, _, setN_fresh P hS2, ⟨fun p hp => (by cases hp), fun p hp => (by simp at hp), Nat.le_refl _⟩⟩ fun s' L es ep t hm hN g kp => ?_
    exact q s' L es ep t hN (hsz ▸ g) kp hm.gens hm.os hm.drawn
  · obtain ⟨ol, ho, hc, nl, hd⟩ := hl
    have hlS := Heap.lt_size ho
    have ho' := Heap.get?_push_of_some (newSetO w) ho
    refine call_set_gen hh ho hc F.sub_tuple_set F.sub_tuple_frozenset (by decide +kernel) ?_
    refine wpAny_pyIter_tuple (s := { s with heap := s.heap.push (newSetO w) }) ⟨ol, ho', hc, nl, hd⟩ ?_
    let h2 := (s.heap.push (newSetO w)).push { cls := Value.type "tuple_iterator", data := Data.fields #[Value.ref l, Value.int 0 0] }
    have hsz2 : (s.heap.push (newSetO w)).objs.size = s.heap.objs.size + 1 := Heap.size_push _ _
    have hne : l ≠ (s.heap.push (newSetO w)).objs.size := fun e => Nat.lt_irrefl _ (Nat.lt_of_lt_of_le hlS (Nat.le_trans (Nat.le_succ _) (Nat.le_of_eq (hsz2.symm.trans e.symm))))
    have hSf : ¬ s.heap.objs.size ∈ [(s.heap.push (newSetO w)).objs.size, l] := by
      rw [hsz2]
      intro z
      rcases List.mem_cons.mp z with z | z
      · exact Nat.ne_of_lt (Nat.lt_succ_self _) z
      · exact Nat.ne_of_gt hlS (List.mem_singleton.mp z)
    have ol2 : h2.get? l = some ol := Heap.get?_push_of_some _ ho'
    have hit2 : h2.get? (s.heap.push (newSetO w)).objs.size = some { cls := Value.type "tuple_iterator", data := Data.fields #[Value.ref l, Value.int 0 0] } := Heap.get?_push_size _ rfl
    have hS2 : h2.get? s.heap.objs.size = some (newSetO w) := Heap.get?_push_of_some _ hS
    refine update_loopN (Walks.toS (Walks.tuple (A := A.in1.in1.in1) (by simpa using hh) _ l hne items)) s.heap.objs.size hSf ks hsz hfew hval s.heap hk (get_none_of (Nat.le_refl _)) (fun b hb => by simp only [List.mem_singleton] at hb; subst hb; exact get_none_of (Nat.le_trans (Nat.le_succ _) (Nat.le_of_eq hsz2.symm))) hun _ 0 { s with heap := h2 } rfl (Nat.zero_le _)
      ⟨⟨_, hit2, rfl, rfl⟩, ol, ol2, hc, nl, hd⟩ (fun b o e => Heap.get?_push_of_some _ (Heap.get?_push_of_some _ e)) ⟨[], #[], 0, _, setN_fresh P hS2, ⟨fun p hp => (by cases hp), fun p hp => (by simp at hp), Nat.le_refl _⟩⟩ fun s' L es ep t hm hN g kp => ?_
    exact q s' L es ep t hN (hsz ▸ g) kp hm.gens hm.os hm.drawn
end
end EvS

set_option maxRecDepth 100000
/-! Sets of nested tuples: 6. sorted(the set). -/
namespace EvS
open PySem PySem.Spec PyProof.Rows L2
section
variable {P : Program} {w : World} {A : Around} {E : Value → Shared → Prop} {s : Shared} {a : Addr} {L : List (Addr × NestedKey)} {es : Array (Int × Value)} {ep : Nat} {t : SetTable}
theorem sorted_setN (hh : A.handled = none) (R : SetN w s.heap a L es ep t) {Q : Value → Shared → Prop}
    (q : ∀ (s1 : Shared) (vs : List Value), (∀ b o, s.heap.get? b = some o → s1.heap.get? b = some o) → s.heap.objs.size ≤ s1.heap.objs.size → s1.gens = s.gens → s1.os = s.os → vs.Perm (L.map fun p => Value.ref p.1) →
      ∃ κ, PySem.W.SortsAt P w A.in1.in1 { s1 with heap := PySem.W.sortingHeap (s1.heap.push (seqObj "list" vs.toArray 0)) s1.heap.objs.size vs } κ vs ∧
        Q (.ref s1.heap.objs.size) { s1 with heap := sortedHeap (s1.heap.push (seqObj "list" vs.toArray 0)) s1.heap.objs.size vs (PySem.W.sortVals κ false vs vs).toArray }) :
    wpAny (model P w) A (call (.builtin "sorted") [.ref a]) Q E s := by
  obtain ⟨o, ho, hex, hd⟩ := R.ob
  have hfew := R.few
  have hsz := R.size
  refine Calls.call_function_entry kind_sorted plain_sorted entry_sorted (args_sorted1 (Value.ref a)) ?_
  show wpAny _ _ (Builtin.sorted ⟨[.ref a], []⟩) _ _ _
  unfold Builtin.sorted
  refine wpAny_bind (wpAny_pure ?_)
  refine wpAny_bind (collect_set (A := A.in1) (by simpa using hh) ⟨o, ho, hex.1, hd⟩ R.fits (by unfold scanBound; omega) R.tab.ris R.led fun s1 vs k1 hz g1 o1 pm => ?_)
  have hes : es.toList.map (fun x => x.2) = L.map fun p => Value.ref p.1 := by rw [R.rows]; simp [rowsN, Function.comp_def]
  rw [hes] at pm
  have hvl : vs.length < 64 := by rw [pm.length_eq, List.length_map]; exact hfew
  obtain ⟨κ, S, hq⟩ := q s1 vs k1 hz g1 o1 pm
  have hle : vs.length ≤ sizeLine := by rw [sizeLine_eq]; omega
  refine wpAny_bind (wpAny_newList ?_ hle)
  have hoL : (s1.heap.push (seqObj "list" vs.toArray 0)).get? s1.heap.objs.size = some (seqObj "list" vs.toArray 0) := Heap.get?_push_size s1.heap rfl
  refine wpAny_bind (wpAny_holding (PyProof.Rows.wpAny_call_entry_kw PyProof.Rows.slot_list_sort ⟨_, hoL, rfl⟩ PyProof.Rows.entry_list_sort ?_ (PyProof.Rows.args_list_sort _)))
  refine PySem.W.list_sort_vals hoL S hle ?_
  exact ⟨_, rfl, wpAny_pure ⟨_, rfl, hq⟩⟩
end
end EvS

set_option maxRecDepth 100000
/-! sorted(set(x)), len(set(x)). -/
namespace Ev
open PySem PySem.Spec PyProof.Rows L2 PySem.W PySem.SeqAt EvS

section
variable {α β : Type}
theorem perm_map_inv {f : α → β} : ∀ {l : List β} {m : List α}, l.Perm (m.map f) → ∃ m' : List α, m'.Perm m ∧ l = m'.map f
  | [], m, h => by
    have : m = [] := by have := h.length_eq; simpa using this.symm
    subst this; exact ⟨[], .refl _, rfl⟩
  | b :: l, m, h => by
    have hb : b ∈ m.map f := h.mem_iff.mp List.mem_cons_self
    obtain ⟨a, ha, rfl⟩ := List.mem_map.mp hb
    obtain ⟨s, t, rfl⟩ := List.append_of_mem ha
    have h2 : (f a :: l).Perm (f a :: (s ++ t).map f) := h.trans (by rw [List.map_append, List.map_cons, List.map_append]; exact List.perm_middle)
    obtain ⟨m1, p1, rfl⟩ := perm_map_inv (List.Perm.cons_inv h2)
    exact ⟨a :: m1, (p1.cons a).trans List.perm_middle.symm, rfl⟩
theorem nodup_of_map' {f : α → β} : ∀ {l : List α}, (l.map f).Nodup → l.Nodup
  | [], _ => List.nodup_nil
  | a :: l, h => by
    simp only [List.map_cons, List.nodup_cons] at h ⊢
    exact ⟨fun q => h.1 (List.mem_map.mpr ⟨a, q, rfl⟩), nodup_of_map' h.2⟩
end
theorem dedup_sub : ∀ {ds : List D} {d : D}, d ∈ dedup ds → d ∈ ds
  | [], d, h => by cases h
  | x :: ds, d, h => by
    simp only [dedup] at h
    rcases List.mem_cons.mp h with rfl | h
    · exact List.mem_cons_self
    · exact List.mem_cons_of_mem _ (dedup_sub (List.mem_filter.mp h).1)
theorem dedup_all : ∀ {ds : List D} {d : D}, d ∈ ds → ∃ d' ∈ dedup ds, d'.toK = d.toK
  | x :: ds, d, h => by
    simp only [dedup]
    by_cases hk : d.toK = x.toK
    · exact ⟨x, List.mem_cons_self, hk.symm⟩
    · rcases List.mem_cons.mp h with rfl | h
      · exact absurd rfl hk
      · obtain ⟨d', h1, h2⟩ := dedup_all h
        refine ⟨d', List.mem_cons_of_mem _ (List.mem_filter.mpr ⟨h1, ?_⟩), h2⟩
        simp [h2, hk]
theorem dedup_nodup : ∀ {ds : List D}, ((dedup ds).map D.toK).Nodup
  | [] => List.nodup_nil
  | x :: ds => by
    simp only [dedup, List.map_cons, List.nodup_cons]
    refine ⟨fun h => ?_, ?_⟩
    · obtain ⟨d, hd, e⟩ := List.mem_map.mp h
      have := (List.mem_filter.mp hd).2
      simp [e] at this
    · exact (dedup_nodup (ds := ds)).sublist (List.filter_sublist.map _)
section
variable {G : Gl0} {M : Mo} {C : Orc} {T : Nt} {k : Nat} {N : List Str} {sc : Scope} {fc : Str → Bool} {W : WX} {X : Cx} {a b c : Expr} {es : List Expr} {a' b' c' : E} {es' : Es} {pos pos' : Pos}
variable {pins : List (Addr × Obj)} {σ : L2.St} {H : Hp} {s : Shared} {φ : Phi} {h : AH}

mutual
theorem nested_of (I : Inv X pins σ H s) (hK : X.K = G.K) : ∀ (d : D) (v : V) (u : Value), d.key = true → RD G φ H d v → RelV v u → NestedIs s.heap d.toK u
  | .non, v, u, hd, r, rv => by cases r; cases rv; exact .none
  | .bl b, v, u, hd, r, rv => by cases r; cases rv; exact .bool rfl
  | .int i, v, u, hd, r, rv => by cases r; obtain ⟨t, rfl⟩ := rv; exact .int i t
  | .str x, v, u, hd, r, rv => by cases r; obtain ⟨t, rfl⟩ := rv; exact .text x t
  | .tup ds, v, u, hd, r, rv => by
    cases r with
    | tup ha rs =>
      cases rv
      obtain ⟨its, hv, ⟨o, h1, h2, n, h3⟩, _⟩ := I.tuple (by rw [hK]; exact ha.sq)
      exact .tup h1 h2 h3 (nestedAll_of I hK ds _ _ hd rs (by simpa using hv))
  | .lst _, v, u, hd, r, rv => by cases hd
  | .dic _ _, v, u, hd, r, rv => by cases hd
  | .set _, v, u, hd, r, rv => by cases hd
  | .ref _, v, u, hd, r, rv => by cases hd
  | .fn _, v, u, hd, r, rv => by cases hd
  | .scr _, v, u, hd, r, rv => by cases hd
theorem nestedAll_of (I : Inv X pins σ H s) (hK : X.K = G.K) : ∀ (ds : List D) (vs : List V) (us : List Value), D.keys ds = true → RDs G φ H ds vs → Vals vs us → NestedAll s.heap (D.toKs ds) us
  | [], _, _, hd, .nil, .nil => .nil
  | d :: ds, _, _, hd, .cons r rs, .cons rv rvs => by
    simp only [D.keys, Bool.and_eq_true] at hd
    exact .cons (nested_of I hK d _ _ hd.1 r rv) (nestedAll_of I hK ds _ _ hd.2 rs rvs)
end
/-- a list of tuples that keys are made of, as the sets of nested tuples ask -/
theorem keys_list (I : Inv X pins σ H s) (hK : X.K = G.K) : ∀ {ds : List D} {xs : List V} {its : List Value}, RDs G φ H ds xs → Vals xs its → (∀ d ∈ ds, isTupD d = true ∧ keyOk d) →
    ∃ ks : List (Addr × NestedKey), its = ks.map (fun p => Value.ref p.1) ∧ (∀ p ∈ ks, Is s.heap p.2 p.1 ∧ ∃ d ∈ ds, d.toK = p.2 ∧ RD G φ H d (.ref p.1)) ∧ (∀ d ∈ ds, ∃ p ∈ ks, p.2 = d.toK) ∧ ks.length = ds.length
  | [], _, _, .nil, .nil, _ => ⟨[], rfl, fun p hp => (by cases hp), fun d hd => (by cases hd), rfl⟩
  | d :: ds, _, _, .cons r rs, .cons rv rvs, hd => by
    obtain ⟨ks, h1, h2, h3, h4⟩ := keys_list I hK rs rvs fun d' hd' => hd d' (List.mem_cons_of_mem _ hd')
    obtain ⟨ht, hk1, hk2⟩ := hd d List.mem_cons_self
    have hn := nested_of I hK d _ _ hk1 r rv
    cases d <;> try cases ht
    rename_i ts
    cases r with
    | @tup _ ys ad ha rr =>
      cases rv
      refine ⟨(ad, (D.tup ts).toK) :: ks, by rw [h1]; rfl, fun p hp => ?_, fun d' hd' => ?_, by simp [h4]⟩
      · rcases List.mem_cons.mp hp with rfl | hp
        · exact ⟨⟨hn, hk2⟩, _, List.mem_cons_self, rfl, .tup ha rr⟩
        · obtain ⟨z1, d', z2, z3⟩ := h2 p hp
          exact ⟨z1, d', List.mem_cons_of_mem _ z2, z3⟩
      · rcases List.mem_cons.mp hd' with rfl | hd'
        · exact ⟨_, List.mem_cons_self, rfl⟩
        · obtain ⟨p, z1, z2⟩ := h3 d' hd'
          exact ⟨p, List.mem_cons_of_mem _ z1, z2⟩
theorem inv_new (I : Inv X pins σ H s) {s2 : Shared} {p : Addr} {o : HO} (k : ∀ b u, s.heap.get? b = some u → s2.heap.get? b = some u) (hp : s.heap.objs.size ≤ p) (g : s2.gens = s.gens) (os : s2.os = s.os) (ob : ObjOk X.prog X.w (upd H p o) s2.heap p o) : Inv X pins σ (upd H p o) s2 := by
  have hn := I.hok.fresh hp
  have J := I.call (ch := []) (Un.laid k hp hn) (I.hok.laid k hp ob) (g' := s2.gens) (t' := s2.toks) (d' := s2.drawn) (by rw [g]; exact I.bare) (fun b z => by cases z)
  obtain ⟨hp2, g2, d2, t2, o2⟩ := s2
  simp only at os J ⊢
  subst os
  exact J
/-- the members of a set, in some order, are those of dedup -/
theorem members (ok : okSet ds) {ks L : List (Addr × NestedKey)} (hks : ∀ d ∈ ds, ∃ p ∈ ks, p.2 = d.toK) (g : GotN ks ks.length L) (nd : (L.map (·.2)).Nodup) {f : Addr × NestedKey → D} (hf : ∀ p ∈ L, f p ∈ ds ∧ (f p).toK = p.2) : (L.map f).Perm (dedup ds) := by
  have e1 : (L.map f).map D.toK = L.map (·.2) := by
    rw [List.map_map]
    exact List.map_congr_left fun p hp => (hf p hp).2
  have n1 : (L.map f).Nodup := nodup_of_map' (by rw [e1]; exact nd)
  have n2 : (dedup ds).Nodup := nodup_of_map' dedup_nodup
  refine (List.perm_ext_iff_of_nodup n1 n2).mpr fun d => ⟨fun hd => ?_, fun hd => ?_⟩
  · obtain ⟨p, hp, rfl⟩ := List.mem_map.mp hd
    obtain ⟨d', z1, z2⟩ := dedup_all (hf p hp).1
    rw [ok.2.2 d' (dedup_sub z1) (f p) (hf p hp).1 z2] at z1
    exact z1
  · have hd' := dedup_sub hd
    obtain ⟨p, hp, e⟩ := hks d hd'
    have := g.all p (by rw [List.take_length]; exact hp)
    obtain ⟨p', hp', e'⟩ := List.mem_map.mp this
    have z := hf p' hp'
    rw [ok.2.2 d hd' (f p') z.1 (by rw [z.2, e', e])]
    exact List.mem_map.mpr ⟨p', hp', rfl⟩
open Classical in
theorem ssrt_run (I : Inv X pins σ H s) (hK : X.K = G.K) (hr : Room k X.A) (hc : X.calm = true) (R : HRel G φ h H) {d z : D} {v : V} {u : Value} (rd : RD G φ H d v) (rv : RelV v u) (e : ssrtD h d = some z) {Q : VK} (q : ∀ φ' H' v, Ext φ H φ' H' → HRel G φ' h H' → RD G φ' H' z v → Q v H') :
    wpAny (model X.prog X.w) X.A (call (.type "set") [u]) (fun r s2 => wpAny (model X.prog X.w) X.A (call (.builtin "sorted") [r]) (EP X pins σ Q) X.xe s2) X.xe s := by
  unfold ssrtD at e
  split at e
  · rename_i ds hs
    split at e
    · rename_i ok
      obtain ⟨ok, oks, inv⟩ := ok
      simp only [Option.some.injEq] at e
      subst e
      obtain ⟨ad, rfl, hx⟩ := SqL_or hK R rd hs
      cases rv
      have src : ∃ (its : List Value) (xs : List V), (s.heap.IsList ad its.toArray ∨ s.heap.IsTuple ad its.toArray) ∧ Vals xs its ∧ RDs G φ H ds xs := by
        rcases hx with ⟨xs, q1, q2⟩ | ⟨_, xs, q1, q2⟩
        · obtain ⟨its, z1, z2, _⟩ := I.list q1
          exact ⟨its, xs, .inl z2.isList, z1, q2⟩
        · obtain ⟨its, z1, z2, _⟩ := I.tuple q1
          exact ⟨its, xs, .inr z2, z1, q2⟩
      obtain ⟨its, xs, hl, rvs, rs⟩ := src
      obtain ⟨ks, h1, h2, h3, h4⟩ := keys_list I hK rs rvs ok.1
      have hun := hr.un
      refine call_setN (I.ok.hd hc) hl ks (by simpa using h1) (fun p hp => (h2 p hp).1) (by rw [h4]; exact ok.2.1) (by omega) fun s' L es ep t SN gN k1 g1 o1 _ => ?_
      refine sorted_setN (I.ok.hd hc) SN fun s1 vs k2 hz g2 o2 pm => ?_
      obtain ⟨L', pL, rfl⟩ := perm_map_inv pm
      have kk : ∀ b o, s.heap.get? b = some o → s1.heap.get? b = some o := fun b o e => k2 b o (k1 b o e)
      have hsz : s.heap.objs.size ≤ s1.heap.objs.size := by
        obtain ⟨o, ho, _⟩ := SN.ob
        have := Heap.lt_size ho
        exact Nat.le_trans (Nat.le_of_lt this) hz
      have hmem : ∀ p ∈ L', ∃ d, d ∈ ds ∧ d.toK = p.2 ∧ RD G φ H d (.ref p.1) := fun p hp => by
        have := gN.sub p (pL.mem_iff.mp hp)
        obtain ⟨_, d, z1, z2, z3⟩ := h2 p (List.mem_of_mem_take this)
        exact ⟨d, z1, z2, z3⟩
      let f : Addr × NestedKey → D := fun p => if q : ∃ d, d ∈ ds ∧ d.toK = p.2 ∧ RD G φ H d (.ref p.1) then q.choose else .non
      have hf : ∀ p ∈ L', f p ∈ ds ∧ (f p).toK = p.2 ∧ RD G φ H (f p) (.ref p.1) := fun p hp => by
        have q := hmem p hp
        have e : f p = q.choose := dif_pos q
        rw [e]
        exact q.choose_spec
      have nd' : (L'.map (·.2)).Nodup := (pL.map _).nodup_iff.mpr SN.nd
      have gN' : GotN ks ks.length L' := ⟨fun p hp => gN.sub p (pL.mem_iff.mp hp), fun p hp => (pL.map _).mem_iff.mpr (gN.all p hp), by rw [pL.length_eq]; exact gN.len⟩
      have pmD : (L'.map f).Perm (dedup ds) := members ok h3 gN' nd' fun p hp => ⟨(hf p hp).1, (hf p hp).2.1⟩
      let ps : List (D × V) := L'.map fun p => (f p, V.ref p.1)
      have eps1 : ps.map Prod.fst = L'.map f := by simp [ps, Function.comp_def]
      have each : ∀ l : List (Addr × NestedKey), (∀ p ∈ l, p ∈ L') → EachIs (fun u (p : D × V) => RelV p.2 u ∧ RD G φ H p.1 p.2) (l.map fun p => Value.ref p.1) (l.map fun p => (f p, V.ref p.1)) := by
        intro l
        induction l with
        | nil => intro _; exact .nil
        | cons p l ih => intro hl; exact .cons ⟨rfl, (hf p (hl p List.mem_cons_self)).2.2⟩ (ih fun p' hp' => hl p' (List.mem_cons_of_mem _ hp'))
      have eL := each L' fun _ z => z
      obtain ⟨hp, ⟨hal, hdp⟩, hl0, hn0⟩ := oks
      have pur : ∀ d ∈ ds, d.pur = true := fun d hd => by
        have : ∀ ds : List D, D.purs ds = true → ∀ d ∈ ds, d.pur = true := by
          intro ds
          induction ds with
          | nil => intro _ d hd; cases hd
          | cons x ds ih =>
            intro hp d hd
            simp only [D.purs, Bool.and_eq_true] at hp
            rcases List.mem_cons.mp hd with rfl | hd
            · exact hp.1
            · exact ih hp.2 d hd
        exact this ds hp d hd
      let enc : D × V → PyData := fun p => p.1.toP
      have emap : ps.map enc = (L'.map f).map D.toP := by simp [ps, enc, Function.comp_def]
      have hmemD : ∀ q ∈ ps.map enc, ∃ d ∈ ds, q = d.toP := fun q hq => by
        rw [emap] at hq
        obtain ⟨d, hd, rfl⟩ := List.mem_map.mp hq
        obtain ⟨p, hp', rfl⟩ := List.mem_map.mp hd
        exact ⟨_, (hf p hp').1, rfl⟩
      have inP : ∀ d ∈ ds, d.toP ∈ D.toPs ds := fun d hd => by rw [toPs_map]; exact List.mem_map.mpr ⟨d, hd, rfl⟩
      have hal' : AllAlike (ps.map enc) := by
        intro x hx y hy
        obtain ⟨d1, z1, rfl⟩ := hmemD x hx
        obtain ⟨d2, z2, rfl⟩ := hmemD y hy
        exact hal _ (inP d1 z1) _ (inP d2 z2)
      let vs : List Value := L'.map fun p => Value.ref p.1
      let hp2 := s1.heap.push (seqObj "list" vs.toArray 0)
      have keep : ∀ b o, s.heap.get? b = some o → (sortingHeap hp2 s1.heap.objs.size vs).get? b = some o := fun b o e => by
        refine PySem.W.sortingHeap_old ?_ (Heap.get?_push_of_some _ (kk b o e))
        exact Nat.ne_of_lt (Nat.lt_of_lt_of_le (Heap.lt_size e) hsz)
      have er : ∀ l : List (Addr × NestedKey), (∀ p ∈ l, p ∈ L') → EachIs (fun u (p : D × V) => ∃ as, Reads (sortingHeap hp2 s1.heap.objs.size vs) u (enc p) as) (l.map fun p => Value.ref p.1) (l.map fun p => (f p, V.ref p.1)) := by
        intro l
        induction l with
        | nil => intro _; exact .nil
        | cons p l ih =>
          intro hl
          obtain ⟨z1, z2, z3⟩ := hf p (hl p List.mem_cons_self)
          obtain ⟨as, z4⟩ := reads_of I hK (f p) _ _ (pur _ z1) z3 rfl
          exact .cons ⟨as, PyProof.Rows.Reads.keeps keep z4⟩ (ih fun p' hp' => hl p' (List.mem_cons_of_mem _ hp'))
      have er' := er L' fun _ z => z
      have S : SortsAt X.prog X.w X.A.in1.in1 { s1 with heap := sortingHeap hp2 s1.heap.objs.size vs } (dataKind (sortingHeap hp2 s1.heap.objs.size vs) (ps.map enc)) vs := by
        refine sorts_any (s := { s1 with heap := sortingHeap hp2 s1.heap.objs.size vs }) (each_map (R := fun v d => ∃ as, Reads (sortingHeap hp2 s1.heap.objs.size vs) v d as) enc er') hal' (fun q hq => ?_) (fun q hq => ?_)
        · obtain ⟨d1, z1, rfl⟩ := hmemD q hq
          exact hn0 d1 z1
        · obtain ⟨d1, z1, rfl⟩ := hmemD q hq
          have := hdp _ (inP d1 z1)
          show X.A.units + 1 + 1 + d1.toP.depth < cLine
          unfold deepest at *
          omega
      refine ⟨_, S, ?_⟩
      have out := sortVals_data (R := fun u (p : D × V) => RelV p.2 u ∧ RD G φ H p.1 p.2) false eL er' hal'
      generalize hO : sortVals (dataKind (sortingHeap hp2 s1.heap.objs.size vs) (ps.map enc)) false vs vs = outs at out
      obtain ⟨v1, r1⟩ := each_back out
      have esort : (ps.mergeSort (dataLe false enc)).map Prod.fst = sortL (dedup ds) := by
        rw [← inv (L'.map f) pmD, ← eps1]
        exact List.map_mergeSort (r := dataLe false enc) (s := dataLe false D.toP) (f := Prod.fst) (l := ps) (fun a _ b _ => rfl)
      have hlp : hp2.get? s1.heap.objs.size = some (seqObj "list" vs.toArray 0) := Heap.get?_push_size s1.heap rfl
      obtain ⟨ec, hec⟩ := PyProof.Rows.sortedHeap_at (out := outs.toArray) hlp
      have hlt2 : ∀ b o, s.heap.get? b = some o → (sortedHeap hp2 s1.heap.objs.size vs outs.toArray).get? b = some o := fun b o e => by
        have hb := Heap.lt_size e
        rw [PyProof.Rows.sortedHeap_old (Nat.ne_of_lt (Nat.lt_of_lt_of_le hb hsz)) (by rw [show hp2.objs.size = s1.heap.objs.size + 1 from Heap.size_push _ _]; exact Nat.lt_succ_of_lt (Nat.lt_of_lt_of_le hb hsz))]
        exact Heap.get?_push_of_some _ (kk b o e)
      have hlen : ((ps.mergeSort (dataLe false enc)).map Prod.snd).length ≤ sizeLine := by
        rw [List.length_map, List.length_mergeSort]
        show (L'.map _).length ≤ sizeLine
        rw [List.length_map, pL.length_eq, sizeLine_eq]
        have := SN.few; omega
      have hfr : H s1.heap.objs.size = none := I.hok.fresh hsz
      rw [esort] at r1
      obtain ⟨E1, R1, D1⟩ := RD.new_lst R hfr r1
      refine ⟨.ref s1.heap.objs.size, _, inv_new I (s2 := { s1 with heap := sortedHeap hp2 s1.heap.objs.size vs outs.toArray }) hlt2 hsz (g2.trans g1) (o2.trans o1) (show ObjOk X.prog X.w _ _ _ (.lst _) from ⟨hlen, outs, ec, v1, ?_⟩), rfl, q _ _ _ E1 R1 D1⟩
      simpa using hec
    · cases e
  · cases e
theorem step_mem (acc : List Int) (x y : Int) : y ∈ PyProof.Rows.step_dedup acc x ↔ y ∈ acc ∨ y = x := by
  unfold PyProof.Rows.step_dedup
  split
  · rename_i h
    have hx : x ∈ acc := by simpa using h
    exact ⟨.inl, fun q => q.elim id fun e => e ▸ hx⟩
  · simp
theorem step_nodup {acc : List Int} (h : acc.Nodup) (x : Int) : (PyProof.Rows.step_dedup acc x).Nodup := by
  unfold PyProof.Rows.step_dedup
  split
  · exact h
  · rename_i hx
    have hx' : x ∉ acc := by simpa using hx
    rw [List.nodup_append]
    exact ⟨h, by simp, fun a ha b hb => by simp only [List.mem_singleton] at hb; subst hb; exact fun e => hx' (e ▸ ha)⟩
theorem fold_mem : ∀ (l acc : List Int) (y : Int), (y ∈ l.foldl PyProof.Rows.step_dedup acc ↔ y ∈ acc ∨ y ∈ l)
  | [], acc, y => by simp
  | x :: l, acc, y => by
    rw [List.foldl_cons, fold_mem l, step_mem, List.mem_cons]
    constructor
    · rintro ((h | h) | h)
      · exact .inl h
      · exact .inr (.inl h)
      · exact .inr (.inr h)
    · rintro (h | h | h)
      · exact .inl (.inl h)
      · exact .inl (.inr h)
      · exact .inr h
theorem fold_nodup : ∀ (l acc : List Int), acc.Nodup → (l.foldl PyProof.Rows.step_dedup acc).Nodup
  | [], acc, h => h
  | x :: l, acc, h => fold_nodup l _ (step_nodup h x)
theorem getD_range (ns : List Int) : (List.range ns.length).map (fun i => ns.getD i 0) = ns := by
  apply List.ext_getElem?
  intro i
  rw [List.getElem?_map]
  by_cases hi : i < ns.length
  · simp [hi]
  · simp [hi]
theorem first_len (ns : List Int) : (PyProof.Rows.firstMet (fun i => ns.getD i 0) ns.length).length = (dedup (ns.map D.int)).length := by
  unfold PyProof.Rows.firstMet
  rw [getD_range]
  have n1 := fold_nodup ns [] List.nodup_nil
  have h : ((ns.foldl PyProof.Rows.step_dedup []).map D.int).Perm (dedup (ns.map D.int)) := by
    refine (List.perm_ext_iff_of_nodup ?_ (nodup_of_map' dedup_nodup)).mpr fun d => ⟨fun hd => ?_, fun hd => ?_⟩
    · rw [List.Nodup, List.pairwise_map]
      exact List.Pairwise.imp (fun hne e => hne (by cases e; rfl)) n1
    · obtain ⟨i, hi, rfl⟩ := List.mem_map.mp hd
      have hi' : i ∈ ns := by simpa using (fold_mem ns [] i).mp hi
      obtain ⟨d', z1, z2⟩ := dedup_all (ds := ns.map D.int) (List.mem_map.mpr ⟨i, hi', rfl⟩)
      obtain ⟨j, hj, rfl⟩ := List.mem_map.mp (dedup_sub z1)
      simp only [D.toK, NestedKey.num.injEq] at z2
      subst z2
      exact z1
    · obtain ⟨i, hi, rfl⟩ := List.mem_map.mp (dedup_sub hd)
      exact List.mem_map.mpr ⟨i, (fold_mem ns [] i).mpr (.inr hi), rfl⟩
  have := h.length_eq
  simpa using this
theorem ints_list {ds : List D} {is : List Int} (e : intsD ds = some is) : ds = is.map D.int := by
  induction ds generalizing is with
  | nil => simp [intsD] at e; subst e; rfl
  | cons d ds ih =>
    cases d <;> simp only [intsD, reduceCtorEq] at e
    obtain ⟨is', e1, rfl⟩ := Option.map_eq_some_iff.mp e
    rw [ih e1]; rfl
theorem inv_same (I : Inv X pins σ H s) {s' : Shared} (k : ∀ b u, s.heap.get? b = some u → s'.heap.get? b = some u) (g : s'.gens = s.gens) (os : s'.os = s.os) (d : s'.drawn = s.drawn) (t : Nat) : Inv X pins σ H { s' with toks := t } := by
  have J := I.kept (t' := t) k
  obtain ⟨h1, g1, d1, t1, o1⟩ := s'
  simp only at g os d ⊢
  subst g os d
  exact J
open Classical in
theorem slen_run (I : Inv X pins σ H s) (hK : X.K = G.K) (hr : Room k X.A) (hc : X.calm = true) (R : HRel G φ h H) {d z : D} {v : V} {u : Value} (rd : RD G φ H d v) (rv : RelV v u) (e : slenD h d = some z) {Q : VK} (q : ∀ φ' H' v, Ext φ H φ' H' → HRel G φ' h H' → RD G φ' H' z v → Q v H') :
    wpAny (model X.prog X.w) X.A (call (.type "set") [u]) (fun r s2 => wpAny (model X.prog X.w) X.A (call (.builtin "len") [r]) (EP X pins σ Q) X.xe s2) X.xe s := by
  unfold slenD at e
  split at e
  · rename_i ds hs
    obtain ⟨ad, rfl, hx⟩ := SqL_or hK R rd hs
    cases rv
    split at e
    · rename_i ok
      simp only [Option.some.injEq] at e
      subst e
      have src : ∃ (its : List Value) (xs : List V), (s.heap.IsList ad its.toArray ∨ s.heap.IsTuple ad its.toArray) ∧ Vals xs its ∧ RDs G φ H ds xs := by
        rcases hx with ⟨xs, q1, q2⟩ | ⟨_, xs, q1, q2⟩
        · obtain ⟨its, z1, z2, _⟩ := I.list q1
          exact ⟨its, xs, .inl z2.isList, z1, q2⟩
        · obtain ⟨its, z1, z2, _⟩ := I.tuple q1
          exact ⟨its, xs, .inr z2, z1, q2⟩
      obtain ⟨its, xs, hl, rvs, rs⟩ := src
      obtain ⟨ks, h1, h2, h3, h4⟩ := keys_list I hK rs rvs ok.1
      have hun := hr.un
      refine call_setN (I.ok.hd hc) hl ks (by simpa using h1) (fun p hp => (h2 p hp).1) (by rw [h4]; exact ok.2.1) (by omega) fun s' L es ep t SN gN k1 g1 o1 d1 => ?_
      have hmem : ∀ p ∈ L, ∃ d, d ∈ ds ∧ d.toK = p.2 := fun p hp => by
        obtain ⟨_, d, z1, z2, z3⟩ := h2 p (List.mem_of_mem_take (gN.sub p hp))
        exact ⟨d, z1, z2⟩
      let f : Addr × NestedKey → D := fun p => if q : ∃ d, d ∈ ds ∧ d.toK = p.2 then q.choose else .non
      have hf : ∀ p ∈ L, f p ∈ ds ∧ (f p).toK = p.2 := fun p hp => by
        have q := hmem p hp
        have e : f p = q.choose := dif_pos q
        rw [e]
        exact q.choose_spec
      have pmD : (L.map f).Perm (dedup ds) := members ok h3 gN SN.nd hf
      have hl2 : L.length = (dedup ds).length := by have := pmD.length_eq; simpa using this
      obtain ⟨o, ho, hex, hd⟩ := SN.ob
      have hsz := SN.size
      have hfew := SN.few
      refine call_len_set ho hex hd SN.fits (by rw [hsz]; omega) ?_
      exact ⟨.int (dedup ds).length, H, inv_same I k1 g1 o1 d1 _, ⟨_, by rw [hsz, hl2]⟩, q _ _ _ (.refl _ _) R (.int _)⟩
    · split at e
      · rename_i ls is e1 e2
        split at e
        · rename_i hlen
          simp only [Option.some.injEq] at e
          subst e
          have hds := ints_list e2
          rcases hx with ⟨xs, q1, q2⟩ | ⟨⟨ts, rfl⟩, _⟩
          · obtain ⟨its, z1, z2, _⟩ := I.list q1
            have hxs := ints_of q2 e2
            subst hxs
            have hl1 : its.toArray.size = is.length := by
              rw [List.size_toArray, ← z1.length, List.length_map]
            refine call_set_list (I.ok.hd hc) z2.isList (RZ.intsAre_vals z1) (by rw [hl1]; unfold scanBound; omega) fun h' tk hS hk => ?_
            rw [hl1] at hS
            obtain ⟨o, es, ep, t, ho, hex, hd, _, _, _, hf, hn⟩ := hS
            have hle : es.size < 2 ^ 62 := by
              have : (dedup ds).length ≤ ds.length := by
                have : ∀ l : List D, (dedup l).length ≤ l.length := by
                  intro l
                  induction l with
                  | nil => exact Nat.le_refl _
                  | cons x l ih =>
                    simp only [dedup, List.length_cons]
                    have := List.length_filter_le (fun y => !decide (y.toK = x.toK)) (dedup l)
                    omega
                exact this ds
              rw [hn, first_len, ← hds]
              have hdl : ds.length = is.length := by rw [hds, List.length_map]
              omega
            refine call_len_set ho hex hd hf (by omega) ?_
            refine ⟨.int (dedup ds).length, H, inv_same I (s' := { heap := h', gens := s.gens, drawn := s.drawn, toks := tk, os := s.os }) (fun b o e => hk b o (Heap.lt_size e) e) rfl rfl rfl _, ⟨_, by rw [hn, first_len, ← hds]⟩, q _ _ _ (.refl _ _) R (.int _)⟩
          · simp [lstOf] at e1
        · cases e
      · cases e
  · cases e
/-! ### the two calls, one in the other -/
theorem two_read {f : AH → D → Option D} {σ : L2.St} {H : Hp} {Q : VK} {ev : Env} {h : AH} {φ : Phi} (r : EnvR G φ H ev σ) (p : Post G (RD G) W σ φ H Q ((evE M C a' ev h).bind fun x h => optR h (f h x))) :
    Post G (RD G) W σ φ H (fun v H1 => ∃ φ1 h1 d z, HRel G φ1 h1 H1 ∧ RD G φ1 H1 d v ∧ f h1 d = some z ∧ ∀ φ' H' v, Ext φ1 H1 φ' H' → HRel G φ' h1 H' → RD G φ' H' z v → Q v H') (evE M C a' ev h) :=
  Post.bind (Rel' := RD G) p fun dx h1 φ1 H1 x E1 R1 d1 p1 => by
    obtain ⟨z, e, q⟩ := p1.opt
    exact ⟨φ1, h1, dx, z, R1, d1, e, q⟩
theorem s_ssrt {p2 q2 : Pos} (g : Gd G M C T k N sc fc W X) (hb : biC sc "sorted" = true) (hb2 : biC sc "set" = true) (ha : PE X a (rE G M C W a')) (hs : isStar a = false) :
    PE X (.Call (.Name "sorted" pos') [.Call (.Name "set" p2) [a] [] q2] [] pos) (rE G M C W (.ssrt a')) := by
  obtain ⟨g1, g2⟩ := biG g hb
  obtain ⟨g3, g4⟩ := biG g hb2
  refine ⟨fun pins s σ H Q I ⟨φ, ev, h, R, r, p⟩ => ?_⟩
  simp only [evE] at p
  refine PyProof.Rows.Call_ (ld_blt I g1 g2 bt_sorted (PyProof.Rows.callWith_builtin1 (PyProof.Rows.args_cons (PyProof.Rows.Call_ (ld_blt I g3 g4 PyProof.Rows.boot_set (PyProof.Rows.callWith_type1 (PyProof.Rows.args_cons (thn (ha.run pins s σ H _ I ⟨φ, ev, h, R, r, two_read r p⟩) fun v s1 hq => ?_) (star_of hs)) (star_of hs) rfl) (by decide) (by decide)) rfl) rfl) rfl rfl) (by decide) (by decide)) rfl
  obtain ⟨x, H1, I1, rx, φ1, h1, d, z, R1, rd, e, q⟩ := hq
  refine PyProof.Rows.args_nil ?_
  exact thn (ssrt_run I1 g.hK g.room g.calm R1 rd rx e q) fun r s2 z => PyProof.Rows.args_nil z
theorem s_slen {p2 q2 : Pos} (g : Gd G M C T k N sc fc W X) (hb : biC sc "len" = true) (hb2 : biC sc "set" = true) (ha : PE X a (rE G M C W a')) (hs : isStar a = false) :
    PE X (.Call (.Name "len" pos') [.Call (.Name "set" p2) [a] [] q2] [] pos) (rE G M C W (.slen a')) := by
  obtain ⟨g1, g2⟩ := biG g hb
  obtain ⟨g3, g4⟩ := biG g hb2
  refine ⟨fun pins s σ H Q I ⟨φ, ev, h, R, r, p⟩ => ?_⟩
  simp only [evE] at p
  refine PyProof.Rows.Call_ (ld_blt I g1 g2 bt_len (PyProof.Rows.callWith_builtin1 (PyProof.Rows.args_cons (PyProof.Rows.Call_ (ld_blt I g3 g4 PyProof.Rows.boot_set (PyProof.Rows.callWith_type1 (PyProof.Rows.args_cons (thn (ha.run pins s σ H _ I ⟨φ, ev, h, R, r, two_read r p⟩) fun v s1 hq => ?_) (star_of hs)) (star_of hs) rfl) (by decide) (by decide)) rfl) rfl) rfl rfl) (by decide) (by decide)) rfl
  obtain ⟨x, H1, I1, rx, φ1, h1, d, z, R1, rd, e, q⟩ := hq
  refine PyProof.Rows.args_nil ?_
  exact thn (slen_run I1 g.hK g.room g.calm R1 rd rx e q) fun r s2 z => PyProof.Rows.args_nil z
end
end Ev

/-! The checks: is the syntax that of the program? -/
namespace Ev
open PySem PySem.Spec PyProof.Rows L2 PySem.W PySem.SeqAt

def notAcall : Expr → Bool
  | .Call _ _ _ _ => false
  | _ => true
def isNm : Expr → Str → Bool
  | .Name x _, y => decide (x = y)
  | _, _ => false
/-- shapes that a test looks at by their value -/
def valShape : Expr → Bool
  | .Name _ _ | .Call _ _ _ _ | .Subscript _ _ _ | .Constant _ _ _ | .Attribute _ _ _ => true
  | _ => false
def opOk : Op → Bool
  | .isn | .nis | .ist | .isf => false
  | _ => true
def cstC : D → Expr → Bool
  | .non, .Constant .none _ _ => true
  | .bl b, .Constant (.bool c) _ _ => b == c
  | .int i, .Constant (.int j) _ _ => decide (i = j)
  | .str x, .Constant (.str y) _ _ => decide (x = y)
  | _, _ => false
def ownOf (N : List Str) (own : List Nat) : List (Str × Nat) := own.map fun i => (N.getD i "", i)
def sub (as bs : List Nat) : Bool := as.all fun a => bs.contains a
def isFn (sc : Scope) : Bool := match sc.kind with
  | .function => true
  | _ => false
def fcb (scope : Scope) (x : Str) : Bool := scope.names.lookup x == some .cell
def isTupE : Expr → Bool
  | .Tuple _ _ _ => true
  | _ => false
section
variable (T : Nt) (N : List Str)
mutual
/-- the E case tells a test's value -/
def tE : E → Expr → Bool
  | .nt a, .UnaryOp .Not e _ => tE a e
  | .and a b, .BoolOp .And (c :: d :: es) p => tE a c && (match es with
    | [] => tE b d
    | _ => tE b (.BoolOp .And (d :: es) p))
  | .or a b, .BoolOp .Or (c :: d :: es) p => tE a c && (match es with
    | [] => tE b d
    | _ => tE b (.BoolOp .Or (d :: es) p))
  | .op _ _ _, .Compare _ _ _ _ => true
  | .chn _ _ _ _ _, .Compare _ _ _ _ => true
  | _, e => valShape e
end
mutual
def kE : E → Scope → (Str → Bool) → Expr → Bool
  | .cst d, sc, fc, e => cstC d e
  | .var i, sc, fc, e => match e with
    | .Name x _ => visC N sc i x
    | _ => false
  | .gc i, sc, fc, e => match e with
    | .Name x _ => decide (T.gc i = some x) && glC sc x
    | _ => false
  | .tup es', sc, fc, e => match e with
    | .Tuple es _ _ => kEs es' sc fc es
    | _ => false
  | .lst es', sc, fc, e => match e with
    | .List es _ => kEs es' sc fc es
    | _ => false
  | .mls es', sc, fc, e => match e with
    | .List es _ => kEs es' sc fc es
    | _ => false
  | .mdc, _, _, _ => false
  | .op o a' b', sc, fc, e => match e with
    | .BinOp a op b _ => decide (opB o = some op) && kE a' sc fc a && kE b' sc fc b
    | .Compare a [op] [b] _ => decide (opC o = some op) && !behindInMarks op b && kE a' sc fc a && (if opOk o then kE b' sc fc b else isNone b && isNon b')
    | _ => false
  | .chn o o' a' b' c', sc, fc, e => match e with
    | .Compare a [op, op'] [b, c] _ => decide (opC o = some op) && decide (opC o' = some op') && opOk o && opOk o' && !lastMarks [op, op'] [b, c] && kE a' sc fc a && kE b' sc fc b && kE c' sc fc c
    | _ => false
  | .neg a', sc, fc, e => match e with
    | .UnaryOp .USub a _ => kE a' sc fc a
    | _ => false
  | .nt a', sc, fc, e => match e with
    | .UnaryOp .Not a _ => kE a' sc fc a
    | _ => false
  | .and a' b', sc, fc, e => match e with
    | .BoolOp .And (a :: b :: es) p => kE a' sc fc a && (match es with
      | [] => kE b' sc fc b
      | _ => kE b' sc fc (.BoolOp .And (b :: es) p))
    | _ => false
  | .or a' b', sc, fc, e => match e with
    | .BoolOp .Or (a :: b :: es) p => kE a' sc fc a && (match es with
      | [] => kE b' sc fc b
      | _ => kE b' sc fc (.BoolOp .Or (b :: es) p))
    | _ => false
  | .orv a' b', sc, fc, e => match e with
    | .BoolOp .Or [a, b] _ => kE a' sc fc a && kE b' sc fc b
    | _ => false
  | .ite c' a' b', sc, fc, e => match e with
    | .IfExp c a b _ => tE c' c && kE c' sc fc c && kE a' sc fc a && kE b' sc fc b
    | _ => false
  | .idx a' i', sc, fc, e => match e with
    | .Subscript a i _ => !isSl i && kE a' sc fc a && kE i' sc fc i
    | _ => false
  | .slc a' lo' hi', sc, fc, e => match e with
    | .Subscript a (.Slice lo hi none _) _ => kE a' sc fc a && kO lo' sc fc lo && kO hi' sc fc hi
    | _ => false
  | .rpl mu es' b', sc, fc, e => match e with
    | .BinOp (.List es _) .Mult b _ => kEs es' sc fc es && kE b' sc fc b
    | _ => false
  | .call f es', sc, fc, e => match e with
    | .Call (.Name x _) (a :: es) [] _ => decide (T.fn f = some x) && glC sc x && noStars (a :: es) && kEs es' sc fc (a :: es)
    | _ => false
  | .callv f' es', sc, fc, e => match e with
    | .Call (.Subscript fe i p) (a :: es) [] _ => kE f' sc fc (.Subscript fe i p) && noStars (a :: es) && kEs es' sc fc (a :: es)
    | _ => false
  | .bi b es', sc, fc, e => match e with
    | .Call (.Name x _) (a :: es) [] _ => decide (biName b = x) && biOk b && biC sc x && noStars (a :: es) && kEs es' sc fc (a :: es)
    | _ => false
  | .met m o' es', sc, fc, e => match e with
    | .Call (.Attribute o nm ap) [] [] p => (match m with
      | .pop => decide (nm = "pop") && (match es' with | .nil => true | _ => false)
      | _ => false) && notAcall o && (ap.endLine == p.line) && kE o' sc fc o
    | .Call (.Attribute o nm ap) [a] [] p => (match m with
      | .append => decide (nm = "append")
      | .extend => decide (nm = "extend")
      | .popAt => decide (nm = "pop")
      | _ => false) && notAcall o && (ap.endLine == p.line) && !isStar a && kE o' sc fc o && kEs es' sc fc [a]
    | _ => false
  | .isi a' ts, sc, fc, e => match e with
    | .Call (.Name x _) [a, t] [] _ => decide (x = "isinstance") && biC sc x && !isStar a && kE a' sc fc a && (match t with
      | .Tuple es _ _ => !ts.isEmpty && decide (ts.length ≤ 1000) && tysC sc ts es
      | t => match ts with
        | [t'] => tyC sc t' t
        | _ => false)
    | _ => false
  | .cmp mu elt' t it' ifs' own, sc, fc, e => match e with
    | .ListComp elt [⟨tg, iter, ifs, 0⟩] scope _ => blkC N sc scope (ownOf N own) && isFn scope && sub t.vars own && tgC N (relS scope sc) (fcb scope) t tg && noSet iter &&
      kIt it' sc fc tg iter && kIf ifs' (relS scope sc) (fcb scope) ifs && kE elt' (relS scope sc) (fcb scope) elt
    | _ => false
  | .cmp2 elt' t it' t2 it2' own own2, sc, fc, e => match e with
    | .ListComp elt [⟨tg, iter, [], 0⟩, ⟨tg2, iter2, [], 0⟩] scope _ => blkC N sc scope (ownOf N own) && isFn scope && sub t.vars own && sub t2.vars own2 && sub own2 own && tgC N (relS scope sc) (fcb scope) t tg && noSet iter &&
      tgC N (relS scope sc) (fcb scope) t2 tg2 && noSet iter2 && kIt it' sc fc tg iter && kIt it2' (relS scope sc) (fcb scope) tg2 iter2 && kE elt' (relS scope sc) (fcb scope) elt
    | _ => false
  | .attr _ _, _, _, _ => false
  | .ssrt a', sc, fc, e => match e with
    | .Call (.Name x _) [.Call (.Name y _) [a] [] _] [] _ => decide (x = "sorted") && decide (y = "set") && biC sc x && biC sc y && !isStar a && kE a' sc fc a
    | _ => false
  | .slen a', sc, fc, e => match e with
    | .Call (.Name x _) [.Call (.Name y _) [a] [] _] [] _ => decide (x = "len") && decide (y = "set") && biC sc x && biC sc y && !isStar a && kE a' sc fc a
    | _ => false
def kEs : Es → Scope → (Str → Bool) → List Expr → Bool
  | .nil, sc, fc, es => es.isEmpty
  | .cons a' es', sc, fc, es => match es with
    | a :: es => !isStar a && kE a' sc fc a && kEs es' sc fc es
    | [] => false
def kIf : Es → Scope → (Str → Bool) → List Expr → Bool
  | .nil, sc, fc, es => es.isEmpty
  | .cons a' es', sc, fc, es => match es, es' with
    | [a], .nil => tE a' a && kE a' sc fc a
    | _, _ => false
def kO : Eo → Scope → (Str → Bool) → Option Expr → Bool
  | .no, sc, fc, e => e.isNone
  | .so a', sc, fc, e => match e with
    | some a => kE a' sc fc a
    | none => false
def kIt : It → Scope → (Str → Bool) → Expr → Expr → Bool
  | .seq a', sc, fc, tg, e => kE a' sc fc e
  | .enm a', sc, fc, tg, e => match e with
    | .Call (.Name x _) [a] [] _ => decide (x = "enumerate") && biC sc x && isTupE tg && !isStar a && kE a' sc fc a
    | _ => false
  | .zip a' b', sc, fc, tg, e => match e with
    | .Call (.Name x _) [a, b] [] _ => decide (x = "zip") && biC sc x && isTupE tg && !isStar a && !isStar b && kE a' sc fc a && kE b' sc fc b
    | _ => false
  | .rng a', sc, fc, tg, e => match e with
    | .Call (.Name x _) [a] [] _ => decide (x = "range") && biC sc x && !isStar a && kE a' sc fc a
    | _ => false
  | .itm _, _, _, _, _ => false
end
end
end Ev

/-! The checks are right: expressions. -/
namespace Ev
open PySem PySem.Spec PyProof.Rows L2 PySem.W PySem.SeqAt

section
variable {G : Gl0} {M : Mo} {C : Orc} {T : Nt} {k : Nat} {N : List Str} {sc : Scope} {fc : Str → Bool} {W : WX} {X : Cx} {a b c tg : Expr} {es : List Expr} {a' b' c' o' i' : E} {es' : Es} {pos pos' : Pos}

theorem val_pt (h : valShape a = true) (ha : PE X a (rE G M C W a')) : PT X a (rT G M C W a') := by
  cases a <;> first | exact s_val ha fun _ => rfl | cases h
theorem pw_pt {t : TT} (h : PW X a t) : PT X a t := ⟨fun pins s σ H Q I q => h.run _ pins s σ H Q I q⟩
theorem op_bin (hK : X.K = G.K) {o : Op} {op : Operator} (h : opB o = some op) : OpR X (binaryOp op) (rOp G (opD o)) := by
  cases o <;> simp only [opB, Option.some.injEq, reduceCtorEq] at h <;> subst h
  · exact op_addS hK
  · exact op_subS
  · exact op_mulS hK
  · exact op_fdvS
  · exact op_modS
  · exact op_powS
theorem op_cmp (hK : X.K = G.K) (hr : Room k X.A) {o : Op} {op : CmpOp} (h : opC o = some op) (h2 : opOk o = true) : OpR X (compareOp op) (rOp G (opD o)) := by
  cases o <;> simp only [opC, Option.some.injEq, reduceCtorEq] at h <;> first | subst h | skip
  · exact op_eqS hK hr
  · exact op_neS hK hr
  · exact op_ltS hK hr
  · exact op_leS
  · exact op_gtS
  · exact op_geS
  · cases h2
  · cases h2
  · exact op_innS hK hr
  · exact op_ninS hK hr
theorem op_is (hK : X.K = G.K) {o : Op} {op : CmpOp} (h : opC o = some op) (h2 : opOk o = false) : OpR X (compareOp op) (fun x y H Q => y = .non ∧ rOp G (opD o) x y H Q) := by
  cases o <;> simp only [opC, Option.some.injEq, reduceCtorEq] at h <;> first | (subst h; first | cases h2 | skip) | skip
  · exact op_isnS
  · exact op_nisS
theorem plain_of {e : Expr} (h : isSl e = false) : PlainIx e := by
  intro o i
  cases e <;> first | rfl | cases h
theorem ab_of {o : Expr} {nm : Str} (h : notAcall o = true) : attributeBase o nm X.env (eval o X.env) = eval o X.env := by
  cases o <;> first | rfl | cases h
theorem fold_of {e : Expr} (h : noSet e = true) (env : PySem.Env) (x : Value) : foldedSetIterable e env x = pure x := by
  cases e <;> first | rfl | cases h
theorem cst_ok {d : D} {e : Expr} (h : cstC d e = true) : PE X e (rE G M C W (.cst d)) := by
  unfold cstC at h
  split at h
  · exact s_non
  · rw [beq_iff_eq] at h; subst h; exact s_bl
  · rw [decide_eq_true_eq] at h; subst h; exact s_int
  · rw [decide_eq_true_eq] at h; subst h; exact s_str
  · cases h
theorem isNon_eq {e : E} (h : isNon e = true) : e = .cst .non := by
  unfold isNon at h; split at h <;> first | rfl | cases h
theorem isNone_eq {e : Expr} (h : isNone e = true) : ∃ j p, e = .Constant .none j p := by
  unfold isNone at h; split at h
  · exact ⟨_, _, rfl⟩
  · cases h
def isBo : Expr → Bool
  | .BoolOp _ _ _ => true
  | _ => false
theorem isTupE_eq {e : Expr} (h : isTupE e = true) : ∃ es k p, e = .Tuple es k p := by
  cases e <;> first | exact ⟨_, _, _, rfl⟩ | cases h
/-- what the checks give -/
def Sn (G : Gl0) (M : Mo) (C : Orc) (W : WX) (X : Cx) (e' : E) (e : Expr) : Prop := PE X e (rE G M C W e') ∧ (tE e' e = true → PT X e (rT G M C W e')) ∧ (isBo e = true → tE e' e = true → PW X e (rT G M C W e'))
theorem sn_val (h : PE X a (rE G M C W a')) (hb : isBo a = false) (hv : tE a' a = valShape a) : Sn G M C W X a' a :=
  ⟨h, fun q => val_pt (hv ▸ q) h, fun q => by rw [hb] at q; cases q⟩
mutual
theorem kE_ok : ∀ (e' : E) (sc : Scope) (fc : Str → Bool) (W : WX) (X : Cx) (e : Expr), Gd G M C T k N sc fc W X → kE T N e' sc fc e = true → Sn G M C W X e' e
  | .cst d, sc, fc, W, X, e, g, h => by
    simp only [kE] at h
    have := cst_ok (G := G) (M := M) (C := C) (W := W) (X := X) h
    refine sn_val this ?_ ?_
    · cases e <;> first | rfl | (cases d <;> cases h)
    · cases e <;> rfl
  | .var i, sc, fc, W, X, e, g, h => by
    simp only [kE] at h
    split at h
    · exact sn_val (s_var g h) rfl rfl
    · cases h
  | .gc i, sc, fc, W, X, e, g, h => by
    simp only [kE] at h
    split at h
    · simp only [Bool.and_eq_true, decide_eq_true_eq] at h
      exact sn_val (s_gc g h.1 h.2) rfl rfl
    · cases h
  | .tup es', sc, fc, W, X, e, g, h => by
    simp only [kE] at h
    split at h
    · exact sn_val (s_tup (kEs_ok es' sc fc W X _ g h).1) rfl rfl
    · cases h
  | .lst es', sc, fc, W, X, e, g, h => by
    simp only [kE] at h
    split at h
    · exact sn_val (s_lst (kEs_ok es' sc fc W X _ g h).1) rfl rfl
    · cases h
  | .mls es', sc, fc, W, X, e, g, h => by
    simp only [kE] at h
    split at h
    · exact sn_val (s_mls (kEs_ok es' sc fc W X _ g h).1) rfl rfl
    · cases h
  | .mdc, _, _, _, _, _, _, h => by simp [kE] at h
  | .op o a' b', sc, fc, W, X, e, g, h => by
    simp only [kE] at h
    split at h
    · simp only [Bool.and_eq_true, decide_eq_true_eq] at h
      exact sn_val (s_binop (op_bin g.hK h.1.1) (kE_ok a' sc fc W X _ g h.1.2).1 (kE_ok b' sc fc W X _ g h.2).1) rfl rfl
    · rename_i a op b p
      simp only [Bool.and_eq_true, decide_eq_true_eq, Bool.not_eq_true'] at h
      obtain ⟨⟨⟨h1, h2⟩, h3⟩, h4⟩ := h
      have ha := (kE_ok a' sc fc W X _ g h3).1
      by_cases ho : opOk o = true
      · simp only [ho, if_true] at h4
        have hb := (kE_ok b' sc fc W X _ g h4).1
        have hop : OpR X (compareOp op) (rOp G (opD o)) := op_cmp g.hK g.room h1 ho
        exact ⟨s_cmpop hop ha hb h2, fun _ => s_cmpT hop ha hb h2, fun q => by cases q⟩
      · have ho : opOk o = false := by simpa using ho
        rw [ho] at h4
        simp only [Bool.false_eq_true, if_false, Bool.and_eq_true] at h4
        obtain ⟨j, p, rfl⟩ := isNone_eq h4.1
        have := isNon_eq h4.2
        subst this
        have hop := op_is g.hK h1 ho
        exact ⟨s_isop hop ha h2, fun _ => s_isT hop ha h2, fun q => by cases q⟩
    · cases h
  | .chn o o2 a' b' c', sc, fc, W, X, e, g, h => by
    simp only [kE] at h
    split at h
    · simp only [Bool.and_eq_true, decide_eq_true_eq, Bool.not_eq_true'] at h
      obtain ⟨⟨⟨⟨⟨⟨⟨h1, h2⟩, h3⟩, h4⟩, h5⟩, h6⟩, h7⟩, h8⟩ := h
      have ha := (kE_ok a' sc fc W X _ g h6).1
      have hb := (kE_ok b' sc fc W X _ g h7).1
      have hc := (kE_ok c' sc fc W X _ g h8).1
      exact ⟨s_chn (op_cmp g.hK g.room h1 h3) (op_cmp g.hK g.room h2 h4) ha hb hc h5, fun _ => s_chnT (op_cmp g.hK g.room h1 h3) (op_cmp g.hK g.room h2 h4) ha hb hc h5, fun q => by cases q⟩
    · cases h
  | .neg a', sc, fc, W, X, e, g, h => by
    simp only [kE] at h
    split at h
    · exact sn_val (s_neg (kE_ok a' sc fc W X _ g h).1) rfl rfl
    · cases h
  | .nt a', sc, fc, W, X, e, g, h => by
    simp only [kE] at h
    split at h
    · have ha := kE_ok a' sc fc W X _ g h
      exact ⟨s_notV ha.1, fun q => s_not (ha.2.1 q), fun q => by cases q⟩
    · cases h
  | .and a' b', sc, fc, W, X, e, g, h => by
    simp only [kE] at h
    split at h
    · rename_i a b es p
      simp only [Bool.and_eq_true] at h
      have ha := kE_ok a' sc fc W X _ g h.1
      have h2 := h.2
      cases es with
      | nil =>
        have hb := kE_ok b' sc fc W X _ g h2
        have pw : tE (.and a' b') (.BoolOp .And [a, b] p) = true → PW X (.BoolOp .And [a, b] p) (rT G M C W (.and a' b')) := fun q => by
          simp only [tE, Bool.and_eq_true] at q
          exact s_andT (ha.2.1 q.1) (pw_and1 (hb.2.1 q.2))
        exact ⟨s_and ha.1 (pe_one hb.1), fun q => pw_pt (pw q), fun _ q => pw q⟩
      | cons d es =>
        have hb := kE_ok b' sc fc W X _ g h2
        have pw : tE (.and a' b') (.BoolOp .And (a :: b :: d :: es) p) = true → PW X (.BoolOp .And (a :: b :: d :: es) p) (rT G M C W (.and a' b')) := fun q => by
          simp only [tE, Bool.and_eq_true] at q
          exact s_andT (ha.2.1 q.1) (hb.2.2 rfl q.2)
        exact ⟨s_and ha.1 hb.1, fun q => pw_pt (pw q), fun _ q => pw q⟩
    · cases h
  | .or a' b', sc, fc, W, X, e, g, h => by
    simp only [kE] at h
    split at h
    · rename_i a b es p
      simp only [Bool.and_eq_true] at h
      have ha := kE_ok a' sc fc W X _ g h.1
      have h2 := h.2
      cases es with
      | nil =>
        have hb := kE_ok b' sc fc W X _ g h2
        have pw : tE (.or a' b') (.BoolOp .Or [a, b] p) = true → PW X (.BoolOp .Or [a, b] p) (rT G M C W (.or a' b')) := fun q => by
          simp only [tE, Bool.and_eq_true] at q
          exact s_orT (ha.2.1 q.1) (pw_or1 (hb.2.1 q.2))
        exact ⟨s_or ha.1 (pe_one hb.1), fun q => pw_pt (pw q), fun _ q => pw q⟩
      | cons d es =>
        have hb := kE_ok b' sc fc W X _ g h2
        have pw : tE (.or a' b') (.BoolOp .Or (a :: b :: d :: es) p) = true → PW X (.BoolOp .Or (a :: b :: d :: es) p) (rT G M C W (.or a' b')) := fun q => by
          simp only [tE, Bool.and_eq_true] at q
          exact s_orT (ha.2.1 q.1) (hb.2.2 rfl q.2)
        exact ⟨s_or ha.1 hb.1, fun q => pw_pt (pw q), fun _ q => pw q⟩
    · cases h
  | .orv a' b', sc, fc, W, X, e, g, h => by
    simp only [kE] at h
    split at h
    · simp only [Bool.and_eq_true] at h
      have ha := kE_ok a' sc fc W X _ g h.1
      have hb := kE_ok b' sc fc W X _ g h.2
      refine ⟨s_orv g ha.1 (pe_one hb.1), fun q => ?_, fun _ q => ?_⟩ <;> simp [tE, valShape] at q
    · cases h
  | .ite c' a' b', sc, fc, W, X, e, g, h => by
    simp only [kE] at h
    split at h
    · simp only [Bool.and_eq_true] at h
      obtain ⟨⟨⟨h1, h2⟩, h3⟩, h4⟩ := h
      refine ⟨s_ite ((kE_ok c' sc fc W X _ g h2).2.1 h1) (kE_ok a' sc fc W X _ g h3).1 (kE_ok b' sc fc W X _ g h4).1, fun q => ?_, fun q => ?_⟩
      · simp [tE, valShape] at q
      · cases q
    · cases h
  | .idx a' i', sc, fc, W, X, e, g, h => by
    simp only [kE] at h
    split at h
    · simp only [Bool.and_eq_true, Bool.not_eq_true'] at h
      exact sn_val (s_idx g.hK (kE_ok a' sc fc W X _ g h.1.2).1 (kE_ok i' sc fc W X _ g h.2).1 (plain_of h.1.1)) rfl rfl
    · cases h
  | .slc a' lo' hi', sc, fc, W, X, e, g, h => by
    simp only [kE] at h
    split at h
    · simp only [Bool.and_eq_true] at h
      exact sn_val (s_slc g.hK (kE_ok a' sc fc W X _ g h.1.1).1 (kO_ok lo' sc fc W X _ g h.1.2) (kO_ok hi' sc fc W X _ g h.2)) rfl rfl
    · cases h
  | .rpl mu es' b', sc, fc, W, X, e, g, h => by
    simp only [kE] at h
    split at h
    · simp only [Bool.and_eq_true] at h
      exact sn_val (s_rpl (kEs_ok es' sc fc W X _ g h.1).1 (kE_ok b' sc fc W X _ g h.2).1) rfl rfl
    · cases h
  | .call f es', sc, fc, W, X, e, g, h => by
    simp only [kE] at h
    split at h
    · simp only [Bool.and_eq_true, decide_eq_true_eq] at h
      obtain ⟨⟨⟨h1, h2⟩, h3⟩, h4⟩ := h
      have hs' := h3
      simp only [noStars, List.all_cons, Bool.and_eq_true, Bool.not_eq_true'] at hs'
      exact sn_val (s_call g h1 h2 (kEs_ok es' sc fc W X _ g h4).1 (star_of hs'.1) (star_none hs'.2)) rfl rfl
    · cases h
  | .callv f' es', sc, fc, W, X, e, g, h => by
    simp only [kE] at h
    split at h
    · simp only [Bool.and_eq_true] at h
      exact sn_val (s_callv g (kE_ok f' sc fc W X _ g h.1.1).1 (kEs_ok es' sc fc W X _ g h.2).1 h.1.2) rfl rfl
    · cases h
  | .bi b es', sc, fc, W, X, e, g, h => by
    simp only [kE] at h
    split at h
    · simp only [Bool.and_eq_true, decide_eq_true_eq] at h
      obtain ⟨⟨⟨⟨h1, h2⟩, h3⟩, h4⟩, h5⟩ := h
      subst h1
      exact sn_val (s_bi g h2 h3 (kEs_ok es' sc fc W X _ g h5).1 h4) rfl rfl
    · cases h
  | .met m o' es', sc, fc, W, X, e, g, h => by
    simp only [kE] at h
    split at h
    · simp only [Bool.and_eq_true] at h
      obtain ⟨⟨⟨h1, h2⟩, h3⟩, h4⟩ := h
      have ho := (kE_ok o' sc fc W X _ g h4).1
      split at h1
      · simp only [Bool.and_eq_true, decide_eq_true_eq] at h1
        obtain ⟨rfl, h1⟩ := h1
        split at h1
        · exact sn_val (s_pop g ho (ab_of h2) h3) rfl rfl
        · cases h1
      · cases h1
    · simp only [Bool.and_eq_true, Bool.not_eq_true'] at h
      obtain ⟨⟨⟨⟨⟨h1, h2⟩, h3⟩, h4⟩, h5⟩, h6⟩ := h
      have ho := (kE_ok o' sc fc W X _ g h5).1
      have ha := (kEs_ok es' sc fc W X _ g h6).1
      split at h1
      · rw [decide_eq_true_eq] at h1; subst h1; exact sn_val (s_append g ho ha h4 (ab_of h2) h3) rfl rfl
      · rw [decide_eq_true_eq] at h1; subst h1; exact sn_val (s_extend g ho ha h4 (ab_of h2) h3) rfl rfl
      · rw [decide_eq_true_eq] at h1; subst h1; exact sn_val (s_popAt g ho ha h4 (ab_of h2) h3) rfl rfl
      · cases h1
    · cases h
  | .isi a' ts, sc, fc, W, X, e, g, h => by
    simp only [kE] at h
    split at h
    · simp only [Bool.and_eq_true, decide_eq_true_eq, Bool.not_eq_true'] at h
      obtain ⟨⟨⟨⟨rfl, h2⟩, h3⟩, h4⟩, h5⟩ := h
      have ha := (kE_ok a' sc fc W X _ g h4).1
      split at h5
      · simp only [Bool.and_eq_true, decide_eq_true_eq, Bool.not_eq_true'] at h5
        exact sn_val (s_isiT g h2 ha h3 h5.1.2 (by intro q; rw [q] at h5; simp at h5) h5.2) rfl rfl
      · split at h5
        · exact sn_val (s_isi1 g h2 ha h3 h5) rfl rfl
        · cases h5
    · cases h
  | .cmp mu elt' t it' ifs' own, sc, fc, W, X, e, g, h => by
    simp only [kE] at h
    split at h
    · rename_i elt tg iter ifs scope p
      simp only [Bool.and_eq_true] at h
      obtain ⟨⟨⟨⟨⟨⟨⟨h1, h2⟩, h3⟩, h4⟩, h5⟩, h6⟩, h7⟩, h8⟩ := h
      have hk : scope.kind = .function := by
        unfold isFn at h2; split at h2
        · assumption
        · cases h2
      have hown : ((ownOf N own).map fun x => x.2) = own := by simp [ownOf, Function.comp_def]
      have hv : ∀ i ∈ t.vars, i ∈ own := fun i hi => by
        have := List.all_eq_true.mp h3 i hi
        simpa using this
      have bk := fun s H D cl fp => gd_blk g hk s H D cl fp
      refine sn_val (pe_imp (pe_lc (own := ownOf N own) g.calm (by rw [g.hN]; exact g.nd) (kIt_ok it' sc fc W X tg iter g h6) (blkOk_by (by rw [g.hN, g.hsc]; exact h1))
        (fun s H D cl fp => show PG _ tg (gT X.K t) from pg_T (bk s H D cl fp) t tg h4) (fun s H D cl fp => kIf_ok ifs' _ _ noW _ ifs (bk s H D cl fp) h7) (fun s H D cl fp => (kE_ok elt' _ _ noW _ elt (bk s H D cl fp) h8).1) (fold_of h5 _)) fun σ H Q q => ?_) rfl rfl
      rw [hown]
      exact s_lcR g hv (tgC_ok h4) q
    · cases h
  | .cmp2 elt' t it' t2 it2' own own2, sc, fc, W, X, e, g, h => by
    simp only [kE] at h
    split at h
    · rename_i elt tg iter tg2 iter2 scope p
      simp only [Bool.and_eq_true] at h
      obtain ⟨⟨⟨⟨⟨⟨⟨⟨⟨⟨⟨h1, h2⟩, h3⟩, h3b⟩, h3c⟩, h4⟩, h5⟩, h4b⟩, h5b⟩, h6⟩, h7⟩, h8⟩ := h
      have hk : scope.kind = .function := by
        unfold isFn at h2; split at h2
        · assumption
        · cases h2
      have hown : ((ownOf N own).map fun x => x.2) = own := by simp [ownOf, Function.comp_def]
      have hv : ∀ {as bs : List Nat}, sub as bs = true → ∀ i ∈ as, i ∈ bs := fun h i hi => by
        have := List.all_eq_true.mp h i hi
        simpa using this
      have bk := fun s H D cl fp => gd_blk g hk s H D cl fp
      refine sn_val (pe_imp (pe_lc2 (own := ownOf N own) (vs1 := own2) g.calm (by rw [g.hN]; exact g.nd) (kIt_ok it' sc fc W X tg iter g h6) (blkOk_by (by rw [g.hN, g.hsc]; exact h1)) (by rw [hown]; exact hv h3c)
        (fun s H D cl fp => show PG _ tg (gT X.K t) from pg_T (bk s H D cl fp) t tg h4) (fun s H D cl fp => pts_nil) (fun s H D cl fp => kIt_ok it2' _ _ noW _ tg2 iter2 (bk s H D cl fp) h7)
        (fun s H D cl fp => show PG _ tg2 (gT X.K t2) from pg_T (bk s H D cl fp) t2 tg2 h4b) (fun s H D cl fp => pts_nil) (fun s H D cl fp => (kE_ok elt' _ _ noW _ elt (bk s H D cl fp) h8).1) (fold_of h5 _) (fun env x => fold_of h5b env x)) fun σ H Q q => ?_) rfl rfl
      rw [hown]
      exact s_lc2R g (hv h3) (tgC_ok h4) (hv h3b) (tgC_ok h4b) q
    · cases h
  | .attr _ _, _, _, _, _, _, _, h => by simp [kE] at h
  | .ssrt a', sc, fc, W, X, e, g, h => by
    simp only [kE] at h
    split at h
    · simp only [Bool.and_eq_true, decide_eq_true_eq, Bool.not_eq_true'] at h
      obtain ⟨⟨⟨⟨⟨rfl, rfl⟩, h1⟩, h2⟩, h3⟩, h4⟩ := h
      exact sn_val (s_ssrt g h1 h2 (kE_ok a' sc fc W X _ g h4).1 h3) rfl rfl
    · cases h
  | .slen a', sc, fc, W, X, e, g, h => by
    simp only [kE] at h
    split at h
    · simp only [Bool.and_eq_true, decide_eq_true_eq, Bool.not_eq_true'] at h
      obtain ⟨⟨⟨⟨⟨rfl, rfl⟩, h1⟩, h2⟩, h3⟩, h4⟩ := h
      exact sn_val (s_slen g h1 h2 (kE_ok a' sc fc W X _ g h4).1 h3) rfl rfl
    · cases h
theorem kEs_ok : ∀ (es' : Es) (sc : Scope) (fc : Str → Bool) (W : WX) (X : Cx) (es : List Expr), Gd G M C T k N sc fc W X → kEs T N es' sc fc es = true → PA X es (rEs G M C W es') ∧ noStars es = true
  | .nil, sc, fc, W, X, es, g, h => by
    cases es with
    | nil => exact ⟨s_nil, rfl⟩
    | cons => cases h
  | .cons a' es', sc, fc, W, X, es, g, h => by
    cases es with
    | nil => simp [kEs] at h
    | cons a es =>
      simp only [kEs, Bool.and_eq_true, Bool.not_eq_true'] at h
      obtain ⟨⟨h1, h2⟩, h3⟩ := h
      have r := kEs_ok es' sc fc W X es g h3
      exact ⟨s_cons (kE_ok a' sc fc W X a g h2).1 r.1 (star_of h1), by simpa [noStars, h1] using r.2⟩
theorem kIf_ok : ∀ (es' : Es) (sc : Scope) (fc : Str → Bool) (W : WX) (X : Cx) (es : List Expr), Gd G M C T k N sc fc W X → kIf T N es' sc fc es = true → PTs X es (rIf G M C W es')
  | .nil, sc, fc, W, X, es, g, h => by
    cases es with
    | nil => exact ⟨fun pins s σ H Q I ⟨φ, ev, h, R, r, p⟩ => pts_nil.run pins s σ H Q I (p φ H true (.refl _ _) R rfl)⟩
    | cons => cases h
  | .cons a' es', sc, fc, W, X, es, g, h => by
    simp only [kIf] at h
    split at h
    · simp only [Bool.and_eq_true] at h
      have ha := (kE_ok a' sc fc W X _ g h.2).2.1 h.1
      refine ⟨fun pins s σ H Q I ⟨φ, ev, h, R, r, p⟩ => (pts_one ha).run pins s σ H Q I ⟨φ, ev, h, R, r, ?_⟩⟩
      have e0 : evIf M C (.cons a' .nil) ev h = toB (evE M C a' ev h) := by
        simp only [evIf, toB]
        cases evE M C a' ev h with
        | ok d h1 =>
          cases d <;> try rfl
          rename_i b; cases b <;> rfl
        | exc => rfl
        | stk => rfl
      rw [e0] at p
      exact p
    · cases h
theorem kO_ok : ∀ (e' : Eo) (sc : Scope) (fc : Str → Bool) (W : WX) (X : Cx) (e : Option Expr), Gd G M C T k N sc fc W X → kO T N e' sc fc e = true → PO X e (rO G M C W e')
  | .no, sc, fc, W, X, e, g, h => by
    cases e with
    | none => exact s_no
    | some => cases h
  | .so a', sc, fc, W, X, e, g, h => by
    cases e with
    | none => cases h
    | some a => exact s_so (kE_ok a' sc fc W X a g h).1
theorem kIt_ok : ∀ (it' : It) (sc : Scope) (fc : Str → Bool) (W : WX) (X : Cx) (tg e : Expr), Gd G M C T k N sc fc W X → kIt T N it' sc fc tg e = true → PI X tg e (rIt G M C W it')
  | .seq a', sc, fc, W, X, tg, e, g, h => i_seq g (kE_ok a' sc fc W X e g h).1
  | .enm a', sc, fc, W, X, tg, e, g, h => by
    simp only [kIt] at h
    split at h
    · simp only [Bool.and_eq_true, decide_eq_true_eq, Bool.not_eq_true'] at h
      obtain ⟨⟨⟨⟨rfl, h1⟩, h2⟩, h3⟩, h4⟩ := h
      obtain ⟨x1, x2, x3, rfl⟩ := isTupE_eq h2
      exact i_enm g h1 (kE_ok a' sc fc W X _ g h4).1 h3
    · cases h
  | .zip a' b', sc, fc, W, X, tg, e, g, h => by
    simp only [kIt] at h
    split at h
    · simp only [Bool.and_eq_true, decide_eq_true_eq, Bool.not_eq_true'] at h
      obtain ⟨⟨⟨⟨⟨⟨rfl, h1⟩, h2⟩, h3⟩, h4⟩, h5⟩, h6⟩ := h
      obtain ⟨x1, x2, x3, rfl⟩ := isTupE_eq h2
      exact i_zip g h1 (kE_ok a' sc fc W X _ g h5).1 h3 (kE_ok b' sc fc W X _ g h6).1 h4
    · cases h
  | .rng a', sc, fc, W, X, tg, e, g, h => by
    simp only [kIt] at h
    split at h
    · simp only [Bool.and_eq_true, decide_eq_true_eq, Bool.not_eq_true'] at h
      obtain ⟨⟨⟨rfl, h1⟩, h2⟩, h3⟩ := h
      exact i_rng g h1 (kE_ok a' sc fc W X _ g h3).1 h2
    · cases h
  | .itm _, _, _, _, _, _, _, _, h => by simp [kIt] at h
end
end
end Ev

/-! try. -/
namespace Ev
open PySem PySem.Spec PyProof.Rows L2 PySem.W PySem.SeqAt

section
variable {G : Gl0} {M : Mo} {C : Orc} {T : Nt} {k : Nat} {N : List Str} {sc : Scope} {fc : Str → Bool} {W : WX} {X : Cx} {a b c tg : Expr} {es : List Expr} {a' b' c' o' i' : E} {es' : Es} {pos pos' : Pos} {st : Stmt}
variable {pins : List (Addr × Obj)} {σ : L2.St} {H H1 : Hp} {s : Shared} {φ φ1 φ0 : Phi} {h h0 : AH} {H0 : Hp} {ev : Env}

/-- a def's own block, in which a try may stand -/
structure Bk (X : Cx) : Prop where
  stk : X.stack = X.env :: X.outer
  frm : X.env.frame = some X.env.locals
def cstV : D → Option V
  | .non => some .non
  | .bl b => some (.bl b)
  | .int i => some (.int i)
  | .str x => some (.str x)
  | _ => none
theorem cst_pe {X : Cx} {d : D} {e : Expr} (h : cstC d e = true) : ∃ v, cstV d = some v ∧ PE X e (tC v) ∧ ∀ (G : Gl0) (φ : Phi) (H : Hp), RD G φ H d v := by
  unfold cstC at h
  split at h
  · exact ⟨_, rfl, pe_non, fun _ _ _ => .non⟩
  · rw [beq_iff_eq] at h; subst h; exact ⟨_, rfl, pe_bl, fun _ _ _ => .bl _⟩
  · rw [decide_eq_true_eq] at h; subst h; exact ⟨_, rfl, pe_int, fun _ _ _ => .int _⟩
  · rw [decide_eq_true_eq] at h; subst h; exact ⟨_, rfl, pe_str, fun _ _ _ => .str _⟩
  · cases h
/-- suites: constants handed on -/
def kS0 (N : List Str) (sc : Scope) : S0 → List Stmt → Bool
  | .asg j (.cst d), [.Assign [.Name x _] e _] => locC N sc (fun _ => true) j x && cstC d e
  | .ret (.cst d), [.Return (some e) _] => cstC d e
  | _, _ => false
def kHs (T : Nt) (N : List Str) (sc : Scope) : Hs → List ExceptHandler → Bool
  | .nil, [] => true
  | .cons c none b hs, .ExceptHandler (some (.Name x _)) none (b0 :: su) _ :: hds => decide (T.ex c = some x) && glC sc x && kS0 N sc b (b0 :: su) && kHs T N sc hs hds
  | _, _ => false
theorem swaps_cst {d : D} {e : Expr} (h : cstC d e = true) (t : Option Expr) (l : Nat) (env : PySem.Env) : swapsWith e t l env = pure false := by
  cases e <;> first | rfl | (cases d <;> cases h)
theorem loc_of' {a0 : Addr} {pn : List (Addr × Obj)} (g : Gd G M C T k N sc (fun _ => true) W X) (hf : ∀ x, X.fn x = true) {i : Nat} {x : Str} (h : locC N sc (fun _ => true) i x = true) : (X.suite a0 pn).N[i]? = some x ∧ Loc (X.suite a0 pn).env.scope x := by
  obtain ⟨h1, h2, _⟩ := loc_of g h
  exact ⟨h1, h2⟩
theorem suite_ok (g : Gd G M C T k N sc (fun _ => true) W X) {b : S0} {sts : List Stmt} (h : kS0 N sc b sts = true) (hne : ∃ b0 su, sts = b0 :: su) : ∃ ts : TS, (∀ a0 pn, PSs (X.suite a0 pn) sts ts) ∧ ∀ (W : WX) (Dn : Ends) (φ : Phi) (σ : L2.St) (e : Env) (h : AH) (H : Hp) (fs : List D), HRel G φ h H → EnvR G φ H e σ → SPost G W Dn φ H (evS0 fs none e h b) → ts Dn σ H := by
  unfold kS0 at h
  split at h
  · rename_i j d x px e p
    simp only [Bool.and_eq_true] at h
    obtain ⟨v, hv, hpe, hrd⟩ := cst_pe h.2 (X := X)
    obtain ⟨h1, h2, h3⟩ := loc_of g h.1
    refine ⟨tSeq (tAsg (tC v) (gName j)) tNext, fun a0 pn => pss_cons (ps_set (by rw [g.hN]; exact g.nd) h1 h2 ?_ (swaps_cst h.2 _ _ _) h3) pss_nil, fun W Dn φ σ e h H fs R er p => p _ _ _ (.refl _ _) R (er.put (hrd _ _ _))⟩
    obtain ⟨v', hv', hpe', _⟩ := cst_pe h.2 (X := X.suite a0 pn)
    rw [hv] at hv'; cases hv'
    exact hpe'
  · rename_i d e p
    obtain ⟨v, hv, hpe, hrd⟩ := cst_pe h (X := X)
    refine ⟨tSeq (tRet (tC v)) tNext, fun a0 pn => pss_cons (ps_ret ?_) pss_nil, fun W Dn φ σ e h H fs R er p => p _ _ _ (.refl _ _) R (hrd _ _ _)⟩
    obtain ⟨v', hv', hpe', _⟩ := cst_pe h (X := X.suite a0 pn)
    rw [hv] at hv'; cases hv'
    exact hpe'
  · cases h
theorem hds_ok (g : Gd G M C T k N sc (fun _ => true) W X) : ∀ (hs : Hs) (hds : List ExceptHandler), kHs T N sc hs hds = true → ∃ l, HdsOk X hds l ∧ ∀ (Wo : WX) (Dn : Ends) (φ : Phi) (σ : L2.St) (e : Env) (h : AH) (H : Hp) (c : Nat) (fs : List D) (cls : Value) (dct : Option Addr),
    HRel G φ h H → EnvR G φ H e σ → XRel G φ H c fs cls dct → SPost G Wo Dn φ H (evHs hs c fs e h) → wMany X.K Wo Dn l cls dct σ H
  | .nil, [], _ => ⟨[], .nil, fun Wo Dn φ σ e h H c fs cls dct R er x p => p _ _ _ _ _ (.refl _ _) R er x⟩
  | .nil, _ :: _, h => by simp [kHs] at h
  | .cons c i b hs, [], h => by cases i <;> simp [kHs] at h
  | .cons c i b hs, hd :: hds, h => by
    unfold kHs at h
    split at h
    · rename_i heq _; cases heq
    · rename_i c0 b0 hs0 x xp b1 su pp hds0 e1 e2
      cases e1; cases e2
      simp only [Bool.and_eq_true, decide_eq_true_eq] at h
      obtain ⟨⟨⟨h1, h2⟩, h3⟩, h4⟩ := h
      obtain ⟨l, hl, hq⟩ := hds_ok g hs hds h4
      obtain ⟨ts, hts, htq⟩ := suite_ok g h3 ⟨_, _, rfl⟩
      obtain ⟨q1, q2, D, q3, q4, _⟩ := g.xns c x h1
      obtain ⟨g1, g2, g3⟩ := gl_of g h2
      refine ⟨(.ref D, fun _ _ _ => ts) :: l, .cons ⟨g1, g2, .inl q4⟩ (fun a0 oe cls d pn _ _ => hts _ _) hl, fun Wo Dn φ σ e h H c' fs cls dct R er x p => ?_⟩
      obtain ⟨D', hD', rfl⟩ := x.cls
      refine ⟨decide (c' = c), by rw [g.hK]; exact g.exm c c' D D' q3 hD', fun e0 a0 ha => ?_, fun e0 => ?_⟩
      · rw [decide_eq_true_eq] at e0; subst e0
        simp only [evHs, if_true] at p
        exact htq Wo Dn φ σ e h H fs R er p
      · have hne : ¬ c = c' := by simp only [decide_eq_false_iff_not] at e0; exact fun z => e0 z.symm
        simp only [evHs, if_neg hne] at p
        exact hq Wo Dn φ σ e h H c' fs _ dct R er x p
    · cases h
theorem gd_tr (g : Gd G M C T k N sc fc W X) {W' : WX} {pn : List (Addr × Obj)} {xe : Value → Shared → Prop} (tk : Takes (X.tr pn xe) W') (po : PassesOwn (model X.prog X.w) X.A X.env xe) : Gd G M C T k N sc fc W' (X.tr pn xe) where
  hK := g.hK
  hN := g.hN
  nd := g.nd
  hsc := g.hsc
  kind := g.kind
  fnc := g.fnc
  calm := g.calm
  room := g.room
  po := po
  tk := tk
  bi := g.bi
  fns := g.fns
  fan := g.fan
  two := g.two
  xns := g.xns
  exm := g.exm
  gcs := g.gcs
theorem z_try {body : List Stmt} {b' : Ss} {hs : Hs} {hds : List ExceptHandler} (g : Gd G M C T k N sc (fun _ => true) W X) (bk : Bk X) (hb : ∀ (W' : WX) (X' : Cx), Gd G M C T k N sc (fun _ => true) W' X' → Bk X' → PSs X' body (rSs G M C W' b')) (hh : kHs T N sc hs hds = true) (hne : hds ≠ []) :
    PS X (.Try body hds [] [] pos) (rS G M C W (.try b' hs)) := by
  obtain ⟨l, hl, hq⟩ := hds_ok g hs hds hh
  cases hds with
  | nil => exact absurd rfl hne
  | cons h0 hds =>
    refine ps_imp (ps_try_many bk.stk bk.frm g.tk (fun W' pn xe tk po => hb W' _ (gd_tr g tk po) ⟨bk.stk, bk.frm⟩) hl) fun Dn σ H ⟨φ, ev, h, R, r, p⟩ => ?_
    refine ⟨φ, ev, h, R, r, ?_⟩
    simp only [evS] at p
    cases e : evSs M C b' ev h with
    | nx e1 h1 => rw [e] at p; exact p
    | rt d h1 => rw [e] at p; exact p
    | stk => rw [e] at p; exact p
    | exc c fs e1 h1 =>
      rw [e] at p
      intro φ' H' σ' cls dct x R' er' z
      exact hq W Dn φ' σ' e1 h1 H' c fs cls dct R' er' z (p.later x)
end
end Ev

/-! The checks of statements. -/
namespace Ev
open PySem PySem.Spec PyProof.Rows L2 PySem.W PySem.SeqAt

def isComp : Expr → Bool
  | .ListComp _ _ _ _ | .SetComp _ _ _ _ | .DictComp _ _ _ _ _ => true
  | _ => false
def isLc : Expr → Bool
  | .ListComp _ _ _ _ => true
  | _ => false
def isLs : Expr → Bool
  | .List _ _ => true
  | _ => false
def isName : Expr → Bool
  | .Name _ _ => true
  | _ => false
def asgOk (tg e : Expr) : Bool := (!isComp e && !(isTupE e && isTupE tg)) || (isLc e && isName tg)
def fT : Str → Bool := fun _ => true
def locK (sc : Scope) (x : Str) : Bool := match sc.names.lookup x with
  | some .local => true
  | _ => false
def parOk (x : Expr) : Bool := !isStar x
section
variable (T : Nt) (N : List Str) (sc : Scope)
mutual
def kS : S → Stmt → Bool
  | .asg t a', st => match st with
    | .Assign [tg] e _ => tgC N sc fT t tg && asgOk tg e && kE T N a' sc fT e
    | _ => false
  | .par i j a' b', st => match st with
    | .Assign [.Tuple [.Name x px, .Name y py] _ _] (.Tuple [a, b] _ _) _ => locC N sc fT i x && locC N sc fT j y && decide (i ≠ j) && !isStar a && !isStar b && kE T N a' sc fT a && kE T N b' sc fT b &&
      (!(locK sc x && locK sc y && (px.line == py.line)) || (decide (x ≠ y) && !(foldedForSure 8 a && foldedForSure 8 b) && !(constantsAlone 8 a && constantsAlone 8 b)))
    | _ => false
  | .set o' i' a', st => match st with
    | .Assign [.Subscript o i _] e _ => !isSl i && kE T N o' sc fT o && kE T N i' sc fT i && kE T N a' sc fT e
    | _ => false
  | .aug _ _ _, _ => false
  | .exp a', st => match st with
    | .Expr e _ => !isComp e && kE T N a' sc fT e
    | _ => false
  | .ret a', st => match st with
    | .Return (some e) _ => kE T N a' sc fT e
    | _ => false
  | .retN, st => match st with
    | .Return none _ => true
    | _ => false
  | .ite c' u' v', st => match st with
    | .If c u v _ => tE c' c && kE T N c' sc fT c && kSs u' u && kSs v' v
    | _ => false
  | .for t it' b', st => match st with
    | .For tg it body [] _ => tgC N sc fT t tg && noSet it && kIt T N it' sc fT tg it && kSs b' body
    | _ => false
  | .whl c' b', st => match st with
    | .While c body [] _ => tE c' c && kE T N c' sc fT c && kSs b' body
    | _ => false
  | .rse n es', st => match st with
    | .Raise (some (.Call (.Name x _) es [] _)) none _ => decide (T.ex n = some x) && glC sc x && decide (es.length = T.exn n) && kEs T N es' sc fT es
    | _ => false
  | .try b' hs, st => match st with
    | .Try body hds [] [] _ => kSs b' body && kHs T N sc hs hds && !hds.isEmpty
    | _ => false
  | .pas, st => match st with
    | .Pass _ => true
    | _ => false
def kSs : Ss → List Stmt → Bool
  | .nil, sts => sts.isEmpty
  | .cons s ss, sts => match sts with
    | st :: sts => kS s st && kSs ss sts
    | [] => false
end
end
section
variable {G : Gl0} {M : Mo} {C : Orc} {T : Nt} {k : Nat} {N : List Str} {sc : Scope} {W : WX} {X : Cx} {a b c tg : Expr} {es : List Expr} {a' b' c' o' i' : E} {es' : Es} {pos pos' : Pos} {st : Stmt}

theorem swaps_no {e : Expr} (h : isComp e = false) (t : Option Expr) (l : Nat) (env : PySem.Env) : swapsWith e t l env = pure false := by
  cases e <;> first | rfl | cases h
theorem stores_no {tg e : Expr} (h : (isTupE e && isTupE tg) = false) (env : PySem.Env) : isLc tg = false → isLs tg = false → swappedStores [tg] e env = pure none := by
  intro _ hl
  cases tg <;> first | rfl | cases hl | skip
  cases e <;> first | rfl | cases h
theorem tg_shape {t : Ev.T} {e : Expr} {fc : Str → Bool} (h : tgC N sc fc t e = true) : isLc e = false ∧ isLs e = false := by
  cases t <;> cases e <;> first | exact ⟨rfl, rfl⟩ | simp [tgC] at h
theorem kind_fn (g : Gd G M C T k N sc fT W X) : X.env.blockKind = .function := by
  unfold Env.blockKind
  rw [g.hsc, g.kind]
  rfl
theorem loc_lookup {fc : Str → Bool} (g : Gd G M C T k N sc fc W X) {x : Str} (h : locK sc x = true) : X.env.scope.names.lookup x = some .local := by
  rw [g.hsc]
  unfold locK at h
  split at h
  · assumption
  · cases h
theorem stores_two (g : Gd G M C T k N sc fT W X) {x y : Str} {px py p1 p2 : Pos} {k1 k2 : Nat} (hs1 : isStar a = false) (hs2 : isStar b = false) :
    (locK sc x && locK sc y && (px.line == py.line)) = true → x ≠ y → (foldedForSure 8 a && foldedForSure 8 b) = false → (constantsAlone 8 a && constantsAlone 8 b) = false →
    swappedStores [.Tuple [.Name x px, .Name y py] k1 p1] (.Tuple [a, b] k2 p2) X.env = pure (some [x, y]) := by
  intro h hne h1 h2
  simp only [Bool.and_eq_true, beq_iff_eq] at h
  obtain ⟨⟨hx, hy⟩, hl⟩ := h
  have lx := loc_lookup g hx
  have ly := loc_lookup g hy
  have kx : X.env.kindOf x = some .local := lx
  have ky : X.env.kindOf y = some .local := ly
  have hst : ∀ {e : Expr}, isStar e = false → (match e with | .Starred _ _ => true | _ => false) = false := fun {e} h => by cases e <;> first | rfl | cases h
  have hb := kind_fn g
  have a1 := hst hs1
  have a2 := hst hs2
  have hd : ([x, y].eraseDups).length = 2 := by
    have : (y == x) = false := by rw [beq_eq_false_iff_ne]; exact fun q => hne q.symm
    simp [List.eraseDups_cons, List.filter, this]
  have hl2 : py.line = px.line := hl.symm
  have h1' : ¬ (foldedForSure 8 a = true ∧ foldedForSure 8 b = true) := fun q => by simp [q.1, q.2] at h1
  have h2' : ¬ (constantsAlone 8 a = true ∧ constantsAlone 8 b = true) := fun q => by simp [q.1, q.2] at h2
  simp [swappedStores, hb, kx, ky, hl2, hd, Expr.pos, List.filterMap_cons, h1', h2']
  rintro (q | q)
  · exact absurd (q.symm.trans a1) (by decide)
  · exact absurd (q.symm.trans a2) (by decide)
theorem stores_two' (g : Gd G M C T k N sc fT W X) {x y : Str} {px py p1 p2 : Pos} {k1 k2 : Nat} :
    (locK sc x && locK sc y && (px.line == py.line)) = false → swappedStores [.Tuple [.Name x px, .Name y py] k1 p1] (.Tuple [a, b] k2 p2) X.env = pure none := by
  intro h
  have hb := kind_fn g
  have lk : ∀ z, locK sc z = false → X.env.kindOf z ≠ some .local := fun z hz q => by
    have q' : sc.names.lookup z = some .local := by rw [← g.hsc]; exact q
    unfold locK at hz
    rw [q'] at hz
    cases hz
  have key : (X.env.kindOf x = some .local ∧ X.env.kindOf y = some .local ∧ py.line = px.line) → False := fun ⟨q1, q2, q3⟩ => by
    have e1 : locK sc x = true := by cases e : locK sc x with | true => rfl | false => exact absurd q1 (lk x e)
    have e2 : locK sc y = true := by cases e : locK sc y with | true => rfl | false => exact absurd q2 (lk y e)
    rw [e1, e2] at h
    simp [q3] at h
  by_cases q1 : X.env.kindOf x = some .local
  · by_cases q2 : X.env.kindOf y = some .local
    · have q3 : ¬ py.line = px.line := fun q => key ⟨q1, q2, q⟩
      simp [swappedStores, hb, q1, q2, q3, Expr.pos, List.filterMap_cons]
    · simp [swappedStores, hb, q1, q2, Expr.pos, List.filterMap_cons]
  · by_cases q2 : X.env.kindOf y = some .local ∧ py.line = px.line
    · simp [swappedStores, hb, q1, q2, Expr.pos, List.filterMap_cons]
    · simp [swappedStores, hb, q1, q2, Expr.pos, List.filterMap_cons]
theorem z_asgLc {i : Nat} {x : Str} {px : Pos} {elt : Expr} {gens : List Comprehension} {scope : Scope} {p : Pos} (g : Gd G M C T k N sc fT W X) (ht : tgC N sc fT (.nm i) (.Name x px) = true) (hk : kE T N a' sc fT (.ListComp elt gens scope p) = true) :
    PS X (.Assign [.Name x px] (.ListComp elt gens scope p) pos) (rS G M C W (.asg (.nm i) a')) := by
  have hv := (kE_ok a' sc fT W X _ g hk).1
  let b : Bool := X.env.blockKind == ScopeKind.function && X.env.kindOf x == some NameKind.local && px.line == p.line && !scope.names.any fun (n, k) => n == x && (k == NameKind.local || k == NameKind.cell)
  have hsw : swapsWith (.ListComp elt gens scope p) (some (.Name x px)) pos.line X.env = pure b := rfl
  by_cases hb : b = true
  · have ht' := ht
    simp only [tgC] at ht'
    obtain ⟨h1, h2, h3⟩ := loc_of g ht'
    have hl : X.env.scope.names.lookup x = some .local := by
      simp only [b, Bool.and_eq_true, beq_iff_eq] at hb
      exact hb.1.1.2
    rw [hb] at hsw
    cases a' with
    | cmp mu elt' t it' ifs' own =>
      simp only [kE] at hk
      split at hk
      · rename_i elt tg iter ifs scope p e0
        injection e0 with e1 e2 e3 e4
        subst e1 e2 e3 e4
        simp only [Bool.and_eq_true] at hk
        obtain ⟨⟨⟨⟨⟨⟨⟨q1, q2⟩, q3⟩, q4⟩, q5⟩, q6⟩, q7⟩, q8⟩ := hk
        have hkf : scope.kind = .function := by
          unfold isFn at q2; split at q2
          · assumption
          · cases q2
        have hown : ((ownOf N own).map fun x => x.2) = own := by simp [ownOf, Function.comp_def]
        have hvv : ∀ i ∈ t.vars, i ∈ own := fun i hi => by
          have := List.all_eq_true.mp q3 i hi
          simpa using this
        have bk := fun s H D cl fp => gd_blk g hkf s H D cl fp
        refine ps_imp (ps_setLc (own := ownOf N own) g.calm (by rw [g.hN]; exact g.nd) h1 hl hsw (kIt_ok it' sc fT W X tg iter g q6) (blkOk_by (by rw [g.hN, g.hsc]; exact q1))
          (fun s H D cl fp => show PG _ tg (gT X.K t) from pg_T (bk s H D cl fp) t tg q4) (fun s H D cl fp => kIf_ok ifs' _ _ noW _ ifs (bk s H D cl fp) q7) (fun s H D cl fp => (kE_ok elt' _ _ noW _ elt (bk s H D cl fp) q8).1) (fold_of q5 _)) fun Dn σ H q => ?_
        rw [hown]
        exact s_lcR g hvv (tgC_ok q4) (asg_read g (t := .nm i) rfl q)
      · cases hk
    | cmp2 elt' t it' t2 it2' own own2 =>
      simp only [kE] at hk
      split at hk
      · rename_i elt tg iter tg2 iter2 scope p e0
        injection e0 with e1 e2 e3 e4
        subst e1 e2 e3 e4
        simp only [Bool.and_eq_true] at hk
        obtain ⟨⟨⟨⟨⟨⟨⟨⟨⟨⟨⟨q1, q2⟩, q3⟩, q3b⟩, q3c⟩, q4⟩, q5⟩, q4b⟩, q5b⟩, q6⟩, q7⟩, q8⟩ := hk
        have hkf : scope.kind = .function := by
          unfold isFn at q2; split at q2
          · assumption
          · cases q2
        have hown : ((ownOf N own).map fun x => x.2) = own := by simp [ownOf, Function.comp_def]
        have hvv : ∀ {as bs : List Nat}, sub as bs = true → ∀ i ∈ as, i ∈ bs := fun h i hi => by
          have := List.all_eq_true.mp h i hi
          simpa using this
        have bk := fun s H D cl fp => gd_blk g hkf s H D cl fp
        refine ps_imp (ps_setLc2 (own := ownOf N own) (vs1 := own2) g.calm (by rw [g.hN]; exact g.nd) h1 hl hsw (kIt_ok it' sc fT W X tg iter g q6) (blkOk_by (by rw [g.hN, g.hsc]; exact q1)) (by rw [hown]; exact hvv q3c)
          (fun s H D cl fp => show PG _ tg (gT X.K t) from pg_T (bk s H D cl fp) t tg q4) (fun s H D cl fp => pts_nil) (fun s H D cl fp => kIt_ok it2' _ _ noW _ tg2 iter2 (bk s H D cl fp) q7)
          (fun s H D cl fp => show PG _ tg2 (gT X.K t2) from pg_T (bk s H D cl fp) t2 tg2 q4b) (fun s H D cl fp => pts_nil) (fun s H D cl fp => (kE_ok elt' _ _ noW _ elt (bk s H D cl fp) q8).1) (fold_of q5 _) (fun env x => fold_of q5b env x)) fun Dn σ H q => ?_
        rw [hown]
        exact s_lc2R g (hvv q3) (tgC_ok q4) (hvv q3b) (tgC_ok q4b) (asg_read g (t := .nm i) rfl q)
      · cases hk
    | cst d => cases d <;> simp [kE, cstC] at hk
    | _ => simp [kE] at hk
  · have hb : b = false := by simpa using hb
    rw [hb] at hsw
    exact z_asg g hv ht hsw rfl
theorem par_read {i j : Nat} {Dn : Ends} {σ : L2.St} {H : Hp} (g : Gd G M C T k N sc fT W X) (q : rS G M C W (.par i j a' b') Dn σ H) : tAsg (rE G M C W (.tup (.cons a' (.cons b' .nil)))) (gT X.K (.cons (.nm i) (.cons (.nm j) .nil))) Dn σ H := by
  obtain ⟨φ, ev, h, R, r, p⟩ := q
  refine ⟨φ, ev, h, R, r, ?_⟩
  simp only [evS] at p
  have e0 : evE M C (.tup (.cons a' (.cons b' .nil))) ev h = (evE M C a' ev h).bind fun x h => (evE M C b' ev h).bind fun y h => .ok (.tup [x, y]) h := by
    simp only [evE, evEs]
    cases evE M C a' ev h with
    | ok d1 h1 =>
      simp only [Res.bind_ok]
      cases evE M C b' ev h1 with
      | ok d2 h2 => simp [Z, sizeLine_eq]
      | exc => rfl
      | stk => rfl
    | exc => rfl
    | stk => rfl
  rw [e0]
  cases e1 : evE M C a' ev h with
  | stk => rw [e1] at p; exact p
  | exc n fs h1 => rw [e1] at p; exact fun φ' H' cls dct x R z => p φ' H' σ cls dct x R (r.ext x) z
  | ok d1 h1 =>
    rw [e1] at p
    simp only [Res.bind_ok, Res.toS_ok] at p ⊢
    cases e2 : evE M C b' ev h1 with
    | stk => rw [e2] at p; exact p
    | exc n fs h2 => rw [e2] at p; exact fun φ' H' cls dct x R z => p φ' H' σ cls dct x R (r.ext x) z
    | ok d2 h2 =>
      rw [e2] at p
      intro φ' H' v x R' dd
      exact put_gT g.hK (.cons (.nm i) (.cons (.nm j) .nil)) (.tup [d1, d2]) v ev _ σ H' _ rfl dd (r.ext x) rfl fun σ' er _ => p φ' H' σ' x R' er
mutual
theorem kS_ok : ∀ (s : S) (W : WX) (X : Cx) (st : Stmt), Gd G M C T k N sc fT W X → Bk X → kS T N sc s st = true → PS X st (rS G M C W s)
  | .asg t a', W, X, st, g, bk, h => by
    simp only [kS] at h
    split at h
    · rename_i tg e p
      simp only [Bool.and_eq_true] at h
      obtain ⟨⟨h1, h2⟩, h3⟩ := h
      have hsh := tg_shape h1
      simp only [asgOk, Bool.or_eq_true, Bool.and_eq_true, Bool.not_eq_true'] at h2
      rcases h2 with h2 | h2
      · exact z_asg g (kE_ok a' sc fT W X e g h3).1 h1 (swaps_no h2.1 _ _ _) (stores_no (by simpa using h2.2) _ hsh.1 hsh.2)
      · obtain ⟨h2, h4⟩ := h2
        cases e <;> try cases h2
        cases tg <;> try cases h4
        cases t with
        | nm i => exact z_asgLc g h1 h3
        | nil => simp [tgC] at h1
        | cons => simp [tgC] at h1
    · cases h
  | .par i j a' b', W, X, st, g, bk, h => by
    simp only [kS] at h
    split at h
    · rename_i x px y py k1 p1 a b k2 p2 p
      simp only [Bool.and_eq_true, decide_eq_true_eq, Bool.not_eq_true'] at h
      obtain ⟨⟨⟨⟨⟨⟨⟨h1, h2⟩, h3⟩, h4⟩, h5⟩, h6⟩, h7⟩, h8⟩ := h
      have ha := (kE_ok a' sc fT W X a g h6).1
      have hb := (kE_ok b' sc fT W X b g h7).1
      have hpa : PA X [a, b] (rEs G M C W (.cons a' (.cons b' .nil))) := s_cons ha (s_cons hb s_nil (star_of h5)) (star_of h4)
      obtain ⟨q1, q2, q3⟩ := loc_of g h1
      obtain ⟨q4, q5, q6⟩ := loc_of g h2
      by_cases hsw : (locK sc x && locK sc y && (px.line == py.line)) = true
      · rw [hsw] at h8
        simp only [Bool.not_true, Bool.false_or, Bool.and_eq_true, decide_eq_true_eq, Bool.not_eq_true'] at h8
        have hll := hsw
        simp only [Bool.and_eq_true] at hll
        exact z_par g q1 q4 h3 (loc_lookup g hll.1.1) (loc_lookup g hll.1.2) hpa rfl (stores_two g h4 h5 hsw h8.1.1 (by simpa using h8.1.2) (by simpa using h8.2))
      · have hsw : (locK sc x && locK sc y && (px.line == py.line)) = false := by simpa using hsw
        have ht : tgC N sc fT (.cons (.nm i) (.cons (.nm j) .nil)) (.Tuple [.Name x px, .Name y py] k1 p1) = true := by
          simp only [tgC, tgsC, h1, h2, Bool.and_self]
        refine ps_imp (ps_asg (s_tup hpa (j := k2)) (pg_T g _ _ ht) rfl (stores_two' g hsw) rfl) fun Dn σ H q => ?_
        exact par_read g q
    · cases h
  | .set o' i' a', W, X, st, g, bk, h => by
    simp only [kS] at h
    split at h
    · rename_i o i pp e p
      simp only [Bool.and_eq_true, Bool.not_eq_true'] at h
      obtain ⟨⟨⟨h1, h2⟩, h3⟩, h4⟩ := h
      exact z_set g (kE_ok a' sc fT W X e g h4).1 (kE_ok o' sc fT W X o g h2).1 (kE_ok i' sc fT W X i g h3).1 h1 (by cases e <;> rfl)
    · cases h
  | .aug _ _ _, _, _, _, _, _, h => by simp [kS] at h
  | .exp a', W, X, st, g, bk, h => by
    simp only [kS] at h
    split at h
    · simp only [Bool.and_eq_true, Bool.not_eq_true'] at h
      exact z_exp (kE_ok a' sc fT W X _ g h.2).1 (swaps_no h.1 _ _ _)
    · cases h
  | .ret a', W, X, st, g, bk, h => by
    simp only [kS] at h
    split at h
    · exact z_ret (kE_ok a' sc fT W X _ g h).1
    · cases h
  | .retN, W, X, st, g, bk, h => by
    simp only [kS] at h
    split at h
    · exact z_retN
    · cases h
  | .ite c' u' v', W, X, st, g, bk, h => by
    simp only [kS] at h
    split at h
    · simp only [Bool.and_eq_true] at h
      obtain ⟨⟨⟨h1, h2⟩, h3⟩, h4⟩ := h
      exact z_ite ((kE_ok c' sc fT W X _ g h2).2.1 h1) (kSs_ok u' W X _ g bk h3) (kSs_ok v' W X _ g bk h4)
    · cases h
  | .for t it' b', W, X, st, g, bk, h => by
    simp only [kS] at h
    split at h
    · simp only [Bool.and_eq_true] at h
      obtain ⟨⟨⟨h1, h2⟩, h3⟩, h4⟩ := h
      exact z_for g (kIt_ok it' sc fT W X _ _ g h3) h1 (kSs_ok b' W X _ g bk h4) (fold_of h2 _)
    · cases h
  | .whl c' b', W, X, st, g, bk, h => by
    simp only [kS] at h
    split at h
    · simp only [Bool.and_eq_true] at h
      exact z_whl g ((kE_ok c' sc fT W X _ g h.1.2).2.1 h.1.1) (kSs_ok b' W X _ g bk h.2)
    · cases h
  | .rse n es', W, X, st, g, bk, h => by
    simp only [kS] at h
    split at h
    · simp only [Bool.and_eq_true, decide_eq_true_eq] at h
      obtain ⟨⟨⟨h1, h2⟩, h3⟩, h4⟩ := h
      rename_i es _ _
      have hone := (g.xns n _ h1).1
      cases es' with
      | nil =>
        cases es with
        | nil => exact z_rse0 g h1 h2 h3.symm
        | cons => simp [kEs] at h4
      | cons a' es' =>
        cases es with
        | nil => simp [kEs] at h4
        | cons a es =>
          simp only [kEs, Bool.and_eq_true, Bool.not_eq_true'] at h4
          cases es with
          | cons => simp only [List.length_cons] at h3; omega
          | nil =>
            cases es' with
            | nil => exact z_rse1 g h1 h2 h3.symm (kE_ok a' sc fT W X a g h4.1.2).1 h4.1.1
            | cons => simp [kEs] at h4
    · cases h
  | .try b' hs, W, X, st, g, bk, h => by
    simp only [kS] at h
    split at h
    · simp only [Bool.and_eq_true, Bool.not_eq_true'] at h
      exact z_try g bk (fun W' X' g' bk' => kSs_ok b' W' X' _ g' bk' h.1.1) h.1.2 (by intro q; rw [q] at h; simp at h)
    · cases h
  | .pas, W, X, st, g, bk, h => by
    simp only [kS] at h
    split at h
    · exact z_pas
    · cases h
theorem kSs_ok : ∀ (ss : Ss) (W : WX) (X : Cx) (sts : List Stmt), Gd G M C T k N sc fT W X → Bk X → kSs T N sc ss sts = true → PSs X sts (rSs G M C W ss)
  | .nil, W, X, sts, g, bk, h => by
    cases sts with
    | nil => exact z_nil
    | cons => simp [kSs] at h
  | .cons s ss, W, X, sts, g, bk, h => by
    cases sts with
    | nil => simp [kSs] at h
    | cons st sts =>
      simp only [kSs, Bool.and_eq_true] at h
      exact z_cons (kS_ok s W X st g bk h.1) (kSs_ok ss W X sts g bk h.2)
end
end
end Ev

/-! Calls: what the evaluator says of a def holds of the def. -/
namespace Ev
open PySem PySem.Spec PyProof.Rows L2 PySem.W PySem.SeqAt

def Phi.upTo (φ : Phi) (n : Nat) : Phi := ⟨fun m => if m < n then φ m else none, φ.hid⟩
section
variable {G : Gl0} {W : WX} {σ : L2.St} {H H' : Hp} {φ φ' : Phi} {h h' h0 : AH} {n : Nat}

theorem upTo_lt {m : Nat} (e : m < n) : (φ.upTo n) m = φ m := if_pos e
theorem upTo_some {m : Nat} {a : Addr} (e : (φ.upTo n) m = some a) : m < n ∧ φ m = some a := by
  by_cases hm : m < n
  · rw [upTo_lt hm] at e; exact ⟨hm, e⟩
  · have : (φ.upTo n) m = none := if_neg hm
    rw [this] at e; cases e
theorem off_upTo {a : Addr} (o : Off φ a) : Off (φ.upTo n) a := ⟨fun m e => o.1 m (upTo_some e).2, o.2⟩
mutual
theorem RD.wf (R : HRel G φ h H) : ∀ {d : D} {v : V}, RD G φ H d v → d.wf h.length = true
  | _, _, .non => rfl
  | _, _, .bl _ => rfl
  | _, _, .int _ => rfl
  | _, _, .str _ => rfl
  | _, _, .tup _ r => by simp only [D.wf]; exact RDs.wf R r
  | _, _, .lst _ r => by simp only [D.wf]; exact RDs.wf R r
  | _, _, .ref e => by simp only [D.wf, decide_eq_true_eq]; exact R.dom _ _ e
  | _, _, .fn _ => rfl
  | _, _, .scr _ => rfl
theorem RDs.wf (R : HRel G φ h H) : ∀ {ds : List D} {vs : List V}, RDs G φ H ds vs → D.wfs h.length ds = true
  | _, _, .nil => rfl
  | _, _, .cons a r => by simp only [D.wfs, Bool.and_eq_true]; exact ⟨RD.wf R a, RDs.wf R r⟩
end
theorem TupAt.upTo {a : Addr} {xs : List V} (x : TupAt G φ H a xs) : TupAt G (φ.upTo n) H a xs := x.elim (fun y => .inl ⟨y.1, off_upTo y.2⟩) .inr
mutual
theorem RD.upTo : ∀ {d : D} {v : V}, RD G φ H d v → d.wf n = true → RD G (φ.upTo n) H d v
  | _, _, .non, _ => .non
  | _, _, .bl b, _ => .bl b
  | _, _, .int b, _ => .int b
  | _, _, .str b, _ => .str b
  | _, _, .tup x r, w => .tup x.upTo (RDs.upTo r (by simpa only [D.wf] using w))
  | _, _, .lst x r, w => .lst ⟨x.1, off_upTo x.2⟩ (RDs.upTo r (by simpa only [D.wf] using w))
  | _, _, .ref e, w => .ref (by simp only [D.wf, decide_eq_true_eq] at w; rw [upTo_lt w]; exact e)
  | _, _, .fn e, _ => .fn e
  | _, _, .scr x, _ => .scr (x.elim (fun y => .inl ⟨y.1, off_upTo y.2⟩) .inr)
theorem RDs.upTo : ∀ {ds : List D} {vs : List V}, RDs G φ H ds vs → D.wfs n ds = true → RDs G (φ.upTo n) H ds vs
  | _, _, .nil, _ => .nil
  | _, _, .cons a r, w => by simp only [D.wfs, Bool.and_eq_true] at w; exact .cons (RD.upTo a w.1) (RDs.upTo r w.2)
end
theorem Ext.upTo (E : Ext φ H φ' H') (R : HRel G φ h0 H) : Ext φ H (φ'.upTo h0.length) H' := by
  refine ⟨fun m a e => ?_, fun a o e f => ?_, fun a e => E.hid a e⟩
  · rw [upTo_lt (R.dom m a e)]; exact E.dom m a e
  · obtain ⟨q1, q2⟩ := E.keep a o e f; exact ⟨q1, off_upTo q2⟩
theorem wfH_get : ∀ {h : AH} {m : Nat} {o : AO}, wfH n h = true → h[m]? = some o → o.wf n = true := by
  intro h m o w e
  exact List.all_eq_true.mp w o (List.mem_of_getElem? e)
theorem AOR.upTo {a : Addr} {o : AO} (x : AOR G φ H a o) (w : o.wf n = true) : AOR G (φ.upTo n) H a o := by
  cases o with
  | lst ds => obtain ⟨xs, e, r⟩ := x; exact ⟨xs, e, RDs.upTo r w⟩
  | dic => exact x.elim
  | ins => exact x.elim
theorem AOR.wf {a : Addr} {o : AO} (R : HRel G φ h H) (x : AOR G φ H a o) : o.wf h.length = true := by
  cases o with
  | lst ds => obtain ⟨xs, e, r⟩ := x; exact RDs.wf R r
  | dic => exact x.elim
  | ins => exact x.elim
theorem cut_ok (R0 : HRel G φ h0 H) (R : HRel G φ' h H') {h1 : AH} (e : cut h0 h = some h1) : HRel G (φ'.upTo h0.length) h1 H' := by
  unfold cut at e
  split at e
  · rename_i q
    cases e
    refine ⟨fun m o z => ?_, fun m a z => ?_, fun m m' a z z' => R.inj m m' a (upTo_some z).2 (upTo_some z').2, fun a z => R.hid a z, fun m a z => R.hdj m a (upTo_some z).2⟩
    · have hm : m < h0.length := by
        have := (List.getElem?_eq_some_iff.mp z).1
        simp at this; omega
      have z' : h[m]? = some o := by
        rw [List.getElem?_take] at z
        simpa [hm] using z
      obtain ⟨a, q1, q2⟩ := R.tot m o z'
      refine ⟨a, by rw [upTo_lt hm]; exact q1, q2.upTo ?_⟩
      rcases q with q | q
      · rw [q] at z
        obtain ⟨a0, _, q4⟩ := R0.tot m o z
        exact AOR.wf R0 q4
      · exact wfH_get q z
    · obtain ⟨q1, q2⟩ := upTo_some z
      have := R.dom m a q2
      simp; omega
  · cases e
mutual
theorem mapR_ok {g : Nat → Option D} (hg : ∀ m a d', φ m = some a → g m = some d' → RD G φ' H d' (.ref a)) (ho : ∀ a, Off φ a → Off φ' a) : ∀ {d d' : D} {v : V}, RD G φ H d v → d.mapR g = some d' → RD G φ' H d' v
  | _, _, _, .non, e => by cases e; exact .non
  | _, _, _, .bl b, e => by cases e; exact .bl b
  | _, _, _, .int b, e => by cases e; exact .int b
  | _, _, _, .str b, e => by cases e; exact .str b
  | _, _, _, .tup x r, e => by
    simp only [D.mapR, Option.map_eq_some_iff] at e
    obtain ⟨ds', e1, rfl⟩ := e
    exact .tup (x.elim (fun y => .inl ⟨y.1, ho _ y.2⟩) .inr) (mapRs_ok hg ho r e1)
  | _, _, _, .lst x r, e => by
    simp only [D.mapR, Option.map_eq_some_iff] at e
    obtain ⟨ds', e1, rfl⟩ := e
    exact .lst ⟨x.1, ho _ x.2⟩ (mapRs_ok hg ho r e1)
  | _, _, _, .ref q, e => hg _ _ _ q e
  | _, _, _, .fn q, e => by cases e; exact .fn q
  | _, _, _, .scr x, e => by cases e; exact .scr (x.elim (fun y => .inl ⟨y.1, ho _ y.2⟩) .inr)
theorem mapRs_ok {g : Nat → Option D} (hg : ∀ m a d', φ m = some a → g m = some d' → RD G φ' H d' (.ref a)) (ho : ∀ a, Off φ a → Off φ' a) : ∀ {ds ds' : List D} {vs : List V}, RDs G φ H ds vs → D.mapRs g ds = some ds' → RDs G φ' H ds' vs
  | _, _, _, .nil, e => by cases e; exact .nil
  | _, _, _, .cons a r, e => by
    simp only [D.mapRs] at e
    obtain ⟨d1, e1, e2⟩ := Option.bind_eq_some_iff.mp e
    obtain ⟨ds1, e3, rfl⟩ := Option.map_eq_some_iff.mp e2
    exact .cons (mapR_ok hg ho a e1) (mapRs_ok hg ho r e3)
end
theorem mapM_ok {g : D → Option D} (hg : ∀ {d d' : D} {v : V}, RD G φ H d v → g d = some d' → RD G φ' H d' v) : ∀ {ds ds' : List D} {vs : List V}, RDs G φ H ds vs → ds.mapM g = some ds' → RDs G φ' H ds' vs
  | _, _, _, .nil, e => by
    simp at e; subst e; exact .nil
  | _, _, _, .cons a r, e => by
    simp only [List.mapM_cons, Option.pure_def, Option.bind_eq_bind] at e
    obtain ⟨d1, e1, e2⟩ := Option.bind_eq_some_iff.mp e
    obtain ⟨ds1, e3, e4⟩ := Option.bind_eq_some_iff.mp e2
    cases e4
    exact .cons (hg a e1) (mapM_ok hg r e3)
theorem frz_ok (R : HRel G φ h H) : ∀ (k : Nat) {d d' : D} {v : V}, RD G φ H d v → frz h n k d = some d' → RD G (φ.upTo n) H d' v
  | 0, d, d', v, r, e => by
    refine mapR_ok (fun m a d2 q e2 => ?_) (fun a o => off_upTo o) r e
    split at e2
    · rename_i hm; cases e2; exact .ref (by rw [upTo_lt hm]; exact q)
    · cases e2
  | k + 1, d, d', v, r, e => by
    refine mapR_ok (fun m a d2 q e2 => ?_) (fun a o => off_upTo o) r e
    split at e2
    · rename_i hm; cases e2; exact .ref (by rw [upTo_lt hm]; exact q)
    · rename_i hm
      obtain ⟨o, ho, w⟩ := R.at' q
      cases o with
      | lst ds =>
        simp only [ho, Option.map_eq_some_iff] at e2
        obtain ⟨ds', e3, rfl⟩ := e2
        obtain ⟨xs, h1, rs⟩ := w
        refine .lst ⟨h1, fun m' z => ?_, R.hdj m a q⟩ (mapM_ok (fun {d d' v} r e => frz_ok R k r e) rs e3)
        obtain ⟨z1, z2⟩ := upTo_some z
        have := R.inj m m' a q z2
        omega
      | dic => exact w.elim
      | ins => exact w.elim
theorem wfs_one {d : D} (w : D.wfs n [d] = true) : d.wf n = true := by simpa [D.wfs] using w
theorem XRel.upTo {c : Nat} {fs : List D} {cls : Value} {dct : Option Addr} (x : XRel G φ H c fs cls dct) (w : D.wfs n fs = true) : XRel G (φ.upTo n) H c fs cls dct := by
  refine ⟨x.cls, ?_⟩
  rcases x.fld with q | ⟨d, v, dx, rfl, q1, q2, q3⟩
  · exact .inl q
  · exact .inr ⟨d, v, dx, rfl, q1, q2, q3.upTo (wfs_one w)⟩
/-- the end of a call -/
theorem fin_ok {Q : VK} {E : XK} {fr : Bool} {r : SRes} {bk ct : L2.St → Hp → Prop} (R0 : HRel G φ h0 H) (p : Post G (RD G) (fun cls dct _ H' => E cls dct H') [] φ H Q (fin fr h0 r)) :
    SPost G (fun cls dct _ H' => E cls dct H') ⟨fun _ H' => Q .non H', Q, bk, ct⟩ φ H r := by
  cases fr with
  | false =>
    cases r with
    | nx e h => exact fun φ' H' σ' x R er => p φ' H' .non x R .non
    | rt d h => exact fun φ' H' v x R rd => p φ' H' v x R rd
    | exc c fs e h => exact fun φ' H' σ' cls dct x R er z => p φ' H' cls dct x R z
    | stk => exact p
  | true =>
    have val : ∀ {d : D} {h1 : AH}, Post G (RD G) (fun cls dct _ H' => E cls dct H') [] φ H Q (clo true h0 d h1) → ∀ φ' H' v, Ext φ H φ' H' → HRel G φ' h1 H' → RD G φ' H' d v → Q v H' := by
      intro d h1 p φ' H' v x R rd
      simp only [clo, if_true] at p
      split at p
      · rename_i d1 h2 e1 e2
        exact p _ _ _ (x.upTo R0) (cut_ok R0 R e2) (frz_ok R 3 rd e1)
      · exact p.elim
    cases r with
    | nx e h => exact fun φ' H' σ' x R er => val p φ' H' .non x R .non
    | rt d h => exact fun φ' H' v x R rd => val p φ' H' v x R rd
    | exc c fs e h =>
      intro φ' H' σ' cls dct x R er z
      simp only [fin, if_true] at p
      split at p
      · rename_i h1 e1
        split at p
        · rename_i w
          exact p _ _ _ _ (x.upTo R0) (cut_ok R0 R e1) (z.upTo w)
        · exact p.elim
      · exact p.elim
    | stk => exact p
theorem start_ok {N : List Str} {ds : List D} {vs : List V} (rs : RDs G φ H ds vs) : EnvR G φ H (start N.length ds) (L2.start N vs) := by
  have hl := rs.length
  refine ⟨by simp [start, L2.start, hl], fun i d e => ?_⟩
  unfold start at e
  by_cases hi : i < ds.length
  · rw [List.getElem?_append_left (by simpa using hi)] at e
    simp only [List.getElem?_map, Option.map_eq_some_iff] at e
    obtain ⟨d', e1, e2⟩ := e
    cases e2
    obtain ⟨v, q1, q2⟩ := rs.get e1
    refine ⟨v, ?_, q2⟩
    unfold L2.start
    rw [List.getElem?_append_left (by simpa [hl] using hi)]
    simp [q1]
  · rw [List.getElem?_append_right (by simpa using hi)] at e
    obtain ⟨_, q⟩ := List.getElem?_eq_some_iff.mp e
    simp at q
end

/-- a def of the module: its statement, its names, its syntax -/
structure Df where
  name : Str
  stm : Stmt
  N : List Str
  ps : List Str
  fd : Fd
/-- the checks of a def -/
def dfC (T : Nt) (d : Df) : Bool := kSs T d.N (defScope d.stm) d.fd.body (defBody d.stm) && decide (d.fd.slots = d.N.length) && decide (d.fd.ps = d.ps.length)
/-- all that a law's module gives -/
structure Mod0 (prog : Program) (w : World) (K : PySem.W.Frag) (mg : Str → Option Value) (base : Heap) (G : Gl0) (M : Mo) (T : Nt) (B : Nat → Option Df) : Prop where
  hK : K = G.K
  bi : ∀ x ∈ biNames, mg x = none
  df : ∀ f name, T.fn f = some name → ∃ (d : Df) (a : Addr) (fdat : FuncData) (qual : Str), B f = some d ∧ d.name = name ∧ G.fa f = some a ∧ mg name = some (.ref a) ∧ PySem.W.keepIn K (.ref a) = true ∧ Binds K fdat d.ps [] ∧ L2.Fun K name qual d.stm a fdat ∧ FnScope d.N d.ps (defScope d.stm) ∧ dfC T d = true
  fan : ∀ f a, G.fa f = some a → ∃ name, T.fn f = some name
  xns : ∀ c name, T.ex c = some name → XFacts prog w K mg base G M c (T.exn c) name
  exm : ∀ c c' D D', G.ea c = some D → G.ea c' = some D' → PySem.W.exmOne G.K (.ref D') (.ref D) = some (decide (c' = c))
  gcs : ∀ x name d, T.gc x = some name → M.gc x = some d → ∃ v u, mg name = some u ∧ RelV v u ∧ ∀ φ H, RD G φ H d v
def tbl (B : Nat → Option Df) : Tb := fun f => (B f).map Df.fd
section
variable {prog : Program} {w : World} {K : PySem.W.Frag} {mg : Str → Option Value} {base : Heap} {G : Gl0} {M : Mo} {T : Nt} {B : Nat → Option Df}
theorem fn_ok (m : Mod0 prog w K mg base G M T B) : ∀ (k f : Nat) (name : Str) (d : Df) (a : Addr) (fdat : FuncData) (qual : Str), T.fn f = some name → B f = some d → G.fa f = some a → L2.Fun K name qual d.stm a fdat → FnScope d.N d.ps (defScope d.stm) → dfC T d = true → Binds K fdat d.ps [] →
    FnOk prog w K mg base (L2.CX prog w) (k + 2) a fdat d.ps (spF G (callN M (tbl B) k) f)
  | 0, f, name, d, a, fdat, qual, _, _, _, _, _, _, _ => ⟨fun vs H Q E ⟨φ, h, ds, _, _, p⟩ => p.elim, fun A outer s H args us vs Q E _ _ _ _ ⟨φ, h, ds, _, _, p⟩ => p.elim⟩
  | k + 1, f, name, d, a, fdat, qual, hT, hB, hG, F, S, hc, hbi => by
    simp only [dfC, Bool.and_eq_true, decide_eq_true_eq] at hc
    obtain ⟨⟨hc1, hc2⟩, hc3⟩ := hc
    have htb : tbl B f = some d.fd := by simp [tbl, hB]
    refine Fun.okX F S (fun vs H Q E ⟨φ, h, ds, R, rs, p⟩ => ?_) fun cdv A outer s H vs Q E hr ⟨φ, h, ds, R, rs, p⟩ => ?_
    · simp only [callN, htb] at p
      split at p
      · rename_i hl
        rw [← rs.length, hl, hc3]
      · exact p.elim
    · simp only [callN, htb] at p
      split at p
      · rename_i hl
        let X := cxOf (L2.CX prog w) prog w K mg base d.N qual (defScope d.stm) a cdv A outer s H E
        have g : Gd G M (callN M (tbl B) k) T (k + 2) d.N (defScope d.stm) fT (fun cls dct _ H' => E cls dct H') X := {
          hK := m.hK
          hN := rfl
          nd := S.nd
          hsc := rfl
          kind := S.kind
          fnc := fun _ _ => rfl
          calm := rfl
          room := hr
          po := PassesOwn.leaving
          tk := takes_of rfl rfl rfl rfl
          bi := m.bi
          fns := fun f' name' h' => by
            obtain ⟨d', a', fdat', qual', q1, q2, q3, q4, q5, q6, q7, q8, q9⟩ := m.df f' name' h'
            exact ⟨a', fdat', d'.ps, q3, q4, q5, q6, fn_ok m k f' name' d' a' fdat' qual' h' q1 q3 q7 q8 q9 q6⟩
          fan := m.fan
          two := Nat.le_add_left _ _
          xns := m.xns
          exm := m.exm
          gcs := m.gcs }
        have := kSs_ok d.fd.body (fun cls dct _ H' => E cls dct H') X (defBody d.stm) g ⟨rfl, rfl⟩ hc1
        refine ⟨_, this, φ, _, h, R, start_ok (N := d.N) rs, ?_⟩
        rw [hc2] at p
        exact fin_ok R p
      · exact p.elim
end
end Ev

set_option maxRecDepth 100000
/-! Errors without a field of their own: class X(ValueError) with an __init__ that calls ValueError.__init__ with a text. -/
namespace Ev
open PySem PySem.Spec PyProof.Rows L2 PySem.W PySem.SeqAt

section
variable {X : Cx} {pins : List (Addr × Obj)} {σ : L2.St} {H1 H2 : Hp} {Q : XK} {hp hp2 h2 : Heap} {g1 g2 : Array GenState} {d1 d2 : Drawn} {t1 t2 : Nat} {os1 os2 : OsState} {a D : Addr}
theorem mk_endN (T : Raises X (.ref D)) (I1 : Inv X pins σ H1 ⟨hp, g1, d1, t1, os1⟩) (ha : hp.objs.size ≤ a) (k : ∀ b o, hp.get? b = some o → hp2.get? b = some o)
    (un : Un (frs X.stack) [] (upd H1 a (exo a D none)) (upd H1 a (exo a D none)) hp2 h2) (hok : HOk X.prog X.w (upd H1 a (exo a D none)) h2) (ho : os2 = os1) (hb : AllBare g2) (q : Q (.ref D) none H1) : MkP X pins σ Q (.ref a) ⟨h2, g2, d2, t2, os2⟩ := by
  have hn := I1.hok.fresh ha
  have ea : (upd H1 a (exo a D none)) a = some (exo a D none) := upd_same
  obtain ⟨t0, hoe⟩ := exo_at hok ea
  obtain ⟨Gh, w1, w2⟩ := restrict h2 fun b => decide (b ≠ a)
  have gk : ∀ b, b ≠ a → Gh.get? b = h2.get? b := fun b hb => w1 b (decide_eq_true hb)
  have ge : Gh.get? a = none := w2 a (by simp)
  have nha : ∀ {b o}, hp.get? b = some o → b ≠ a := fun z => Nat.ne_of_lt (Nat.lt_of_lt_of_le (Heap.lt_size z) ha)
  have up : ∀ {b}, b ≠ a → H1 b = none → upd H1 a (exo a D none) b = none := fun hb n => by rw [upd_ne hb]; exact n
  have U : Un (frs X.stack) [] H1 H1 hp Gh := by
    refine ⟨fun b o z n hf hx => ?_, fun b o z n hf hx => ?_, fun b o z n hx => n, fun b o z hx => ?_, fun b xs z => z, fun b o v z => z, fun b ps z => ⟨#[], by simpa using z⟩⟩
    · rw [gk b (nha z)]; exact un.keep b o (k b o z) (up (nha z) n) hf hx
    · rw [gk b (nha z)]; exact un.slot b o (k b o z) (up (nha z) n) hf hx
    · rw [gk b (nha z)]; exact un.there b o (k b o z) hx
  have hok3 : HOk X.prog X.w H1 Gh := by
    intro b o z
    have hba : b ≠ a := ne_of_none z hn
    refine ObjOk.stay (hok b o (by rw [upd_ne hba]; exact z)) (fun c v hc y => ?_) (fun c hc => ?_) (fun c xs hc => ?_)
    · have hca : c ≠ a := by
        rcases hc with hc | hc
        · rw [hc]; exact hba
        · exact at_ne ea hc exo_own
      rw [gk c hca]; exact y
    · rw [upd_ne (at_ne ea hc exo_own)] at hc; exact hc
    · rw [upd_ne (at_ne ea hc exo_tup)] at hc; exact hc
  have J := Inv.call' (s' := ⟨Gh, g2, d2, t2, os2⟩) (ch := []) I1 ho U hok3 hb fun b z => absurd z (List.not_mem_nil)
  refine ⟨a, _, _, ⟨Gh, g2, d2, t2, os2⟩, H1, .ref D, none, rfl, J, fun b o z => ?_, ge, hoe, ⟨rfl, rfl⟩, rfl, rfl, hn, rfl, hb, T, q⟩
  by_cases hba : b = a
  · subst hba
    have z' : Gh.get? b = some o := z
    rw [ge] at z'; cases z'
  · exact (gk b hba).symm.trans z
end
/-- what __init__ without a field promises -/
def spI0 (D : Addr) : Sp := fun vs H Q _ => ∃ a, vs = [.ref a] ∧ H a = some (exo a D none) ∧ Q .non H
section
variable {X : Cx} {D fI : Addr} {fd : FuncData} {x : Str} {p pos : Pos}
/-- X() -/
theorem pmk_0 (T : OexC X.K D) (iC : findIn X.K (.ref D) "__init__" = some (some (.ref fI))) (tI : typeIn X.K (.ref fI) = some (.type "function")) (F1 : FnOk X.prog X.w X.K X.mg X.base (L2.CX X.prog X.w) 1 fI fd ["self"] (spI0 D)) (hr : Room 2 X.A) (hb : Binds X.K fd ["self"] [])
    (hg : Gl X x) (hm : X.mg x = some (.ref D)) (hdb : (x == ("__debug__" : Str)) = false) : PMk X (.Call (.Name x p) [] [] pos) (fun _ H Q => Q (.ref D) none H) := by
  intro pins s σ H1 Q I1 q
  obtain ⟨nm, qn, N, bs, bm, sn, sub, ab, col, dd, k0, k1, k2, k3, k5, hC, hbm⟩ := T.cls
  refine wpAny_Call_Name_kw (ld_glob I1 hg hm (callWith_K0 (Inv.kIn I1) T.kC ?_) hdb)
  obtain ⟨hp, g, dr, tk, os⟩ := s
  have hsz := Nat.le_succ hp.objs.size
  have hn := I1.hok.fresh hsz
  have kk : ∀ b o, hp.get? b = some o → ((hp.push (kdv_tup [])).push (HandSPX.excO D hp.objs.size)).get? b = some o := fun b o e => Heap.get?_push_of_some _ (Heap.get?_push_of_some _ e)
  have hget : ((hp.push (kdv_tup [])).push (HandSPX.excO D hp.objs.size)).get? (hp.objs.size + 1) = some (HandSPX.excO D hp.objs.size) := Heap.get?_push_at (by simp) rfl
  have I2 : Inv X pins σ (upd H1 (hp.objs.size + 1) (exo (hp.objs.size + 1) D none)) ⟨(hp.push (kdv_tup [])).push (HandSPX.excO D hp.objs.size), g, dr, tk, os⟩ := I1.laid kk hsz (exo_ok hget)
  refine wpAny_call (HandSPX.call_own (rest := []) F.excBase_ValueError (fun Y => HandSPX.refsVE_contains Y bm hbm) (Inv.kIn I1 D _ hC) (looks_findIn (Inv.kIn I1) iC) (fun self => bind_fn (Inv.kIn I1) self tI) (Nat.zero_le _)
    (codeAny_mono (F1.run (X.A.under (Code.builtin "type.__call__" ⟨Value.ref D :: [], []⟩)) X.stack ⟨(hp.push (kdv_tup [])).push (HandSPX.excO D hp.objs.size), g, dr, tk, os⟩ (upd H1 (hp.objs.size + 1) (exo (hp.objs.size + 1) D none)) ⟨[Value.ref (hp.objs.size + 1)], []⟩ [Value.ref (hp.objs.size + 1)] [V.ref (hp.objs.size + 1)]
      (fun v H2 => v = .non ∧ H2 = upd H1 (hp.objs.size + 1) (exo (hp.objs.size + 1) D none)) (fun _ _ _ => False) (Room.make hr D [] []) (Env0.make (Inv.env0 I2) D [] []) (hb _ [Value.ref (hp.objs.size + 1)] (Inv.kIn I2) rfl) (.cons rfl .nil) ⟨_, rfl, upd_same, rfl, rfl⟩) fun r s' hq => ?_))
  match r, hq with
  | .error e, hq => obtain ⟨_, _, _, _, _, _, _, _, _, _, _, _, z⟩ := hq; exact z.elim
  | .ok .next, hq => exact hq.elim
  | .ok .brk, hq => exact hq.elim
  | .ok .cont, hq => exact hq.elim
  | .ok (.ret u), hq =>
    obtain ⟨v, H2, os2, bare2, un2, hok2, rv, rfl, rfl⟩ := hq
    obtain ⟨h2, g2, d2, t2, os'⟩ := s'
    exact ⟨rv, mk_endN (raises_own T.exC T.tyC) I1 hsz kk un2 hok2 os2 bare2 q⟩
end
/-- __init__(self): ValueError.__init__(self, text) -/
structure Init0 (st : Stmt) (txt : Str) : Prop where
  ok : FnScope ["self"] ["self"] (defScope st)
  body : ∃ (p1 p2 p3 p4 p5 p6 : Pos) (j : Nat), (p2.endLine == p5.line) = true ∧ defBody st = [.Expr (.Call (.Attribute (.Name "ValueError" p1) "__init__" p2) [.Name "self" p3, .Constant (.str txt) j p4] [] p5) p6]
  gl : (defScope st).names.lookup ("ValueError" : Str) = some .globalImplicit
  lc : (defScope st).names.lookup ("self" : Str) = some .local
theorem ve_form {p1 p2 p3 p4 p5 : Pos} {txt : Str} {j : Nat} {env : PySem.Env} (h : (p2.endLine == p5.line) = true) : eval (.Call (.Attribute (.Name "ValueError" p1) "__init__" p2) [.Name "self" p3, .Constant (.str txt) j p4] [] p5) env = (do
   let ov ← eval (.Name "ValueError" p1) env
   standAt p2.atName
   let (f, first) ← holding [ov] (getMethod ov "__init__" (do return (← importBound (.Name "ValueError" p1) env).getD true))
   callWith p5 f first (backTo p5 (starEach [.Name "self" p3, .Constant (.str txt) j p4] env)) (backToKw p5 (keywordEach [] env))) := by
  show (do
    let ov ← eval (.Name "ValueError" p1) env
    standAt p2.atName
    methodCall (.Name "ValueError" p1) "__init__" p2 p5 env ov 2 (backTo p5 (starEach [.Name "self" p3, .Constant (.str txt) j p4] env)) (backToKw p5 (keywordEach [] env))) = _
  have e : ∀ few, methodCallPos few (.Name "ValueError" p1) env p2 p5 = pure p5 := by intro few; unfold methodCallPos; rw [h]; simp
  unfold methodCall
  simp only [e, pure_bind]
  rfl
theorem fn_init0 {prog : Program} {w : World} {K : Frag} {mg : Str → Option Value} {base : Heap} {D fI : Addr} {fd : FuncData} {st : Stmt} {txt qual : Str} (F : L2.Fun K "__init__" qual st fI fd) (T : OexC K D) (i0 : Init0 st txt) (hv : mg "ValueError" = none)
    (hc : findCls K (.type "ValueError") (.type "type") "__init__" = some (.val (.builtin "ValueError.__init__"))) : FnOk prog w K mg base (L2.CX prog w) 1 fI fd ["self"] (spI0 D) := by
  obtain ⟨p1, p2, p3, p4, p5, p6, j, hp, hb⟩ := i0.body
  refine Fun.okX F i0.ok (fun vs H Q E ⟨a, e, _⟩ => by rw [e]; rfl) fun cdv A outer s H vs Q E hr ⟨a, e, ha, q⟩ => ?_
  subst e
  rw [hb]
  refine ⟨_, pss_cons (ps_expr (pe_veinit ?_ hv hc (pa_cons (pe_var (i := 0) rfl (.inl ?_) (by decide) (by decide)) (pa_cons pe_str pa_nil)) (ve_form hp))) pss_nil, ?_⟩
  · exact i0.gl
  · exact i0.lc
  · exact ⟨_, rfl, a, D, _, rfl, (by show 1 ≤ 1000; omega), T, ha, q⟩
/-- the class as the evaluator asks -/
theorem xfacts0 {prog : Program} {w : World} {K : Frag} {mg : Str → Option Value} {base : Heap} {G : Gl0} {M : Mo} {c : Nat} {name : Str} {D fI : Addr} {fd : FuncData} {st : Stmt} {txt qual : Str} (he : M.ex c = some 0) (ha : G.ea c = some D) (hm : mg name = some (.ref D)) (T : OexC K D)
    (iC : findIn K (.ref D) "__init__" = some (some (.ref fI))) (tI : typeIn K (.ref fI) = some (.type "function")) (F : L2.Fun K "__init__" qual st fI fd) (i0 : Init0 st txt) (hv : mg "ValueError" = none)
    (hc : findCls K (.type "ValueError") (.type "type") "__init__" = some (.val (.builtin "ValueError.__init__"))) (hb : Binds K fd ["self"] []) : XFacts prog w K mg base G M c 0 name := by
  refine ⟨Nat.zero_le _, he, D, ha, hm, fun X e1 e2 e3 e4 e5 hcalm hr hg hdb => .inl ⟨rfl, fun pos' pos => ?_⟩⟩
  subst e1 e2 e3 e4 e5
  exact pmk_0 T iC tI (fn_init0 F T i0 hv hc) hr hb hg hm hdb
end Ev

/-! From what the top has written to the law. -/
namespace Ev
open PySem PySem.Spec PyProof.Rows L2 PySem.W

/-- a def of the top -/
structure DefAt (K : Frag) (name : Str) (st : Stmt) (a : Addr) : Prop where
  ns : nsIn K mainGlobals name = some (some (.ref a))
  fn : ∃ (oc : Value) (od : Option Addr) (kV dc pm : Value) (an : Option Addr) (cd ct : Value) (sl : Array (Option Value)), K.lookup a = some ⟨oc, od, .func (fnOf name name (defArgs st) (defBody st) (defScope st) .none kV dc pm an cd ct), sl⟩ ∧ codeIn K cd name = true
  kp : keepIn K (.ref a) = true
theorem DefAt.of {K : Frag} {name : Str} {st : Stmt} {a : Addr} {oc : Value} {od : Option Addr} {kV dc pm : Value} {an : Option Addr} {cd ct : Value} {sl : Array (Option Value)} (h1 : nsIn K mainGlobals name = some (some (.ref a)))
    (h2 : K.lookup a = some ⟨oc, od, .func (fnOf name name (defArgs st) (defBody st) (defScope st) .none kV dc pm an cd ct), sl⟩) (h3 : codeIn K cd name = true) (h4 : keepIn K (.ref a) = true) : ∃ a, DefAt K name st a :=
  ⟨a, h1, ⟨_, _, _, _, _, _, _, _, _, h2, h3⟩, h4⟩
theorem DefAt.fun_ {K : Frag} {name : Str} {st : Stmt} {a : Addr} (d : DefAt K name st a) : ∃ fd, L2.Fun K name name st a fd := by
  obtain ⟨oc, od, kV, dc, pm, an, cd, ct, sl, h2, h3⟩ := d.fn
  exact ⟨_, fun_mk (st := st) h2 h3 d.kp⟩
/-- a class of errors of the top, over ValueError, whose __init__ has no field -/
structure ClsAt (K : Frag) (name : Str) (st : Stmt) (D fI : Addr) : Prop where
  ns : nsIn K mainGlobals name = some (some (.ref D))
  ox : OexC K D
  iC : findIn K (.ref D) "__init__" = some (some (.ref fI))
  tI : typeIn K (.ref fI) = some (.type "function")
  fn : ∃ qual fd, L2.Fun K "__init__" qual st fI fd ∧ Binds K fd ["self"] []
theorem ClsAt.of {K : Frag} {name qual : Str} {st : Stmt} {D fI : Addr} {nm q : Str} {N : Addr} {bs : List Value} {sn : List Str} {sub : List Value} {ab : Bool} {col : Option Bool} {dd : Option Addr} {m0 m1 m2 m3 m5 : Option Value}
    {oc : Value} {od : Option Addr} {kV dc pm : Value} {an : Option Addr} {cd ct : Value} {sl : Array (Option Value)} (h1 : nsIn K mainGlobals name = some (some (.ref D)))
    (xL : K.lookup D = some (excClassObj nm q D N bs [.type "ValueError", .type "Exception", .type "BaseException", .type "object"] true sn sub ab col dd m0 m1 m2 m3 m5 "ValueError.__new__"))
    (sa : findIn K (.ref D) "__setattr__" = some (some (.builtin "object.__setattr__"))) (eC : subIn K (.ref D) (.type "BaseException") = some true) (tC : typeIn K (.ref D) = some (.type "type")) (kC : keepIn K (.ref D) = true)
    (a1 : findIn K (.ref D) "__init__" = some (some (.ref fI))) (t1 : typeIn K (.ref fI) = some (.type "function"))
    (l1 : K.lookup fI = some ⟨oc, od, .func (fnOf "__init__" qual (defArgs st) (defBody st) (defScope st) .none kV dc pm an cd ct), sl⟩) (c1 : codeIn K cd qual = true) (k1 : keepIn K (.ref fI) = true)
    (hb : ∀ fd, L2.Fun K "__init__" qual st fI fd → Binds K fd ["self"] []) : ∃ D fI, ClsAt K name st D fI :=
  ⟨D, fI, h1, ⟨⟨_, _, _, _, _, _, _, _, _, _, _, _, _, _, _, xL, by decide +kernel⟩, sa, eC, tC, kC⟩, a1, t1, _, _, fun_mk (st := st) l1 c1 k1, hb _ (fun_mk (st := st) l1 c1 k1)⟩
theorem exm_of {K : Frag} {D D' : Addr} {n n' : Str} {b : Bool} (h1 : nsIn K mainGlobals n = some (some (.ref D))) (h1' : nsIn K mainGlobals n' = some (some (.ref D'))) (h2 : subIn K (.ref D) (.type "BaseException") = some true) (h3 : isClsIn K D = true) (h4 : typeIn K (.ref D) = some (.type "type")) (h5 : subIn K (.ref D') (.ref D) = some b) :
    ∃ D D', nsIn K mainGlobals n = some (some (.ref D)) ∧ nsIn K mainGlobals n' = some (some (.ref D')) ∧ exmOne K (.ref D') (.ref D) = some b := by
  refine ⟨D, D', h1, h1', ?_⟩
  have e1 : (subIn K (.ref D) (.type "BaseException") == some true) = true := by rw [h2]; rfl
  have e2 : ((clsIn K D).isSome && typeIn K (.ref D) == some (.type "type")) = true := by
    have h3' : (clsIn K D).isSome = true := h3
    rw [h3', h4]; rfl
  show (if (subIn K (.ref D) (.type "BaseException") == some true) = true then (if ((clsIn K D).isSome && typeIn K (.ref D) == some (.type "type")) = true then subIn K (.ref D') (.ref D) else none) else none) = some b
  rw [if_pos e1, if_pos e2]
  exact h5
theorem int_of {K : Frag} {n : Str} {v : Int} {t : Tok} (h : nsIn K mainGlobals n = some (some (.int v t))) : ∃ t, nsIn K mainGlobals n = some (some (.int v t)) := ⟨t, h⟩
/-- what the law promises -/
def spLaw (G : Gl0) (C : Orc) (f : Nat) : Sp := spF G C f
end Ev

/-! The module as a whole, the law. -/
namespace Ev
open PySem PySem.Spec PyProof.Rows L2 PySem.W
open Classical

noncomputable def faOf (K : Frag) (dfs : Nat → Option Df) (x : Nat) : Option Addr := match dfs x with
  | some d => if q : ∃ a, DefAt K d.name d.stm a then some q.choose else none
  | none => none
abbrev Cls0 := Nat → Option (Str × Stmt)
noncomputable def eaOf (K : Frag) (cls : Cls0) (c : Nat) : Option Addr := match cls c with
  | some p => if q : ∃ D fI, ClsAt K p.1 p.2 D fI then some q.choose else none
  | none => none
noncomputable def glOf (K : Frag) (dfs : Nat → Option Df) (cls : Cls0) (ef : Nat → Str) : Gl0 := ⟨K, faOf K dfs, eaOf K cls, ef⟩
/-- a def as it must be -/
structure DfOk (K : Frag) (nt : Nt) (d : Df) : Prop where
  at_ : ∃ a, DefAt K d.name d.stm a
  sc : FnScope d.N d.ps (defScope d.stm)
  ck : dfC nt d = true
  bd : ∀ a fd, L2.Fun K d.name d.name d.stm a fd → Binds K fd d.ps []
structure ClOk (K : Frag) (nt : Nt) (M : Mo) (c : Nat) (p : Str × Stmt) : Prop where
  at_ : ∃ D fI, ClsAt K p.1 p.2 D fI
  ex : nt.ex c = some p.1
  n : nt.exn c = 0
  m : M.ex c = some 0
  ini : ∃ txt, Init0 p.2 txt
theorem ns_inj {K : Frag} {name : Str} {a b : Addr} (h1 : nsIn K mainGlobals name = some (some (.ref a))) (h2 : nsIn K mainGlobals name = some (some (.ref b))) : a = b := by
  rw [h1] at h2; cases h2; rfl
theorem mod_of {prog : Program} {w : World} {K : Frag} {mg : Str → Option Value} {base h : Heap} {dfs : Nat → Option Df} {cls : Cls0} {ef : Nat → Str} {M : Mo} {nt : Nt} (X : K.In h) (Gn : h.Ns mainGlobals mg)
    (hd : ∀ x d, dfs x = some d → DfOk K nt d) (hn : ∀ x, nt.fn x = (dfs x).map Df.name) (hb : ∀ x ∈ biNames, nsIn K mainGlobals x = some none) (hc : ∀ c p, cls c = some p → ClOk K nt M c p) (hcn : ∀ c name, nt.ex c = some name → ∃ st, cls c = some (name, st))
    (hve : nsIn K mainGlobals "ValueError" = some none) (hfc : findCls K (.type "ValueError") (.type "type") "__init__" = some (.val (.builtin "ValueError.__init__")))
    (hx : ∀ c c' p p', cls c = some p → cls c' = some p' → ∃ D D', nsIn K mainGlobals p.1 = some (some (.ref D)) ∧ nsIn K mainGlobals p'.1 = some (some (.ref D')) ∧ exmOne K (.ref D') (.ref D) = some (decide (c' = c)))
    (hg : ∀ x name d, nt.gc x = some name → M.gc x = some d → (∃ v t, d = .int v ∧ nsIn K mainGlobals name = some (some (.int v t))) ∨ ∃ f e, d = .fn f ∧ dfs f = some e ∧ e.name = name) :
    Mod0 prog w K mg base (glOf K dfs cls ef) M nt dfs := by
  have hfa : ∀ {x d}, dfs x = some d → ∃ a, faOf K dfs x = some a ∧ DefAt K d.name d.stm a := fun {x d} e => by
    have q := (hd x d e).at_
    refine ⟨q.choose, ?_, q.choose_spec⟩
    unfold faOf
    rw [e]
    exact dif_pos q
  have hea : ∀ {c p}, cls c = some p → ∃ D fI, eaOf K cls c = some D ∧ ClsAt K p.1 p.2 D fI := fun {c p} e => by
    have q := (hc c p e).at_
    refine ⟨q.choose, q.choose_spec.choose, ?_, q.choose_spec.choose_spec⟩
    unfold eaOf
    rw [e]
    exact dif_pos q
  have heb : ∀ {c D}, eaOf K cls c = some D → ∃ p, cls c = some p ∧ nsIn K mainGlobals p.1 = some (some (.ref D)) := fun {c D} e => by
    cases hp : cls c with
    | none => unfold eaOf at e; rw [hp] at e; cases e
    | some p =>
      obtain ⟨D', fI, z1, z2⟩ := hea hp
      rw [z1] at e; cases e
      exact ⟨p, rfl, z2.ns⟩
  refine ⟨rfl, fun x hx => mg_none_of X Gn (hb x hx), fun f name e => ?_, fun f a e => ?_, fun c name e => ?_, fun c c' D D' e1 e2 => ?_, fun x name d e1 e2 => ?_⟩
  · rw [hn] at e
    obtain ⟨d, e1, rfl⟩ := Option.map_eq_some_iff.mp e
    obtain ⟨a, z1, z2⟩ := hfa e1
    obtain ⟨fd, z3⟩ := z2.fun_
    have ok := hd f d e1
    exact ⟨d, a, fd, d.name, e1, rfl, z1, mg_of X Gn z2.ns, z2.kp, ok.bd a fd z3, z3, ok.sc, ok.ck⟩
  · rw [hn]
    cases hp : dfs f with
    | none =>
      have e' : faOf K dfs f = some a := e
      unfold faOf at e'; rw [hp] at e'; cases e'
    | some d => exact ⟨d.name, rfl⟩
  · obtain ⟨st, hp⟩ := hcn c name e
    obtain ⟨D, fI, z1, z2⟩ := hea hp
    have ok := hc c _ hp
    obtain ⟨txt, i0⟩ := ok.ini
    obtain ⟨qual, fd, z3, z4⟩ := z2.fn
    rw [ok.n]
    exact xfacts0 ok.m z1 (mg_of X Gn z2.ns) z2.ox z2.iC z2.tI z3 i0 (mg_none_of X Gn hve) hfc z4
  · obtain ⟨p, hp, z1⟩ := heb e1
    obtain ⟨p', hp', z2⟩ := heb e2
    obtain ⟨E1, E2, y1, y2, y3⟩ := hx c c' p p' hp hp'
    rw [ns_inj y1 z1, ns_inj y2 z2] at y3
    exact y3
  · rcases hg x name d e1 e2 with ⟨v, t, rfl, z⟩ | ⟨f, e, rfl, z1, rfl⟩
    · exact ⟨.int v, _, mg_of X Gn z, ⟨t, rfl⟩, fun φ H => .int v⟩
    · obtain ⟨a, y1, y2⟩ := hfa z1
      exact ⟨.ref a, _, mg_of X Gn y2.ns, rfl, fun φ H => .fn y1⟩
/-- the law's own promise, from the plain law -/
theorem law_sp {G : Gl0} {C : Orc} {f : Nat} {H : Hp} {a : Addr} {ns : List Int} (hS : SqL G.K H a (ns.map V.int)) (hp : ∃ h, C f [.scr ns] [] = .ok (.bl true) h) : spF G C f [V.ref a] H (fun v _ => v = .bl true) (fun _ _ _ => False) := by
  obtain ⟨h, hp⟩ := hp
  refine ⟨⟨fun _ => none, fun _ => False⟩, [], [.scr ns], ⟨fun n o e => (by simp at e), fun n a e => (by cases e), fun n m a e => (by cases e), fun a e => False.elim e, fun n a e => (by cases e)⟩, .cons (.scr ?_) .nil, ?_⟩
  · rcases hS with q | q
    · exact .inl ⟨q, fun n e => (by cases e), fun e => e⟩
    · exact .inr q
  · rw [hp]
    intro φ' H' v _ _ rd
    cases rd
    rfl
theorem law_walk {l : OpenLaw} {q : Program} {loose : List Str} {XP : (Str → Option Value) → Heap → Prop} {YP : World → Heap → Prop} {d : DefRec} {K : Params → Frag} {dfs : Nat → Option Df} {cls : Cls0} {ef : Nat → Str} {M : Mo} {nt : Nt} {fl : Nat} {dl : Df} (n0 : Nat)
    (hn : l.most = some 63) (hdf : d.params.defaults = []) (hr : Room (n0 + 2) callerA) (hY : ∀ (w : World) (h : Heap), YP w h → (K w.params).In h) (hl : dfs fl = some dl) (hps : dl.ps = (["script"] : List Str)) (hdn : dl.name = d.name)
    (F : ∀ (w : World) (mg : Str → Option Value) (h : Heap), (K w.params).In h → h.Ns mainGlobals mg → ∀ base, Mod0 l.prog w (K w.params) mg base (glOf (K w.params) dfs cls ef) M nt dfs)
    (hnt : nt.fn fl = some dl.name) (hbt : ∀ (K : Frag) (qual : Str) (a : Addr) (fd : FuncData), L2.Fun K dl.name qual dl.stm a fd → ∀ (s : Shared) (u : Value), BindsTo s fd ⟨[u], []⟩ [("script", u)])
    (law : ∀ ns : List Int, ns.length ≤ 63 → (∀ z ∈ ns, Builtin.Int.intBits z ≤ 1048576) → ∃ h, callN M (tbl dfs) n0 fl [.scr ns] [] = .ok (.bl true) h) :
    WalkO q loose XP YP l.row.toRowW d [] (fun f vs => PySem.call f vs) := by
  refine L2.walk_ofB (n := 63) (k := n0 + 2) (x := "script") (CX := fun w => L2.CX l.prog w) (sp := fun w => spF (glOf (K w.params) dfs cls ef) (callN M (tbl dfs) n0) fl) hn (by decide) hdf hr hY ?_ ?_ ?_
  · intro w mg fa h X Gn hmg
    have m := F w mg h X Gn h
    obtain ⟨d', a, fdat, qual, z1, z2, z3, z4, z5, z6, z7, z8, z9⟩ := m.df fl dl.name hnt
    rw [hl] at z1; cases z1
    rw [hdn, hmg] at z4; cases z4
    refine ⟨fdat, ?_, fun base X2 Gn2 => ?_⟩
    · exact hbt _ _ _ _ z7
    · have := fn_ok (F w mg base X2 Gn2 base) n0 fl dl.name dl fa fdat qual hnt hl z3 z7 z8 z9 z6
      rw [hps] at this
      exact this
  · intro w H a ns hlen hbits _ hS
    exact law_sp hS (law ns hlen hbits)
  · intro w H s e s' hE
    obtain ⟨_, _, _, _, _, _, _, _, _, _, _, _, z⟩ := hE
    exact z
end Ev

set_option maxRecDepth 100000
/-! Plain Lean: the evaluator on texts of programs, worked out. -/
namespace Ev
open PySem

theorem mul_ok {i j : Int} (h : j.natAbs < 2 ^ 64) : IntMulOk i j := by
  unfold IntMulOk
  have : Builtin.Int.intBits j ≤ 64 := by
    unfold Builtin.Int.intBits
    split
    · omega
    · rename_i hj
      have hj' : j.natAbs ≠ 0 := by simpa using hj
      have := (Nat.log2_lt hj').mpr h
      omega
  have h2 : decide (Builtin.Int.intBits j > shortFactorBits) = false := by
    simp [shortFactorBits]; omega
  rw [h2]; simp
theorem mul_ok' {i j : Int} (h : i.natAbs < 2 ^ 64) : IntMulOk i j := by
  have := mul_ok (i := j) h
  unfold IntMulOk at *
  intro q
  apply this
  simp only [Bool.and_eq_true] at q ⊢
  obtain ⟨⟨q1, q2⟩, q3⟩ := q
  exact ⟨⟨q2, q1⟩, by rw [Int.add_comm]; exact q3⟩

section
variable {M : Mo} {B : Tb}
theorem call_eq {k f : Nat} {ds : List D} {h : AH} {fd : Fd} (hf : B f = some fd) (hl : ds.length = fd.ps) : callN M B (k + 1) f ds h = fin fd.frz h (evSs M (callN M B k) fd.body (start fd.slots ds) h) := by
  simp only [callN, hf, hl, if_true]
theorem call_at {k f ps sl : Nat} {b : Ss} {ds : List D} {h : AH} (hf : B f = some ⟨ps, sl, true, b⟩) (hl : ds.length = ps) : callN M B (k + 1) f ds h = fin true h (evSs M (callN M B k) b (start sl ds) h) := by
  simp only [callN, hf, hl, if_true]
end

/-! ### lazy rewriting: what comes after a step is not looked at before the step is done -/
theorem Res.bind_congr {α β : Type} {a b : Res α} (f : α → AH → Res β) (h : a = b) : a.bind f = b.bind f := by rw [h]
theorem Res.toS_congr {α : Type} {a b : Res α} (e : Env) (f : α → AH → SRes) (h : a = b) : a.toS e f = b.toS e f := by rw [h]
theorem SRes.thn_congr {a b : SRes} (f : Env → AH → SRes) (h : a = b) : a.thn f = b.thn f := by rw [h]
theorem boolR_congr {a b : D} (f : Bool → Res D) (h : a = b) : boolR a f = boolR b f := by rw [h]

@[simp] theorem wf_non (n : Nat) : D.wf n .non = true := Eq.trans rfl rfl
@[simp] theorem wf_bl (n : Nat) (b : Bool) : D.wf n (.bl b) = true := Eq.trans rfl rfl
@[simp] theorem wf_int (n : Nat) (b : Int) : D.wf n (.int b) = true := Eq.trans rfl rfl
@[simp] theorem wf_str (n : Nat) (b : Str) : D.wf n (.str b) = true := Eq.trans rfl rfl
@[simp] theorem wf_fn (n : Nat) (b : Nat) : D.wf n (.fn b) = true := Eq.trans rfl rfl
@[simp] theorem wf_tup (n : Nat) (ds : List D) : D.wf n (.tup ds) = D.wfs n ds := Eq.trans rfl rfl
@[simp] theorem wf_lst (n : Nat) (ds : List D) : D.wf n (.lst ds) = D.wfs n ds := Eq.trans rfl rfl
@[simp] theorem wf_ref (n m : Nat) : D.wf n (.ref m) = decide (m < n) := Eq.trans rfl rfl
@[simp] theorem wfs_nil (n : Nat) : D.wfs n [] = true := Eq.trans rfl rfl
@[simp] theorem wfs_cons (n : Nat) (d : D) (ds : List D) : D.wfs n (d :: ds) = (d.wf n && D.wfs n ds) := Eq.trans rfl rfl
theorem wfs_of {n : Nat} : ∀ ds : List D, (∀ d ∈ ds, d.wf n = true) → D.wfs n ds = true
  | [], _ => rfl
  | d :: ds, h => by rw [wfs_cons, h d List.mem_cons_self, wfs_of ds fun x hx => h x (List.mem_cons_of_mem _ hx)]; rfl
@[simp] theorem wfs_ints (n : Nat) (r : List Int) : D.wfs n (r.map D.int) = true := wfs_of _ (by simp)

/-! ### a return: what has no new object in it stays -/
mutual
theorem mapR_wf {g : Nat → Option D} {n : Nat} (hg : ∀ m, m < n → g m = some (.ref m)) : ∀ d : D, d.wf n = true → d.mapR g = some d
  | .non, _ => rfl
  | .bl _, _ => rfl
  | .int _, _ => rfl
  | .str _, _ => rfl
  | .tup ds, h => by simp only [D.mapR, mapRs_wf hg ds (by simpa only [D.wf] using h), Option.map_some]
  | .lst ds, h => by simp only [D.mapR, mapRs_wf hg ds (by simpa only [D.wf] using h), Option.map_some]
  | .dic ks vs, h => by
    simp only [D.wf, Bool.and_eq_true] at h
    simp only [D.mapR, mapRs_wf hg ks h.1, mapRs_wf hg vs h.2, Option.bind_some, Option.map_some]
  | .set ds, h => rfl
  | .ref m, h => by simp only [D.wf, decide_eq_true_eq] at h; exact hg m h
  | .fn _, _ => rfl
  | .scr _, _ => rfl
theorem mapRs_wf {g : Nat → Option D} {n : Nat} (hg : ∀ m, m < n → g m = some (.ref m)) : ∀ ds : List D, D.wfs n ds = true → D.mapRs g ds = some ds
  | [], _ => rfl
  | d :: ds, h => by
    simp only [D.wfs, Bool.and_eq_true] at h
    simp only [D.mapRs, mapR_wf hg d h.1, mapRs_wf hg ds h.2, Option.bind_some, Option.map_some]
end
theorem frz_wf {h : AH} {n k : Nat} {d : D} (w : d.wf n = true) : frz h n k d = some d := by
  cases k with
  | zero => exact mapR_wf (fun m hm => if_pos hm) d w
  | succ k => exact mapR_wf (fun m hm => if_pos hm) d w
theorem cut_same (h : AH) : cut h h = some h := by simp [cut]
theorem clo_same {h : AH} {d : D} (w : d.wf h.length = true) : clo true h d h = .ok d h := by
  simp only [clo, if_true, frz_wf w, cut_same]
@[simp] theorem fin_rt_same {h : AH} {d : D} (w : d.wf h.length = true) : fin true h (.rt d h) = .ok d h := clo_same w
@[simp] theorem fin_nx_same {h : AH} {e : Env} : fin true h (.nx e h) = .ok .non h := clo_same rfl
theorem fin_exc_same {h : AH} {e : Env} {c : Nat} {fs : List D} (w : D.wfs h.length fs = true) : fin true h (.exc c fs e h) = .exc c fs h := by
  simp [fin, cut_same, w]

/-! ### comprehensions, loops that leave the heap alone -/
theorem stays_nil (h h' : AH) : stays [] h h' := fun n hn => by cases hn
theorem compL_pure {h0 : AH} {turn : D → AH → Res (Option D)} {h : AH} {f : D → Option D} : ∀ (xs acc : List D), (∀ x ∈ xs, turn x h = .ok (f x) h) → acc.length + xs.length ≤ Z → compL [] h0 turn xs acc h = .ok (acc ++ xs.filterMap f) h
  | [], acc, _, _ => by simp [compL, stays_nil]
  | x :: xs, acc, ht, hl => by
    simp only [compL, stays_nil, if_true, ht x List.mem_cons_self]
    cases hf : f x with
    | none =>
      simp only [List.filterMap_cons, hf]
      exact compL_pure xs acc (fun y hy => ht y (List.mem_cons_of_mem _ hy)) (by simp at hl; omega)
    | some y =>
      simp only [List.filterMap_cons, hf]
      rw [if_pos (by simp at hl; omega)]
      rw [compL_pure xs (acc ++ [y]) (fun y hy => ht y (List.mem_cons_of_mem _ hy)) (by simp at hl ⊢; omega)]
      simp
theorem compL_map {h0 : AH} {turn : D → AH → Res (Option D)} {h : AH} {f : D → D} (xs : List D) (ht : ∀ x ∈ xs, turn x h = .ok (some (f x)) h) (hl : xs.length ≤ Z) : compL [] h0 turn xs [] h = .ok (xs.map f) h := by
  rw [compL_pure (f := fun x => some (f x)) xs [] ht (by simpa using hl)]
  simp
theorem compL_filter {h0 : AH} {turn : D → AH → Res (Option D)} {h : AH} {p : D → Bool} (xs : List D) (ht : ∀ x ∈ xs, turn x h = .ok (if p x then some x else none) h) (hl : xs.length ≤ Z) : compL [] h0 turn xs [] h = .ok (xs.filter p) h := by
  rw [compL_pure (f := fun x => if p x then some x else none) xs [] ht (by simpa using hl)]
  simp only [List.nil_append]
  congr 1
  induction xs with
  | nil => rfl
  | cons x xs ih =>
    have ih := ih (fun y hy => ht y (List.mem_cons_of_mem _ hy)) (by simp at hl; omega)
    cases hp : p x <;> simp [List.filterMap_cons, List.filter_cons, hp, ih]
theorem it_rng {M : Mo} {C : Orc} {a : E} {e : Env} {h h' : AH} (m : Nat) (ha : evE M C a e h = .ok (.int m) h') (hm : m ≤ 4000) : evIt M C (.rng a) e h = .ok ⟨(List.range m).map fun (k : Nat) => D.int k, []⟩ h' := by
  rw [evIt, ha, Res.bind_ok]
  have q1 : (m : Int) < 2 ^ 62 := Int.lt_of_lt_of_le (b := 5000) (by omega) (by decide)
  have q2 : -(2 ^ 62) ≤ (m : Int) := Int.le_trans (b := 0) (by decide) (by omega)
  exact if_pos ⟨q1, q2⟩
/-- one turn of a comprehension -/
noncomputable def turnOf (M : Mo) (C : Orc) (elt : E) (t : T) (ifs : Es) (own : List Nat) (e : Env) (x : D) (h : AH) : Res (Option D) := match t.put x (e.wipe own) with
  | some e => (evIf M C ifs e h).bind fun k h => if k then (evE M C elt e h).bind fun y h => .ok (some y) h else .ok none h
  | none => .stk
theorem ev_cmp (M : Mo) (C : Orc) (elt : E) (t : T) (it : It) (ifs : Es) (own : List Nat) (e : Env) (h : AH) : evE M C (.cmp false elt t it ifs own) e h = (evIt M C it e h).bind fun w h => (compL w.dep h (turnOf M C elt t ifs own e) w.items [] h).bind fun ds h => .ok (.lst ds) h := by
  rw [evE]; rfl
theorem turn_nil {M : Mo} {C : Orc} {elt : E} {t : T} {own : List Nat} {e e' : Env} {x y : D} {h h' : AH} (hp : t.put x (e.wipe own) = some e') (he : evE M C elt e' h = .ok y h') : turnOf M C elt t .nil own e x h = .ok (some y) h' := by
  simp only [turnOf, hp, evIf, Res.bind_ok, if_true, he]
theorem turn_if {M : Mo} {C : Orc} {elt c : E} {t : T} {own : List Nat} {e e' : Env} {x y : D} {h : AH} {b : Bool} (hp : t.put x (e.wipe own) = some e') (hc : evE M C c e' h = .ok (.bl b) h) (he : evE M C elt e' h = .ok y h) : turnOf M C elt t (.cons c .nil) own e x h = .ok (if b then some y else none) h := by
  cases b <;> simp [turnOf, hp, evIf, hc, he]
theorem ev_var {M : Mo} {C : Orc} {i : Nat} {d : D} {e : Env} {h : AH} (he : e[i]? = some (some d)) : evE M C (.var i) e h = .ok d h := by rw [evE, he]
theorem ev_call1 {M : Mo} {C : Orc} {f : Nat} {a : E} {x : D} {e : Env} {h h1 : AH} (ha : evE M C a e h = .ok x h1) : evE M C (.call f (.cons a .nil)) e h = C f [x] h1 := by
  rw [evE, evEs, ha, Res.bind_ok, evEs, Res.bind_ok, Res.bind_ok]
theorem ev_call2 {M : Mo} {C : Orc} {f : Nat} {a b : E} {x y : D} {e : Env} {h h1 h2 : AH} (ha : evE M C a e h = .ok x h1) (hb : evE M C b e h1 = .ok y h2) : evE M C (.call f (.cons a (.cons b .nil))) e h = C f [x, y] h2 := by
  rw [evE, evEs, ha, Res.bind_ok, evEs, hb, Res.bind_ok, evEs, Res.bind_ok, Res.bind_ok, Res.bind_ok]
theorem thn_tt {α : Type} (a b : α) : (if True then a else b) = a := if_pos trivial
end Ev

set_option maxRecDepth 100000
namespace K03
open Ev PySem

namespace F
abbrev is_number : Nat := 0
abbrev is_from : Nat := 1
abbrev is_between : Nat := 2
abbrev tuple_of : Nat := 3
abbrev is_tuple_of : Nat := 4
abbrev sure : Nat := 5
abbrev is_row_of : Nat := 6
abbrev is_row : Nat := 7
abbrev zero_row : Nat := 8
abbrev is_low_row : Nat := 9
abbrev sure_row : Nat := 10
abbrev sure_rows : Nat := 11
abbrev look_long : Nat := 12
abbrev added : Nat := 13
abbrev at_most : Nat := 14
abbrev some_at_most : Nat := 15
abbrev least_of : Nat := 16
abbrev row_sum : Nat := 17
abbrev is_at_most : Nat := 18
abbrev is_below : Nat := 19
abbrev least_rows : Nat := 20
abbrev reaches : Nat := 21
abbrev sums_of : Nat := 22
abbrev met : Nat := 23
abbrev _law_box : Nat := 24
abbrev _law_take : Nat := 25
abbrev _law_cells : Nat := 26
abbrev _law_same : Nat := 27
abbrev _law_of : Nat := 28
abbrev _law_pick : Nat := 29
abbrev _law_added : Nat := 30
abbrev _law_at_most : Nat := 31
abbrev _law_least : Nat := 32
abbrev _law_heard : Nat := 33
abbrev _law_row : Nat := 34
abbrev _law_right : Nat := 35
abbrev law : Nat := 36
end F
namespace X
abbrev Unfit : Nat := 0
abbrev OtherLength : Nat := 1
end X
namespace G
abbrev MOST_NUMBER : Nat := 0
abbrev MOST_ENTRIES : Nat := 1
abbrev MOST_ROWS : Nat := 2
abbrev fn_is_number : Nat := 3
abbrev fn_is_from : Nat := 4
abbrev fn_is_between : Nat := 5
abbrev fn_tuple_of : Nat := 6
abbrev fn_is_tuple_of : Nat := 7
abbrev fn_sure : Nat := 8
abbrev fn_is_row_of : Nat := 9
abbrev fn_is_row : Nat := 10
abbrev fn_zero_row : Nat := 11
abbrev fn_is_low_row : Nat := 12
abbrev fn_sure_row : Nat := 13
abbrev fn_sure_rows : Nat := 14
abbrev fn_look_long : Nat := 15
abbrev fn_added : Nat := 16
abbrev fn_at_most : Nat := 17
abbrev fn_some_at_most : Nat := 18
abbrev fn_least_of : Nat := 19
abbrev fn_row_sum : Nat := 20
abbrev fn_is_at_most : Nat := 21
abbrev fn_is_below : Nat := 22
abbrev fn_least_rows : Nat := 23
abbrev fn_reaches : Nat := 24
abbrev fn_sums_of : Nat := 25
abbrev fn_met : Nat := 26
abbrev fn__law_box : Nat := 27
abbrev fn__law_take : Nat := 28
abbrev fn__law_cells : Nat := 29
abbrev fn__law_same : Nat := 30
abbrev fn__law_of : Nat := 31
abbrev fn__law_pick : Nat := 32
abbrev fn__law_added : Nat := 33
abbrev fn__law_at_most : Nat := 34
abbrev fn__law_least : Nat := 35
abbrev fn__law_heard : Nat := 36
abbrev fn__law_row : Nat := 37
abbrev fn__law_right : Nat := 38
abbrev fn_law : Nat := 39
end G
/- is_number(thing): 0 thing -/
def b_is_number : Ss := (.cons (.ret (.and (.isi (.var 0) [.int]) (.nt (.isi (.var 0) [.bool]))))
  .nil)
/- is_from(thing, least): 0 thing, 1 least -/
def b_is_from : Ss := (.cons (.ret (.and (.call F.is_number (.cons (.var 0) .nil)) (.op .ge (.var 0) (.var 1))))
  .nil)
/- is_between(thing, least, most): 0 thing, 1 least, 2 most -/
def b_is_between : Ss := (.cons (.ret (.and (.call F.is_number (.cons (.var 0) .nil)) (.chn .le .le (.var 1) (.var 0) (.var 2))))
  .nil)
/- tuple_of(thing): 0 thing, 1 part -/
def b_tuple_of : Ss := (.cons (.ite (.isi (.var 0) [.lst, .tup]) (.cons (.ret (.bi .tup (.cons (.cmp false (.call F.tuple_of (.cons (.var 1) .nil)) (.nm 1) (.seq (.var 0)) .nil [1]) .nil)))
  .nil) .nil)
  (.cons (.ret (.var 0))
  .nil))
/- is_tuple_of(thing, many): 0 thing, 1 many -/
def b_is_tuple_of : Ss := (.cons (.ret (.and (.isi (.var 0) [.tup]) (.op .eq (.bi .len (.cons (.var 0) .nil)) (.var 1))))
  .nil)
/- sure(flag): 0 flag -/
def b_sure : Ss := (.cons (.ite (.nt (.var 0)) (.cons (.rse X.Unfit .nil)
  .nil) .nil)
  .nil)
/- is_row_of(thing, many): 0 thing, 1 many, 2 own -/
def b_is_row_of : Ss := (.cons (.ret (.and (.call F.is_tuple_of (.cons (.var 0) (.cons (.var 1) .nil))) (.bi .all (.cons (.cmp false (.call F.is_from (.cons (.var 2) (.cons (.cst (.int 0)) .nil))) (.nm 2) (.seq (.var 0)) .nil [2]) .nil))))
  .nil)
/- is_row(thing, many): 0 thing, 1 many -/
def b_is_row : Ss := (.cons (.exp (.call F.sure (.cons (.call F.is_between (.cons (.var 1) (.cons (.cst (.int 0)) (.cons (.gc G.MOST_ENTRIES) .nil)))) .nil)))
  (.cons (.ret (.call F.is_row_of (.cons (.var 0) (.cons (.var 1) .nil))))
  .nil))
/- zero_row(many): 0 many -/
def b_zero_row : Ss := (.cons (.exp (.call F.sure (.cons (.call F.is_between (.cons (.var 0) (.cons (.cst (.int 0)) (.cons (.gc G.MOST_ENTRIES) .nil)))) .nil)))
  (.cons (.ret (.op .mul (.tup (.cons (.cst (.int 0)) .nil)) (.var 0)))
  .nil))
/- is_low_row(thing): 0 thing, 1 own -/
def b_is_low_row : Ss := (.cons (.ite (.or (.nt (.isi (.var 0) [.tup])) (.op .gt (.bi .len (.cons (.var 0) .nil)) (.gc G.MOST_ENTRIES))) (.cons (.ret (.cst (.bl false)))
  .nil) .nil)
  (.cons (.ret (.bi .all (.cons (.cmp false (.call F.is_between (.cons (.var 1) (.cons (.cst (.int 0)) (.cons (.gc G.MOST_NUMBER) .nil)))) (.nm 1) (.seq (.var 0)) .nil [1]) .nil)))
  .nil))
/- sure_row(row): 0 row, 1 own -/
def b_sure_row : Ss := (.cons (.asg (.nm 1) (.call F.tuple_of (.cons (.var 0) .nil)))
  (.cons (.exp (.call F.sure (.cons (.call F.is_low_row (.cons (.var 1) .nil)) .nil)))
  (.cons (.ret (.var 1))
  .nil)))
/- sure_rows(rows): 0 rows, 1 some, 2 own -/
def b_sure_rows : Ss := (.cons (.asg (.nm 1) (.call F.tuple_of (.cons (.var 0) .nil)))
  (.cons (.exp (.call F.sure (.cons (.and (.isi (.var 1) [.tup]) (.and (.op .le (.bi .len (.cons (.var 1) .nil)) (.gc G.MOST_ROWS)) (.bi .all (.cons (.cmp false (.call F.is_low_row (.cons (.var 2) .nil)) (.nm 2) (.seq (.var 1)) .nil [2]) .nil)))) .nil)))
  (.cons (.ret (.var 1))
  .nil)))
/- look_long(rows): 0 rows, 1 own -/
def b_look_long : Ss := (.cons (.ite (.op .gt (.slen (.cmp false (.bi .len (.cons (.var 1) .nil)) (.nm 1) (.seq (.var 0)) .nil [1])) (.cst (.int 1))) (.cons (.rse X.OtherLength .nil)
  .nil) .nil)
  .nil)
/- added(one, other): 0 one, 1 other, 2 near, 3 far -/
def b_added : Ss := (.cons (.ret (.bi .tup (.cons (.cmp false (.op .add (.var 2) (.var 3)) (.cons (.nm 2) (.cons (.nm 3) .nil)) (.zip (.var 0) (.var 1)) .nil [2, 3]) .nil)))
  .nil)
/- at_most(one, other): 0 one, 1 other, 2 near, 3 far -/
def b_at_most : Ss := (.cons (.ret (.bi .all (.cons (.cmp false (.op .le (.var 2) (.var 3)) (.cons (.nm 2) (.cons (.nm 3) .nil)) (.zip (.var 0) (.var 1)) .nil [2, 3]) .nil)))
  .nil)
/- some_at_most(rows, row): 0 rows, 1 row, 2 own -/
def b_some_at_most : Ss := (.cons (.ret (.bi .any (.cons (.cmp false (.call F.at_most (.cons (.var 2) (.cons (.var 1) .nil))) (.nm 2) (.seq (.var 0)) .nil [2]) .nil)))
  .nil)
/- least_of(rows): 0 rows, 1 found, 2 row -/
def b_least_of : Ss := (.cons (.asg (.nm 1) (.mls .nil))
  (.cons (.for (.nm 2) (.seq (.ssrt (.var 0))) (.cons (.ite (.nt (.call F.some_at_most (.cons (.var 1) (.cons (.var 2) .nil)))) (.cons (.exp (.met .append (.var 1) (.cons (.var 2) .nil)))
  .nil) .nil)
  .nil))
  (.cons (.ret (.bi .tup (.cons (.var 1) .nil)))
  .nil)))
/- row_sum(one, other): 0 one, 1 other, 2 near, 3 far -/
def b_row_sum : Ss := (.cons (.par 2 3 (.call F.sure_row (.cons (.var 0) .nil)) (.call F.sure_row (.cons (.var 1) .nil)))
  (.cons (.exp (.call F.look_long (.cons (.tup (.cons (.var 2) (.cons (.var 3) .nil))) .nil)))
  (.cons (.ret (.call F.added (.cons (.var 2) (.cons (.var 3) .nil))))
  .nil)))
/- is_at_most(one, other): 0 one, 1 other, 2 near, 3 far -/
def b_is_at_most : Ss := (.cons (.par 2 3 (.call F.sure_row (.cons (.var 0) .nil)) (.call F.sure_row (.cons (.var 1) .nil)))
  (.cons (.exp (.call F.look_long (.cons (.tup (.cons (.var 2) (.cons (.var 3) .nil))) .nil)))
  (.cons (.ret (.call F.at_most (.cons (.var 2) (.cons (.var 3) .nil))))
  .nil)))
/- is_below(one, other): 0 one, 1 other, 2 near, 3 far -/
def b_is_below : Ss := (.cons (.par 2 3 (.call F.sure_row (.cons (.var 0) .nil)) (.call F.sure_row (.cons (.var 1) .nil)))
  (.cons (.exp (.call F.look_long (.cons (.tup (.cons (.var 2) (.cons (.var 3) .nil))) .nil)))
  (.cons (.ret (.and (.call F.at_most (.cons (.var 2) (.cons (.var 3) .nil))) (.op .ne (.var 2) (.var 3))))
  .nil)))
/- least_rows(rows): 0 rows, 1 some -/
def b_least_rows : Ss := (.cons (.asg (.nm 1) (.call F.sure_rows (.cons (.var 0) .nil)))
  (.cons (.exp (.call F.look_long (.cons (.var 1) .nil)))
  (.cons (.ret (.call F.least_of (.cons (.var 1) .nil)))
  .nil)))
/- reaches(rows, row): 0 rows, 1 row, 2 some, 3 own -/
def b_reaches : Ss := (.cons (.par 2 3 (.call F.sure_rows (.cons (.var 0) .nil)) (.call F.sure_row (.cons (.var 1) .nil)))
  (.cons (.exp (.call F.look_long (.cons (.op .add (.var 2) (.tup (.cons (.var 3) .nil))) .nil)))
  (.cons (.ret (.call F.some_at_most (.cons (.var 2) (.cons (.var 3) .nil))))
  .nil)))
/- sums_of(rows, others): 0 rows, 1 others, 2 some, 3 more, 4 one, 5 other -/
def b_sums_of : Ss := (.cons (.par 2 3 (.call F.sure_rows (.cons (.var 0) .nil)) (.call F.sure_rows (.cons (.var 1) .nil)))
  (.cons (.exp (.call F.look_long (.cons (.op .add (.var 2) (.var 3)) .nil)))
  (.cons (.ret (.call F.least_of (.cons (.cmp2 (.call F.added (.cons (.var 4) (.cons (.var 5) .nil))) (.nm 4) (.seq (.var 2)) (.nm 5) (.seq (.var 3)) [4, 5] [5]) .nil)))
  .nil)))
/- met(rows, others): 0 rows, 1 others, 2 some, 3 more, 4 found, 5 one, 6 near, 7 far, 8 other -/
def b_met : Ss := (.cons (.par 2 3 (.call F.sure_rows (.cons (.var 0) .nil)) (.call F.sure_rows (.cons (.var 1) .nil)))
  (.cons (.exp (.call F.look_long (.cons (.op .add (.var 2) (.var 3)) .nil)))
  (.cons (.asg (.nm 4) (.mls .nil))
  (.cons (.for (.nm 5) (.seq (.var 2)) (.cons (.exp (.met .extend (.var 4) (.cons (.cmp false (.bi .tup (.cons (.cmp false (.bi .mx2 (.cons (.var 6) (.cons (.var 7) .nil))) (.cons (.nm 6) (.cons (.nm 7) .nil)) (.zip (.var 5) (.var 8)) .nil [6, 7]) .nil)) (.nm 8) (.seq (.var 3)) .nil [8]) .nil)))
  .nil))
  (.cons (.ret (.call F.least_of (.cons (.var 4) .nil)))
  .nil)))))
/- _law_box(script, k): 0 script, 1 k, 2 cell -/
def b__law_box : Ss := (.cons (.asg (.nm 2) (.ite (.op .lt (.var 1) (.bi .len (.cons (.var 0) .nil))) (.idx (.var 0) (.var 1)) (.cst (.int 0))))
  (.cons (.ret (.mls (.cons (.op .mul (.bi .abs (.cons (.var 2) .nil)) (.bi .int (.cons (.op .ge (.bi .abs (.cons (.var 2) .nil)) (.op .pow (.cst (.int 10)) (.cst (.int 18)))) .nil))) (.cons (.op .add (.op .add (.op .mod (.bi .int (.cons (.var 2) .nil)) (.cst (.int 2305843009213693951))) (.op .mul (.cst (.int 39373)) (.var 1))) (.cst (.int 2631603))) (.cons (.cst (.int 0)) .nil)))))
  .nil))
/- _law_take(box, size_so): 0 box, 1 size_so, 2 drawn, 3 once, 4 far, 5 twice -/
def b__law_take : Ss := (.cons (.ite (.op .gt (.idx (.var 0) (.cst (.int 0))) (.cst (.int 0))) (.cons (.asg (.nm 2) (.op .mod (.bi .int (.cons (.idx (.var 0) (.cst (.int 0))) .nil)) (.var 1)))
  (.cons (.set (.var 0) (.cst (.int 0)) (.op .fdv (.idx (.var 0) (.cst (.int 0))) (.var 1)))
  (.cons (.ret (.var 2))
  .nil))) .nil)
  (.cons (.set (.var 0) (.cst (.int 2)) (.op .add (.idx (.var 0) (.cst (.int 2))) (.cst (.int 1))))
  (.cons (.asg (.nm 3) (.op .mod (.bi .int (.cons (.op .mul (.op .add (.idx (.var 0) (.cst (.int 1))) (.op .mul (.cst (.int 48271)) (.idx (.var 0) (.cst (.int 2))))) (.op .add (.cst (.int 39373)) (.idx (.var 0) (.cst (.int 2))))) .nil)) (.cst (.int 2147483647))))
  (.cons (.asg (.nm 4) (.op .add (.op .mod (.bi .int (.cons (.var 3) .nil)) (.cst (.int 40009))) (.cst (.int 7))))
  (.cons (.asg (.nm 5) (.op .mod (.bi .int (.cons (.op .mul (.op .add (.op .add (.var 3) (.idx (.var 0) (.cst (.int 2)))) (.op .fdv (.idx (.var 0) (.cst (.int 1))) (.cst (.int 1000003)))) (.var 4)) .nil)) (.cst (.int 2147483629))))
  (.cons (.ret (.op .mod (.bi .int (.cons (.op .fdv (.op .mod (.bi .int (.cons (.op .add (.op .mul (.var 5) (.cst (.int 48271))) (.var 3)) .nil)) (.cst (.int 2147483587))) (.cst (.int 64))) .nil)) (.var 1)))
  .nil))))))
/- _law_cells(script, top_so): 0 script, 1 top_so, 2 cells_so, 3 k, 4 cell, 5 at_so -/
def b__law_cells : Ss := (.cons (.asg (.nm 2) (.orv (.bi .lstM (.cons (.slc (.var 0) .no (.so (.var 1))) .nil)) (.mls (.cons (.cst (.int 0)) .nil))))
  (.cons (.for (.cons (.nm 3) (.cons (.nm 4) .nil)) (.enm (.slc (.var 0) (.so (.var 1)) (.so (.cst (.int 63))))) (.cons (.asg (.nm 5) (.op .mod (.bi .int (.cons (.var 3) .nil)) (.var 1)))
  (.cons (.set (.var 2) (.var 5) (.op .add (.idx (.var 2) (.var 5)) (.op .mul (.var 4) (.op .add (.var 3) (.cst (.int 2))))))
  .nil)))
  (.cons (.ret (.var 2))
  .nil)))
/- _law_same(got, due): 0 got, 1 due, 2 mine, 3 its -/
def b__law_same : Ss := (.cons (.ite (.isi (.var 1) [.lst, .tup]) (.cons (.ite (.or (.op .ne (.isi (.var 0) [.lst]) (.isi (.var 1) [.lst])) (.op .ne (.isi (.var 0) [.tup]) (.isi (.var 1) [.tup]))) (.cons (.ret (.cst (.bl false)))
  .nil) .nil)
  (.cons (.ret (.and (.op .eq (.bi .len (.cons (.var 0) .nil)) (.bi .len (.cons (.var 1) .nil))) (.bi .all (.cons (.cmp false (.call F._law_same (.cons (.var 2) (.cons (.var 3) .nil))) (.cons (.nm 2) (.cons (.nm 3) .nil)) (.zip (.var 0) (.var 1)) .nil [2, 3]) .nil))))
  .nil)) .nil)
  (.cons (.ite (.or (.op .isn (.var 1) (.cst .non)) (.isi (.var 1) [.bool, .str])) (.cons (.ret (.and (.op .eq (.var 0) (.var 1)) (.and (.op .eq (.isi (.var 0) [.bool]) (.isi (.var 1) [.bool])) (.op .eq (.op .isn (.var 0) (.cst .non)) (.op .isn (.var 1) (.cst .non))))))
  .nil) .nil)
  (.cons (.ret (.and (.isi (.var 0) [.int]) (.and (.nt (.isi (.var 0) [.bool])) (.op .eq (.var 0) (.var 1)))))
  .nil)))
/- _law_of(box, pool_so): 0 box, 1 pool_so -/
def b__law_of : Ss := (.cons (.ret (.idx (.var 1) (.call F._law_take (.cons (.var 0) (.cons (.bi .len (.cons (.var 1) .nil)) .nil)))))
  .nil)
/- _law_pick(box, goods_so, count_so): 0 box, 1 goods_so, 2 count_so, 3 pool_so, 4 found, 5 turn -/
def b__law_pick : Ss := (.cons (.par 3 4 (.bi .lstM (.cons (.var 1) .nil)) (.mls .nil))
  (.cons (.for (.nm 5) (.rng (.bi .mn2 (.cons (.bi .int (.cons (.var 2) .nil)) (.cons (.bi .len (.cons (.var 3) .nil)) .nil)))) (.cons (.exp (.met .append (.var 4) (.cons (.met .popAt (.var 3) (.cons (.call F._law_take (.cons (.var 0) (.cons (.bi .len (.cons (.var 3) .nil)) .nil))) .nil)) .nil)))
  .nil))
  (.cons (.ret (.var 4))
  .nil)))
/- _law_added(one, other): 0 one, 1 other, 2 a, 3 b -/
def b__law_added : Ss := (.cons (.ret (.bi .tup (.cons (.cmp false (.op .add (.var 2) (.var 3)) (.cons (.nm 2) (.cons (.nm 3) .nil)) (.zip (.var 0) (.var 1)) .nil [2, 3]) .nil)))
  .nil)
/- _law_at_most(one, other): 0 one, 1 other, 2 k, 3 far -/
def b__law_at_most : Ss := (.cons (.ret (.op .eq (.cmp false (.var 2) (.cons (.nm 2) (.cons (.nm 3) .nil)) (.enm (.var 0)) (.cons (.op .gt (.var 3) (.idx (.var 1) (.var 2))) .nil) [2, 3]) (.lst .nil)))
  .nil)
/- _law_least(rows): 0 rows, 1 found, 2 row, 3 own -/
def b__law_least : Ss := (.cons (.asg (.nm 1) (.mls .nil))
  (.cons (.for (.nm 2) (.seq (.bi .sorted (.cons (.var 0) .nil))) (.cons (.ite (.op .eq (.cmp false (.var 3) (.nm 3) (.seq (.var 1)) (.cons (.call F._law_at_most (.cons (.var 3) (.cons (.var 2) .nil))) .nil) [3]) (.lst .nil)) (.cons (.exp (.met .append (.var 1) (.cons (.var 2) .nil)))
  .nil) .nil)
  .nil))
  (.cons (.ret (.bi .tup (.cons (.var 1) .nil)))
  .nil)))
/- _law_heard(door, one, other): 0 door, 1 one, 2 other, 3 found, 4 calls -/
def b__law_heard : Ss := (.cons (.asg (.nm 3) (.cst .non))
  (.cons (.try (.cons (.ite (.op .lt (.var 0) (.cst (.int 3))) (.cons (.asg (.nm 4) (.lst (.cons (.gc G.fn_row_sum) (.cons (.gc G.fn_is_at_most) (.cons (.gc G.fn_is_below) .nil)))))
  (.cons (.asg (.nm 3) (.callv (.idx (.var 4) (.var 0)) (.cons (.var 1) (.cons (.var 2) .nil))))
  .nil)) (.cons (.ite (.op .lt (.var 0) (.cst (.int 5))) (.cons (.asg (.nm 3) (.ite (.op .eq (.var 0) (.cst (.int 3))) (.call F.sums_of (.cons (.var 1) (.cons (.var 2) .nil))) (.call F.met (.cons (.var 1) (.cons (.var 2) .nil)))))
  .nil) (.cons (.asg (.nm 3) (.ite (.op .eq (.var 0) (.cst (.int 5))) (.call F.least_rows (.cons (.var 1) .nil)) (.call F.reaches (.cons (.var 1) (.cons (.var 2) .nil)))))
  .nil))
  .nil))
  .nil) (.cons X.OtherLength none (.asg 3 (.cst (.str "OtherLength"))) .nil))
  (.cons (.ret (.var 3))
  .nil)))
/- _law_row(box, many): 0 box, 1 many, 2 k -/
def b__law_row : Ss := (.cons (.ret (.bi .tup (.cons (.cmp false (.call F._law_take (.cons (.var 0) (.cons (.cst (.int 5)) .nil))) (.nm 2) (.rng (.var 1)) .nil [2]) .nil)))
  .nil)
/- _law_right(box): 0 box, 1 many, 2 one, 3 other, 4 rows, 5 k, 6 others, 7 got, 8 door, 9 least, 10 row, 11 own, 12 sums, 13 both, 14 far, 15 a, 16 b, 17 near, 18 longer, 19 things, 20 due, 21 thing -/
def b__law_right : Ss := (.cons (.asg (.nm 1) (.call F._law_take (.cons (.var 0) (.cons (.cst (.int 6)) .nil))))
  (.cons (.par 2 3 (.call F._law_row (.cons (.var 0) (.cons (.var 1) .nil))) (.call F._law_row (.cons (.var 0) (.cons (.var 1) .nil))))
  (.cons (.asg (.nm 4) (.cmp false (.call F._law_row (.cons (.var 0) (.cons (.var 1) .nil))) (.nm 5) (.rng (.call F._law_take (.cons (.var 0) (.cons (.cst (.int 6)) .nil)))) .nil [5]))
  (.cons (.asg (.nm 6) (.cmp false (.call F._law_row (.cons (.var 0) (.cons (.var 1) .nil))) (.nm 5) (.rng (.call F._law_take (.cons (.var 0) (.cons (.cst (.int 4)) .nil)))) .nil [5]))
  (.cons (.asg (.nm 7) (.cmp false (.call F._law_heard (.cons (.var 8) (.cons (.var 2) (.cons (.var 3) .nil)))) (.nm 8) (.rng (.cst (.int 3))) .nil [8]))
  (.cons (.ite (.nt (.call F._law_same (.cons (.var 7) (.cons (.lst (.cons (.call F._law_added (.cons (.var 2) (.cons (.var 3) .nil))) (.cons (.call F._law_at_most (.cons (.var 2) (.cons (.var 3) .nil))) (.cons (.and (.call F._law_at_most (.cons (.var 2) (.cons (.var 3) .nil))) (.op .ne (.var 2) (.var 3))) .nil)))) .nil)))) (.cons (.ret (.cst (.bl false)))
  .nil) .nil)
  (.cons (.asg (.nm 9) (.bi .tup (.cons (.bi .sorted (.cons (.cmp false (.var 10) (.nm 10) (.seq (.ssrt (.var 4))) (.cons (.op .eq (.cmp false (.var 11) (.nm 11) (.seq (.var 4)) (.cons (.and (.op .ne (.var 11) (.var 10)) (.call F._law_at_most (.cons (.var 11) (.cons (.var 10) .nil)))) .nil) [11]) (.lst .nil)) .nil) [10]) .nil)) .nil)))
  (.cons (.ite (.nt (.call F._law_same (.cons (.lst (.cons (.call F._law_heard (.cons (.cst (.int 5)) (.cons (.bi .tup (.cons (.var 4) .nil)) (.cons (.tup .nil) .nil)))) (.cons (.call F._law_least (.cons (.var 4) .nil)) .nil))) (.cons (.lst (.cons (.var 9) (.cons (.var 9) .nil))) .nil)))) (.cons (.ret (.cst (.bl false)))
  .nil) .nil)
  (.cons (.ite (.nt (.call F._law_same (.cons (.call F._law_heard (.cons (.cst (.int 6)) (.cons (.bi .tup (.cons (.var 4) .nil)) (.cons (.var 2) .nil)))) (.cons (.op .ne (.cmp false (.var 10) (.nm 10) (.seq (.var 4)) (.cons (.call F._law_at_most (.cons (.var 10) (.cons (.var 2) .nil))) .nil) [10]) (.lst .nil)) .nil)))) (.cons (.ret (.cst (.bl false)))
  .nil) .nil)
  (.cons (.par 12 13 (.lst .nil) (.lst .nil))
  (.cons (.for (.nm 10) (.seq (.var 4)) (.cons (.asg (.nm 12) (.op .add (.var 12) (.cmp false (.call F._law_added (.cons (.var 10) (.cons (.var 14) .nil))) (.nm 14) (.seq (.var 6)) .nil [14])))
  (.cons (.asg (.nm 13) (.op .add (.var 13) (.cmp false (.bi .tup (.cons (.cmp false (.bi .mx2 (.cons (.var 15) (.cons (.var 16) .nil))) (.cons (.nm 15) (.cons (.nm 16) .nil)) (.zip (.var 10) (.var 14)) .nil [15, 16]) .nil)) (.nm 14) (.seq (.var 6)) .nil [14])))
  .nil)))
  (.cons (.asg (.nm 7) (.lst (.cons (.call F._law_heard (.cons (.cst (.int 3)) (.cons (.bi .tup (.cons (.var 4) .nil)) (.cons (.bi .tup (.cons (.var 6) .nil)) .nil)))) (.cons (.call F._law_heard (.cons (.cst (.int 4)) (.cons (.bi .tup (.cons (.var 4) .nil)) (.cons (.bi .tup (.cons (.var 6) .nil)) .nil)))) .nil))))
  (.cons (.ite (.nt (.call F._law_same (.cons (.var 7) (.cons (.lst (.cons (.call F._law_least (.cons (.var 12) .nil)) (.cons (.call F._law_least (.cons (.var 13) .nil)) .nil))) .nil)))) (.cons (.ret (.cst (.bl false)))
  .nil) .nil)
  (.cons (.asg (.nm 17) (.and (.op .ne (.cmp false (.var 10) (.nm 10) (.seq (.var 4)) (.cons (.call F._law_at_most (.cons (.var 10) (.cons (.var 2) .nil))) .nil) [10]) (.lst .nil)) (.op .ne (.cmp false (.var 10) (.nm 10) (.seq (.var 6)) (.cons (.call F._law_at_most (.cons (.var 10) (.cons (.var 2) .nil))) .nil) [10]) (.lst .nil))))
  (.cons (.ite (.nt (.call F._law_same (.cons (.call F.reaches (.cons (.call F.met (.cons (.var 4) (.cons (.var 6) .nil))) (.cons (.var 2) .nil))) (.cons (.var 17) .nil)))) (.cons (.ret (.cst (.bl false)))
  .nil) .nil)
  (.cons (.asg (.nm 18) (.ite (.op .lt (.var 1) (.cst (.int 5))) (.op .add (.var 2) (.tup (.cons (.cst (.int 0)) .nil))) (.slc (.var 2) (.so (.cst (.int 1))) .no)))
  (.cons (.asg (.nm 7) (.op .add (.cmp false (.call F._law_heard (.cons (.var 8) (.cons (.var 2) (.cons (.var 18) .nil)))) (.nm 8) (.rng (.cst (.int 3))) .nil [8]) (.lst (.cons (.call F._law_heard (.cons (.cst (.int 6)) (.cons (.tup (.cons (.var 2) .nil)) (.cons (.var 18) .nil)))) .nil))))
  (.cons (.asg (.nm 7) (.op .add (.var 7) (.lst (.cons (.call F._law_heard (.cons (.cst (.int 3)) (.cons (.tup (.cons (.var 2) .nil)) (.cons (.tup (.cons (.var 18) .nil)) .nil)))) (.cons (.call F._law_heard (.cons (.cst (.int 4)) (.cons (.tup (.cons (.var 2) .nil)) (.cons (.tup (.cons (.var 18) .nil)) .nil)))) (.cons (.call F._law_heard (.cons (.cst (.int 5)) (.cons (.tup (.cons (.var 2) (.cons (.var 18) .nil))) (.cons (.tup .nil) .nil)))) .nil))))))
  (.cons (.ite (.nt (.call F._law_same (.cons (.var 7) (.cons (.rpl false (.cons (.cst (.str "OtherLength")) .nil) (.cst (.int 7))) .nil)))) (.cons (.ret (.cst (.bl false)))
  .nil) .nil)
  (.cons (.asg (.nm 19) (.lst (.cons (.var 2) (.cons (.bi .lst (.cons (.var 2) .nil)) (.cons (.op .add (.var 2) (.tup (.cons (.cst (.int 1)) .nil))) (.cons (.cst .non) (.cons (.op .mul (.tup (.cons (.cst (.bl true)) .nil)) (.var 1)) (.cons (.op .mul (.tup (.cons (.neg (.cst (.int 1))) .nil)) (.var 1)) .nil))))))))
  (.cons (.asg (.nm 20) (.lst (.cons (.cst (.bl true)) (.cons (.cst (.bl false)) (.cons (.cst (.bl false)) (.cons (.cst (.bl false)) (.cons (.op .eq (.var 1) (.cst (.int 0))) (.cons (.op .eq (.var 1) (.cst (.int 0))) .nil))))))))
  (.cons (.ret (.call F._law_same (.cons (.op .add (.cmp false (.call F.is_row (.cons (.var 21) (.cons (.var 1) .nil))) (.nm 21) (.seq (.var 19)) .nil [21]) (.lst (.cons (.call F.zero_row (.cons (.var 1) .nil)) .nil))) (.cons (.op .add (.var 20) (.lst (.cons (.op .mul (.tup (.cons (.cst (.int 0)) .nil)) (.var 1)) .nil))) .nil))))
  .nil))))))))))))))))))))))
/- law(script): 0 script, 1 box -/
def b_law : Ss := (.cons (.asg (.nm 1) (.call F._law_box (.cons (.call F._law_cells (.cons (.var 0) (.cons (.cst (.int 1)) .nil))) (.cons (.cst (.int 0)) .nil))))
  (.cons (.ret (.and (.call F._law_right (.cons (.var 1) .nil)) (.call F._law_right (.cons (.var 1) .nil))))
  .nil))
/-- the defs, by their numbers -/
def tbL : List (Option Fd) := [
  some ⟨1, 1, true, b_is_number⟩,
  some ⟨2, 2, true, b_is_from⟩,
  some ⟨3, 3, true, b_is_between⟩,
  some ⟨1, 2, true, b_tuple_of⟩,
  some ⟨2, 2, true, b_is_tuple_of⟩,
  some ⟨1, 1, true, b_sure⟩,
  some ⟨2, 3, true, b_is_row_of⟩,
  some ⟨2, 2, true, b_is_row⟩,
  some ⟨1, 1, true, b_zero_row⟩,
  some ⟨1, 2, true, b_is_low_row⟩,
  some ⟨1, 2, true, b_sure_row⟩,
  some ⟨1, 3, true, b_sure_rows⟩,
  some ⟨1, 2, true, b_look_long⟩,
  some ⟨2, 4, true, b_added⟩,
  some ⟨2, 4, true, b_at_most⟩,
  some ⟨2, 3, true, b_some_at_most⟩,
  some ⟨1, 3, true, b_least_of⟩,
  some ⟨2, 4, true, b_row_sum⟩,
  some ⟨2, 4, true, b_is_at_most⟩,
  some ⟨2, 4, true, b_is_below⟩,
  some ⟨1, 2, true, b_least_rows⟩,
  some ⟨2, 4, true, b_reaches⟩,
  some ⟨2, 6, true, b_sums_of⟩,
  some ⟨2, 9, true, b_met⟩,
  some ⟨2, 3, false, b__law_box⟩,
  some ⟨2, 6, true, b__law_take⟩,
  some ⟨2, 6, true, b__law_cells⟩,
  some ⟨2, 4, true, b__law_same⟩,
  none,
  none,
  some ⟨2, 4, true, b__law_added⟩,
  some ⟨2, 4, true, b__law_at_most⟩,
  some ⟨1, 4, true, b__law_least⟩,
  some ⟨3, 5, true, b__law_heard⟩,
  some ⟨2, 3, true, b__law_row⟩,
  some ⟨1, 22, true, b__law_right⟩,
  some ⟨1, 2, true, b_law⟩]
def tb : Tb := fun x => (tbL[x]?).join
def gcv : Nat → Option D
  | 0 => some (.int 1000000)
  | 1 => some (.int 5)
  | 2 => some (.int 40)
  | 21 => some (.fn 18)
  | 22 => some (.fn 19)
  | 20 => some (.fn 17)
  | _ => none
def exv : Nat → Option Nat
  | 0 => some 0
  | 1 => some 0
  | _ => none
def mo : Mo := ⟨gcv, exv⟩
end K03

set_option maxRecDepth 100000
namespace K03
open Ev PySem

def isNum : D → Bool
  | .int _ => true
  | _ => false
/-- plain data -/
def flat : D → Bool
  | .non | .bl _ | .int _ | .str _ | .tup _ | .lst _ => true
  | _ => false
theorem ev_is_number (k : Nat) (d : D) (h : AH) (hd : flat d = true) : callN mo tb (k + 1) F.is_number [d] h = .ok (.bl (isNum d)) h := by
  rw [call_at (b := b_is_number) (sl := 1) rfl rfl]
  cases d <;> first | (simp [b_is_number, evSs, evS, evE, Ev.start, isiD, tyD, isNum, boolR]; done) | cases hd
def from' (n : Int) : D → Bool
  | .int i => decide (n ≤ i)
  | _ => false
def betw (n m : Int) : D → Bool
  | .int i => decide (n ≤ i) && decide (i ≤ m)
  | _ => false
theorem ev_is_from (k : Nat) (d : D) (n : Int) (h : AH) (hd : flat d = true) : callN mo tb (k + 2) F.is_from [d, .int n] h = .ok (.bl (from' n d)) h := by
  rw [call_at (b := b_is_from) (sl := 2) rfl rfl]
  have e := ev_is_number k d h hd
  cases d <;> first | (simp [b_is_from, evSs, evS, evE, evEs, Ev.start, e, isNum, boolR, opD, from']; done) | cases hd
theorem ev_is_between (k : Nat) (d : D) (n m : Int) (h : AH) (hd : flat d = true) : callN mo tb (k + 2) F.is_between [d, .int n, .int m] h = .ok (.bl (betw n m d)) h := by
  rw [call_at (b := b_is_between) (sl := 3) rfl rfl]
  have e := ev_is_number k d h hd
  cases d
  case int i =>
    by_cases h1 : n ≤ i <;> simp [b_is_between, evSs, evS, evE, evEs, Ev.start, e, isNum, boolR, opD, h1, betw]
  all_goals first | (simp [b_is_between, evSs, evS, evE, evEs, Ev.start, e, isNum, boolR, opD, betw]; done) | cases hd
theorem ev_sure_t (k : Nat) (h : AH) : callN mo tb (k + 1) F.sure [.bl true] h = .ok .non h := by
  rw [call_at (b := b_sure) (sl := 1) rfl rfl]
  simp [b_sure, evSs, evS, evE, Ev.start, boolR]
/-- no lists, no refs -/
theorem ev_is_tuple_of (k : Nat) (ds : List D) (n : Int) (h : AH) : callN mo tb (k + 1) F.is_tuple_of [.tup ds, .int n] h = .ok (.bl (((ds.length : Int) == n))) h := by
  rw [call_at (b := b_is_tuple_of) (sl := 2) rfl rfl]
  simp [b_is_tuple_of, evSs, evS, evE, evEs, Ev.start, boolR, D.wf, isiD, tyD, biD, walkOf, seqOf, opD, eqD, resP, D.pur, D.toP, PyData.eqv, PyData.depth]
  exact fin_rt_same rfl
end K03

set_option maxRecDepth 100000
namespace K03
open Ev PySem

abbrev rw (r : List Int) : D := .tup (r.map .int)
abbrev rows (R : List (List Int)) : List D := R.map rw
theorem z_is : 4000 ≤ Z := by unfold Z; decide
theorem ev_tuple_of_int (k : Nat) (i : Int) (h : AH) : callN mo tb (k + 1) F.tuple_of [.int i] h = .ok (.int i) h := by
  rw [call_at (b := b_tuple_of) (sl := 2) rfl rfl]
  simp [b_tuple_of, evSs, evS, evE, evEs, Ev.start, isiD, tyD]
theorem ev_tuple_of_seq (k : Nat) (d : D) (ds : List D) (h : AH) (hd : d = .tup ds ∨ d = .lst ds) (hs : ∀ x ∈ ds, callN mo tb k F.tuple_of [x] h = .ok x h) (hw : D.wfs h.length ds = true) (hl : ds.length ≤ Z) : callN mo tb (k + 1) F.tuple_of [d] h = .ok (.tup ds) h := by
  rw [call_at (b := b_tuple_of) (sl := 2) rfl rfl]
  obtain rfl | rfl := hd <;>
  · simp [b_tuple_of, evSs, evS, evE, evEs, evIt, evIf, Ev.start, isiD, tyD, walkOf, seqOf, depOf]
    rw [compL_map (f := fun d => d) _ (fun x hx => by simp [T.put, Env.wipe, hs x hx]) hl]
    simp [biD, seqOf, hw]
theorem ev_tuple_of_row (k : Nat) (r : List Int) (h : AH) (hl : r.length ≤ 4000) : callN mo tb (k + 2) F.tuple_of [rw r] h = .ok (rw r) h := by
  refine ev_tuple_of_seq (k + 1) _ _ h (.inl rfl) (fun x hx => ?_) (by simp) (by simp; have := z_is; omega)
  simp only [List.mem_map] at hx
  obtain ⟨i, _, rfl⟩ := hx
  exact ev_tuple_of_int k i h
theorem wfs_rows (n : Nat) (R : List (List Int)) : D.wfs n (rows R) = true := wfs_of _ (by simp)
theorem ev_tuple_of_rows (k : Nat) (d : D) (R : List (List Int)) (h : AH) (hd : d = .tup (rows R) ∨ d = .lst (rows R)) (hR : ∀ r ∈ R, r.length ≤ 4000) (hl : R.length ≤ 4000) : callN mo tb (k + 3) F.tuple_of [d] h = .ok (.tup (rows R)) h := by
  refine ev_tuple_of_seq (k + 2) _ _ h hd (fun x hx => ?_) (wfs_rows _ _) (by simp; have := z_is; omega)
  simp only [List.mem_map] at hx
  obtain ⟨r, hr, rfl⟩ := hx
  exact ev_tuple_of_row k r h (hR r hr)
theorem boolsD_map {α : Type} (p : α → Bool) (xs : List α) : boolsD (xs.map fun x => D.bl (p x)) = some (xs.map p) := by
  induction xs with
  | nil => rfl
  | cons b bs ih => simp [boolsD, ih]
theorem all_map {α : Type} (p : α → Bool) (xs : List α) (h : AH) : biD .all [.lst (xs.map fun x => D.bl (p x))] h = .ok (.bl (xs.all p)) h := by
  simp [biD, lstOf, boolsD_map, List.all_map]
theorem any_map {α : Type} (p : α → Bool) (xs : List α) (h : AH) : biD .any [.lst (xs.map fun x => D.bl (p x))] h = .ok (.bl (xs.any p)) h := by
  simp [biD, lstOf, boolsD_map, List.any_map]
theorem mo0 : mo.gc G.MOST_NUMBER = some (.int 1000000) := rfl
theorem mo1 : mo.gc G.MOST_ENTRIES = some (.int 5) := rfl
theorem mo2 : mo.gc G.MOST_ROWS = some (.int 40) := rfl
theorem len_tup (ds : List D) (h : AH) : biD .len [.tup ds] h = .ok (.int ds.length) h := rfl
theorem len_lst (ds : List D) (h : AH) : biD .len [.lst ds] h = .ok (.int ds.length) h := rfl
/-- a row of small numbers that are not negative -/
def low (r : List Int) : Prop := r.length ≤ 5 ∧ ∀ i ∈ r, 0 ≤ i ∧ i ≤ 1000000
theorem ev_is_low_row (k : Nat) (r : List Int) (h : AH) (hr : low r) : callN mo tb (k + 3) F.is_low_row [rw r] h = .ok (.bl true) h := by
  rw [call_at (b := b_is_low_row) (sl := 2) rfl rfl]
  have h1 : ¬ (5 : Int) < (r.length : Int) := by have := hr.1; omega
  simp [b_is_low_row, evSs, evS, evE, evEs, evIt, evIf, Ev.start, isiD, tyD, walkOf, seqOf, depOf, len_tup, opD, mo1, mo0, h1]
  rw [compL_map (f := fun d => .bl ((fun _ => true) d)) _ (fun x hx => by
    simp only [List.mem_map] at hx
    obtain ⟨i, hi, rfl⟩ := hx
    have e := ev_is_between k (.int i) 0 1000000 h rfl
    have := hr.2 i hi
    simp [T.put, Env.wipe, e, betw, this]) (by simp; have := z_is; have := hr.1; omega)]
  simp only [Res.bind_ok]; rw [all_map]
  simp
theorem ev_sure_row (k : Nat) (r : List Int) (h : AH) (hr : low r) : callN mo tb (k + 4) F.sure_row [rw r] h = .ok (rw r) h := by
  rw [call_at (b := b_sure_row) (sl := 2) rfl rfl]
  have e1 := ev_tuple_of_row (k + 1) r h (by have := hr.1; omega)
  have e2 := ev_is_low_row k r h hr
  have e3 := ev_sure_t (k + 2) h
  simp [b_sure_row, evSs, evS, evE, evEs, Ev.start, T.put, e1, e2, e3]
theorem ev_sure_rows (k : Nat) (d : D) (R : List (List Int)) (h : AH) (hd : d = .tup (rows R) ∨ d = .lst (rows R)) (hR : ∀ r ∈ R, low r) (hl : R.length ≤ 40) : callN mo tb (k + 4) F.sure_rows [d] h = .ok (.tup (rows R)) h := by
  rw [call_at (b := b_sure_rows) (sl := 3) rfl rfl]
  have e1 := ev_tuple_of_rows k d R h hd (fun r hr => by have := (hR r hr).1; omega) (by omega)
  have e3 := ev_sure_t (k + 2) h
  have h1 : (R.length : Int) ≤ 40 := by omega
  simp [b_sure_rows, evSs, evS, evE, evEs, evIt, evIf, Ev.start, T.put, e1, isiD, tyD, walkOf, seqOf, depOf, len_tup, opD, mo2, h1]
  rw [compL_map (f := fun d => .bl ((fun _ => true) d)) _ (fun x hx => by
    simp only [List.mem_map] at hx
    obtain ⟨i, hi, rfl⟩ := hx
    have e := ev_is_low_row k i h (hR i hi)
    simp [T.put, Env.wipe, e]) (by simp; have := z_is; omega)]
  simp only [Res.bind_ok]; rw [all_map]
  have e4 : (R.all fun _ => true) = true := List.all_eq_true.mpr fun _ _ => rfl
  simp [e4, e3, wfs_rows]

/-! ### rows of unlike lengths -/
theorem dedup_sub : ∀ (ds : List D) (x : D), x ∈ dedup ds → x ∈ ds
  | [], x, h => by simp [dedup] at h
  | d :: ds, x, h => by
    simp only [dedup, List.mem_cons, List.mem_filter] at h
    rcases h with rfl | ⟨h, _⟩
    · exact List.mem_cons_self
    · exact List.mem_cons_of_mem _ (dedup_sub ds x h)
theorem dedup_same (i : Int) (ds : List D) (hd : ∀ d ∈ ds, d = .int i) : (dedup ds).length ≤ 1 := by
  cases ds with
  | nil => simp [dedup]
  | cons d ds =>
    have : (dedup ds).filter (fun x => !decide (x.toK = d.toK)) = [] := by
      rw [List.filter_eq_nil_iff]
      intro x hx
      rw [hd x (List.mem_cons_of_mem _ (dedup_sub ds x hx)), hd d List.mem_cons_self]
      simp
    simp only [dedup, this, List.length_cons, List.length_nil]
    omega
theorem intsD_map (is : List Int) : intsD (is.map .int) = some is := by
  induction is with
  | nil => rfl
  | cons i is ih => simp [intsD, ih]
theorem slen_ints (is : List Int) (h : AH) (hl : is.length ≤ 4000) : slenD h (.lst (is.map .int)) = some (.int (dedup (is.map D.int)).length) := by
  simp only [slenD, seqOf, lstOf, intsD_map]
  split
  · rfl
  · simp [hl]
def lensD (R : List (List Int)) : List D := (R.map fun r => (r.length : Int)).map D.int
theorem ev_look_long_lens (k : Nat) (d : D) (R : List (List Int)) (h : AH) (hd : d = .tup (rows R) ∨ d = .lst (rows R)) (hl : R.length ≤ 4000) : callN mo tb (k + 1) F.look_long [d] h = if 1 < (dedup (lensD R)).length then .exc X.OtherLength [] h else .ok .non h := by
  rw [call_at (b := b_look_long) (sl := 2) rfl rfl]
  obtain rfl | rfl := hd <;>
  · simp [b_look_long, evSs, evS, evE, evEs, evIt, evIf, Ev.start, walkOf, seqOf, depOf]
    rw [compL_map (f := fun d => match d with | .tup ds => .int ds.length | d => d) _ (fun x hx => by
      simp only [List.mem_map] at hx
      obtain ⟨r, hr, rfl⟩ := hx
      simp [T.put, Env.wipe, len_tup]) (by simp; have := z_is; omega)]
    have e : (rows R).map (fun d => match d with | .tup ds => D.int ds.length | d => d) = lensD R := by simp [lensD]
    rw [e]
    simp only [Res.bind_ok]
    rw [lensD, slen_ints _ _ (by simpa using hl), ← lensD]
    simp only [optR_some, Res.bind_ok, opD, Option.map_some]
    by_cases hc : 1 < (dedup (lensD R)).length
    · have hc' : (1 : Int) < ((dedup (lensD R)).length : Int) := by omega
      rw [if_pos hc]
      simp only [hc', decide_true, Res.toS_ok, optR_some, Res.bind_ok]
      simp [evSs, evS, evEs, mo, exv, fin, cut]
    · have hc' : ¬ (1 : Int) < ((dedup (lensD R)).length : Int) := by omega
      rw [if_neg hc]
      simp only [hc', decide_false, Res.toS_ok, optR_some, Res.bind_ok]
      simp [evSs]
theorem ev_look_long (k : Nat) (d : D) (R : List (List Int)) (m : Nat) (h : AH) (hd : d = .tup (rows R) ∨ d = .lst (rows R)) (hl : R.length ≤ 4000) (hm : ∀ r ∈ R, r.length = m) : callN mo tb (k + 1) F.look_long [d] h = .ok .non h := by
  rw [ev_look_long_lens k d R h hd hl, if_neg]
  have := dedup_same m (lensD R) (by
    intro x hx
    simp only [lensD, List.map_map, List.mem_map, Function.comp] at hx
    obtain ⟨r, hr, rfl⟩ := hx
    rw [hm r hr])
  omega
theorem ev_look_long_x (k : Nat) (r s : List Int) (h : AH) (hd : r.length ≠ s.length) : callN mo tb (k + 1) F.look_long [.tup [rw r, rw s]] h = .exc X.OtherLength [] h := by
  have := ev_look_long_lens k (.tup (rows [r, s])) [r, s] h (.inl rfl) (by simp)
  rw [show D.tup [rw r, rw s] = .tup (rows [r, s]) from rfl, this, if_pos]
  have : ¬ ((s.length : Int) = r.length) := by omega
  simp [lensD, dedup, D.toK, this]
end K03

set_option maxRecDepth 100000
namespace Ev
theorem stays_refl (dep : List Nat) (h : AH) : stays dep h h := fun _ _ => rfl
theorem compL_g {α : Type} {dep : List Nat} {turn : D → AH → Res (Option D)} {h : AH} (g f : α → D) (p : α → Bool) : ∀ (xs : List α) (acc : List D), (∀ x ∈ xs, turn (g x) h = .ok (if p x then some (f x) else none) h) → acc.length + xs.length ≤ Z → compL dep h turn (xs.map g) acc h = .ok (acc ++ (xs.filter p).map f) h
  | [], acc, _, _ => by simp [compL, stays_refl]
  | x :: xs, acc, ht, hl => by
    simp only [List.map_cons, compL, stays_refl, if_true, ht x List.mem_cons_self]
    cases hp : p x with
    | false =>
      simp only [hp, Bool.false_eq_true, if_false, List.filter_cons_of_neg, not_false_eq_true]
      exact compL_g g f p xs acc (fun y hy => ht y (List.mem_cons_of_mem _ hy)) (by simp at hl; omega)
    | true =>
      simp only [if_true]
      rw [if_pos (by simp at hl; omega), compL_g g f p xs (acc ++ [f x]) (fun y hy => ht y (List.mem_cons_of_mem _ hy)) (by simp at hl ⊢; omega)]
      simp [List.filter_cons, hp]
theorem compL_gf {α : Type} {dep : List Nat} {turn : D → AH → Res (Option D)} {h : AH} (g f : α → D) (p : α → Bool) (xs : List α) (ht : ∀ x ∈ xs, turn (g x) h = .ok (if p x then some (f x) else none) h) (hl : xs.length ≤ Z) : compL dep h turn (xs.map g) [] h = .ok ((xs.filter p).map f) h := by
  rw [compL_g g f p xs [] ht (by simpa using hl)]
  simp
theorem compL_gm {α : Type} {dep : List Nat} {turn : D → AH → Res (Option D)} {h : AH} (g f : α → D) (xs : List α) (ht : ∀ x ∈ xs, turn (g x) h = .ok (some (f x)) h) (hl : xs.length ≤ Z) : compL dep h turn (xs.map g) [] h = .ok (xs.map f) h := by
  rw [compL_g g f (fun _ => true) xs [] (fun x hx => by simp [ht x hx]) (by simpa using hl)]
  rw [List.nil_append, List.filter_eq_self.mpr fun _ _ => rfl]
theorem zipL_map {α β : Type} (f : α → D) (g : β → D) : ∀ (r : List α) (s : List β), zipL (r.map f) (s.map g) = (r.zip s).map fun p => .tup [f p.1, g p.2]
  | [], _ => by simp [zipL]
  | _ :: _, [] => by simp [zipL]
  | a :: r, b :: s => by simp [zipL, zipL_map f g r s]
end Ev
namespace K03
open Ev PySem

def add (r s : List Int) : List Int := List.zipWith (· + ·) r s
def mxr (r s : List Int) : List Int := List.zipWith max r s
def leq (r s : List Int) : Bool := (r.zip s).all fun p => decide (p.1 ≤ p.2)
theorem ev_added (k : Nat) (r s : List Int) (h : AH) (hl : r.length ≤ 4000) : callN mo tb (k + 1) F.added [rw r, rw s] h = .ok (rw (add r s)) h := by
  rw [call_at (b := b_added) (sl := 4) rfl rfl]
  simp [b_added, evSs, evS, evE, evEs, evIt, evIf, Ev.start, seqOf, depOf, isTup]
  rw [zipL_map, compL_gm (f := fun p => .int (p.1 + p.2)) _ _ (fun x hx => by simp [T.put, Env.wipe, opD, catD]) (by simp; have := z_is; omega)]
  have e : (r.zip s).map (fun p => D.int (p.1 + p.2)) = (add r s).map D.int := by simp [add, List.zip, Function.comp_def, List.map_zipWith]
  rw [e]
  simp [biD, seqOf]
theorem ev_law_added (k : Nat) (r s : List Int) (h : AH) (hl : r.length ≤ 4000) : callN mo tb (k + 1) F._law_added [rw r, rw s] h = .ok (rw (add r s)) h := by
  rw [call_at (b := b__law_added) (sl := 4) rfl rfl]
  simp [b__law_added, evSs, evS, evE, evEs, evIt, evIf, Ev.start, seqOf, depOf, isTup]
  rw [zipL_map, compL_gm (f := fun p => .int (p.1 + p.2)) _ _ (fun x hx => by simp [T.put, Env.wipe, opD, catD]) (by simp; have := z_is; omega)]
  have e : (r.zip s).map (fun p => D.int (p.1 + p.2)) = (add r s).map D.int := by simp [add, List.zip, Function.comp_def, List.map_zipWith]
  rw [e]
  simp [biD, seqOf]
theorem ev_at_most (k : Nat) (r s : List Int) (h : AH) (hl : r.length ≤ 4000) : callN mo tb (k + 1) F.at_most [rw r, rw s] h = .ok (.bl (leq r s)) h := by
  rw [call_at (b := b_at_most) (sl := 4) rfl rfl]
  simp [b_at_most, evSs, evS, evE, evEs, evIt, evIf, Ev.start, seqOf, depOf, isTup]
  rw [zipL_map, compL_gm (f := fun p => .bl (decide (p.1 ≤ p.2))) _ _ (fun x hx => by simp [T.put, Env.wipe, opD]) (by simp; have := z_is; omega)]
  simp only [Res.bind_ok]; rw [all_map]
  simp [leq]
theorem ev_some_at_most (k : Nat) (d : D) (R : List (List Int)) (s : List Int) (h : AH) (hd : walkOf h d = some (rows R)) (hR : ∀ r ∈ R, r.length ≤ 4000) (hl : R.length ≤ 4000) : callN mo tb (k + 2) F.some_at_most [d, rw s] h = .ok (.bl (R.any fun r => leq r s)) h := by
  rw [call_at (b := b_some_at_most) (sl := 3) rfl rfl]
  simp [b_some_at_most, evSs, evS, evE, evEs, evIt, evIf, Ev.start, hd]
  rw [compL_gm (f := fun r => .bl (leq r s)) _ _ (fun r hr => by simp [T.put, Env.wipe, ev_at_most k r s h (hR r hr)]) (by have := z_is; omega)]
  simp only [Res.bind_ok]; rw [any_map]
  simp
end K03
namespace K03
open Ev PySem
theorem enumL_map {α : Type} (f : α → D) : ∀ (xs : List α) (k : Nat), enumL k (xs.map f) = (xs.zipIdx k).map fun p => .tup [.int p.2, f p.1]
  | [], _ => by simp [enumL]
  | x :: xs, k => by simp [enumL, List.zipIdx_cons, enumL_map f xs]
theorem eq_nil (ds : List D) (h : AH) (hp : D.purs ds = true) : opD .eq (.lst ds) (.lst []) h = some (.bl ds.isEmpty) := by
  cases ds with
  | nil =>
    simp [opD, eqD, resP, D.pur, D.purs, D.toP, D.toPs, PyData.depth, PyData.eqv, PyData.depthAll, PyData.eqvAll]
    unfold deepest; decide
  | cons d ds =>
    simp only [D.purs, Bool.and_eq_true] at hp
    simp [opD, eqD, resP, D.pur, hp, D.purs, D.toP, D.toPs, PyData.depth, PyData.eqv, PyData.depthAll, PyData.eqvAll, deepest]
theorem purs_ints (r : List Int) : D.purs (r.map D.int) = true := by
  induction r with
  | nil => rfl
  | cons i r ih => simp [D.purs, D.pur, ih]
theorem zip_idx (s : List Int) : ∀ (r : List Int) (k : Nat), k + r.length = s.length →
    (((r.zipIdx k).filter fun p => decide (s[p.2]?.getD 0 < p.1)).isEmpty = (r.zip (s.drop k)).all fun p => decide (p.1 ≤ p.2))
  | [], _, _ => by simp
  | i :: r, k, hk => by
    simp only [List.length_cons] at hk
    have hlt : k < s.length := by omega
    have e := zip_idx s r (k + 1) (by omega)
    rw [List.zipIdx_cons, List.drop_eq_getElem_cons hlt, List.zip_cons_cons, List.all_cons, ← e, List.filter_cons]
    have g : s[k]?.getD 0 = s[k] := by simp [hlt]
    simp only [g]
    by_cases hc : s[k] < i
    · have : ¬ i ≤ s[k] := by omega
      simp [hc, this]
    · have : i ≤ s[k] := by omega
      simp [hc, this]
theorem ev_law_at_most (k : Nat) (r s : List Int) (h : AH) (hl : r.length ≤ 4000) (hs : r.length = s.length) : callN mo tb (k + 1) F._law_at_most [rw r, rw s] h = .ok (.bl (leq r s)) h := by
  rw [call_at (b := b__law_at_most) (sl := 4) rfl rfl]
  simp [b__law_at_most, evSs, evS, evE, evEs, evIt, evIf, Ev.start, seqOf, depOf]
  rw [enumL_map, compL_gf (f := fun p => .int p.2) (p := fun p => decide (s[p.2]?.getD 0 < p.1)) _ _ (fun x hx => by
    have hx2 : x.2 < s.length := by
      have := List.mem_zipIdx hx
      omega
    have e : idxD h (rw s) (.int (x.2 : Nat)) = some (.int (s[x.2]?.getD 0)) := by
      simp [idxD, idxQ, seqOf, L2.atI, L2.ixN, hx2]
    simp [T.put, Env.wipe, evIf, evE, e, opD]
    by_cases hc : s[x.2]?.getD 0 < x.1
    · simp [hc]
    · simp [hc]) (by simp; have := z_is; omega)]
  have e := zip_idx s r 0 (by omega)
  simp only [List.drop_zero] at e
  simp only [Res.bind_ok]
  rw [eq_nil _ _ (by have := purs_ints (((r.zipIdx).filter fun p => decide (s[p.2]?.getD 0 < p.1)).map fun p => (p.2 : Int)); simpa only [List.map_map, Function.comp_def] using this)]
  simp [leq, ← e]
end K03

set_option maxRecDepth 100000
namespace K03
open Ev PySem

theorem low_len {r : List Int} (h : low r) : r.length ≤ 4000 := by have := h.1; omega
theorem ev_row_sum (k : Nat) (r s : List Int) (h : AH) (hr : low r) (hs : low s) (hl : r.length = s.length) : callN mo tb (k + 5) F.row_sum [rw r, rw s] h = .ok (rw (add r s)) h := by
  rw [call_at (b := b_row_sum) (sl := 4) rfl rfl]
  have e1 := ev_sure_row k r h hr
  have e2 := ev_sure_row k s h hs
  have e3 := ev_look_long (k + 3) (.tup [rw r, rw s]) [r, s] r.length h (.inl rfl) (by simp) (by simp [hl])
  have e4 := ev_added (k + 3) r s h (low_len hr)
  have z := z_is
  simp [b_row_sum, evSs, evS, evE, evEs, Ev.start, T.put, e1, e2, e3, e4, show (2 : Nat) ≤ Z by omega]
theorem ev_is_at_most (k : Nat) (r s : List Int) (h : AH) (hr : low r) (hs : low s) (hl : r.length = s.length) : callN mo tb (k + 5) F.is_at_most [rw r, rw s] h = .ok (.bl (leq r s)) h := by
  rw [call_at (b := b_is_at_most) (sl := 4) rfl rfl]
  have e1 := ev_sure_row k r h hr
  have e2 := ev_sure_row k s h hs
  have e3 := ev_look_long (k + 3) (.tup [rw r, rw s]) [r, s] r.length h (.inl rfl) (by simp) (by simp [hl])
  have e4 := ev_at_most (k + 3) r s h (low_len hr)
  have z := z_is
  simp [b_is_at_most, evSs, evS, evE, evEs, Ev.start, T.put, e1, e2, e3, e4, show (2 : Nat) ≤ Z by omega]
/-- unlike lengths -/
theorem ev_row_x (k : Nat) (r s : List Int) (h : AH) (hr : low r) (hs : low s) (hl : r.length ≠ s.length) :
    callN mo tb (k + 5) F.row_sum [rw r, rw s] h = .exc X.OtherLength [] h ∧ callN mo tb (k + 5) F.is_at_most [rw r, rw s] h = .exc X.OtherLength [] h ∧ callN mo tb (k + 5) F.is_below [rw r, rw s] h = .exc X.OtherLength [] h := by
  have e1 := ev_sure_row k r h hr
  have e2 := ev_sure_row k s h hs
  have e3 := ev_look_long_x (k + 3) r s h hl
  have z := z_is
  refine ⟨?_, ?_, ?_⟩
  · rw [call_at (b := b_row_sum) (sl := 4) rfl rfl]
    simp [b_row_sum, evSs, evS, evE, evEs, Ev.start, T.put, e1, e2, e3, show (2 : Nat) ≤ Z by omega, fin, cut]
  · rw [call_at (b := b_is_at_most) (sl := 4) rfl rfl]
    simp [b_is_at_most, evSs, evS, evE, evEs, Ev.start, T.put, e1, e2, e3, show (2 : Nat) ≤ Z by omega, fin, cut]
  · rw [call_at (b := b_is_below) (sl := 4) rfl rfl]
    simp [b_is_below, evSs, evS, evE, evEs, Ev.start, T.put, e1, e2, e3, show (2 : Nat) ≤ Z by omega, fin, cut]
theorem eqvAll_ints : ∀ r s : List Int, PyData.eqvAll (D.toPs (r.map D.int)) (D.toPs (s.map D.int)) = decide (r = s)
  | [], [] => by simp [D.toPs, PyData.eqvAll]
  | [], _ :: _ => by simp [D.toPs, PyData.eqvAll]
  | _ :: _, [] => by simp [D.toPs, PyData.eqvAll]
  | a :: r, b :: s => by
    simp only [List.map_cons, D.toPs, D.toP, PyData.eqvAll, eqvAll_ints r s, List.cons.injEq, PyData.eqv]
    by_cases h1 : a = b <;> by_cases h2 : r = s <;> simp [h1, h2]
theorem depthAll_ints : ∀ r : List Int, PyData.depthAll (D.toPs (r.map D.int)) ≤ 1
  | [] => by simp [D.toPs, PyData.depthAll]
  | a :: r => by
    have := depthAll_ints r
    simp only [List.map_cons, D.toPs, D.toP, PyData.depthAll, PyData.depth]
    omega
theorem eqD_rows (r s : List Int) (h : AH) : eqD h (rw r) (rw s) = some (decide (r = s)) := by
  have := depthAll_ints r
  have e : PyData.depthAll (D.toPs (r.map D.int)) + 1 ≤ deepest := by unfold deepest; omega
  simp [eqD, resP, D.pur, purs_ints, D.toP, PyData.depth, PyData.eqv, eqvAll_ints]
  omega
theorem ev_is_below (k : Nat) (r s : List Int) (h : AH) (hr : low r) (hs : low s) (hl : r.length = s.length) : callN mo tb (k + 5) F.is_below [rw r, rw s] h = .ok (.bl (leq r s && decide (r ≠ s))) h := by
  rw [call_at (b := b_is_below) (sl := 4) rfl rfl]
  have e1 := ev_sure_row k r h hr
  have e2 := ev_sure_row k s h hs
  have e3 := ev_look_long (k + 3) (.tup [rw r, rw s]) [r, s] r.length h (.inl rfl) (by simp) (by simp [hl])
  have e4 := ev_at_most (k + 3) r s h (low_len hr)
  have e5 : opD .ne (rw r) (rw s) h = some (.bl (!decide (r = s))) := by simp only [opD, eqD_rows, Option.map_some]
  have z := z_is
  by_cases hc : leq r s = true
  · simp [b_is_below, evSs, evS, evE, evEs, Ev.start, T.put, e1, e2, e3, e4, hc, e5, show (2 : Nat) ≤ Z by omega]
  · simp [b_is_below, evSs, evS, evE, evEs, Ev.start, T.put, e1, e2, e3, e4, hc, show (2 : Nat) ≤ Z by omega]
end K03

set_option maxRecDepth 100000
namespace K03
open Ev PySem

def isRowD (m : Nat) : D → Bool
  | .tup ds => ds.length == m && ds.all (from' 0)
  | _ => false
theorem ev_is_tuple_of_no (k : Nat) (d : D) (m : Int) (h : AH) (hf : flat d = true) (hn : ∀ ds, d ≠ .tup ds) : callN mo tb (k + 1) F.is_tuple_of [d, .int m] h = .ok (.bl false) h := by
  rw [call_at (b := b_is_tuple_of) (sl := 2) rfl rfl]
  cases d <;> first | (simp [b_is_tuple_of, evSs, evS, evE, evEs, Ev.start, isiD, tyD]; done) | exact absurd rfl (hn _) | cases hf
theorem ev_is_row_of (k : Nat) (d : D) (m : Nat) (h : AH) (hf : flat d = true) (hd : ∀ ds, d = .tup ds → (∀ x ∈ ds, flat x = true) ∧ ds.length ≤ 4000) : callN mo tb (k + 3) F.is_row_of [d, .int m] h = .ok (.bl (isRowD m d)) h := by
  rw [call_at (b := b_is_row_of) (sl := 3) rfl rfl]
  cases d with
  | tup ds =>
    obtain ⟨h1, h2⟩ := hd ds rfl
    have e1 := ev_is_tuple_of (k + 1) ds m h
    by_cases hc : ds.length = m
    · simp [b_is_row_of, evSs, evS, evE, evEs, evIt, evIf, Ev.start, e1, hc, walkOf, seqOf, depOf]
      rw [compL_map (f := fun d => .bl (from' 0 d)) ds (fun x hx => by simp [T.put, Env.wipe, ev_is_from k x 0 h (h1 x hx)]) (by have := z_is; omega)]
      simp only [Res.bind_ok]; rw [all_map]
      simp [isRowD, hc]
    · have hc' : ¬ ((ds.length : Int) = m) := by omega
      simp [b_is_row_of, evSs, evS, evE, evEs, Ev.start, e1, hc', isRowD, hc]
  | non | bl _ | int _ | str _ | lst _ =>
    have e1 := ev_is_tuple_of_no (k + 1) _ m h hf (fun ds q => by cases q)
    simp [b_is_row_of, evSs, evS, evE, evEs, Ev.start, isRowD, e1, flat]
  | _ => cases hf
theorem ev_is_row (k : Nat) (d : D) (m : Nat) (h : AH) (hm : m ≤ 5) (hf : flat d = true) (hd : ∀ ds, d = .tup ds → (∀ x ∈ ds, flat x = true) ∧ ds.length ≤ 4000) : callN mo tb (k + 4) F.is_row [d, .int m] h = .ok (.bl (isRowD m d)) h := by
  rw [call_at (b := b_is_row) (sl := 2) rfl rfl]
  have e1 := ev_is_between (k + 1) (.int m) 0 5 h rfl
  have e2 := ev_sure_t (k + 2) h
  have e3 := ev_is_row_of k d m h hf hd
  have hb : betw 0 5 (.int m) = true := by simp only [betw, Bool.and_eq_true, decide_eq_true_eq]; omega
  rw [hb] at e1
  simp [b_is_row, evSs, evS, evE, evEs, Ev.start, mo1, e1, e2, e3]
theorem ev_zero_row (k : Nat) (m : Nat) (h : AH) (hm : m ≤ 5) : callN mo tb (k + 4) F.zero_row [.int m] h = .ok (rw (List.replicate m 0)) h := by
  rw [call_at (b := b_zero_row) (sl := 1) rfl rfl]
  have e1 := ev_is_between (k + 1) (.int m) 0 5 h rfl
  have e2 := ev_sure_t (k + 2) h
  have hb : betw 0 5 (.int m) = true := by simp only [betw, Bool.and_eq_true, decide_eq_true_eq]; omega
  rw [hb] at e1
  have e3 : (List.replicate m [D.int 0]).flatten = (List.replicate m 0).map D.int := by
    clear e1 e2 hb hm
    induction m with
    | zero => rfl
    | succ m ih => simp [List.replicate_succ, ih]
  have z := z_is
  have e4 : opD .mul (.tup [.int 0]) (.int m) h = some (rw (List.replicate m 0)) := by
    simp only [opD, mulD, Int.toNat_natCast, e3]
    rw [if_pos ⟨by simp, by omega, by omega, by simp⟩]
  simp only [b_zero_row, evSs, evS, evE, evEs, Ev.start, mo1]
  simp [e1, e2, e4, show (1 : Nat) ≤ Z by omega]
  exact fin_rt_same (wfs_ints _ _)
end K03

set_option maxRecDepth 100000
namespace K03
open Ev PySem PySem.W
theorem toPs_ints : ∀ r : List Int, D.toPs (r.map D.int) = r.map PyData.int
  | [] => rfl
  | a :: r => by simp [D.toPs, D.toP, toPs_ints r]
theorem le_rows (r s : List Int) : dataLe false D.toP (rw r) (rw s) = decide (r ≤ s) := by
  have e := congrFun (congrFun (dataLe_rows (fun r : List Int => r)) r) s
  rw [← e]
  simp only [dataLe_eq, cond_false, D.toP, toPs_ints, dataLt_tuple, dataLt_list]
abbrev srt (R : List (List Int)) : List (List Int) := R.mergeSort fun a b => decide (a ≤ b)
theorem sort_rows (R : List (List Int)) : sortL (rows R) = rows (srt R) := by
  unfold sortL
  exact (List.map_mergeSort (f := rw) (r := fun a b => decide (a ≤ b)) (s := dataLe false D.toP) (l := R) (fun a _ b _ => (le_rows a b).symm)).symm
theorem srt_perm (R : List (List Int)) : (srt R).Perm R := List.mergeSort_perm _ _
theorem srt_le (R : List (List Int)) : (srt R).Pairwise fun a b => a ≤ b := by
  have := List.pairwise_mergeSort (le := fun a b : List Int => decide (a ≤ b)) (fun a b c h1 h2 => by simp at h1 h2 ⊢; exact List.le_trans h1 h2) (fun a b => by simp; exact List.le_total a b) R
  exact this.imp fun h => by simpa using h
/-! ### at most, at one length -/
theorem leq_self : ∀ r : List Int, leq r r = true := by
  intro r
  simp [leq, List.all_eq_true]
  intro a b h
  induction r with
  | nil => simp at h
  | cons x r ih =>
    simp only [List.zip_cons_cons, List.mem_cons, Prod.mk.injEq] at h
    rcases h with ⟨rfl, rfl⟩ | h
    · exact Int.le_refl _
    · exact ih h
theorem leq_cons (a b : Int) (r s : List Int) : leq (a :: r) (b :: s) = (decide (a ≤ b) && leq r s) := by simp [leq]
theorem leq_trans : ∀ {r s t : List Int}, r.length = s.length → s.length = t.length → leq r s = true → leq s t = true → leq r t = true
  | [], [], [], _, _, _, _ => rfl
  | a :: r, b :: s, c :: t, h1, h2, h3, h4 => by
    rw [leq_cons, Bool.and_eq_true, decide_eq_true_eq] at *
    exact ⟨Int.le_trans h3.1 h4.1, leq_trans (by simpa using h1) (by simpa using h2) h3.2 h4.2⟩
theorem leq_lex : ∀ {r s : List Int}, r.length = s.length → leq r s = true → r ≤ s
  | [], [], _, _ => List.le_refl _
  | a :: r, b :: s, h1, h2 => by
    rw [leq_cons, Bool.and_eq_true, decide_eq_true_eq] at h2
    rw [List.cons_le_cons_iff]
    have := leq_lex (by simpa using h1) h2.2
    rcases Int.lt_or_eq_of_le h2.1 with h | h
    · exact .inl h
    · exact .inr ⟨h, this⟩
theorem leq_anti {r s : List Int} (h : r.length = s.length) (h1 : leq r s = true) (h2 : leq s r = true) : r = s := List.le_antisymm (leq_lex h h1) (leq_lex h.symm h2)
/-! ### the greedy walk keeps the least ones -/
def gr (f : List (List Int)) : List (List Int) → List (List Int)
  | [] => f
  | r :: S => gr (if f.any fun o => leq o r then f else f ++ [r]) S
/-- no other row of R is at most this -/
def mini (R : List (List Int)) (r : List Int) : Bool := R.all fun o => !leq o r || decide (o = r)
/-- what is kept: in order, each once, the least ones of what was walked -/
structure Kept (R P f : List (List Int)) : Prop where
  lt : f.Pairwise fun a b => a < b
  mem : ∀ r, r ∈ f ↔ r ∈ P ∧ mini R r = true
theorem mini_iff {R : List (List Int)} {r : List Int} : mini R r = true ↔ ∀ o ∈ R, leq o r = true → o = r := by
  simp only [mini, List.all_eq_true, Bool.or_eq_true, Bool.not_eq_true', decide_eq_true_eq]
  constructor
  · intro h o ho hl
    rcases h o ho with h | h
    · rw [hl] at h; cases h
    · exact h
  · intro h o ho
    cases hl : leq o r with
    | false => exact .inl rfl
    | true => exact .inr (h o ho hl)
theorem has_mini {m : Nat} {R : List (List Int)} (hm : ∀ r ∈ R, r.length = m) {o : List Int} (ho : o ∈ R) : ∃ x ∈ R, leq x o = true ∧ mini R x = true := by
  have hne : o ∈ srt (R.filter fun x => leq x o) := (srt_perm _).mem_iff.mpr (List.mem_filter.mpr ⟨ho, leq_self o⟩)
  cases hs : srt (R.filter fun x => leq x o) with
  | nil => rw [hs] at hne; cases hne
  | cons x S =>
    have hx : x ∈ R.filter fun x => leq x o := (srt_perm _).mem_iff.mp (by rw [hs]; exact List.mem_cons_self)
    obtain ⟨h1, h2⟩ := List.mem_filter.mp hx
    refine ⟨x, h1, h2, mini_iff.mpr fun y hy hl => ?_⟩
    have hlen : y.length = x.length := (hm y hy).trans (hm x h1).symm
    have hy2 : y ∈ x :: S := by
      rw [← hs]
      exact (srt_perm _).mem_iff.mpr (List.mem_filter.mpr ⟨hy, leq_trans hlen ((hm x h1).trans (hm o ho).symm) hl h2⟩)
    have hp := srt_le (R.filter fun x => leq x o)
    rw [hs, List.pairwise_cons] at hp
    rcases List.mem_cons.mp hy2 with q | q
    · exact q
    · exact List.le_antisymm (leq_lex hlen hl) (hp.1 y q)
theorem gr_kept {m : Nat} {R : List (List Int)} (hm : ∀ r ∈ R, r.length = m) : ∀ (S P f : List (List Int)), Kept R P f → (∀ x, x ∈ P ++ S ↔ x ∈ R) → (P ++ S).Pairwise (fun a b => a ≤ b) → Kept R (P ++ S) (gr f S)
  | [], P, f, k, _, _ => by simpa [gr] using k
  | r :: S, P, f, k, hmem, hp => by
    have hP : ∀ x ∈ P, x ≤ r := fun x hx => (List.pairwise_append.mp hp).2.2 x hx r List.mem_cons_self
    have hS : ∀ x ∈ S, r ≤ x := fun x hx => (List.pairwise_cons.mp (List.pairwise_append.mp hp).2.1).1 x hx
    have hrR : r ∈ R := (hmem r).mp (by simp)
    have inR : ∀ x ∈ P, x ∈ R := fun x hx => (hmem x).mp (List.mem_append_left _ hx)
    have key : Kept R (P ++ [r]) (if f.any fun o => leq o r then f else f ++ [r]) := by
      by_cases hc : (f.any fun o => leq o r) = true
      · rw [if_pos hc]
        refine ⟨k.lt, fun x => ?_⟩
        rw [k.mem]
        constructor
        · exact fun ⟨a, b⟩ => ⟨List.mem_append_left _ a, b⟩
        · rintro ⟨a, b⟩
          rcases List.mem_append.mp a with a | a
          · exact ⟨a, b⟩
          · obtain rfl := List.mem_singleton.mp a
            obtain ⟨o, ho, hl⟩ := List.any_eq_true.mp hc
            obtain ⟨h1, h2⟩ := (k.mem o).mp ho
            have := mini_iff.mp b o (inR o h1) hl
            subst this
            exact ⟨h1, b⟩
      · rw [if_neg hc]
        have no : ∀ o ∈ f, leq o r = false := fun o ho => by
          cases hl : leq o r with
          | false => rfl
          | true => exact absurd (List.any_eq_true.mpr ⟨o, ho, hl⟩) hc
        have hr : mini R r = true := mini_iff.mpr fun o ho hl => by
          obtain ⟨x, hx, hxo, hxm⟩ := has_mini hm ho
          have l1 : x.length = o.length := (hm x hx).trans (hm o ho).symm
          have l2 : o.length = r.length := (hm o ho).trans (hm r hrR).symm
          have hxr := leq_trans l1 l2 hxo hl
          have hle := leq_lex (l1.trans l2) hxr
          have : x = r := by
            rcases List.mem_append.mp ((hmem x).mpr hx) with q | q
            · have := no x ((k.mem x).mpr ⟨q, hxm⟩)
              rw [hxr] at this; cases this
            · rcases List.mem_cons.mp q with q | q
              · exact q
              · exact List.le_antisymm hle (hS x q)
          subst this
          exact leq_anti l2 hl hxo
        refine ⟨?_, fun x => ?_⟩
        · rw [List.pairwise_append]
          refine ⟨k.lt, by simp, fun a ha b hb => ?_⟩
          obtain rfl := List.mem_singleton.mp hb
          have hle := hP a ((k.mem a).mp ha).1
          rcases List.le_iff_lt_or_eq.mp hle with q | q
          · exact q
          · have := no a ha
            rw [q, leq_self] at this; cases this
        · rw [List.mem_append, k.mem, List.mem_append, List.mem_singleton]
          constructor
          · rintro (⟨a, b⟩ | rfl)
            · exact ⟨.inl a, b⟩
            · exact ⟨.inr rfl, hr⟩
          · rintro ⟨a | rfl, b⟩
            · exact .inl ⟨a, b⟩
            · exact .inr rfl
    have := gr_kept hm S (P ++ [r]) _ key (by simpa using hmem) (by simpa using hp)
    simpa [gr] using this
theorem lt_mem_eq {f g : List (List Int)} (hf : f.Pairwise fun a b => a < b) (hg : g.Pairwise fun a b => a < b) (h : ∀ x, x ∈ f ↔ x ∈ g) : f = g := by
  have nf : f.Nodup := hf.imp fun q e => by subst e; exact List.lt_irrefl _ q
  have ng : g.Nodup := hg.imp fun q e => by subst e; exact List.lt_irrefl _ q
  have hp : f.Perm g := (List.perm_ext_iff_of_nodup nf ng).mpr h
  exact hp.eq_of_pairwise (le := fun a b => a < b) (fun a b _ _ h1 h2 => absurd (List.lt_trans h1 h2) (List.lt_irrefl _)) hf hg
theorem gr_eq {m : Nat} {R S S' : List (List Int)} (hm : ∀ r ∈ R, r.length = m) (h : ∀ x, x ∈ S ↔ x ∈ R) (h' : ∀ x, x ∈ S' ↔ x ∈ R) (hp : S.Pairwise fun a b => a ≤ b) (hp' : S'.Pairwise fun a b => a ≤ b) : gr [] S = gr [] S' := by
  have k0 : Kept R [] [] := ⟨by simp, by simp⟩
  have k := gr_kept hm S [] [] k0 (by simpa using h) (by simpa using hp)
  have k' := gr_kept hm S' [] [] k0 (by simpa using h') (by simpa using hp')
  refine lt_mem_eq k.lt k'.lt fun x => ?_
  rw [k.mem, k'.mem, List.nil_append, List.nil_append, h, h']
end K03

set_option maxRecDepth 100000
namespace K03
open Ev PySem PySem.W
theorem toKs_ints : ∀ r : List Int, D.toKs (r.map D.int) = r.map NestedKey.num
  | [] => rfl
  | a :: r => by simp [D.toKs, D.toK, toKs_ints r]
theorem toK_row (r : List Int) : (rw r).toK = .tup (r.map .num) := by simp [D.toK, toKs_ints]
theorem num_inj : ∀ r s : List Int, r.map NestedKey.num = s.map NestedKey.num → r = s
  | [], [], _ => rfl
  | [], _ :: _, h => by simp at h
  | _ :: _, [], h => by simp at h
  | a :: r, b :: s, h => by
    simp only [List.map_cons, List.cons.injEq, NestedKey.num.injEq] at h
    rw [h.1, num_inj r s h.2]
theorem toK_inj {r s : List Int} : (rw r).toK = (rw s).toK ↔ r = s := by
  rw [toK_row, toK_row]
  constructor
  · intro h
    simp only [NestedKey.tup.injEq] at h
    exact num_inj r s h
  · rintro rfl; rfl
def ddr : List (List Int) → List (List Int)
  | [] => []
  | r :: R => r :: (ddr R).filter fun x => !decide (x = r)
theorem dedup_rows : ∀ R : List (List Int), dedup (rows R) = rows (ddr R)
  | [] => rfl
  | r :: R => by
    have e := dedup_rows R
    simp only [List.map_cons, dedup, ddr, e, List.filter_map]
    congr 2
    congr 1
    funext x
    simp only [Function.comp, toK_inj]
theorem ddr_mem : ∀ (R : List (List Int)) (x : List Int), x ∈ ddr R ↔ x ∈ R
  | [], x => Iff.rfl
  | r :: R, x => by
    simp only [ddr, List.mem_cons, List.mem_filter, ddr_mem R x, Bool.not_eq_true', decide_eq_false_iff_not]
    by_cases h : x = r <;> simp [h]
theorem ddr_len : ∀ R : List (List Int), (ddr R).length ≤ R.length
  | [] => Nat.le_refl _
  | r :: R => by
    have := ddr_len R
    have h2 := List.length_filter_le (fun x => !decide (x = r)) (ddr R)
    simp only [ddr, List.length_cons]
    omega
theorem ddr_nodup : ∀ R : List (List Int), (ddr R).Nodup
  | [] => List.nodup_nil
  | r :: R => by
    simp only [ddr, List.nodup_cons]
    exact ⟨by simp, (ddr_nodup R).filter _⟩
end K03

set_option maxRecDepth 100000
namespace K03
open Ev PySem PySem.W
theorem keys_ints : ∀ r : List Int, D.keys (r.map D.int) = true
  | [] => rfl
  | a :: r => by simp [D.keys, D.key, keys_ints r]
theorem depthK_ints : ∀ r : List Int, NestedKey.depthAll (r.map NestedKey.num) ≤ 1
  | [] => by simp [NestedKey.depthAll]
  | a :: r => by
    have := depthK_ints r
    simp only [List.map_cons, NestedKey.depthAll, NestedKey.depth]
    omega
theorem keyOk_row (r : List Int) : keyOk (rw r) := by
  refine ⟨by simp only [D.key]; exact keys_ints r, ?_⟩
  rw [toK_row]
  have := depthK_ints r
  simp only [NestedKey.depth]
  omega
theorem okSet_rows {R : List (List Int)} (hl : R.length < 64) : okSet (rows R) := by
  refine ⟨fun d hd => ?_, by simpa using hl, fun d hd d' hd' h => ?_⟩
  · obtain ⟨r, _, rfl⟩ := List.mem_map.mp hd
    exact ⟨rfl, keyOk_row r⟩
  · obtain ⟨r, _, rfl⟩ := List.mem_map.mp hd
    obtain ⟨s, _, rfl⟩ := List.mem_map.mp hd'
    rw [toK_inj.mp h]
theorem purs_rows : ∀ R : List (List Int), D.purs (rows R) = true
  | [] => rfl
  | r :: R => by
    have := purs_rows R
    simp only [List.map_cons, D.purs, D.pur, purs_ints, this, Bool.and_self]
theorem toPs_rows : ∀ R : List (List Int), D.toPs (rows R) = R.map fun r => .tuple (r.map .int)
  | [] => rfl
  | r :: R => by
    have := toPs_rows R
    simp only [List.map_cons, D.toPs, D.toP, toPs_ints, this]
theorem okSort_rows {R : List (List Int)} (hl : R.length ≤ 4000) : okSort (rows R) := by
  refine ⟨purs_rows R, ⟨?_, ?_⟩, by have := z_is; simp; omega, ?_⟩
  · rw [toPs_rows]
    intro p hp q hq
    obtain ⟨r, _, rfl⟩ := List.mem_map.mp hp
    obtain ⟨s, _, rfl⟩ := List.mem_map.mp hq
    simp only [alike, alike_ints]
  · rw [toPs_rows]
    intro p hp
    obtain ⟨r, _, rfl⟩ := List.mem_map.mp hp
    have := depthAll_ints r
    rw [toPs_ints] at this
    simp only [PyData.depth, deepest]
    omega
  · intro d hd
    obtain ⟨r, _, rfl⟩ := List.mem_map.mp hd
    simp [D.toP]
def unI : D → Int
  | .int i => i
  | _ => 0
def un : D → List Int
  | .tup ds => ds.map unI
  | _ => []
theorem un_row (r : List Int) : un (rw r) = r := by
  simp only [un, List.map_map]
  exact (List.map_congr_left fun _ _ => rfl).trans (List.map_id r)
theorem un_rows (R : List (List Int)) : (rows R).map un = R := by
  rw [List.map_map]
  exact (List.map_congr_left fun r _ => un_row r).trans (List.map_id R)
theorem perm_rows {l : List D} {R : List (List Int)} (h : l.Perm (rows R)) : ∃ S : List (List Int), l = rows S ∧ S.Perm R := by
  have hm : ∀ d ∈ l, ∃ r, d = rw r := fun d hd => by
    obtain ⟨r, _, rfl⟩ := List.mem_map.mp (h.mem_iff.mp hd)
    exact ⟨r, rfl⟩
  have ex : ∀ l : List D, (∀ d ∈ l, ∃ r, d = rw r) → ∃ S : List (List Int), l = rows S := by
    intro l
    induction l with
    | nil => exact fun _ => ⟨[], rfl⟩
    | cons d l ih =>
      intro hm
      obtain ⟨r, rfl⟩ := hm d List.mem_cons_self
      obtain ⟨S, rfl⟩ := ih fun x hx => hm x (List.mem_cons_of_mem _ hx)
      exact ⟨r :: S, rfl⟩
  obtain ⟨S, rfl⟩ := ex l hm
  refine ⟨S, rfl, ?_⟩
  have := h.map un
  simpa only [un_rows] using this
theorem srt_eq {R S : List (List Int)} (h : R.Perm S) : srt R = srt S :=
  ((srt_perm R).trans (h.trans (srt_perm S).symm)).eq_of_pairwise (le := fun a b => a ≤ b) (fun a b _ _ h1 h2 => List.le_antisymm h1 h2) (srt_le R) (srt_le S)
theorem ssrt_rows {R : List (List Int)} {d : D} {h : AH} (hd : seqOf h d = some (rows R)) (hl : R.length < 64) : ssrtD h d = some (.lst (rows (srt (ddr R)))) := by
  have := ddr_len R
  have hp : ∀ l : List D, l.Perm (dedup (rows R)) → sortL l = sortL (dedup (rows R)) := fun l hp => by
    rw [dedup_rows] at hp ⊢
    obtain ⟨S, rfl, hS⟩ := perm_rows hp
    rw [sort_rows, sort_rows, srt_eq hS]
  simp only [ssrtD, hd]
  rw [if_pos ⟨okSet_rows hl, okSort_rows (by omega), hp⟩, dedup_rows, sort_rows]
end K03

set_option maxRecDepth 100000
namespace Ev
open PySem
theorem cut_app (h x : AH) : cut h (h ++ x) = some h := by simp [cut]
theorem fin_rt_app {h x : AH} {d : D} (w : d.wf h.length = true) : fin true h (.rt d (h ++ x)) = .ok d h := by
  simp only [fin, clo, if_true, frz_wf w, cut_app]
theorem fin_nx_app {h x : AH} {e : Env} : fin true h (.nx e (h ++ x)) = .ok .non h := by
  simp only [fin, clo, if_true, frz_wf (show D.wf h.length .non = true from rfl), cut_app]
theorem at_end (h : AH) (a : AO) (x : AH) : (h ++ a :: x)[h.length]? = some a := by simp
theorem set_end (h : AH) (a b : AO) : (h ++ [a]).set h.length b = h ++ [b] := by simp
end Ev
namespace K03
open Ev PySem PySem.W
def keepR (f : List (List Int)) (r : List Int) : List (List Int) := if f.any fun o => leq o r then f else f ++ [r]
theorem gr_cons (f : List (List Int)) (r : List Int) (S : List (List Int)) : gr f (r :: S) = gr (keepR f r) S := rfl
theorem keepR_len (f : List (List Int)) (r : List Int) : (keepR f r).length ≤ f.length + 1 := by
  unfold keepR; split <;> simp
theorem keepR_sub {f : List (List Int)} {r x : List Int} (h : x ∈ keepR f r) : x ∈ f ∨ x = r := by
  unfold keepR at h; split at h
  · exact .inl h
  · simpa using h
theorem walk_end (h : AH) (ds : List D) : walkOf (h ++ [.lst ds]) (.ref h.length) = some ds := by simp [walkOf, seqOf]
theorem seq_end (h : AH) (ds : List D) : seqOf (h ++ [.lst ds]) (.ref h.length) = some ds := by simp [seqOf]
/-- one turn of least_of's loop -/
def leastB : Ss := .cons (.ite (.nt (.call F.some_at_most (.cons (.var 1) (.cons (.var 2) .nil)))) (.cons (.exp (.met .append (.var 1) (.cons (.var 2) .nil))) .nil) .nil) .nil
theorem least_turn (k : Nat) (d : D) (f : List (List Int)) (r : List Int) (h : AH) (hf : ∀ r ∈ f, r.length ≤ 4000) (hl : f.length < 4000) : evSs mo (callN mo tb (k + 2)) leastB [some d, some (.ref h.length), some (rw r)] (h ++ [.lst (rows f)]) = .nx [some d, some (.ref h.length), some (rw r)] (h ++ [.lst (rows (keepR f r))]) := by
  have e := ev_some_at_most k (.ref h.length) f r (h ++ [.lst (rows f)]) (walk_end h _) hf (by omega)
  have z := z_is
  unfold keepR
  by_cases hc : (f.any fun o => leq o r) = true
  · rw [hc] at e
    simp [leastB, evSs, evS, evE, evEs, e, hc]
  · have hc' : (f.any fun o => leq o r) = false := by simpa using hc
    rw [hc'] at e
    have e2 : metD .append (.ref h.length) [rw r] (h ++ [.lst (rows f)]) = .ok .non (h ++ [.lst (rows (f ++ [r]))]) := by
      simp only [metD, at_end, List.length_map, set_end, List.map_append, List.map_cons, List.map_nil]
      rw [if_pos (by omega)]
    have e3 : metOk .append (h ++ [.lst (rows f)]) (.ref h.length) = true := by simp [metOk]
    simp only [leastB, evSs, evS, evE, evEs]
    simp only [List.getElem?_cons_succ, List.getElem?_cons_zero, Res.bind_ok, e, boolR_bl, Bool.not_false, Res.toS_ok, e3, if_true, e2, SRes.thn_nx, hc', Bool.false_eq_true, if_false]
theorem least_loop (k : Nat) (d : D) (h h0 : AH) : ∀ (S f : List (List Int)) (v : Option D), (∀ r ∈ f, r.length ≤ 4000) → (∀ r ∈ S, r.length ≤ 4000) → f.length + S.length < 4000 → ∃ v', forL [] h0 (T.put (.nm 2)) (evSs mo (callN mo tb (k + 2)) leastB) (rows S) [some d, some (.ref h.length), v] (h ++ [.lst (rows f)]) = .nx [some d, some (.ref h.length), v'] (h ++ [.lst (rows (gr f S))])
  | [], f, v, _, _, _ => ⟨v, by simp [forL, stays_nil, gr]⟩
  | r :: S, f, v, hf, hS, hl => by
    simp only [List.length_cons] at hl
    have e := least_turn k d f r h hf (by omega)
    have hk := keepR_len f r
    obtain ⟨v', e2⟩ := least_loop k d h h0 S (keepR f r) (some (rw r)) (fun x hx => by
      rcases keepR_sub hx with q | rfl
      · exact hf x q
      · exact hS _ List.mem_cons_self) (fun x hx => hS x (List.mem_cons_of_mem _ hx)) (by omega)
    refine ⟨v', ?_⟩
    rw [gr_cons, ← e2]
    have e3 : T.put (.nm 2) (rw r) [some d, some (.ref h.length), v] = some [some d, some (.ref h.length), some (rw r)] := rfl
    simp only [List.map_cons, forL, stays_nil, if_true, e3, e, SRes.thn_nx]
theorem gr_sub : ∀ (S f : List (List Int)) {x : List Int}, x ∈ gr f S → x ∈ f ∨ x ∈ S
  | [], f, x, h => .inl h
  | r :: S, f, x, h => by
    rw [gr_cons] at h
    rcases gr_sub S _ h with q | q
    · rcases keepR_sub q with q | rfl
      · exact .inl q
      · exact .inr List.mem_cons_self
    · exact .inr (List.mem_cons_of_mem _ q)
def leastR (R : List (List Int)) : List (List Int) := gr [] (srt (ddr R))
theorem leastR_mem {R : List (List Int)} {x : List Int} (h : x ∈ leastR R) : x ∈ R := by
  rcases gr_sub _ _ h with q | q
  · cases q
  · exact (ddr_mem R x).mp ((srt_perm _).mem_iff.mp q)
theorem b_least_is : b_least_of = .cons (.asg (.nm 1) (.mls .nil)) (.cons (.for (.nm 2) (.seq (.ssrt (.var 0))) leastB) (.cons (.ret (.bi .tup (.cons (.var 1) .nil))) .nil)) := rfl
theorem ev_least_of (k : Nat) (d : D) (R : List (List Int)) (h : AH) (hd : ∀ x, seqOf (h ++ x) d = some (rows R)) (hR : ∀ r ∈ R, r.length ≤ 4000) (hl : R.length < 64) : callN mo tb (k + 3) F.least_of [d] h = .ok (.tup (rows (leastR R))) h := by
  rw [call_at (b := b_least_of) (sl := 3) rfl rfl, b_least_is]
  have l1 := ddr_len R
  have l2 := (srt_perm (ddr R)).length_eq
  obtain ⟨v', e⟩ := least_loop k d h (h ++ [.lst []]) (srt (ddr R)) [] none (by simp) (fun r hr => hR r ((ddr_mem R r).mp ((srt_perm _).mem_iff.mp hr))) (by simp only [List.length_nil]; omega)
  have e1 := ssrt_rows (hd [.lst []]) hl
  have z := z_is
  have e2 : start 3 [d] = [some d, none, none] := rfl
  have e3 : T.put (.nm 1) (.ref h.length) [some d, none, none] = some [some d, some (.ref h.length), none] := rfl
  simp only [evSs, evS, evE, evEs, evIt, e2, e3, Res.bind_ok, List.length_nil, Nat.zero_le, if_true, Res.toS_ok, SRes.thn_nx, List.getElem?_cons_zero, List.getElem?_cons_succ, e1, optR_some, walkOf, seqOf, depOf]
  simp only [List.map_nil] at e
  rw [e]
  simp only [SRes.thn_nx, List.getElem?_cons_zero, List.getElem?_cons_succ, Res.bind_ok, biD, seq_end, Res.toS_ok, SRes.thn_rt]
  exact fin_rt_app (by rw [wf_tup]; exact wfs_rows _ _)
end K03

set_option maxRecDepth 100000
namespace Ev
open PySem
theorem filter_any {α : Type} (p : α → Bool) : ∀ xs : List α, (xs.filter p).isEmpty = !xs.any p
  | [] => rfl
  | x :: xs => by
    have e := filter_any p xs
    cases hc : p x <;> simp only [List.filter_cons, hc, Bool.false_eq_true, if_false, if_true, List.isEmpty_cons, List.any_cons, Bool.false_or, Bool.true_or, e, Bool.not_true]
theorem compLL_in {α : Type} {dep : List Nat} {turn : D → List D → AH → Res (List D)} {h : AH} (g f : α → D) : ∀ (xs : List α) (acc : List D), (∀ x ∈ xs, ∀ acc : List D, acc.length < Z → turn (g x) acc h = .ok (acc ++ [f x]) h) → acc.length + xs.length ≤ Z → compLL dep h turn (xs.map g) acc h = .ok (acc ++ xs.map f) h
  | [], acc, _, _ => by simp [compLL, stays_refl]
  | x :: xs, acc, ht, hl => by
    simp only [List.length_cons] at hl
    simp only [List.map_cons, compLL, stays_refl, if_true, ht x List.mem_cons_self acc (by omega)]
    rw [compLL_in g f xs (acc ++ [f x]) (fun y hy => ht y (List.mem_cons_of_mem _ hy)) (by simp; omega)]
    simp
theorem compLL_out {α : Type} {dep : List Nat} {turn : D → List D → AH → Res (List D)} {h : AH} (g : α → D) (F : α → List D) (n : Nat) : ∀ (xs : List α) (acc : List D), (∀ x ∈ xs, ∀ acc : List D, acc.length + n ≤ Z → turn (g x) acc h = .ok (acc ++ F x) h) → (∀ x ∈ xs, (F x).length ≤ n) → acc.length + xs.length * n ≤ Z → compLL dep h turn (xs.map g) acc h = .ok (acc ++ xs.flatMap F) h
  | [], acc, _, _, _ => by simp [compLL, stays_refl]
  | x :: xs, acc, ht, hF, hl => by
    simp only [List.length_cons, Nat.succ_mul] at hl
    simp only [List.map_cons, compLL, stays_refl, if_true, ht x List.mem_cons_self acc (by omega)]
    have := hF x List.mem_cons_self
    rw [compLL_out g F n xs (acc ++ F x) (fun y hy => ht y (List.mem_cons_of_mem _ hy)) (fun y hy => hF y (List.mem_cons_of_mem _ hy)) (by simp; omega)]
    simp
end Ev
namespace K03
open Ev PySem PySem.W
/-! ### the law's own least ones -/
def lawB : Ss := .cons (.ite (.op .eq (.cmp false (.var 3) (.nm 3) (.seq (.var 1)) (.cons (.call F._law_at_most (.cons (.var 3) (.cons (.var 2) .nil))) .nil) [3]) (.lst .nil)) (.cons (.exp (.met .append (.var 1) (.cons (.var 2) .nil))) .nil) .nil) .nil
theorem law_turn (k : Nat) (d : D) (f : List (List Int)) (r : List Int) (m : Nat) (h : AH) (hm : m ≤ 4000) (hf : ∀ r ∈ f, r.length = m) (hr : r.length = m) (hl : f.length < 4000) : evSs mo (callN mo tb (k + 1)) lawB [some d, some (.ref h.length), some (rw r), none] (h ++ [.lst (rows f)]) = .nx [some d, some (.ref h.length), some (rw r), none] (h ++ [.lst (rows (keepR f r))]) := by
  have z := z_is
  have e2 : metD .append (.ref h.length) [rw r] (h ++ [.lst (rows f)]) = .ok .non (h ++ [.lst (rows (f ++ [r]))]) := by
    simp only [metD, at_end, List.length_map, set_end, List.map_append, List.map_cons, List.map_nil]
    rw [if_pos (by omega)]
  have e3 : metOk .append (h ++ [.lst (rows f)]) (.ref h.length) = true := by simp [metOk]
  simp only [lawB, evSs, evS, evE, evEs, evIt, List.getElem?_cons_succ, List.getElem?_cons_zero, Res.bind_ok, walk_end]
  rw [compL_gf (g := rw) (f := rw) (p := fun o => leq o r) f (fun o ho => by
    have e := ev_law_at_most k o r (h ++ [.lst (rows f)]) (by rw [hf o ho]; exact hm) (by rw [hf o ho, hr])
    cases hc : leq o r <;> simp [T.put, Env.wipe, evIf, evE, evEs, e, hc]) (by omega)]
  have e4 : opD .eq (.lst (rows (f.filter fun o => leq o r))) (.lst []) (h ++ [.lst (rows f)]) = some (.bl (!f.any fun o => leq o r)) := by
    rw [eq_nil _ _ (purs_rows _)]
    rw [List.isEmpty_map, filter_any]
  simp only [Res.bind_ok, Bool.false_eq_true, if_false, List.length_nil, Nat.zero_le, if_true, e4, optR_some, Res.toS_ok]
  unfold keepR
  by_cases hc : (f.any fun o => leq o r) = true
  · simp only [hc, Bool.not_true, if_true, evSs, SRes.thn_nx]
  · have hc' : (f.any fun o => leq o r) = false := by simpa using hc
    simp only [hc', Bool.not_false, evSs, evS, evE, evEs, List.getElem?_cons_succ, List.getElem?_cons_zero, Res.bind_ok, e3, if_true, e2, Res.toS_ok, SRes.thn_nx, Bool.false_eq_true, if_false]
theorem law_loop (k : Nat) (d : D) (m : Nat) (hm : m ≤ 4000) (h h0 : AH) : ∀ (S f : List (List Int)) (v : Option D), (∀ r ∈ f, r.length = m) → (∀ r ∈ S, r.length = m) → f.length + S.length < 4000 → ∃ v', forL [] h0 (T.put (.nm 2)) (evSs mo (callN mo tb (k + 1)) lawB) (rows S) [some d, some (.ref h.length), v, none] (h ++ [.lst (rows f)]) = .nx [some d, some (.ref h.length), v', none] (h ++ [.lst (rows (gr f S))])
  | [], f, v, _, _, _ => ⟨v, by simp [forL, stays_nil, gr]⟩
  | r :: S, f, v, hf, hS, hl => by
    simp only [List.length_cons] at hl
    have e := law_turn k d f r m h hm hf (hS r List.mem_cons_self) (by omega)
    have hk := keepR_len f r
    obtain ⟨v', e2⟩ := law_loop k d m hm h h0 S (keepR f r) (some (rw r)) (fun x hx => by
      rcases keepR_sub hx with q | rfl
      · exact hf x q
      · exact hS _ List.mem_cons_self) (fun x hx => hS x (List.mem_cons_of_mem _ hx)) (by omega)
    refine ⟨v', ?_⟩
    rw [gr_cons, ← e2]
    have e3 : T.put (.nm 2) (rw r) [some d, some (.ref h.length), v, none] = some [some d, some (.ref h.length), some (rw r), none] := rfl
    simp only [List.map_cons, forL, stays_nil, if_true, e3, e, SRes.thn_nx]
theorem b_law_least_is : b__law_least = .cons (.asg (.nm 1) (.mls .nil)) (.cons (.for (.nm 2) (.seq (.bi .sorted (.cons (.var 0) .nil))) lawB) (.cons (.ret (.bi .tup (.cons (.var 1) .nil))) .nil)) := rfl
theorem leastR_law {m : Nat} {R : List (List Int)} (hm : ∀ r ∈ R, r.length = m) : gr [] (srt R) = leastR R :=
  gr_eq hm (fun x => (srt_perm R).mem_iff) (fun x => (srt_perm _).mem_iff.trans (ddr_mem R x)) (srt_le R) (srt_le _)
theorem sorted_rows (R : List (List Int)) (h : AH) (hl : R.length ≤ 4000) : biD .sorted [.lst (rows R)] h = .ok (.lst (rows (srt R))) h := by
  simp only [biD, lstOf]
  rw [if_pos (okSort_rows hl), sort_rows]
theorem ev_law_least (k : Nat) (R : List (List Int)) (m : Nat) (h : AH) (hm : m ≤ 4000) (hR : ∀ r ∈ R, r.length = m) (hl : R.length < 4000) : callN mo tb (k + 2) F._law_least [.lst (rows R)] h = .ok (.tup (rows (leastR R))) h := by
  rw [call_at (b := b__law_least) (sl := 4) rfl rfl, b_law_least_is, ← leastR_law hR]
  have l2 := (srt_perm R).length_eq
  obtain ⟨v', e⟩ := law_loop k (.lst (rows R)) m hm h (h ++ [.lst []]) (srt R) [] none (by simp) (fun r hr => hR r ((srt_perm _).mem_iff.mp hr)) (by simp only [List.length_nil]; omega)
  have e2 : start 4 [.lst (rows R)] = [some (.lst (rows R)), none, none, none] := rfl
  have e3 : T.put (.nm 1) (.ref h.length) [some (.lst (rows R)), none, none, none] = some [some (.lst (rows R)), some (.ref h.length), none, none] := rfl
  simp only [evSs, evS, evE, evEs, evIt, e2, e3, Res.bind_ok, List.length_nil, Nat.zero_le, if_true, Res.toS_ok, SRes.thn_nx, List.getElem?_cons_zero, List.getElem?_cons_succ, sorted_rows R _ (by omega), optR_some, walkOf, seqOf, depOf]
  simp only [List.map_nil] at e
  rw [e]
  simp only [SRes.thn_nx, List.getElem?_cons_zero, List.getElem?_cons_succ, Res.bind_ok, biD, seq_end, Res.toS_ok, SRes.thn_rt]
  exact fin_rt_app (by rw [wf_tup]; exact wfs_rows _ _)

/-! ### least_rows, reaches, sums_of -/
theorem ev_least_rows (k : Nat) (d : D) (R : List (List Int)) (m : Nat) (h : AH) (hd : d = .tup (rows R) ∨ d = .lst (rows R)) (hR : ∀ r ∈ R, low r ∧ r.length = m) (hl : R.length ≤ 40) : callN mo tb (k + 5) F.least_rows [d] h = .ok (.tup (rows (leastR R))) h := by
  rw [call_at (b := b_least_rows) (sl := 2) rfl rfl]
  have e1 := ev_sure_rows k d R h hd (fun r hr => (hR r hr).1) hl
  have e2 := ev_look_long (k + 3) (.tup (rows R)) R m h (.inl rfl) (by omega) (fun r hr => (hR r hr).2)
  have e3 := ev_least_of (k + 1) (.tup (rows R)) R h (fun _ => rfl) (fun r hr => low_len (hR r hr).1) (by omega)
  simp [b_least_rows, evSs, evS, evE, evEs, Ev.start, T.put, e1, e2, e3]
  exact fin_rt_same (by rw [wf_tup]; exact wfs_rows _ _)
theorem ev_reaches (k : Nat) (d : D) (R : List (List Int)) (s : List Int) (m : Nat) (h : AH) (hd : d = .tup (rows R) ∨ d = .lst (rows R)) (hR : ∀ r ∈ R, low r ∧ r.length = m) (hs : low s) (hsm : s.length = m) (hl : R.length ≤ 40) : callN mo tb (k + 5) F.reaches [d, rw s] h = .ok (.bl (R.any fun r => leq r s)) h := by
  rw [call_at (b := b_reaches) (sl := 4) rfl rfl]
  have z := z_is
  have e1 := ev_sure_rows k d R h hd (fun r hr => (hR r hr).1) hl
  have e0 := ev_sure_row k s h hs
  have e2 := ev_look_long (k + 3) (.tup (rows (R ++ [s]))) (R ++ [s]) m h (.inl rfl) (by simp; omega) (fun r hr => by
    rcases List.mem_append.mp hr with q | q
    · exact (hR r q).2
    · rw [List.mem_singleton.mp q]; exact hsm)
  have e3 := ev_some_at_most (k + 2) (.tup (rows R)) R s h rfl (fun r hr => low_len (hR r hr).1) (by omega)
  have e4 : opD .add (.tup (rows R)) (.tup [rw s]) h = some (.tup (rows (R ++ [s]))) := by
    simp only [opD, catD, List.length_map, List.length_cons, List.length_nil, List.map_append, List.map_cons, List.map_nil]
    rw [if_pos (by omega)]
  rw [show start 4 [d, rw s] = [some d, some (rw s), none, none] from rfl]
  simp only [evSs, evS, evE, evEs, T.put, List.set_cons_zero, List.set_cons_succ, List.getElem?_cons_zero, List.getElem?_cons_succ, Res.bind_ok, optR_some, Res.toS_ok, SRes.thn_nx, SRes.thn_rt, if_true, b_reaches, e1, e0, e3, show (1 : Nat) ≤ Z by omega, e4, e2, List.length_cons, List.length_nil]
  exact fin_rt_same rfl
theorem ev_reaches_x (k : Nat) (r s : List Int) (h : AH) (hr : low r) (hs : low s) (hl : r.length ≠ s.length) : callN mo tb (k + 5) F.reaches [.tup [rw r], rw s] h = .exc X.OtherLength [] h := by
  rw [call_at (b := b_reaches) (sl := 4) rfl rfl]
  have z := z_is
  have e1 : callN mo tb (k + 4) F.sure_rows [.tup [rw r]] h = .ok (.tup [rw r]) h := ev_sure_rows k (.tup [rw r]) [r] h (.inl rfl) (by simpa using hr) (by simp)
  have e0 := ev_sure_row k s h hs
  have e2 := ev_look_long_x (k + 3) r s h hl
  have e4 : opD .add (.tup [rw r]) (.tup [rw s]) h = some (.tup [rw r, rw s]) := by
    simp only [opD, catD, List.length_cons, List.length_nil]
    rw [if_pos (by omega)]; rfl
  simp only [b_reaches, evSs, evS, evE, evEs, Ev.start]
  simp [T.put, e1, e0, show (1 : Nat) ≤ Z by omega, e4, e2, fin, cut]
theorem ev_least_rows_x (k : Nat) (r s : List Int) (h : AH) (hr : low r) (hs : low s) (hl : r.length ≠ s.length) : callN mo tb (k + 5) F.least_rows [.tup [rw r, rw s]] h = .exc X.OtherLength [] h := by
  rw [call_at (b := b_least_rows) (sl := 2) rfl rfl]
  have e1 : callN mo tb (k + 4) F.sure_rows [.tup [rw r, rw s]] h = .ok (.tup [rw r, rw s]) h := ev_sure_rows k (.tup [rw r, rw s]) [r, s] h (.inl rfl) (by simpa using ⟨hr, hs⟩) (by simp)
  have e2 := ev_look_long_x (k + 3) r s h hl
  simp only [b_least_rows, evSs, evS, evE, evEs, Ev.start]
  simp [T.put, e1, e2, fin, cut]
def sums (R S : List (List Int)) : List (List Int) := R.flatMap fun r => S.map (add r)
def maxs (R S : List (List Int)) : List (List Int) := R.flatMap fun r => S.map (mxr r)
theorem flat_rows {R S : List (List Int)} (f : List Int → List Int → List Int) : (R.flatMap fun r => S.map fun s => rw (f r s)) = rows (R.flatMap fun r => S.map (f r)) := by
  simp [List.map_flatMap, Function.comp_def]
theorem prod_len {R S : List (List Int)} (f : List Int → List Int → List Int) : (R.flatMap fun r => S.map (f r)).length = R.length * S.length := by
  induction R with
  | nil => simp
  | cons r R ih => simp only [List.flatMap_cons, List.length_append, List.length_map, ih, List.length_cons, Nat.succ_mul]; omega
theorem add_len {r s : List Int} {m : Nat} (hr : r.length = m) (hs : s.length = m) : (add r s).length = m := by simp [add, hr, hs]
theorem mxr_len {r s : List Int} {m : Nat} (hr : r.length = m) (hs : s.length = m) : (mxr r s).length = m := by simp [mxr, hr, hs]
theorem prod_all {R S : List (List Int)} {f : List Int → List Int → List Int} {P : List Int → Prop} (h : ∀ r ∈ R, ∀ s ∈ S, P (f r s)) : ∀ x ∈ R.flatMap fun r => S.map (f r), P x := by
  intro x hx
  obtain ⟨r, hr, hx⟩ := List.mem_flatMap.mp hx
  obtain ⟨s, hs, rfl⟩ := List.mem_map.mp hx
  exact h r hr s hs
theorem ev_sums_of (k : Nat) (d d' : D) (R S : List (List Int)) (m : Nat) (h : AH) (hd : d = .tup (rows R) ∨ d = .lst (rows R)) (hd' : d' = .tup (rows S) ∨ d' = .lst (rows S)) (hR : ∀ r ∈ R, low r ∧ r.length = m) (hS : ∀ r ∈ S, low r ∧ r.length = m) (hl : R.length ≤ 40) (hl' : S.length ≤ 40) (hp : R.length * S.length < 64) : callN mo tb (k + 5) F.sums_of [d, d'] h = .ok (.tup (rows (leastR (sums R S)))) h := by
  rw [call_at (b := b_sums_of) (sl := 6) rfl rfl]
  have z := z_is
  have e1 := ev_sure_rows k d R h hd (fun r hr => (hR r hr).1) hl
  have e1' := ev_sure_rows k d' S h hd' (fun r hr => (hS r hr).1) hl'
  have e2 := ev_look_long (k + 3) (.tup (rows (R ++ S))) (R ++ S) m h (.inl rfl) (by simp; omega) (fun r hr => by
    rcases List.mem_append.mp hr with q | q
    · exact (hR r q).2
    · exact (hS r q).2)
  have e3 := ev_least_of (k + 1) (.lst (rows (sums R S))) (sums R S) h (fun _ => rfl) (by
    refine prod_all fun r hr s hs => ?_
    rw [add_len (hR r hr).2 (hS s hs).2, ← (hR r hr).2]
    exact low_len (hR r hr).1) (by rw [sums, prod_len]; exact hp)
  have e4 : opD .add (.tup (rows R)) (.tup (rows S)) h = some (.tup (rows (R ++ S))) := by
    simp only [opD, catD, List.length_map, List.map_append]
    rw [if_pos (by omega)]
  simp only [b_sums_of, evSs, evS, evE, evEs, evIt, Ev.start]
  simp only [List.length_cons, List.length_nil, List.map_cons, List.map_nil, List.replicate, List.cons_append, List.nil_append, List.getElem?_cons_zero, List.getElem?_cons_succ, List.set_cons_zero, List.set_cons_succ, Res.bind_ok, Res.toS_ok, SRes.thn_nx, e1, e1', e4, optR_some, e2, walkOf, seqOf, depOf, Nat.reduceAdd, Nat.reduceSub]
  rw [compLL_out rw (fun r => S.map fun s => rw (add r s)) S.length R [] (fun r hr acc ha => by
    simp only [T.put, Env.wipe, List.set_cons_zero, List.set_cons_succ, List.getElem?_cons_zero, List.getElem?_cons_succ, Res.bind_ok]
    rw [compLL_in rw (fun s => rw (add r s)) S acc (fun s hs acc ha => by
      simp only [T.put, Env.wipe, List.set_cons_zero, List.set_cons_succ, List.getElem?_cons_zero, List.getElem?_cons_succ, Res.bind_ok, ev_added (k + 3) r s h (low_len (hR r hr).1)]
      rw [if_pos ha]) ha]) (fun _ _ => by simp) (by simp only [List.length_nil]; omega)]
  rw [flat_rows, ← sums, List.nil_append]
  simp only [Res.bind_ok, e3, Res.toS_ok, SRes.thn_rt]
  exact fin_rt_same (by rw [wf_tup]; exact wfs_rows _ _)
theorem ev_sums_of_x (k : Nat) (r s : List Int) (h : AH) (hr : low r) (hs : low s) (hl : r.length ≠ s.length) : callN mo tb (k + 5) F.sums_of [.tup [rw r], .tup [rw s]] h = .exc X.OtherLength [] h := by
  rw [call_at (b := b_sums_of) (sl := 6) rfl rfl]
  have z := z_is
  have e1 : callN mo tb (k + 4) F.sure_rows [.tup [rw r]] h = .ok (.tup [rw r]) h := ev_sure_rows k (.tup [rw r]) [r] h (.inl rfl) (by simpa using hr) (by simp)
  have e0 : callN mo tb (k + 4) F.sure_rows [.tup [rw s]] h = .ok (.tup [rw s]) h := ev_sure_rows k (.tup [rw s]) [s] h (.inl rfl) (by simpa using hs) (by simp)
  have e2 := ev_look_long_x (k + 3) r s h hl
  have e4 : opD .add (.tup [rw r]) (.tup [rw s]) h = some (.tup [rw r, rw s]) := by
    simp only [opD, catD, List.length_cons, List.length_nil]
    rw [if_pos (by omega)]; rfl
  simp only [b_sums_of, evSs, evS, evE, evEs, Ev.start]
  simp [T.put, e1, e0, show (1 : Nat) ≤ Z by omega, e4, e2, fin, cut]
theorem ev_met_x (k : Nat) (r s : List Int) (h : AH) (hr : low r) (hs : low s) (hl : r.length ≠ s.length) : callN mo tb (k + 5) F.met [.tup [rw r], .tup [rw s]] h = .exc X.OtherLength [] h := by
  rw [call_at (b := b_met) (sl := 9) rfl rfl]
  have z := z_is
  have e1 : callN mo tb (k + 4) F.sure_rows [.tup [rw r]] h = .ok (.tup [rw r]) h := ev_sure_rows k (.tup [rw r]) [r] h (.inl rfl) (by simpa using hr) (by simp)
  have e0 : callN mo tb (k + 4) F.sure_rows [.tup [rw s]] h = .ok (.tup [rw s]) h := ev_sure_rows k (.tup [rw s]) [s] h (.inl rfl) (by simpa using hs) (by simp)
  have e2 := ev_look_long_x (k + 3) r s h hl
  have e4 : opD .add (.tup [rw r]) (.tup [rw s]) h = some (.tup [rw r, rw s]) := by
    simp only [opD, catD, List.length_cons, List.length_nil]
    rw [if_pos (by omega)]; rfl
  simp only [b_met, evSs, evS, evE, evEs, Ev.start]
  simp [T.put, e1, e0, show (1 : Nat) ≤ Z by omega, e4, e2, fin, cut]
/-! ### met -/
def metB : Ss := .cons (.exp (.met .extend (.var 4) (.cons (.cmp false (.bi .tup (.cons (.cmp false (.bi .mx2 (.cons (.var 6) (.cons (.var 7) .nil))) (.cons (.nm 6) (.cons (.nm 7) .nil)) (.zip (.var 5) (.var 8)) .nil [6, 7]) .nil)) (.nm 8) (.seq (.var 3)) .nil [8]) .nil))) .nil
theorem max_is (i j : Int) : (if j > i then j else i) = max i j := by
  rw [Int.max_def]; split <;> split <;> omega
theorem mx_row (M : Mo) (C : Orc) (r s : List Int) (e : Ev.Env) (h : AH) (hl : r.length ≤ 4000) (a b : Nat) (he : e[5]? = some (some (rw r))) (he' : e[8]? = some (some (rw s))) (hn : 8 < e.length) : evE M C (.bi .tup (.cons (.cmp false (.bi .mx2 (.cons (.var 6) (.cons (.var 7) .nil))) (.cons (.nm 6) (.cons (.nm 7) .nil)) (.zip (.var 5) (.var 8)) .nil [6, 7]) .nil)) e h = .ok (rw (mxr r s)) h := by
  have z := z_is
  simp only [evE, evEs, evIt, he, he', Res.bind_ok, seqOf, depOf, isTup, if_true]
  rw [zipL_map, compL_gm (f := fun p => .int (max p.1 p.2)) _ _ (fun x hx => by
    simp [T.put, Env.wipe, evIf, evE, evEs, biD, List.getElem?_set, List.getElem?_set_self, hn, show 6 < e.length by omega, show 7 < e.length by omega, max_is]) (by simp; omega)]
  have q : (r.zip s).map (fun p => D.int (max p.1 p.2)) = (mxr r s).map D.int := by simp [mxr, List.zip, Function.comp_def, List.map_zipWith]
  rw [q]
  simp [biD, seqOf]
end K03

set_option maxRecDepth 100000
/-! drawn numbers -/
namespace Ev
open PySem
theorem op_add (i j : Int) (h : AH) : opD .add (.int i) (.int j) h = some (.int (i + j)) := rfl
theorem op_mod (i j : Int) (h : AH) (hj : 0 < j) : opD .mod (.int i) (.int j) h = some (.int (i % j)) := by simp [opD, hj]
theorem op_gt (i j : Int) (h : AH) : opD .gt (.int i) (.int j) h = some (.bl (decide (j < i))) := rfl
theorem op_lt (i j : Int) (h : AH) : opD .lt (.int i) (.int j) h = some (.bl (decide (i < j))) := rfl
theorem op_ge (i j : Int) (h : AH) : opD .ge (.int i) (.int j) h = some (.bl (decide (j ≤ i))) := rfl
theorem op_fdv (i j : Int) (h : AH) (hj : 0 < j) (hl : j.natAbs < 2 ^ 64) : opD .fdv (.int i) (.int j) h = some (.int (i / j)) := by
  have : j.natAbs.log2 < 64 := (Nat.log2_lt (by omega)).mpr hl
  simp only [opD]
  rw [if_pos ⟨hj, by omega⟩]
theorem op_mul (i j : Int) (h : AH) (hl : j.natAbs < 2 ^ 64) : opD .mul (.int i) (.int j) h = some (.int (i * j)) := by
  simp only [opD, mulD]
  rw [if_pos (mul_ok hl)]
theorem op_mul' (i j : Int) (h : AH) (hl : i.natAbs < 2 ^ 64) : opD .mul (.int i) (.int j) h = some (.int (i * j)) := by
  simp only [opD, mulD]
  rw [if_pos (mul_ok' hl)]
theorem bi_int (i : Int) (h : AH) : biD .int [.int i] h = .ok (.int i) h := rfl
/-- the law's box -/
abbrev bx (a b c : Int) : AH := [.lst [.int a, .int b, .int c]]
theorem bx_0 (a b c : Int) : idxD (bx a b c) (.ref 0) (.int 0) = some (.int a) := rfl
theorem bx_1 (a b c : Int) : idxD (bx a b c) (.ref 0) (.int 1) = some (.int b) := rfl
theorem bx_2 (a b c : Int) : idxD (bx a b c) (.ref 0) (.int 2) = some (.int c) := rfl
theorem bx_s0 (a b c v : Int) : setD (bx a b c) (.ref 0) (.int 0) (.int v) = some (bx v b c) := rfl
theorem bx_s2 (a b c v : Int) : setD (bx a b c) (.ref 0) (.int 2) (.int v) = some (bx a b v) := rfl
theorem fin_bx {a b c a' b' c' : Int} {d : D} (w : d.wf 1 = true) : fin true (bx a b c) (.rt d (bx a' b' c')) = .ok d (bx a' b' c') := by
  simp only [fin, clo, if_true, frz_wf (show D.wf (bx a b c).length d = true from w), cut]
  rw [if_pos (.inr rfl)]
  rfl
/-- n numbers more may be drawn -/
def Bx (n : Nat) (h : AH) : Prop := ∃ a b c : Int, h = bx a b c ∧ 0 ≤ c ∧ c + n ≤ 1152921504606846976
theorem compL_draw {P : D → Prop} {J : Nat → AH → Prop} {h0 : AH} (s : Nat) {turn : D → AH → Res (Option D)} (ht : ∀ (x : D) (n : Nat) (h : AH), J (n + s) h → ∃ y h', turn x h = .ok (some y) h' ∧ P y ∧ J n h') : ∀ (xs acc : List D) (n : Nat) (h : AH), J (n + s * xs.length) h → acc.length + xs.length ≤ Z → ∃ ys h', compL [] h0 turn xs acc h = .ok (acc ++ ys) h' ∧ ys.length = xs.length ∧ (∀ y ∈ ys, P y) ∧ J n h'
  | [], acc, n, h, hJ, hl => ⟨[], h, by simp [compL, stays_nil], rfl, by simp, by simpa using hJ⟩
  | x :: xs, acc, n, h, hJ, hl => by
    simp only [List.length_cons] at hl
    obtain ⟨y, h1, e1, p1, J1⟩ := ht x (n + s * xs.length) h (by
      rw [List.length_cons, Nat.mul_succ] at hJ
      rw [Nat.add_assoc]; exact hJ)
    obtain ⟨ys, h2, e2, l2, p2, J2⟩ := compL_draw s ht xs (acc ++ [y]) n h1 J1 (by simp; omega)
    refine ⟨y :: ys, h2, ?_, by simp [l2], ?_, J2⟩
    · simp only [compL, stays_nil, if_true, e1]
      rw [if_pos (by omega), e2]
      simp
    · intro z hz
      rcases List.mem_cons.mp hz with rfl | q
      · exact p1
      · exact p2 z q
theorem map_of {α : Type} {g : α → D} {P : α → Prop} : ∀ ys : List D, (∀ y ∈ ys, ∃ i, y = g i ∧ P i) → ∃ r : List α, ys = r.map g ∧ ∀ i ∈ r, P i
  | [], _ => ⟨[], rfl, by simp⟩
  | y :: ys, h => by
    obtain ⟨i, rfl, p⟩ := h y List.mem_cons_self
    obtain ⟨r, rfl, q⟩ := map_of ys fun z hz => h z (List.mem_cons_of_mem _ hz)
    refine ⟨i :: r, rfl, fun j hj => ?_⟩
    rcases List.mem_cons.mp hj with rfl | hj
    · exact p
    · exact q j hj
end Ev
namespace K03
open Ev PySem
theorem ev_take (k : Nat) (n : Nat) (m : Int) (h : AH) (hm : 0 < m) (hm' : m ≤ 1000) (hB : Bx (n + 1) h) : ∃ v h', callN mo tb (k + 1) F._law_take [.ref 0, .int m] h = .ok (.int v) h' ∧ (0 ≤ v ∧ v < m) ∧ Bx n h' := by
  obtain ⟨a, b, c, rfl, h1, h2⟩ := hB
  rw [call_at (b := b__law_take) (sl := 6) rfl rfl]
  have s : start 6 [.ref 0, .int m] = [some (.ref 0), some (.int m), none, none, none, none] := rfl
  by_cases ha : 0 < a
  · refine ⟨a % m, bx (a / m) b c, ?_, ⟨Int.emod_nonneg _ (by omega), Int.emod_lt_of_pos _ hm⟩, _, _, _, rfl, h1, by omega⟩
    simp only [b__law_take, evSs, evS, evE, evEs, s, List.getElem?_cons_zero, List.getElem?_cons_succ, Res.bind_ok, optR_some, Res.toS_ok, SRes.thn_nx, SRes.thn_rt, bx_0, op_gt, ha, decide_true, bi_int, op_mod a m _ hm, T.put, List.set_cons_zero, List.set_cons_succ, op_fdv a m _ hm (by omega), bx_s0]
    exact fin_bx rfl
  · have p1 : opD .mul (.int 48271) (.int (c + 1)) (bx a b (c + 1)) = some (.int (48271 * (c + 1))) := op_mul' _ _ _ (by decide)
    have p2 : ∀ x, opD .mul (.int x) (.int (39373 + (c + 1))) (bx a b (c + 1)) = some (.int (x * (39373 + (c + 1)))) := fun x => op_mul _ _ _ (by omega)
    have p3 : ∀ x y, opD .mul (.int x) (.int (y % 40009 + 7)) (bx a b (c + 1)) = some (.int (x * (y % 40009 + 7))) := fun x y => op_mul _ _ _ (by omega)
    have p4 : ∀ x, opD .mul (.int x) (.int 48271) (bx a b (c + 1)) = some (.int (x * 48271)) := fun x => op_mul _ _ _ (by decide)
    have q1 : ∀ x h, opD .mod (.int x) (.int 2147483647) h = some (.int (x % 2147483647)) := fun x h => op_mod _ _ _ (by decide)
    have q2 : ∀ x h, opD .mod (.int x) (.int 40009) h = some (.int (x % 40009)) := fun x h => op_mod _ _ _ (by decide)
    have q3 : ∀ x h, opD .mod (.int x) (.int 2147483629) h = some (.int (x % 2147483629)) := fun x h => op_mod _ _ _ (by decide)
    have q4 : ∀ x h, opD .mod (.int x) (.int 2147483587) h = some (.int (x % 2147483587)) := fun x h => op_mod _ _ _ (by decide)
    have q5 : ∀ x h, opD .mod (.int x) (.int m) h = some (.int (x % m)) := fun x h => op_mod _ _ _ hm
    have r1 : ∀ x h, opD .fdv (.int x) (.int 1000003) h = some (.int (x / 1000003)) := fun x h => op_fdv _ _ _ (by decide) (by decide)
    have r2 : ∀ x h, opD .fdv (.int x) (.int 64) h = some (.int (x / 64)) := fun x h => op_fdv _ _ _ (by decide) (by decide)
    have e : ∃ x, callN mo tb (k + 1) F._law_take [.ref 0, .int m] (bx a b c) = .ok (.int (x % m)) (bx a b (c + 1)) := by
      apply Exists.intro
      rw [call_at (b := b__law_take) (sl := 6) rfl rfl]
      simp only [b__law_take, evSs, evS, evE, evEs, s, List.getElem?_cons_zero, List.getElem?_cons_succ, Res.bind_ok, optR_some, Res.toS_ok, SRes.thn_nx, SRes.thn_rt, bx_0, bx_1, bx_2, op_gt, ha, decide_false, bi_int, T.put, List.set_cons_zero, List.set_cons_succ, op_add, bx_s2, p1, p2, p3, p4, q1, q2, q3, q4, q5, r1, r2]
      exact fin_bx rfl
    obtain ⟨x, e⟩ := e
    rw [call_at (b := b__law_take) (sl := 6) rfl rfl] at e
    refine ⟨x % m, _, e, ⟨Int.emod_nonneg _ (by omega), Int.emod_lt_of_pos _ hm⟩, _, _, _, rfl, by omega, by omega⟩
def drawn (m : Nat) (r : List Int) : Prop := r.length = m ∧ ∀ i ∈ r, 0 ≤ i ∧ i < 5
theorem drawn_low {m : Nat} {r : List Int} (h : drawn m r) (hm : m ≤ 5) : low r := ⟨by rw [h.1]; exact hm, fun i hi => by have := h.2 i hi; omega⟩
theorem range_len (m : Nat) : ((List.range m).map fun (k : Nat) => D.int k).length = m := by simp
theorem ev_draw_row (k n m : Nat) (h : AH) (hm : m ≤ 5) (hB : Bx (n + m) h) : ∃ r h', callN mo tb (k + 2) F._law_row [.ref 0, .int m] h = .ok (rw r) h' ∧ drawn m r ∧ Bx n h' := by
  have z := z_is
  have hB' := hB
  obtain ⟨a, b, c, rfl, h1, h2⟩ := hB'
  rw [call_at (b := b__law_row) (sl := 3) rfl rfl]
  have s : start 3 [.ref 0, .int m] = [some (.ref 0), some (.int m), none] := rfl
  have hit := it_rng (M := mo) (C := callN mo tb (k + 1)) (a := .var 1) (e := [some (.ref 0), some (.int m), none]) (h := bx a b c) (h' := bx a b c) m (by simp only [evE, List.getElem?_cons_zero, List.getElem?_cons_succ]) (by omega)
  obtain ⟨ys, h', e, l, p, J⟩ := compL_draw (h0 := bx a b c) (P := fun y => ∃ i : Int, y = .int i ∧ (0 ≤ i ∧ i < 5)) (J := Bx) 1
    (turn := turnOf mo (callN mo tb (k + 1)) (.call F._law_take (.cons (.var 0) (.cons (.cst (.int 5)) .nil))) (.nm 2) .nil [2] [some (.ref 0), some (.int m), none])
    (fun x n h hJ => by
      obtain ⟨v, h', e, hv, J⟩ := ev_take k n 5 h (by decide) (by decide) hJ
      refine ⟨.int v, h', turn_nil (e' := [some (.ref 0), some (.int m), some x]) rfl ?_, ⟨v, rfl, hv⟩, J⟩
      simp only [evE, evEs, Res.bind_ok, List.getElem?_cons_zero, e])
    ((List.range m).map fun (k : Nat) => D.int k) [] n (bx a b c) (by rw [range_len, Nat.one_mul]; exact hB) (by rw [range_len, List.length_nil]; omega)
  obtain ⟨r, rfl, hr⟩ := map_of ys p
  have J' := J
  obtain ⟨a', b', c', rfl, _, _⟩ := J'
  refine ⟨r, bx a' b' c', ?_, ⟨by rw [range_len, List.length_map] at l; exact l, hr⟩, J⟩
  simp only [b__law_row, s, evSs, evS, ↓ev_cmp, evE, evEs, ↓hit, Res.bind_ok, e, List.nil_append, biD, seqOf, Res.toS_ok, SRes.thn_rt]
  exact fin_bx (by simp)
/-- some drawn rows -/
theorem draw_rows (k n m : Nat) (env : Ev.Env) (own : Nat) (h h0 : AH) (xs : List D) (hm : m ≤ 5) (h0e : env[0]? = some (some (.ref 0))) (h1e : env[1]? = some (some (.int m))) (hown : 2 ≤ own) (hx : xs.length ≤ 4000) (hB : Bx (n + m * xs.length) h) : ∃ R h', compL [] h0 (turnOf mo (callN mo tb (k + 2)) (.call F._law_row (.cons (.var 0) (.cons (.var 1) .nil))) (.nm own) .nil [own] env) xs [] h = .ok (rows R) h' ∧ R.length = xs.length ∧ (∀ r ∈ R, drawn m r) ∧ Bx n h' := by
  have z := z_is
  obtain ⟨ys, h', e, l, p, J⟩ := compL_draw (h0 := h0) (P := fun y => ∃ r : List Int, y = rw r ∧ drawn m r) (J := Bx) m
    (turn := turnOf mo (callN mo tb (k + 2)) (.call F._law_row (.cons (.var 0) (.cons (.var 1) .nil))) (.nm own) .nil [own] env)
    (fun x n h hJ => by
      obtain ⟨v, h', e, hv, J⟩ := ev_draw_row k n m h hm hJ
      refine ⟨rw v, h', turn_nil (e' := (env.set own none).set own (some x)) rfl ?_, ⟨v, rfl, hv⟩, J⟩
      have g0 : (((env.set own none).set own (some x))[0]?) = some (some (.ref 0)) := by
        rw [List.getElem?_set_ne (by omega), List.getElem?_set_ne (by omega)]; exact h0e
      have g1 : (((env.set own none).set own (some x))[1]?) = some (some (.int m)) := by
        rw [List.getElem?_set_ne (by omega), List.getElem?_set_ne (by omega)]; exact h1e
      exact (ev_call2 (ev_var g0) (ev_var g1)).trans e)
    xs [] n h hB (by rw [List.length_nil]; omega)
  obtain ⟨R, rfl, hr⟩ := map_of ys p
  rw [List.nil_append] at e
  rw [List.length_map] at l
  exact ⟨R, h', e, l, hr, J⟩
end K03

set_option maxRecDepth 100000
/-! what is the same -/
namespace Ev
open PySem
theorem eq_bl (a b : Bool) (h : AH) : opD .eq (.bl a) (.bl b) h = some (.bl (a == b)) := by
  cases a <;> cases b <;> simp [opD, eqD, resP, D.pur, D.toP, PyData.depth, PyData.eqv]
theorem ne_bl (a b : Bool) (h : AH) : opD .ne (.bl a) (.bl b) h = some (.bl (a != b)) := by
  cases a <;> cases b <;> simp [opD, eqD, resP, D.pur, D.toP, PyData.depth, PyData.eqv]
theorem eq_int (a b : Int) (h : AH) : opD .eq (.int a) (.int b) h = some (.bl (a == b)) := by
  simp [opD, eqD, resP, D.pur, D.toP, PyData.depth, PyData.eqv]
theorem eq_str (a : Str) (h : AH) : opD .eq (.str a) (.str a) h = some (.bl true) := by
  simp [opD, eqD, resP, D.pur, D.toP, PyData.depth, PyData.eqv]
theorem eq_non (h : AH) : opD .eq .non .non h = some (.bl true) := by
  simp [opD, eqD, resP, D.pur, D.toP, PyData.depth, PyData.eqv]
mutual
def D.dpt : D → Nat
  | .tup ds => D.dpts ds + 1
  | .lst ds => D.dpts ds + 1
  | _ => 0
def D.dpts : List D → Nat
  | [] => 0
  | d :: ds => max d.dpt (D.dpts ds)
end
mutual
/-- what is looked through entry by entry -/
def D.sam : D → Prop
  | .tup ds => ds.length ≤ 4000 ∧ D.sams ds
  | .lst ds => ds.length ≤ 4000 ∧ D.sams ds
  | .non | .bl _ | .int _ | .str _ => True
  | _ => False
def D.sams : List D → Prop
  | [] => True
  | d :: ds => d.sam ∧ D.sams ds
end
theorem sams_mem : ∀ {ds : List D}, D.sams ds → ∀ x ∈ ds, x.sam ∧ x.dpt ≤ D.dpts ds
  | d :: ds, h, x, hx => by
    simp only [D.sams] at h
    rcases List.mem_cons.mp hx with rfl | q
    · exact ⟨h.1, by simp only [D.dpts]; omega⟩
    · have := sams_mem h.2 x q
      exact ⟨this.1, by simp only [D.dpts]; omega⟩
theorem sams_of : ∀ {ds : List D}, (∀ x ∈ ds, x.sam) → D.sams ds
  | [], _ => trivial
  | d :: ds, h => ⟨h d List.mem_cons_self, sams_of fun x hx => h x (List.mem_cons_of_mem _ hx)⟩
theorem dpts_le : ∀ {ds : List D} {n : Nat}, (∀ x ∈ ds, x.dpt ≤ n) → D.dpts ds ≤ n
  | [], n, _ => Nat.zero_le _
  | d :: ds, n, h => by
    have := h d List.mem_cons_self
    have := dpts_le fun x hx => h x (List.mem_cons_of_mem _ hx)
    simp only [D.dpts]; omega
theorem zipL_self : ∀ ds : List D, zipL ds ds = ds.map fun d => .tup [d, d]
  | [] => rfl
  | d :: ds => by simp only [zipL, zipL_self ds, List.map_cons]
end Ev
namespace K03
open Ev PySem
theorem ev_and (M : Mo) (C : Orc) (a b : E) (e : Ev.Env) (h : AH) : evE M C (.and a b) e h = (evE M C a e h).bind fun x h => boolR x fun k => if k then (evE M C b e h).bind fun y h => boolR y fun k => .ok (.bl k) h else .ok (.bl false) h := by rw [evE]
theorem zero' (k : Nat) (d : D) (h : AH) (hs : d.sam) (hd : d.dpt = 0) : callN mo tb (k + 1) F._law_same [d, d] h = .ok (.bl true) h := by
  rw [call_at (b := b__law_same) (sl := 4) rfl rfl]
  cases d with
  | tup ds => simp only [D.dpt] at hd; omega
  | lst ds => simp only [D.dpt] at hd; omega
  | non => simp [b__law_same, evSs, evS, evE, evEs, Ev.start, isiD, tyD, opD, eqD, resP, D.pur, D.toP, PyData.depth, PyData.eqv]
  | bl b => cases b <;> simp [b__law_same, evSs, evS, evE, evEs, Ev.start, isiD, tyD, opD, eqD, resP, D.pur, D.toP, PyData.depth, PyData.eqv]
  | int i => simp [b__law_same, evSs, evS, evE, evEs, Ev.start, isiD, tyD, opD, eqD, resP, D.pur, D.toP, PyData.depth, PyData.eqv]
  | str x => simp [b__law_same, evSs, evS, evE, evEs, Ev.start, isiD, tyD, opD, eqD, resP, D.pur, D.toP, PyData.depth, PyData.eqv]
  | _ => simp only [D.sam] at hs
theorem ev_same : ∀ (k : Nat) (d : D) (h : AH), d.sam → d.dpt ≤ k → callN mo tb (k + 1) F._law_same [d, d] h = .ok (.bl true) h := by
  intro k
  induction k with
  | zero =>
    exact fun d h hs hd => zero' 0 d h hs (by omega)
  | succ k ih =>
    intro d h hs hd
    have z := z_is
    have step : ∀ ds : List D, D.sams ds → D.dpts ds ≤ k → ∀ x ∈ ds, callN mo tb (k + 1) F._law_same [x, x] h = .ok (.bl true) h := fun ds q1 q2 x hx => by
      have := sams_mem q1 x hx
      exact ih x h this.1 (by omega)
    have tail : ∀ (d : D) (ds : List D), (d = .tup ds ∨ d = .lst ds) → ds.length ≤ 4000 → D.sams ds → D.dpts ds ≤ k → evE mo (callN mo tb (k + 1)) (.bi .all (.cons (.cmp false (.call F._law_same (.cons (.var 2) (.cons (.var 3) .nil))) (.cons (.nm 2) (.cons (.nm 3) .nil)) (.zip (.var 0) (.var 1)) .nil [2, 3]) .nil)) [some d, some d, none, none] h = .ok (.bl true) h := fun d ds hd q0 q1 q2 => by
      obtain rfl | rfl := hd <;>
      · simp only [evE, evEs, evIt, List.getElem?_cons_zero, List.getElem?_cons_succ, Res.bind_ok, seqOf, depOf, isTup, if_true, zipL_self]
        rw [compL_gm (f := fun _ => .bl ((fun _ => true) ())) _ _ (fun x hx => by simp [T.put, Env.wipe, evIf, evE, evEs, step ds q1 q2 x hx]) (by omega)]
        simp only [Res.bind_ok, Bool.false_eq_true, if_false]
        rw [all_map (fun _ => true)]
        simp
    have seqs : ∀ (d : D) (ds : List D), (d = .tup ds ∨ d = .lst ds) → ds.length ≤ 4000 → D.sams ds → D.dpts ds ≤ k → callN mo tb (k + 1 + 1) F._law_same [d, d] h = .ok (.bl true) h := fun d ds hd q0 q1 q2 => by
      have t := tail d ds hd q0 q1 q2
      rw [call_at (b := b__law_same) (sl := 4) rfl rfl, show start 4 [d, d] = [some d, some d, none, none] from rfl]
      generalize callN mo tb (k + 1) = C at t ⊢
      have c1 : evE mo C (.isi (.var 1) [.lst, .tup]) [some d, some d, none, none] h = .ok (.bl true) h := by obtain rfl | rfl := hd <;> simp [evE, isiD, tyD]
      have c2 : evE mo C (.or (.op .ne (.isi (.var 0) [.lst]) (.isi (.var 1) [.lst])) (.op .ne (.isi (.var 0) [.tup]) (.isi (.var 1) [.tup]))) [some d, some d, none, none] h = .ok (.bl false) h := by obtain rfl | rfl := hd <;> simp [evE, isiD, tyD, ne_bl]
      have c3 : evE mo C (.op .eq (.bi .len (.cons (.var 0) .nil)) (.bi .len (.cons (.var 1) .nil))) [some d, some d, none, none] h = .ok (.bl true) h := by obtain rfl | rfl := hd <;> simp [evE, evEs, len_tup, len_lst, eq_int]
      simp only [b__law_same, evSs, evS, ev_and, c1, c2, c3, t, Res.toS_ok, Res.bind_ok, boolR_bl, if_true, SRes.thn_nx, SRes.thn_rt]
      exact fin_rt_same rfl
    cases d with
    | tup ds =>
      simp only [D.sam] at hs
      simp only [D.dpt] at hd
      exact seqs _ ds (.inl rfl) hs.1 hs.2 (by omega)
    | lst ds =>
      simp only [D.sam] at hs
      simp only [D.dpt] at hd
      exact seqs _ ds (.inr rfl) hs.1 hs.2 (by omega)
    | _ => first | exact zero' _ _ _ hs (by simp [D.dpt]) | (simp only [D.sam] at hs)
end K03

set_option maxRecDepth 100000
namespace K03
open Ev PySem
theorem g0 : mo.gc G.fn_row_sum = some (.fn F.row_sum) := rfl
theorem g1 : mo.gc G.fn_is_at_most = some (.fn F.is_at_most) := rfl
theorem g2 : mo.gc G.fn_is_below = some (.fn F.is_below) := rfl
theorem ix0 (a b c : D) (h : AH) : idxD h (.lst [a, b, c]) (.int 0) = some a := rfl
theorem ix1 (a b c : D) (h : AH) : idxD h (.lst [a, b, c]) (.int 1) = some b := rfl
theorem ix2 (a b c : D) (h : AH) : idxD h (.lst [a, b, c]) (.int 2) = some c := rfl
theorem eq_i3 (h : AH) : opD .eq (.int 3) (.int 3) h = some (.bl true) := by simp [opD, eqD, resP, D.pur, D.toP, PyData.depth, PyData.eqv]
theorem eq_i4 (h : AH) : opD .eq (.int 4) (.int 3) h = some (.bl false) := by simp [opD, eqD, resP, D.pur, D.toP, PyData.depth, PyData.eqv]
theorem eq_i5 (h : AH) : opD .eq (.int 5) (.int 5) h = some (.bl true) := by simp [opD, eqD, resP, D.pur, D.toP, PyData.depth, PyData.eqv]
theorem eq_i6 (h : AH) : opD .eq (.int 6) (.int 5) h = some (.bl false) := by simp [opD, eqD, resP, D.pur, D.toP, PyData.depth, PyData.eqv]
section
variable (k : Nat) (d e r : D) (h : AH)
theorem heard0 (hc : callN mo tb k F.row_sum [d, e] h = .ok r h) (w : r.wf h.length = true) : callN mo tb (k + 1) F._law_heard [.int 0, d, e] h = .ok r h := by
  have z := z_is
  rw [call_at (b := b__law_heard) (sl := 5) rfl rfl]
  simp [b__law_heard, evSs, evS, evE, evEs, Ev.start, T.put, op_lt, g0, g1, g2, ix0, ix1, ix2, eq_i3, eq_i4, eq_i5, eq_i6, evHs, evS0, ev0, drop0, show (3 : Nat) ≤ Z by omega, hc]
  first | done | exact fin_rt_same w
theorem heard1 (hc : callN mo tb k F.is_at_most [d, e] h = .ok r h) (w : r.wf h.length = true) : callN mo tb (k + 1) F._law_heard [.int 1, d, e] h = .ok r h := by
  have z := z_is
  rw [call_at (b := b__law_heard) (sl := 5) rfl rfl]
  simp [b__law_heard, evSs, evS, evE, evEs, Ev.start, T.put, op_lt, g0, g1, g2, ix0, ix1, ix2, eq_i3, eq_i4, eq_i5, eq_i6, evHs, evS0, ev0, drop0, show (3 : Nat) ≤ Z by omega, hc]
  first | done | exact fin_rt_same w
theorem heard2 (hc : callN mo tb k F.is_below [d, e] h = .ok r h) (w : r.wf h.length = true) : callN mo tb (k + 1) F._law_heard [.int 2, d, e] h = .ok r h := by
  have z := z_is
  rw [call_at (b := b__law_heard) (sl := 5) rfl rfl]
  simp [b__law_heard, evSs, evS, evE, evEs, Ev.start, T.put, op_lt, g0, g1, g2, ix0, ix1, ix2, eq_i3, eq_i4, eq_i5, eq_i6, evHs, evS0, ev0, drop0, show (3 : Nat) ≤ Z by omega, hc]
  first | done | exact fin_rt_same w
theorem heard3 (hc : callN mo tb k F.sums_of [d, e] h = .ok r h) (w : r.wf h.length = true) : callN mo tb (k + 1) F._law_heard [.int 3, d, e] h = .ok r h := by
  have z := z_is
  rw [call_at (b := b__law_heard) (sl := 5) rfl rfl]
  simp [b__law_heard, evSs, evS, evE, evEs, Ev.start, T.put, op_lt, g0, g1, g2, ix0, ix1, ix2, eq_i3, eq_i4, eq_i5, eq_i6, evHs, evS0, ev0, drop0, show (3 : Nat) ≤ Z by omega, hc]
  first | done | exact fin_rt_same w
theorem heard4 (hc : callN mo tb k F.met [d, e] h = .ok r h) (w : r.wf h.length = true) : callN mo tb (k + 1) F._law_heard [.int 4, d, e] h = .ok r h := by
  have z := z_is
  rw [call_at (b := b__law_heard) (sl := 5) rfl rfl]
  simp [b__law_heard, evSs, evS, evE, evEs, Ev.start, T.put, op_lt, g0, g1, g2, ix0, ix1, ix2, eq_i3, eq_i4, eq_i5, eq_i6, evHs, evS0, ev0, drop0, show (3 : Nat) ≤ Z by omega, hc]
  first | done | exact fin_rt_same w
theorem heard5 (hc : callN mo tb k F.least_rows [d] h = .ok r h) (w : r.wf h.length = true) : callN mo tb (k + 1) F._law_heard [.int 5, d, e] h = .ok r h := by
  have z := z_is
  rw [call_at (b := b__law_heard) (sl := 5) rfl rfl]
  simp [b__law_heard, evSs, evS, evE, evEs, Ev.start, T.put, op_lt, g0, g1, g2, ix0, ix1, ix2, eq_i3, eq_i4, eq_i5, eq_i6, evHs, evS0, ev0, drop0, show (3 : Nat) ≤ Z by omega, hc]
  first | done | exact fin_rt_same w
theorem heard6 (hc : callN mo tb k F.reaches [d, e] h = .ok r h) (w : r.wf h.length = true) : callN mo tb (k + 1) F._law_heard [.int 6, d, e] h = .ok r h := by
  have z := z_is
  rw [call_at (b := b__law_heard) (sl := 5) rfl rfl]
  simp [b__law_heard, evSs, evS, evE, evEs, Ev.start, T.put, op_lt, g0, g1, g2, ix0, ix1, ix2, eq_i3, eq_i4, eq_i5, eq_i6, evHs, evS0, ev0, drop0, show (3 : Nat) ≤ Z by omega, hc]
  first | done | exact fin_rt_same w
abbrev OL : D := .str "OtherLength"
theorem heard0x (hc : callN mo tb k F.row_sum [d, e] h = .exc X.OtherLength [] h) : callN mo tb (k + 1) F._law_heard [.int 0, d, e] h = .ok OL h := by
  have z := z_is
  rw [call_at (b := b__law_heard) (sl := 5) rfl rfl]
  simp [b__law_heard, evSs, evS, evE, evEs, Ev.start, T.put, op_lt, g0, g1, g2, ix0, ix1, ix2, eq_i3, eq_i4, eq_i5, eq_i6, evHs, evS0, ev0, drop0, show (3 : Nat) ≤ Z by omega, hc]
  first | done | exact fin_rt_same rfl
theorem heard1x (hc : callN mo tb k F.is_at_most [d, e] h = .exc X.OtherLength [] h) : callN mo tb (k + 1) F._law_heard [.int 1, d, e] h = .ok OL h := by
  have z := z_is
  rw [call_at (b := b__law_heard) (sl := 5) rfl rfl]
  simp [b__law_heard, evSs, evS, evE, evEs, Ev.start, T.put, op_lt, g0, g1, g2, ix0, ix1, ix2, eq_i3, eq_i4, eq_i5, eq_i6, evHs, evS0, ev0, drop0, show (3 : Nat) ≤ Z by omega, hc]
  first | done | exact fin_rt_same rfl
theorem heard2x (hc : callN mo tb k F.is_below [d, e] h = .exc X.OtherLength [] h) : callN mo tb (k + 1) F._law_heard [.int 2, d, e] h = .ok OL h := by
  have z := z_is
  rw [call_at (b := b__law_heard) (sl := 5) rfl rfl]
  simp [b__law_heard, evSs, evS, evE, evEs, Ev.start, T.put, op_lt, g0, g1, g2, ix0, ix1, ix2, eq_i3, eq_i4, eq_i5, eq_i6, evHs, evS0, ev0, drop0, show (3 : Nat) ≤ Z by omega, hc]
  first | done | exact fin_rt_same rfl
theorem heard3x (hc : callN mo tb k F.sums_of [d, e] h = .exc X.OtherLength [] h) : callN mo tb (k + 1) F._law_heard [.int 3, d, e] h = .ok OL h := by
  have z := z_is
  rw [call_at (b := b__law_heard) (sl := 5) rfl rfl]
  simp [b__law_heard, evSs, evS, evE, evEs, Ev.start, T.put, op_lt, g0, g1, g2, ix0, ix1, ix2, eq_i3, eq_i4, eq_i5, eq_i6, evHs, evS0, ev0, drop0, show (3 : Nat) ≤ Z by omega, hc]
  first | done | exact fin_rt_same rfl
theorem heard4x (hc : callN mo tb k F.met [d, e] h = .exc X.OtherLength [] h) : callN mo tb (k + 1) F._law_heard [.int 4, d, e] h = .ok OL h := by
  have z := z_is
  rw [call_at (b := b__law_heard) (sl := 5) rfl rfl]
  simp [b__law_heard, evSs, evS, evE, evEs, Ev.start, T.put, op_lt, g0, g1, g2, ix0, ix1, ix2, eq_i3, eq_i4, eq_i5, eq_i6, evHs, evS0, ev0, drop0, show (3 : Nat) ≤ Z by omega, hc]
  first | done | exact fin_rt_same rfl
theorem heard5x (hc : callN mo tb k F.least_rows [d] h = .exc X.OtherLength [] h) : callN mo tb (k + 1) F._law_heard [.int 5, d, e] h = .ok OL h := by
  have z := z_is
  rw [call_at (b := b__law_heard) (sl := 5) rfl rfl]
  simp [b__law_heard, evSs, evS, evE, evEs, Ev.start, T.put, op_lt, g0, g1, g2, ix0, ix1, ix2, eq_i3, eq_i4, eq_i5, eq_i6, evHs, evS0, ev0, drop0, show (3 : Nat) ≤ Z by omega, hc]
  first | done | exact fin_rt_same rfl
theorem heard6x (hc : callN mo tb k F.reaches [d, e] h = .exc X.OtherLength [] h) : callN mo tb (k + 1) F._law_heard [.int 6, d, e] h = .ok OL h := by
  have z := z_is
  rw [call_at (b := b__law_heard) (sl := 5) rfl rfl]
  simp [b__law_heard, evSs, evS, evE, evEs, Ev.start, T.put, op_lt, g0, g1, g2, ix0, ix1, ix2, eq_i3, eq_i4, eq_i5, eq_i6, evHs, evS0, ev0, drop0, show (3 : Nat) ≤ Z by omega, hc]
  first | done | exact fin_rt_same rfl
end
/-! ### met -/
theorem b_met_is : b_met = .cons (.par 2 3 (.call F.sure_rows (.cons (.var 0) .nil)) (.call F.sure_rows (.cons (.var 1) .nil))) (.cons (.exp (.call F.look_long (.cons (.op .add (.var 2) (.var 3)) .nil))) (.cons (.asg (.nm 4) (.mls .nil)) (.cons (.for (.nm 5) (.seq (.var 2)) metB) (.cons (.ret (.call F.least_of (.cons (.var 4) .nil))) .nil)))) := rfl
abbrev metE (d d' : D) (R S : List (List Int)) (n : Nat) (v : Option D) : Ev.Env := [some d, some d', some (.tup (rows R)), some (.tup (rows S)), some (.ref n), v, none, none, none]
theorem met_turn (k : Nat) (d d' : D) (R S f : List (List Int)) (r : List Int) (h : AH) (hr : r.length ≤ 4000) (hl : f.length + S.length ≤ 4000) : evSs mo (callN mo tb k) metB (metE d d' R S h.length (some (rw r))) (h ++ [.lst (rows f)]) = .nx (metE d d' R S h.length (some (rw r))) (h ++ [.lst (rows (f ++ S.map (mxr r)))]) := by
  have z := z_is
  have e3 : metOk .extend (h ++ [.lst (rows f)]) (.ref h.length) = true := by simp [metOk]
  have e2 : metD .extend (.ref h.length) [.lst (rows (S.map (mxr r)))] (h ++ [.lst (rows f)]) = .ok .non (h ++ [.lst (rows (f ++ S.map (mxr r)))]) := by
    simp only [metD, at_end, lstOf, List.length_map, set_end, List.map_append]
    rw [if_pos (by omega)]
  have q : compL [] (h ++ [.lst (rows f)]) (turnOf mo (callN mo tb k) (.bi .tup (.cons (.cmp false (.bi .mx2 (.cons (.var 6) (.cons (.var 7) .nil))) (.cons (.nm 6) (.cons (.nm 7) .nil)) (.zip (.var 5) (.var 8)) .nil [6, 7]) .nil)) (.nm 8) .nil [8] (metE d d' R S h.length (some (rw r)))) (rows S) [] (h ++ [.lst (rows f)]) = .ok (rows (S.map (mxr r))) (h ++ [.lst (rows f)]) := by
    rw [compL_gm (g := rw) (f := fun s => rw (mxr r s)) S (fun s hs => turn_nil rfl (mx_row mo (callN mo tb k) r s (metE d d' R S h.length (some (rw r)) |>.set 8 (some (rw s))) (h ++ [.lst (rows f)]) hr 0 0 rfl rfl (by simp))) (by omega)]
    simp [Function.comp_def]
  simp only [metB, evSs, evS, ↓ev_cmp, evE, evEs, evIt, List.getElem?_cons_zero, List.getElem?_cons_succ, Res.bind_ok, e3, if_true, walkOf, seqOf, depOf, q, e2, Res.toS_ok, SRes.thn_nx]
theorem met_loop (k : Nat) (d d' : D) (R S : List (List Int)) (h h0 : AH) : ∀ (T' f : List (List Int)) (v : Option D), (∀ r ∈ T', r.length ≤ 4000) → f.length + T'.length * S.length ≤ 4000 → ∃ v', forL [] h0 (T.put (.nm 5)) (evSs mo (callN mo tb k) metB) (rows T') (metE d d' R S h.length v) (h ++ [.lst (rows f)]) = .nx (metE d d' R S h.length v') (h ++ [.lst (rows (f ++ maxs T' S))])
  | [], f, v, _, _ => ⟨v, by simp [forL, stays_nil, maxs]⟩
  | r :: T', f, v, hT, hl => by
    simp only [List.length_cons, Nat.succ_mul] at hl
    have e := met_turn k d d' R S f r h (hT r List.mem_cons_self) (by omega)
    obtain ⟨v', e2⟩ := met_loop k d d' R S h h0 T' (f ++ S.map (mxr r)) (some (rw r)) (fun x hx => hT x (List.mem_cons_of_mem _ hx)) (by simp; omega)
    refine ⟨v', ?_⟩
    have q : f ++ maxs (r :: T') S = f ++ S.map (mxr r) ++ maxs T' S := by simp [maxs]
    rw [q, ← e2]
    have e3 : T.put (.nm 5) (rw r) (metE d d' R S h.length v) = some (metE d d' R S h.length (some (rw r))) := rfl
    simp only [List.map_cons, forL, stays_nil, if_true, e3, e, SRes.thn_nx]
theorem ev_met (k : Nat) (d d' : D) (R S : List (List Int)) (m : Nat) (h : AH) (hd : d = .tup (rows R) ∨ d = .lst (rows R)) (hd' : d' = .tup (rows S) ∨ d' = .lst (rows S)) (hR : ∀ r ∈ R, low r ∧ r.length = m) (hS : ∀ r ∈ S, low r ∧ r.length = m) (hl : R.length ≤ 40) (hl' : S.length ≤ 40) (hp : R.length * S.length < 64) : callN mo tb (k + 5) F.met [d, d'] h = .ok (.tup (rows (leastR (maxs R S)))) h := by
  rw [call_at (b := b_met) (sl := 9) rfl rfl, b_met_is]
  have z := z_is
  have e1 := ev_sure_rows k d R h hd (fun r hr => (hR r hr).1) hl
  have e1' := ev_sure_rows k d' S h hd' (fun r hr => (hS r hr).1) hl'
  have e2 := ev_look_long (k + 3) (.tup (rows (R ++ S))) (R ++ S) m h (.inl rfl) (by simp; omega) (fun r hr => by
    rcases List.mem_append.mp hr with q | q
    · exact (hR r q).2
    · exact (hS r q).2)
  have e4 : opD .add (.tup (rows R)) (.tup (rows S)) h = some (.tup (rows (R ++ S))) := by
    simp only [opD, catD, List.length_map, List.map_append]
    rw [if_pos (by omega)]
  obtain ⟨v', e5⟩ := met_loop (k + 4) d d' R S h (h ++ [.lst []]) R [] none (fun r hr => low_len (hR r hr).1) (by simp only [List.length_nil]; omega)
  rw [List.nil_append] at e5
  have hw : ∀ x, x ∈ maxs R S → x.length = m := prod_all fun r hr s hs => mxr_len (hR r hr).2 (hS s hs).2
  have e3 := ev_least_of (k + 1) (.ref h.length) (maxs R S) (h ++ [.lst (rows (maxs R S))]) (fun x => by simp [seqOf]) (fun r hr => by
    rw [hw r hr]
    cases R with
    | nil => simp [maxs] at hr
    | cons r0 R => rw [← (hR r0 List.mem_cons_self).2]; exact low_len (hR r0 List.mem_cons_self).1) (by rw [maxs, prod_len]; exact hp)
  have s : start 9 [d, d'] = [some d, some d', none, none, none, none, none, none, none] := rfl
  have e6 : T.put (.nm 4) (.ref h.length) [some d, some d', some (.tup (rows R)), some (.tup (rows S)), none, none, none, none, none] = some (metE d d' R S h.length none) := rfl
  simp only [evSs, evS, evE, evEs, evIt, s, List.getElem?_cons_zero, List.getElem?_cons_succ, List.set_cons_zero, List.set_cons_succ, Res.bind_ok, Res.toS_ok, SRes.thn_nx, e1, e1', e4, optR_some, e2, walkOf, seqOf, depOf, List.length_nil, Nat.zero_le, if_true, e6]
  simp only [List.map_nil] at e5
  rw [e5]
  simp only [SRes.thn_nx, List.getElem?_cons_zero, List.getElem?_cons_succ, Res.bind_ok, e3, Res.toS_ok, SRes.thn_rt]
  exact fin_rt_app (by rw [wf_tup]; exact wfs_rows _ _)
end K03

set_option maxRecDepth 100000
/-! facts about least rows -/
namespace K03
open Ev PySem PySem.W
theorem leastR_kept {m : Nat} {R : List (List Int)} (hm : ∀ r ∈ R, r.length = m) : Kept R R (leastR R) := by
  have k := gr_kept hm (srt (ddr R)) [] [] ⟨by simp, by simp⟩ (fun x => by
    rw [List.nil_append]; exact (srt_perm _).mem_iff.trans (ddr_mem R x)) (by rw [List.nil_append]; exact srt_le _)
  refine ⟨k.lt, fun r => ?_⟩
  have := k.mem r
  rw [List.nil_append] at this
  unfold leastR
  rw [this, (srt_perm _).mem_iff, ddr_mem]
theorem srt_self {S : List (List Int)} (h : S.Pairwise fun a b => a ≤ b) : srt S = S :=
  (srt_perm S).eq_of_pairwise (le := fun a b => a ≤ b) (fun a b _ _ h1 h2 => List.le_antisymm h1 h2) (srt_le S) h
theorem least_filter {m : Nat} {R : List (List Int)} (hm : ∀ r ∈ R, r.length = m) : srt ((srt (ddr R)).filter (mini R)) = leastR R := by
  have hp : ((srt (ddr R)).filter (mini R)).Pairwise fun a b => a ≤ b := (srt_le _).filter _
  rw [srt_self hp]
  have k := leastR_kept hm
  have hn : ((srt (ddr R)).filter (mini R)).Nodup := ((srt_perm _).nodup_iff.mpr (ddr_nodup R)).filter _
  refine lt_mem_eq ?_ k.lt fun x => ?_
  · refine (hp.and hn).imp fun {a b} h => ?_
    rcases List.le_iff_lt_or_eq.mp h.1 with q | q
    · exact q
    · exact absurd q h.2
  · rw [List.mem_filter, (srt_perm _).mem_iff, ddr_mem, k.mem]
theorem mini_filter (R : List (List Int)) (r : List Int) : (R.filter fun o => decide (o ≠ r) && leq o r).isEmpty = mini R r := by
  rw [filter_any, mini]
  induction R with
  | nil => rfl
  | cons o R ih =>
    rw [List.any_cons, List.all_cons, Bool.not_or, ih]
    congr 1
    by_cases h : o = r <;> simp [h]
theorem leq_mxr : ∀ {r s o : List Int}, r.length = o.length → s.length = o.length → leq (mxr r s) o = (leq r o && leq s o)
  | [], [], [], _, _ => rfl
  | [], _ :: _, [], _, h2 => by simp at h2
  | _ :: _, _, [], h1, _ => by simp at h1
  | [], _, _ :: _, h1, _ => by simp at h1
  | _ :: _, [], _ :: _, _, h2 => by simp at h2
  | a :: r, b :: s, c :: o, h1, h2 => by
    have e := leq_mxr (r := r) (s := s) (o := o) (by simpa using h1) (by simpa using h2)
    have q : mxr (a :: r) (b :: s) = max a b :: mxr r s := rfl
    rw [q, leq_cons, leq_cons, leq_cons, e]
    have : decide (max a b ≤ c) = (decide (a ≤ c) && decide (b ≤ c)) := by
      rw [← Bool.decide_and]
      congr 1
      exact propext ⟨fun h => ⟨by omega, by omega⟩, fun h => by omega⟩
    rw [this]
    cases decide (a ≤ c) <;> cases decide (b ≤ c) <;> cases leq r o <;> cases leq s o <;> rfl
theorem any_least {m : Nat} {R : List (List Int)} {o : List Int} (hm : ∀ r ∈ R, r.length = m) (ho : o.length = m) : ((leastR R).any fun r => leq r o) = R.any fun r => leq r o := by
  have k := leastR_kept hm
  rw [Bool.eq_iff_iff, List.any_eq_true, List.any_eq_true]
  constructor
  · rintro ⟨x, hx, hl⟩
    exact ⟨x, ((k.mem x).mp hx).1, hl⟩
  · rintro ⟨x, hx, hl⟩
    obtain ⟨y, hy, hyx, hym⟩ := has_mini hm hx
    exact ⟨y, (k.mem y).mpr ⟨hy, hym⟩, leq_trans ((hm y hy).trans (hm x hx).symm) ((hm x hx).trans ho.symm) hyx hl⟩
theorem any_maxs {m : Nat} {R S : List (List Int)} {o : List Int} (hR : ∀ r ∈ R, r.length = m) (hS : ∀ r ∈ S, r.length = m) (ho : o.length = m) : ((maxs R S).any fun r => leq r o) = ((R.any fun r => leq r o) && S.any fun r => leq r o) := by
  rw [Bool.eq_iff_iff, Bool.and_eq_true, List.any_eq_true, List.any_eq_true, List.any_eq_true]
  constructor
  · rintro ⟨x, hx, hl⟩
    obtain ⟨r, hr, hx⟩ := List.mem_flatMap.mp hx
    obtain ⟨s, hs, rfl⟩ := List.mem_map.mp hx
    rw [leq_mxr ((hR r hr).trans ho.symm) ((hS s hs).trans ho.symm), Bool.and_eq_true] at hl
    exact ⟨⟨r, hr, hl.1⟩, s, hs, hl.2⟩
  · rintro ⟨⟨r, hr, h1⟩, s, hs, h2⟩
    refine ⟨mxr r s, List.mem_flatMap.mpr ⟨r, hr, List.mem_map.mpr ⟨s, hs, rfl⟩⟩, ?_⟩
    rw [leq_mxr ((hR r hr).trans ho.symm) ((hS s hs).trans ho.symm), h1, h2]
    rfl
theorem mxr_low : ∀ {r s : List Int}, low r → low s → low (mxr r s) := by
  intro r s hr hs
  refine ⟨?_, ?_⟩
  · have := hr.1
    simp only [mxr, List.length_zipWith]; omega
  · intro i hi
    obtain ⟨a, ha, b, hb, rfl⟩ : ∃ a ∈ r, ∃ b ∈ s, max a b = i := by
      have := hr.2; have := hs.2
      clear hr hs
      have q : mxr r s = (r.zip s).map fun p => max p.1 p.2 := by simp [mxr, List.zip, List.map_zipWith]
      rw [q] at hi
      obtain ⟨p, hp, rfl⟩ := List.mem_map.mp hi
      exact ⟨p.1, (List.of_mem_zip (a := p.1) (b := p.2) hp).1, p.2, (List.of_mem_zip (a := p.1) (b := p.2) hp).2, rfl⟩
    have h1 := hr.2 a ha
    have h2 := hs.2 b hb
    omega
theorem gr_len : ∀ (S f : List (List Int)), (gr f S).length ≤ f.length + S.length
  | [], f => by simp [gr]
  | r :: S, f => by
    have := gr_len S (keepR f r)
    have := keepR_len f r
    rw [gr_cons, List.length_cons]
    omega
theorem leastR_len (R : List (List Int)) : (leastR R).length ≤ R.length := by
  have := gr_len (srt (ddr R)) []
  have := (srt_perm (ddr R)).length_eq
  have := ddr_len R
  simp only [leastR, List.length_nil] at *
  omega
end K03

set_option maxRecDepth 100000
namespace Ev
open PySem
/-! a suite, statement by statement -/
def Ss.nth : Ss → Nat → S
  | .nil, _ => .pas
  | .cons s _, 0 => s
  | .cons _ ss, n + 1 => ss.nth n
def Ss.drp : Ss → Nat → Ss
  | ss, 0 => ss
  | .nil, _ + 1 => .nil
  | .cons _ ss, n + 1 => ss.drp n
theorem run_step {M : Mo} {C : Orc} {b : Ss} (i : Nat) {e e' : Env} {h h' : AH} (hb : b.drp i = .cons (b.nth i) (b.drp (i + 1))) (hs : evS M C (b.nth i) e h = .nx e' h') : evSs M C (b.drp i) e h = evSs M C (b.drp (i + 1)) e' h' := by
  rw [hb, evSs, hs, SRes.thn_nx]
theorem run_last {M : Mo} {C : Orc} {b : Ss} (i : Nat) {e : Env} {d : D} {h h' : AH} (hb : b.drp i = .cons (b.nth i) (b.drp (i + 1))) (hs : evS M C (b.nth i) e h = .rt d h') : evSs M C (b.drp i) e h = .rt d h' := by
  rw [hb, evSs, hs, SRes.thn_rt]
theorem ev_bi1 {M : Mo} {C : Orc} {b : Bi} {a : E} {x : D} {e : Env} {h h1 : AH} (ha : evE M C a e h = .ok x h1) : evE M C (.bi b (.cons a .nil)) e h = biD b [x] h1 := by
  rw [evE, evEs, ha, Res.bind_ok, evEs, Res.bind_ok, Res.bind_ok]
theorem ev_op {M : Mo} {C : Orc} {o : Op} {a b : E} {x y z : D} {e : Env} {h h1 h2 : AH} (ha : evE M C a e h = .ok x h1) (hb : evE M C b e h1 = .ok y h2) (hz : opD o x y h2 = some z) : evE M C (.op o a b) e h = .ok z h2 := by
  rw [evE, ha, Res.bind_ok, hb, Res.bind_ok, hz, optR_some]
theorem ev_lst2 {M : Mo} {C : Orc} {a b : E} {x y : D} {e : Env} {h : AH} (z : 2 ≤ Z) (ha : evE M C a e h = .ok x h) (hb : evE M C b e h = .ok y h) : evE M C (.lst (.cons a (.cons b .nil))) e h = .ok (.lst [x, y]) h := by
  rw [evE, evEs, ha, Res.bind_ok, evEs, hb, Res.bind_ok, evEs, Res.bind_ok, Res.bind_ok, Res.bind_ok]
  exact if_pos z
theorem ev_lst3 {M : Mo} {C : Orc} {a b c : E} {x y w : D} {e : Env} {h : AH} (z : 3 ≤ Z) (ha : evE M C a e h = .ok x h) (hb : evE M C b e h = .ok y h) (hc : evE M C c e h = .ok w h) : evE M C (.lst (.cons a (.cons b (.cons c .nil)))) e h = .ok (.lst [x, y, w]) h := by
  rw [evE, evEs, ha, Res.bind_ok, evEs, hb, Res.bind_ok, evEs, hc, Res.bind_ok, evEs, Res.bind_ok, Res.bind_ok, Res.bind_ok, Res.bind_ok]
  exact if_pos z
theorem ev_lst1 {M : Mo} {C : Orc} {a : E} {x : D} {e : Env} {h : AH} (z : 1 ≤ Z) (ha : evE M C a e h = .ok x h) : evE M C (.lst (.cons a .nil)) e h = .ok (.lst [x]) h := by
  rw [evE, evEs, ha, Res.bind_ok, evEs, Res.bind_ok, Res.bind_ok]
  exact if_pos z
theorem ev_tup1 {M : Mo} {C : Orc} {a : E} {x : D} {e : Env} {h : AH} (z : 1 ≤ Z) (ha : evE M C a e h = .ok x h) : evE M C (.tup (.cons a .nil)) e h = .ok (.tup [x]) h := by
  rw [evE, evEs, ha, Res.bind_ok, evEs, Res.bind_ok, Res.bind_ok]
  exact if_pos z
theorem ev_tup2 {M : Mo} {C : Orc} {a b : E} {x y : D} {e : Env} {h : AH} (z : 2 ≤ Z) (ha : evE M C a e h = .ok x h) (hb : evE M C b e h = .ok y h) : evE M C (.tup (.cons a (.cons b .nil))) e h = .ok (.tup [x, y]) h := by
  rw [evE, evEs, ha, Res.bind_ok, evEs, hb, Res.bind_ok, evEs, Res.bind_ok, Res.bind_ok, Res.bind_ok]
  exact if_pos z
theorem ev_tup0 {M : Mo} {C : Orc} {e : Env} {h : AH} : evE M C (.tup .nil) e h = .ok (.tup []) h := by
  rw [evE, evEs, Res.bind_ok]
  exact if_pos (Nat.zero_le _)
theorem ev_cst {M : Mo} {C : Orc} {d : D} {e : Env} {h : AH} : evE M C (.cst d) e h = .ok d h := by rw [evE]
theorem ev_call3 {M : Mo} {C : Orc} {f : Nat} {a b c : E} {x y w : D} {e : Env} {h h1 h2 h3 : AH} (ha : evE M C a e h = .ok x h1) (hb : evE M C b e h1 = .ok y h2) (hc : evE M C c e h2 = .ok w h3) : evE M C (.call f (.cons a (.cons b (.cons c .nil)))) e h = C f [x, y, w] h3 := by
  rw [evE, evEs, ha, Res.bind_ok, evEs, hb, Res.bind_ok, evEs, hc, Res.bind_ok, evEs, Res.bind_ok, Res.bind_ok, Res.bind_ok, Res.bind_ok]
theorem asg_nm {M : Mo} {C : Orc} {i : Nat} {a : E} {d : D} {e : Env} {h h' : AH} (ha : evE M C a e h = .ok d h') : evS M C (.asg (.nm i) a) e h = .nx (e.set i (some d)) h' := by
  rw [evS, ha, Res.toS_ok]; rfl
theorem ev_cmp_at {M : Mo} {C : Orc} {elt : E} {t : T} {it : It} {ifs : Es} {own : List Nat} {e : Env} {h h1 h2 : AH} {w : Wk} {ds : List D} (hw : evIt M C it e h = .ok w h1) (hc : compL w.dep h1 (turnOf M C elt t ifs own e) w.items [] h1 = .ok ds h2) : evE M C (.cmp false elt t it ifs own) e h = .ok (.lst ds) h2 := by
  rw [ev_cmp, hw, Res.bind_ok, hc, Res.bind_ok]
theorem it_seq {M : Mo} {C : Orc} {a : E} {d : D} {ds : List D} {e : Env} {h h' : AH} (ha : evE M C a e h = .ok d h') (hd : walkOf h' d = some ds) : evIt M C (.seq a) e h = .ok ⟨ds, depOf d⟩ h' := by
  rw [evIt, ha, Res.bind_ok]; simp only [hd]
theorem ev_and2 {M : Mo} {C : Orc} {a b : E} {e : Env} {h : AH} {p q : Bool} (ha : evE M C a e h = .ok (.bl p) h) (hb : evE M C b e h = .ok (.bl q) h) : evE M C (.and a b) e h = .ok (.bl (p && q)) h := by
  rw [evE, ha]
  cases p <;> simp [hb]
end Ev
namespace K03
open Ev PySem PySem.W
/-- the slots of _law_right -/
abbrev rE (m : Int) (o t R S v7 v9 v10 v12 v13 v17 v18 v19 v20 : Option D) : Ev.Env := [some (.ref 0), some (.int m), o, t, R, none, S, v7, none, v9, v10, none, v12, v13, none, none, none, v17, v18, v19, v20, none]
theorem ne_rows (r s : List Int) (h : AH) : opD .ne (rw r) (rw s) h = some (.bl (decide (r ≠ s))) := by simp only [opD, eqD_rows, Option.map_some]; simp
theorem ne_nil (ds : List D) (h : AH) (hp : D.purs ds = true) : opD .ne (.lst ds) (.lst []) h = some (.bl (!ds.isEmpty)) := by
  have e := eq_nil ds h hp
  simp only [opD] at e ⊢
  cases q : eqD h (.lst ds) (.lst []) with
  | none => rw [q] at e; cases e
  | some b =>
    rw [q] at e
    simp only [Option.map_some, Option.some.injEq, D.bl.injEq] at e ⊢
    rw [e]
theorem sam_row (r : List Int) (hl : r.length ≤ 4000) : (rw r).sam ∧ (rw r).dpt ≤ 1 := by
  constructor
  · simp only [D.sam, List.length_map]
    refine ⟨hl, sams_of fun x hx => ?_⟩
    obtain ⟨i, _, rfl⟩ := List.mem_map.mp hx
    trivial
  · have : D.dpts (r.map D.int) ≤ 0 := dpts_le fun x hx => by
      obtain ⟨i, _, rfl⟩ := List.mem_map.mp hx
      exact Nat.le_refl _
    simp only [D.dpt]; omega
theorem sam_rows (R : List (List Int)) (hR : ∀ r ∈ R, r.length ≤ 4000) (hl : R.length ≤ 4000) : (D.tup (rows R)).sam ∧ (D.tup (rows R)).dpt ≤ 2 := by
  constructor
  · simp only [D.sam, List.length_map]
    refine ⟨hl, sams_of fun x hx => ?_⟩
    obtain ⟨r, hr, rfl⟩ := List.mem_map.mp hx
    exact (sam_row r (hR r hr)).1
  · have : D.dpts (rows R) ≤ 1 := dpts_le fun x hx => by
      obtain ⟨r, hr, rfl⟩ := List.mem_map.mp hx
      exact (sam_row r (hR r hr)).2
    simp only [D.dpt]; omega
/-- a list whose members are looked through -/
theorem sam_lst {ds : List D} {n : Nat} (hl : ds.length ≤ 4000) (h : ∀ x ∈ ds, x.sam ∧ x.dpt ≤ n) : (D.lst ds).sam ∧ (D.lst ds).dpt ≤ n + 1 := by
  refine ⟨⟨hl, sams_of fun x hx => (h x hx).1⟩, ?_⟩
  have := dpts_le fun x hx => (h x hx).2
  simp only [D.dpt]; omega
theorem if_same {k : Nat} {a b : E} {d : D} {e : Ev.Env} {h : AH} (ha : evE mo (callN mo tb (k + 1)) a e h = .ok d h) (hb : evE mo (callN mo tb (k + 1)) b e h = .ok d h) (hs : d.sam ∧ d.dpt ≤ k) : evS mo (callN mo tb (k + 1)) (.ite (.nt (.call F._law_same (.cons a (.cons b .nil)))) (.cons (.ret (.cst (.bl false))) .nil) .nil) e h = .nx e h := by
  rw [evS, evE, ev_call2 ha hb, ev_same k d h hs.1 hs.2, Res.bind_ok, boolR_bl, Bool.not_true, Res.toS_ok]
  simp only [evSs]
/-- the three first doors -/
theorem heard_all {C : Orc} {va vb : E} {e : Ev.Env} {h : AH} {a b x y w : D} (h8 : 8 < e.length) (ha : ∀ v, evE mo C va ((e.set 8 none).set 8 (some v)) h = .ok a h) (hb : ∀ v, evE mo C vb ((e.set 8 none).set 8 (some v)) h = .ok b h) (h0 : C F._law_heard [.int 0, a, b] h = .ok x h) (h1 : C F._law_heard [.int 1, a, b] h = .ok y h) (h2 : C F._law_heard [.int 2, a, b] h = .ok w h) : evE mo C (.cmp false (.call F._law_heard (.cons (.var 8) (.cons va (.cons vb .nil)))) (.nm 8) (.rng (.cst (.int 3))) .nil [8]) e h = .ok (.lst [x, y, w]) h := by
  have z := z_is
  have g : ∀ v, evE mo C (.var 8) ((e.set 8 none).set 8 (some v)) h = .ok v h := fun v => ev_var (by rw [List.getElem?_set_self (by simpa using h8)])
  have t0 : turnOf mo C (.call F._law_heard (.cons (.var 8) (.cons va (.cons vb .nil)))) (.nm 8) .nil [8] e (.int 0) h = .ok (some x) h := turn_nil rfl ((ev_call3 (g _) (ha _) (hb _)).trans h0)
  have t1 : turnOf mo C (.call F._law_heard (.cons (.var 8) (.cons va (.cons vb .nil)))) (.nm 8) .nil [8] e (.int 1) h = .ok (some y) h := turn_nil rfl ((ev_call3 (g _) (ha _) (hb _)).trans h1)
  have t2 : turnOf mo C (.call F._law_heard (.cons (.var 8) (.cons va (.cons vb .nil)))) (.nm 8) .nil [8] e (.int 2) h = .ok (some w) h := turn_nil rfl ((ev_call3 (g _) (ha _) (hb _)).trans h2)
  refine ev_cmp_at (it_rng 3 ev_cst (by decide)) ?_
  rw [show ((List.range 3).map fun (k : Nat) => D.int k) = [D.int 0, .int 1, .int 2] from rfl]
  simp only [compL, stays_nil, if_true, t0, t1, t2, List.nil_append, List.cons_append, List.length_nil, List.length_cons, show (0 : Nat) < Z by omega, show (0 + 1 : Nat) < Z by omega, show (0 + 1 + 1 : Nat) < Z by omega]
abbrev eN (m : Nat) (o t : List Int) (R S : List (List Int)) (v7 v9 v10 v12 v13 v17 v18 v19 v20 : Option D) : Ev.Env := rE m (some (rw o)) (some (rw t)) (some (.lst (rows R))) (some (.lst (rows S))) v7 v9 v10 v12 v13 v17 v18 v19 v20
/-- two drawn rows, two drawn lists of rows -/
structure Dr (m : Nat) (o t : List Int) (R S : List (List Int)) : Prop where
  m5 : m ≤ 5
  ho : drawn m o
  ht : drawn m t
  hR : ∀ r ∈ R, drawn m r
  hS : ∀ r ∈ S, drawn m r
  lR : R.length ≤ 5
  lS : S.length ≤ 3
section
variable {m : Nat} {o t : List Int} {R S : List (List Int)} (D0 : Dr m o t R S) (k : Nat) (h : AH)
include D0
theorem Dr.lo : low o := drawn_low D0.ho D0.m5
theorem Dr.lt : low t := drawn_low D0.ht D0.m5
theorem Dr.ll : ∀ r ∈ R, low r ∧ r.length = m := fun r hr => ⟨drawn_low (D0.hR r hr) D0.m5, (D0.hR r hr).1⟩
theorem Dr.ll' : ∀ r ∈ S, low r ∧ r.length = m := fun r hr => ⟨drawn_low (D0.hS r hr) D0.m5, (D0.hS r hr).1⟩
theorem Dr.len : ∀ r ∈ R, r.length = m := fun r hr => (D0.hR r hr).1
theorem Dr.len' : ∀ r ∈ S, r.length = m := fun r hr => (D0.hS r hr).1
theorem Dr.prod : R.length * S.length ≤ 15 := Nat.mul_le_mul D0.lR D0.lS
abbrev got3 (o t : List Int) : List D := [rw (add o t), .bl (leq o t), .bl (leq o t && decide (o ≠ t))]
section
variable (v7 v9 v10 v12 v13 v17 v18 v19 v20 : Option D)
theorem rt4 : evS mo (callN mo tb (k + 7)) (b__law_right.nth 4) (eN m o t R S v7 v9 v10 v12 v13 v17 v18 v19 v20) h = .nx (eN m o t R S (some (.lst (got3 o t))) v9 v10 v12 v13 v17 v18 v19 v20) h := by
  have hl : o.length = t.length := D0.ho.1.trans D0.ht.1.symm
  exact asg_nm (heard_all (by simp) (fun v => ev_var rfl) (fun v => ev_var rfl)
    (heard0 (k + 6) (rw o) (rw t) _ h (ev_row_sum (k + 1) o t h D0.lo D0.lt hl) (wfs_ints _ _))
    (heard1 (k + 6) (rw o) (rw t) _ h (ev_is_at_most (k + 1) o t h D0.lo D0.lt hl) rfl)
    (heard2 (k + 6) (rw o) (rw t) _ h (ev_is_below (k + 1) o t h D0.lo D0.lt hl) rfl))
theorem rt5 : evS mo (callN mo tb (k + 7)) (b__law_right.nth 5) (eN m o t R S (some (.lst (got3 o t))) v9 v10 v12 v13 v17 v18 v19 v20) h = .nx (eN m o t R S (some (.lst (got3 o t))) v9 v10 v12 v13 v17 v18 v19 v20) h := by
  have z := z_is
  have hl : o.length = t.length := D0.ho.1.trans D0.ht.1.symm
  have h4 := low_len D0.lo
  have c1 := (ev_call2 (M := mo) (C := callN mo tb (k + 7)) (f := F._law_at_most) (e := eN m o t R S (some (.lst (got3 o t))) v9 v10 v12 v13 v17 v18 v19 v20) (h := h) (ev_var (i := 2) rfl) (ev_var (i := 3) rfl)).trans (ev_law_at_most (k + 6) o t h h4 hl)
  refine if_same (ev_var rfl) (ev_lst3 (by omega) ((ev_call2 (ev_var rfl) (ev_var rfl)).trans (ev_law_added (k + 6) o t h h4)) c1 (ev_and2 c1 (ev_op (ev_var rfl) (ev_var rfl) (ne_rows o t h)))) ?_
  refine ⟨(sam_lst (n := 1) (by simp) ?_).1, Nat.le_trans (sam_lst (n := 1) (by simp) ?_).2 (by omega)⟩ <;>
  · intro x hx
    simp only [List.mem_cons, List.not_mem_nil, or_false] at hx
    rcases hx with rfl | rfl | rfl
    · exact sam_row _ (by rw [add_len D0.ho.1 D0.ht.1]; have := D0.m5; omega)
    · exact ⟨trivial, Nat.zero_le _⟩
    · exact ⟨trivial, Nat.zero_le _⟩
end
end
end K03

set_option maxRecDepth 100000
namespace K03
open Ev PySem PySem.W
theorem ev_tupo {M : Mo} {C : Orc} {a : E} {ds : List D} {e : Ev.Env} {h h1 : AH} (ha : evE M C a e h = .ok (.lst ds) h1) : evE M C (.bi .tup (.cons a .nil)) e h = .ok (.tup ds) h1 := ev_bi1 ha
/-- [own for own in rows if _law_at_most(own, one)] -/
theorem among {C : Orc} {e : Ev.Env} {h : AH} {vs vo : E} {R : List (List Int)} {o : List Int} (h10 : 10 < e.length) (hs : evE mo C vs e h = .ok (.lst (rows R)) h) (ho : ∀ v, evE mo C vo ((e.set 10 none).set 10 (some v)) h = .ok (rw o) h) (hc : ∀ r ∈ R, C F._law_at_most [rw r, rw o] h = .ok (.bl (leq r o)) h) (hl : R.length ≤ 4000) : evE mo C (.cmp false (.var 10) (.nm 10) (.seq vs) (.cons (.call F._law_at_most (.cons (.var 10) (.cons vo .nil))) .nil) [10]) e h = .ok (.lst (rows (R.filter fun r => leq r o))) h := by
  have z := z_is
  have g : ∀ v, evE mo C (.var 10) ((e.set 10 none).set 10 (some v)) h = .ok v h := fun v => ev_var (by rw [List.getElem?_set_self (by simpa using h10)])
  refine ev_cmp_at (it_seq hs rfl) ?_
  exact compL_gf (g := rw) (f := rw) (p := fun r => leq r o) R (fun r hr => turn_if rfl ((ev_call2 (g _) (ho _)).trans (hc r hr)) (g _)) (by omega)
section
variable {m : Nat} {o t : List Int} {R S : List (List Int)} (D0 : Dr m o t R S) (k : Nat) (h : AH)
include D0
section
variable (v7 v9 v10 v12 v13 v17 v18 v19 v20 : Option D)
theorem rt6 : evS mo (callN mo tb (k + 7)) (b__law_right.nth 6) (eN m o t R S v7 v9 v10 v12 v13 v17 v18 v19 v20) h = .nx (eN m o t R S v7 (some (.tup (rows (leastR R)))) v10 v12 v13 v17 v18 v19 v20) h := by
  have z := z_is
  have hm := D0.m5
  have l1 := D0.lR
  have l2 := ddr_len R
  have l3 := (srt_perm (ddr R)).length_eq
  have inner : ∀ r ∈ srt (ddr R), turnOf mo (callN mo tb (k + 7)) (.var 10) (.nm 10) (.cons (.op .eq (.cmp false (.var 11) (.nm 11) (.seq (.var 4)) (.cons (.and (.op .ne (.var 11) (.var 10)) (.call F._law_at_most (.cons (.var 11) (.cons (.var 10) .nil)))) .nil) [11]) (.lst .nil)) .nil) [10] (eN m o t R S v7 v9 v10 v12 v13 v17 v18 v19 v20) (rw r) h = .ok (if mini R r then some (rw r) else none) h := fun r hr => by
    have hrm : r.length = m := D0.len r ((ddr_mem R r).mp ((srt_perm _).mem_iff.mp hr))
    refine turn_if (e' := eN m o t R S v7 v9 (some (rw r)) v12 v13 v17 v18 v19 v20) rfl (ev_op (h1 := h) (ev_cmp_at (it_seq (d := .lst (rows R)) (h' := h) (ev_var rfl) rfl) (compL_gf (g := rw) (f := rw) (p := fun o => decide (o ≠ r) && leq o r) R (fun x hx => turn_if rfl (ev_and2 (ev_op (ev_var rfl) (ev_var rfl) (ne_rows x r h)) ((ev_call2 (ev_var rfl) (ev_var rfl)).trans (ev_law_at_most (k + 6) x r h (by rw [D0.len x hx]; omega) (by rw [D0.len x hx, hrm])))) (ev_var rfl)) (by omega))) (y := .lst []) ?_ ?_) (ev_var rfl)
    · rw [evE, evEs, Res.bind_ok]; exact if_pos (Nat.zero_le _)
    · rw [eq_nil _ _ (purs_rows _), List.isEmpty_map, mini_filter]
  have q0 : evE mo (callN mo tb (k + 7)) (.ssrt (.var 4)) (eN m o t R S v7 v9 v10 v12 v13 v17 v18 v19 v20) h = .ok (.lst (rows (srt (ddr R)))) h := by
    rw [evE, ev_var (d := .lst (rows R)) rfl, Res.bind_ok, ssrt_rows rfl (by omega), optR_some]
  have q1 := ev_cmp_at (it_seq q0 rfl) (compL_gf (g := rw) (f := rw) (p := mini R) (srt (ddr R)) inner (by omega))
  have q2 := (ev_bi1 (b := .sorted) q1).trans (sorted_rows _ h (by have := List.length_filter_le (mini R) (srt (ddr R)); omega))
  have q3 := ev_bi1 (b := .tup) q2
  rw [least_filter D0.len] at q3
  exact asg_nm q3
omit D0 in
theorem sam_two {d : D} {n : Nat} (hd : d.sam ∧ d.dpt ≤ n) : (D.lst [d, d]).sam ∧ (D.lst [d, d]).dpt ≤ n + 1 :=
  sam_lst (by simp) fun x hx => by
    simp only [List.mem_cons, List.not_mem_nil, or_false] at hx
    rcases hx with rfl | rfl <;> exact hd
theorem rt7 : evS mo (callN mo tb (k + 7)) (b__law_right.nth 7) (eN m o t R S v7 (some (.tup (rows (leastR R)))) v10 v12 v13 v17 v18 v19 v20) h = .nx (eN m o t R S v7 (some (.tup (rows (leastR R)))) v10 v12 v13 v17 v18 v19 v20) h := by
  have z := z_is
  have l1 := D0.lR
  have hm := D0.m5
  have l2 := leastR_len R
  refine if_same (d := .lst [.tup (rows (leastR R)), .tup (rows (leastR R))]) (ev_lst2 (by omega) ((ev_call3 ev_cst (ev_tupo (ev_var rfl)) ev_tup0).trans ?_) ((ev_call1 (ev_var rfl)).trans ?_)) (ev_lst2 (by omega) (ev_var rfl) (ev_var rfl)) ?_
  · exact heard5 (k + 6) (.tup (rows R)) (.tup []) _ h (ev_least_rows (k + 1) (.tup (rows R)) R m h (.inl rfl) D0.ll (by omega)) (by rw [wf_tup]; exact wfs_rows _ _)
  · exact ev_law_least (k + 5) R m h (by omega) D0.len (by omega)
  · have := sam_rows (leastR R) (fun r hr => by rw [D0.len r (leastR_mem hr)]; omega) (by omega)
    have := sam_lst (ds := [.tup (rows (leastR R)), .tup (rows (leastR R))]) (n := 2) (by simp) fun x hx => by
      simp only [List.mem_cons, List.not_mem_nil, or_false] at hx
      rcases hx with rfl | rfl <;> exact this
    exact ⟨this.1, by omega⟩
theorem rt8 : evS mo (callN mo tb (k + 7)) (b__law_right.nth 8) (eN m o t R S v7 v9 v10 v12 v13 v17 v18 v19 v20) h = .nx (eN m o t R S v7 v9 v10 v12 v13 v17 v18 v19 v20) h := by
  have z := z_is
  have l1 := D0.lR
  have hm := D0.m5
  refine if_same (d := .bl (R.any fun r => leq r o)) ((ev_call3 ev_cst (ev_tupo (ev_var rfl)) (ev_var rfl)).trans ?_) (ev_op (h1 := h) (among (R := R) (o := o) (by simp) (ev_var rfl) (fun v => ev_var rfl) (fun r hr => ev_law_at_most (k + 6) r o h (by rw [D0.len r hr]; omega) (by rw [D0.len r hr, D0.ho.1])) (by omega)) (y := .lst []) ?_ ?_) ⟨trivial, Nat.zero_le _⟩
  · exact heard6 (k + 6) (.tup (rows R)) (rw o) _ h (ev_reaches (k + 1) (.tup (rows R)) R o m h (.inl rfl) D0.ll D0.lo D0.ho.1 (by omega)) rfl
  · rw [evE, evEs, Res.bind_ok]; exact if_pos (Nat.zero_le _)
  · rw [ne_nil _ _ (purs_rows _), List.isEmpty_map, filter_any, Bool.not_not]
omit D0 in
theorem ev_lst0 {M : Mo} {C : Orc} {e : Ev.Env} {h : AH} : evE M C (.lst .nil) e h = .ok (.lst []) h := by
  rw [evE, evEs, Res.bind_ok]; exact if_pos (Nat.zero_le _)
theorem rt9 : evS mo (callN mo tb (k + 7)) (b__law_right.nth 9) (eN m o t R S v7 v9 v10 v12 v13 v17 v18 v19 v20) h = .nx (eN m o t R S v7 v9 v10 (some (.lst (rows []))) (some (.lst (rows []))) v17 v18 v19 v20) h := by
  show evS mo (callN mo tb (k + 7)) (.par 12 13 (.lst .nil) (.lst .nil)) _ h = _
  rw [evS, ev_lst0, Res.toS_ok, ev_lst0, Res.toS_ok]
  rfl
abbrev rightB : Ss := (.cons (.asg (.nm 12) (.op .add (.var 12) (.cmp false (.call F._law_added (.cons (.var 10) (.cons (.var 14) .nil))) (.nm 14) (.seq (.var 6)) .nil [14]))) (.cons (.asg (.nm 13) (.op .add (.var 13) (.cmp false (.bi .tup (.cons (.cmp false (.bi .mx2 (.cons (.var 15) (.cons (.var 16) .nil))) (.cons (.nm 15) (.cons (.nm 16) .nil)) (.zip (.var 10) (.var 14)) .nil [15, 16]) .nil)) (.nm 14) (.seq (.var 6)) .nil [14]))) .nil))
omit D0 in
theorem add_rows (A B : List (List Int)) (hl : A.length + B.length ≤ 4000) : opD .add (.lst (rows A)) (.lst (rows B)) h = some (.lst (rows (A ++ B))) := by
  have z := z_is
  simp only [opD, catD, lstOf, List.length_map, List.map_append]
  rw [if_pos (by omega)]
omit D0 in
theorem mx_row' (M : Mo) (C : Orc) (r s : List Int) (e : Ev.Env) (hl : r.length ≤ 4000) (he : e[10]? = some (some (rw r))) (he' : e[14]? = some (some (rw s))) (hn : 16 < e.length) : evE M C (.bi .tup (.cons (.cmp false (.bi .mx2 (.cons (.var 15) (.cons (.var 16) .nil))) (.cons (.nm 15) (.cons (.nm 16) .nil)) (.zip (.var 10) (.var 14)) .nil [15, 16]) .nil)) e h = .ok (rw (mxr r s)) h := by
  have z := z_is
  simp only [evE, evEs, evIt, he, he', Res.bind_ok, seqOf, depOf, isTup, if_true]
  rw [zipL_map, compL_gm (f := fun p => .int (max p.1 p.2)) _ _ (fun x hx => by
    simp [T.put, Env.wipe, evIf, evE, evEs, biD, List.getElem?_set, List.getElem?_set_self, hn, show 15 < e.length by omega, max_is]) (by simp; omega)]
  have q : (r.zip s).map (fun p => D.int (max p.1 p.2)) = (mxr r s).map D.int := by simp [mxr, List.zip, Function.comp_def, List.map_zipWith]
  rw [q]
  simp [biD, seqOf]
omit D0 in
theorem right_turn (A B : List (List Int)) (r : List Int) (hr : r.length ≤ 4000) (hA : A.length + S.length ≤ 4000) (hB : B.length + S.length ≤ 4000) : evSs mo (callN mo tb (k + 7)) rightB (eN m o t R S v7 v9 (some (rw r)) (some (.lst (rows A))) (some (.lst (rows B))) v17 v18 v19 v20) h = .nx (eN m o t R S v7 v9 (some (rw r)) (some (.lst (rows (A ++ S.map (add r))))) (some (.lst (rows (B ++ S.map (mxr r))))) v17 v18 v19 v20) h := by
  have z := z_is
  have e1 := asg_nm (i := 12) (ev_op (o := .add) (ev_var (i := 12) (M := mo) (C := callN mo tb (k + 7)) (e := eN m o t R S v7 v9 (some (rw r)) (some (.lst (rows A))) (some (.lst (rows B))) v17 v18 v19 v20) (h := h) rfl) (ev_cmp_at (it_seq (a := .var 6) (d := .lst (rows S)) (ev_var rfl) rfl) (compL_gm (g := rw) (f := fun s => rw (add r s)) S (fun s hs => turn_nil (t := .nm 14) (own := [14]) rfl ((ev_call2 (ev_var (i := 10) rfl) (ev_var (i := 14) rfl)).trans (ev_law_added (k + 6) r s h hr))) (by omega))) (z := .lst (rows (A ++ S.map (add r)))) (by
    have := add_rows h A (S.map (add r)) (by simpa using hA)
    simpa only [List.map_map, Function.comp_def] using this))
  have e2 := asg_nm (i := 13) (ev_op (o := .add) (ev_var (i := 13) (M := mo) (C := callN mo tb (k + 7)) (e := eN m o t R S v7 v9 (some (rw r)) (some (.lst (rows (A ++ S.map (add r))))) (some (.lst (rows B))) v17 v18 v19 v20) (h := h) rfl) (ev_cmp_at (it_seq (a := .var 6) (d := .lst (rows S)) (ev_var rfl) rfl) (compL_gm (g := rw) (f := fun s => rw (mxr r s)) S (fun s hs => turn_nil (t := .nm 14) (own := [14]) rfl (mx_row' h mo (callN mo tb (k + 7)) r s _ hr rfl rfl (by simp [Env.wipe]))) (by omega))) (z := .lst (rows (B ++ S.map (mxr r)))) (by
    have := add_rows h B (S.map (mxr r)) (by simpa using hB)
    simpa only [List.map_map, Function.comp_def] using this))
  rw [evSs, e1, SRes.thn_nx, evSs]
  refine (congrArg (fun x => SRes.thn x _) e2).trans ?_
  rw [SRes.thn_nx, evSs]
  rfl
omit D0 in
theorem right_loop (h0 : AH) : ∀ (T' A B : List (List Int)) (v : Option D), (∀ r ∈ T', r.length ≤ 4000) → A.length + T'.length * S.length ≤ 4000 → B.length + T'.length * S.length ≤ 4000 → ∃ v', forL [] h0 (T.put (.nm 10)) (evSs mo (callN mo tb (k + 7)) rightB) (rows T') (eN m o t R S v7 v9 v (some (.lst (rows A))) (some (.lst (rows B))) v17 v18 v19 v20) h = .nx (eN m o t R S v7 v9 v' (some (.lst (rows (A ++ sums T' S)))) (some (.lst (rows (B ++ maxs T' S)))) v17 v18 v19 v20) h
  | [], A, B, v, _, _, _ => ⟨v, by simp [forL, stays_nil, maxs, sums]⟩
  | r :: T', A, B, v, hT, hA, hB => by
    simp only [List.length_cons, Nat.succ_mul] at hA hB
    have e := right_turn k h v7 v9 v17 v18 v19 v20 (m := m) (o := o) (t := t) (R := R) (S := S) A B r (hT r List.mem_cons_self) (by omega) (by omega)
    obtain ⟨v', e2⟩ := right_loop h0 T' (A ++ S.map (add r)) (B ++ S.map (mxr r)) (some (rw r)) (fun x hx => hT x (List.mem_cons_of_mem _ hx)) (by simp; omega) (by simp; omega)
    refine ⟨v', ?_⟩
    have q : B ++ maxs (r :: T') S = B ++ S.map (mxr r) ++ maxs T' S := by simp [maxs]
    have q' : A ++ sums (r :: T') S = A ++ S.map (add r) ++ sums T' S := by simp [sums]
    rw [q, q', ← e2]
    have e3 : T.put (.nm 10) (rw r) (eN m o t R S v7 v9 v (some (.lst (rows A))) (some (.lst (rows B))) v17 v18 v19 v20) = some (eN m o t R S v7 v9 (some (rw r)) (some (.lst (rows A))) (some (.lst (rows B))) v17 v18 v19 v20) := rfl
    simp only [List.map_cons, forL, stays_nil, if_true, e3, e, SRes.thn_nx]
theorem rt10 : ∃ v', evS mo (callN mo tb (k + 7)) (b__law_right.nth 10) (eN m o t R S v7 v9 v10 (some (.lst (rows []))) (some (.lst (rows []))) v17 v18 v19 v20) h = .nx (eN m o t R S v7 v9 v' (some (.lst (rows (sums R S)))) (some (.lst (rows (maxs R S)))) v17 v18 v19 v20) h := by
  have hp := D0.prod
  obtain ⟨v', e⟩ := right_loop (m := m) (o := o) (t := t) (R := R) (S := S) k h v7 v9 v17 v18 v19 v20 h R [] [] v10 (fun r hr => low_len (D0.ll r hr).1) (by simp only [List.length_nil]; omega) (by simp only [List.length_nil]; omega)
  refine ⟨v', ?_⟩
  show evS mo (callN mo tb (k + 7)) (.for (.nm 10) (.seq (.var 4)) rightB) _ h = _
  rw [evS, it_seq (d := .lst (rows R)) (h' := h) (ev_var rfl) rfl, Res.toS_ok]
  exact e
theorem rt11 : evS mo (callN mo tb (k + 7)) (b__law_right.nth 11) (eN m o t R S v7 v9 v10 v12 v13 v17 v18 v19 v20) h = .nx (eN m o t R S (some (.lst [.tup (rows (leastR (sums R S))), .tup (rows (leastR (maxs R S)))])) v9 v10 v12 v13 v17 v18 v19 v20) h := by
  have z := z_is
  have l1 := D0.lR
  have l2 := D0.lS
  have hp := D0.prod
  refine asg_nm (ev_lst2 (by omega) ((ev_call3 ev_cst (ev_tupo (ev_var rfl)) (ev_tupo (ev_var rfl))).trans ?_) ((ev_call3 ev_cst (ev_tupo (ev_var rfl)) (ev_tupo (ev_var rfl))).trans ?_))
  · exact heard3 (k + 6) (.tup (rows R)) (.tup (rows S)) _ h (ev_sums_of (k + 1) _ _ R S m h (.inl rfl) (.inl rfl) D0.ll D0.ll' (by omega) (by omega) (by omega)) (by rw [wf_tup]; exact wfs_rows _ _)
  · exact heard4 (k + 6) (.tup (rows R)) (.tup (rows S)) _ h (ev_met (k + 1) _ _ R S m h (.inl rfl) (.inl rfl) D0.ll D0.ll' (by omega) (by omega) (by omega)) (by rw [wf_tup]; exact wfs_rows _ _)
theorem sums_len : ∀ r ∈ sums R S, r.length = m := prod_all fun r hr s hs => add_len (D0.len r hr) (D0.len' s hs)
theorem maxs_len : ∀ r ∈ maxs R S, r.length = m := prod_all fun r hr s hs => mxr_len (D0.len r hr) (D0.len' s hs)
theorem rt12 : evS mo (callN mo tb (k + 7)) (b__law_right.nth 12) (eN m o t R S (some (.lst [.tup (rows (leastR (sums R S))), .tup (rows (leastR (maxs R S)))])) v9 v10 (some (.lst (rows (sums R S)))) (some (.lst (rows (maxs R S)))) v17 v18 v19 v20) h = .nx (eN m o t R S (some (.lst [.tup (rows (leastR (sums R S))), .tup (rows (leastR (maxs R S)))])) v9 v10 (some (.lst (rows (sums R S)))) (some (.lst (rows (maxs R S)))) v17 v18 v19 v20) h := by
  have z := z_is
  have hm := D0.m5
  have hp := D0.prod
  have l1 : (sums R S).length = R.length * S.length := prod_len _
  have l2 : (maxs R S).length = R.length * S.length := prod_len _
  refine if_same (ev_var rfl) (ev_lst2 (by omega) ((ev_call1 (ev_var rfl)).trans (ev_law_least (k + 5) (sums R S) m h (by omega) (sums_len D0) (by omega))) ((ev_call1 (ev_var rfl)).trans (ev_law_least (k + 5) (maxs R S) m h (by omega) (maxs_len D0) (by omega)))) ?_
  have a1 := leastR_len (sums R S)
  have a2 := leastR_len (maxs R S)
  have := sam_lst (ds := [.tup (rows (leastR (sums R S))), .tup (rows (leastR (maxs R S)))]) (n := 2) (by simp) fun x hx => by
    simp only [List.mem_cons, List.not_mem_nil, or_false] at hx
    rcases hx with rfl | rfl
    · exact sam_rows _ (fun r hr => by rw [sums_len D0 r (leastR_mem hr)]; omega) (by omega)
    · exact sam_rows _ (fun r hr => by rw [maxs_len D0 r (leastR_mem hr)]; omega) (by omega)
  exact ⟨this.1, by omega⟩
abbrev near (o : List Int) (R S : List (List Int)) : Bool := (R.any fun r => leq r o) && S.any fun r => leq r o
theorem rt13 : evS mo (callN mo tb (k + 7)) (b__law_right.nth 13) (eN m o t R S v7 v9 v10 v12 v13 v17 v18 v19 v20) h = .nx (eN m o t R S v7 v9 v10 v12 v13 (some (.bl (near o R S))) v18 v19 v20) h := by
  have hm := D0.m5
  have l1 := D0.lR
  have l2 := D0.lS
  refine asg_nm (ev_and2 (ev_op (h1 := h) (among (R := R) (o := o) (by simp) (ev_var rfl) (fun v => ev_var rfl) (fun r hr => ev_law_at_most (k + 6) r o h (by rw [D0.len r hr]; omega) (by rw [D0.len r hr, D0.ho.1])) (by omega)) ev_lst0 ?_) (ev_op (h1 := h) (among (R := S) (o := o) (by simp) (ev_var rfl) (fun v => ev_var rfl) (fun r hr => ev_law_at_most (k + 6) r o h (by rw [D0.len' r hr]; omega) (by rw [D0.len' r hr, D0.ho.1])) (by omega)) ev_lst0 ?_))
  · rw [ne_nil _ _ (purs_rows _), List.isEmpty_map, filter_any, Bool.not_not]
  · rw [ne_nil _ _ (purs_rows _), List.isEmpty_map, filter_any, Bool.not_not]
theorem rt14 : evS mo (callN mo tb (k + 7)) (b__law_right.nth 14) (eN m o t R S v7 v9 v10 v12 v13 (some (.bl (near o R S))) v18 v19 v20) h = .nx (eN m o t R S v7 v9 v10 v12 v13 (some (.bl (near o R S))) v18 v19 v20) h := by
  have l1 := D0.lR
  have l2 := D0.lS
  have hp := D0.prod
  have l3 : (maxs R S).length = R.length * S.length := prod_len _
  have l4 := leastR_len (maxs R S)
  refine if_same ((ev_call2 (h1 := h) ((ev_call2 (ev_var rfl) (ev_var rfl)).trans (ev_met (k + 2) (.lst (rows R)) (.lst (rows S)) R S m h (.inr rfl) (.inr rfl) D0.ll D0.ll' (by omega) (by omega) (by omega))) (ev_var rfl)).trans ((ev_reaches (k + 2) _ (leastR (maxs R S)) o m h (.inl rfl) ?_ D0.lo D0.ho.1 (by omega)).trans ?_)) (ev_var rfl) ⟨trivial, Nat.zero_le _⟩
  · intro r hr
    have hr := leastR_mem hr
    refine ⟨?_, maxs_len D0 r hr⟩
    exact prod_all (P := low) (fun r hr s hs => mxr_low (D0.ll r hr).1 (D0.ll' s hs).1) r hr
  · rw [any_least (maxs_len D0) D0.ho.1, any_maxs D0.len D0.len' D0.ho.1]
end
end
end K03

set_option maxRecDepth 100000
namespace Ev
open PySem
theorem es_nil {M : Mo} {C : Orc} {e : Env} {h : AH} : evEs M C .nil e h = .ok [] h := by rw [evEs]
theorem es_cons {M : Mo} {C : Orc} {a : E} {as : Es} {x : D} {xs : List D} {e : Env} {h h1 h2 : AH} (ha : evE M C a e h = .ok x h1) (hs : evEs M C as e h1 = .ok xs h2) : evEs M C (.cons a as) e h = .ok (x :: xs) h2 := by
  rw [evEs, ha, Res.bind_ok, hs, Res.bind_ok]
theorem ev_lst_of {M : Mo} {C : Orc} {as : Es} {xs : List D} {e : Env} {h h1 : AH} (hs : evEs M C as e h = .ok xs h1) (hl : xs.length ≤ Z) : evE M C (.lst as) e h = .ok (.lst xs) h1 := by
  rw [evE, hs, Res.bind_ok, if_pos hl]
theorem ev_lsto {M : Mo} {C : Orc} {a : E} {ds : List D} {e : Env} {h h1 : AH} (ha : evE M C a e h = .ok (.tup ds) h1) : evE M C (.bi .lst (.cons a .nil)) e h = .ok (.lst ds) h1 := ev_bi1 ha
theorem mulo_tup1 (x : D) (m : Nat) (h : AH) (hm : m < 1000) : opD .mul (.tup [x]) (.int m) h = some (.tup (List.replicate m x)) := by
  have e : (List.replicate m [x]).flatten = List.replicate m x := by
    induction m with
    | zero => rfl
    | succ m ih => simp [List.replicate_succ, ih (by omega)]
  simp only [opD, mulD, Int.toNat_natCast, e]
  rw [if_pos ⟨by simp, by omega, by omega, by simp⟩]
end Ev
namespace K03
open Ev PySem PySem.W
def longer (m : Nat) (o : List Int) : List Int := if m < 5 then o ++ [0] else o.drop 1
theorem longer_low {m : Nat} {o : List Int} (h : drawn m o) (hm : m ≤ 5) : low (longer m o) := by
  unfold longer
  split
  · refine ⟨by simp [h.1]; omega, fun i hi => ?_⟩
    rcases List.mem_append.mp hi with q | q
    · exact (drawn_low h hm).2 i q
    · rw [List.mem_singleton.mp q]; omega
  · exact ⟨by simp [h.1]; omega, fun i hi => (drawn_low h hm).2 i (List.mem_of_mem_drop hi)⟩
theorem longer_ne {m : Nat} {o : List Int} (h : drawn m o) (hm : m ≤ 5) : o.length ≠ (longer m o).length := by
  unfold longer
  split
  · simp
  · simp [h.1]; omega
theorem slc1 (o : List Int) (h : AH) (ho : o.length = 5) : slcD h (rw o) (some 1) none = some (rw (o.drop 1)) := by
  match o, ho with
  | [a, b, c, d, e], _ => rfl
section
variable {m : Nat} {o t : List Int} {R S : List (List Int)} (D0 : Dr m o t R S) (k : Nat) (h : AH)
include D0
section
variable (v7 v9 v10 v12 v13 v17 v18 v19 v20 : Option D)
theorem rt15 : evS mo (callN mo tb (k + 7)) (b__law_right.nth 15) (eN m o t R S v7 v9 v10 v12 v13 v17 v18 v19 v20) h = .nx (eN m o t R S v7 v9 v10 v12 v13 v17 (some (rw (longer m o))) v19 v20) h := by
  have z := z_is
  have hm := D0.m5
  have ho := D0.ho.1
  refine asg_nm ?_
  rw [evE, ev_op (z := .bl (decide ((m : Int) < 5))) (ev_var rfl) ev_cst rfl, Res.bind_ok, boolR_bl]
  by_cases hc : m < 5
  · have hc' : (m : Int) < 5 := by omega
    simp only [hc', decide_true, if_true]
    rw [show longer m o = o ++ [0] from if_pos hc]
    refine ev_op (ev_var rfl) (ev_tup1 (by omega) ev_cst) ?_
    simp only [opD, catD, List.length_map, List.length_cons, List.length_nil]
    rw [if_pos (by omega)]
    simp
  · have hc' : ¬ (m : Int) < 5 := by omega
    simp only [hc', decide_false, Bool.false_eq_true, if_false]
    rw [show longer m o = o.drop 1 from if_neg hc, evE, ev_var (d := rw o) rfl, Res.bind_ok, evO, ev_cst, Res.bind_ok, Res.bind_ok, evO, Res.bind_ok, slc1 o h (by omega), optR_some]
abbrev ol (n : Nat) : List D := List.replicate n OL
theorem rt16 : evS mo (callN mo tb (k + 7)) (b__law_right.nth 16) (eN m o t R S v7 v9 v10 v12 v13 v17 (some (rw (longer m o))) v19 v20) h = .nx (eN m o t R S (some (.lst (ol 4))) v9 v10 v12 v13 v17 (some (rw (longer m o))) v19 v20) h := by
  have z := z_is
  have l1 := D0.lo
  have l2 := longer_low D0.ho D0.m5
  have l3 := longer_ne D0.ho D0.m5
  have x := ev_row_x (k + 1) o (longer m o) h l1 l2 l3
  refine asg_nm (ev_op (h1 := h) (heard_all (a := rw o) (b := rw (longer m o)) (x := OL) (y := OL) (w := OL) (by simp) (fun v => ev_var rfl) (fun v => ev_var rfl) ?_ ?_ ?_) (ev_lst1 (x := OL) (by omega) ((ev_call3 ev_cst (ev_tup1 (by omega) (ev_var rfl)) (ev_var rfl)).trans ?_)) ?_)
  · exact heard0x (k + 6) _ _ h x.1
  · exact heard1x (k + 6) _ _ h x.2.1
  · exact heard2x (k + 6) _ _ h x.2.2
  · exact heard6x (k + 6) _ _ h (ev_reaches_x (k + 1) o (longer m o) h l1 l2 l3)
  · simp only [opD, catD, lstOf, List.length_cons, List.length_nil]
    rw [if_pos (by omega)]; rfl
theorem rt17 : evS mo (callN mo tb (k + 7)) (b__law_right.nth 17) (eN m o t R S (some (.lst (ol 4))) v9 v10 v12 v13 v17 (some (rw (longer m o))) v19 v20) h = .nx (eN m o t R S (some (.lst (ol 7))) v9 v10 v12 v13 v17 (some (rw (longer m o))) v19 v20) h := by
  have z := z_is
  have l1 := D0.lo
  have l2 := longer_low D0.ho D0.m5
  have l3 := longer_ne D0.ho D0.m5
  refine asg_nm (ev_op (h1 := h) (ev_var rfl) (ev_lst3 (x := OL) (y := OL) (w := OL) (by omega) ((ev_call3 ev_cst (ev_tup1 (by omega) (ev_var rfl)) (ev_tup1 (by omega) (ev_var rfl))).trans ?_) ((ev_call3 ev_cst (ev_tup1 (by omega) (ev_var rfl)) (ev_tup1 (by omega) (ev_var rfl))).trans ?_) ((ev_call3 ev_cst (ev_tup2 (by omega) (ev_var rfl) (ev_var rfl)) ev_tup0).trans ?_)) ?_)
  · exact heard3x (k + 6) _ _ h (ev_sums_of_x (k + 1) o (longer m o) h l1 l2 l3)
  · exact heard4x (k + 6) _ _ h (ev_met_x (k + 1) o (longer m o) h l1 l2 l3)
  · exact heard5x (k + 6) _ _ h (ev_least_rows_x (k + 1) o (longer m o) h l1 l2 l3)
  · simp only [opD, catD, lstOf, List.length_cons, List.length_nil, List.length_replicate]
    rw [if_pos (by omega)]; rfl
theorem rt18 : evS mo (callN mo tb (k + 7)) (b__law_right.nth 18) (eN m o t R S (some (.lst (ol 7))) v9 v10 v12 v13 v17 v18 v19 v20) h = .nx (eN m o t R S (some (.lst (ol 7))) v9 v10 v12 v13 v17 v18 v19 v20) h := by
  refine if_same (ev_var rfl) ?_ ?_
  · rw [evE, es_cons ev_cst es_nil, Res.bind_ok, if_pos (by simp), ev_cst, Res.bind_ok]
    rfl
  · have := sam_lst (ds := ol 7) (n := 0) (by simp) fun x hx => by
      obtain ⟨_, rfl⟩ := List.mem_replicate.mp hx
      exact ⟨trivial, Nat.le_refl _⟩
    exact ⟨this.1, by omega⟩
abbrev things (m : Nat) (o : List Int) : List D := [rw o, .lst (o.map .int), rw (o ++ [1]), .non, .tup (List.replicate m (.bl true)), .tup (List.replicate m (.int (-1)))]
theorem rt19 : evS mo (callN mo tb (k + 7)) (b__law_right.nth 19) (eN m o t R S v7 v9 v10 v12 v13 v17 v18 v19 v20) h = .nx (eN m o t R S v7 v9 v10 v12 v13 v17 v18 (some (.lst (things m o))) v20) h := by
  have z := z_is
  have hm := D0.m5
  have ho := D0.ho.1
  refine asg_nm (ev_lst_of (es_cons (h1 := h) (ev_var rfl) (es_cons (h1 := h) (ev_lsto (ev_var rfl)) (es_cons (h1 := h) (ev_op (h1 := h) (h2 := h) (ev_var rfl) (ev_tup1 (by omega) ev_cst) ?_) (es_cons (h1 := h) ev_cst (es_cons (h1 := h) (ev_op (h1 := h) (h2 := h) (ev_tup1 (by omega) ev_cst) (ev_var rfl) (mulo_tup1 _ _ _ (by omega))) (es_cons (h1 := h) (ev_op (h1 := h) (h2 := h) (ev_tup1 (by omega) ?_) (ev_var rfl) (mulo_tup1 (.int (-1)) _ _ (by omega))) es_nil)))))) ?_)
  · simp only [opD, catD, List.length_map, List.length_cons, List.length_nil]
    rw [if_pos (by omega)]
    simp
  · rw [evE, ev_cst, Res.bind_ok]
  · simp only [List.length_cons, List.length_nil]; omega
abbrev due (m : Nat) : List D := [.bl true, .bl false, .bl false, .bl false, .bl ((m : Int) == 0), .bl ((m : Int) == 0)]
theorem rt20 : evS mo (callN mo tb (k + 7)) (b__law_right.nth 20) (eN m o t R S v7 v9 v10 v12 v13 v17 v18 v19 v20) h = .nx (eN m o t R S v7 v9 v10 v12 v13 v17 v18 v19 (some (.lst (due m)))) h := by
  have z := z_is
  refine asg_nm (ev_lst_of (es_cons (h1 := h) ev_cst (es_cons (h1 := h) ev_cst (es_cons (h1 := h) ev_cst (es_cons (h1 := h) ev_cst (es_cons (h1 := h) (ev_op (h1 := h) (h2 := h) (ev_var rfl) ev_cst (eq_int _ _ _)) (es_cons (h1 := h) (ev_op (h1 := h) (h2 := h) (ev_var rfl) ev_cst (eq_int _ _ _)) es_nil)))))) ?_)
  simp only [List.length_cons, List.length_nil]; omega
theorem rows_due : (things m o).map (fun d => D.bl (isRowD m d)) = due m := by
  have ho := D0.ho
  have a0 : isRowD m (rw o) = true := by
    simp only [isRowD, List.length_map, ho.1, beq_self_eq_true, Bool.true_and, List.all_map, List.all_eq_true, Function.comp]
    intro i hi
    simp only [from', decide_eq_true_eq]
    exact (ho.2 i hi).1
  have a2 : isRowD m (rw (o ++ [1])) = false := by
    simp [isRowD, ho.1]
  have a4 : isRowD m (.tup (List.replicate m (.bl true))) = ((m : Int) == 0) := by
    cases m with
    | zero => rfl
    | succ m => simp [isRowD, List.replicate_succ, from']; omega
  have a5 : isRowD m (.tup (List.replicate m (.int (-1)))) = ((m : Int) == 0) := by
    cases m with
    | zero => rfl
    | succ m => simp [isRowD, List.replicate_succ, from']; omega
  simp only [things, due, List.map_cons, List.map_nil, a0, a2, a4, a5]
  rfl
theorem rt21 : evS mo (callN mo tb (k + 7)) (b__law_right.nth 21) (eN m o t R S v7 v9 v10 v12 v13 v17 v18 (some (.lst (things m o))) (some (.lst (due m)))) h = .rt (.bl true) h := by
  have z := z_is
  have hm := D0.m5
  have ho := D0.ho.1
  have q1 := ev_cmp_at (M := mo) (C := callN mo tb (k + 7)) (elt := .call F.is_row (.cons (.var 21) (.cons (.var 1) .nil))) (t := .nm 21) (ifs := .nil) (own := [21]) (it_seq (a := .var 19) (d := .lst (things m o)) (h' := h) (e := eN m o t R S v7 v9 v10 v12 v13 v17 v18 (some (.lst (things m o))) (some (.lst (due m)))) (ev_var rfl) rfl) (compL_map (f := fun d => .bl (isRowD m d)) (things m o) (fun x hx => turn_nil rfl ((ev_call2 (ev_var rfl) (ev_var rfl)).trans (ev_is_row (k + 3) x m h hm ?_ ?_))) (by simp; omega))
  · rw [rows_due D0] at q1
    have q2 := ev_lst1 (M := mo) (C := callN mo tb (k + 7)) (e := eN m o t R S v7 v9 v10 v12 v13 v17 v18 (some (.lst (things m o))) (some (.lst (due m)))) (h := h) (by omega) ((ev_call1 (a := .var 1) (ev_var rfl)).trans (ev_zero_row (k + 3) m h hm))
    have q3 := ev_op (o := .add) q1 q2 (z := .lst (due m ++ [rw (List.replicate m 0)])) (by
      simp only [opD, catD, lstOf, List.length_cons, List.length_nil]
      rw [if_pos (by omega)])
    have q4 := ev_op (M := mo) (C := callN mo tb (k + 7)) (e := eN m o t R S v7 v9 v10 v12 v13 v17 v18 (some (.lst (things m o))) (some (.lst (due m)))) (h := h) (o := .mul) (h1 := h) (h2 := h) (ev_tup1 (by omega) (ev_cst (d := .int 0))) (ev_var (i := 1) rfl) (mulo_tup1 (.int 0) m h (by omega))
    have q5 := ev_op (o := .add) (ev_var (i := 20) (d := .lst (due m)) rfl) (ev_lst1 (by omega) q4) (z := .lst (due m ++ [rw (List.replicate m 0)])) (by
      simp only [opD, catD, lstOf, List.length_cons, List.length_nil]
      rw [if_pos (by omega)]
      simp)
    show evS mo (callN mo tb (k + 7)) (.ret (.call F._law_same (.cons _ (.cons _ .nil)))) _ h = _
    rw [evS, ev_call2 q3 q5, ev_same (k + 6), Res.toS_ok]
    · refine (sam_lst (n := 1) (by simp) fun x hx => ?_).1
      simp only [List.cons_append, List.nil_append, List.mem_cons, List.not_mem_nil, or_false] at hx
      rcases hx with rfl | rfl | rfl | rfl | rfl | rfl | rfl
      all_goals first | exact ⟨trivial, Nat.zero_le _⟩ | exact sam_row _ (by simp; omega)
    · have := (sam_lst (ds := due m ++ [rw (List.replicate m 0)]) (n := 1) (by simp) fun x hx => by
        simp only [List.cons_append, List.nil_append, List.mem_cons, List.not_mem_nil, or_false] at hx
        rcases hx with rfl | rfl | rfl | rfl | rfl | rfl | rfl
        all_goals first | exact ⟨trivial, Nat.zero_le _⟩ | exact sam_row _ (by simp; omega)).2
      omega
  · simp only [things, List.mem_cons, List.not_mem_nil, or_false] at hx
    rcases hx with rfl | rfl | rfl | rfl | rfl | rfl <;> rfl
  · intro ds hds
    simp only [things, List.mem_cons, List.not_mem_nil, or_false] at hx
    subst hds
    rcases hx with q | q | q | q | q | q
    all_goals first | cases q | (simp only [D.tup.injEq] at q; subst q)
    · exact ⟨fun x hx => by obtain ⟨i, _, rfl⟩ := List.mem_map.mp hx; rfl, by simp; omega⟩
    · exact ⟨fun x hx => by obtain ⟨i, _, rfl⟩ := List.mem_map.mp hx; rfl, by simp; omega⟩
    · exact ⟨fun x hx => by obtain ⟨_, rfl⟩ := List.mem_replicate.mp hx; rfl, by simp; omega⟩
    · exact ⟨fun x hx => by obtain ⟨_, rfl⟩ := List.mem_replicate.mp hx; rfl, by simp; omega⟩
end
end
end K03

set_option maxRecDepth 100000
namespace K03
open Ev PySem PySem.W
theorem ev_right (k n : Nat) (h : AH) (hB : Bx (n + 100) h) : ∃ h', callN mo tb (k + 8) F._law_right [.ref 0] h = .ok (.bl true) h' ∧ Bx n h' := by
  have z := z_is
  -- many
  obtain ⟨v, h0, e0, hv, B0⟩ := ev_take (k + 6) (n + 99) 6 h (by decide) (by decide) hB
  obtain ⟨m, rfl⟩ : ∃ m : Nat, v = m := ⟨v.toNat, by omega⟩
  have hm : m ≤ 5 := by omega
  obtain ⟨o, h1, e1, D1, B1⟩ := ev_draw_row (k + 5) (n + 94) m h0 hm (by
    obtain ⟨a, b, c, rfl, q1, q2⟩ := B0; exact ⟨a, b, c, rfl, q1, by omega⟩)
  obtain ⟨t, h2, e2, D2, B2⟩ := ev_draw_row (k + 5) (n + 89) m h1 hm (by
    obtain ⟨a, b, c, rfl, q1, q2⟩ := B1; exact ⟨a, b, c, rfl, q1, by omega⟩)
  obtain ⟨v3, h3, e3, hv3, B3⟩ := ev_take (k + 6) (n + 88) 6 h2 (by decide) (by decide) B2
  obtain ⟨n3, rfl⟩ : ∃ m : Nat, v3 = m := ⟨v3.toNat, by omega⟩
  have less : ∀ {p q : Nat} {h : AH}, q ≤ p → Bx p h → Bx q h := fun hpq hb => by
    obtain ⟨a, b, c, rfl, q1, q2⟩ := hb; exact ⟨a, b, c, rfl, q1, by omega⟩
  obtain ⟨R, h4, e4, l4, D4, B4⟩ := draw_rows (k + 5) (n + 60) m (rE m (some (rw o)) (some (rw t)) none none none none none none none none none none none) 5 h3 h3 ((List.range n3).map fun (k : Nat) => D.int k) hm rfl rfl (by decide) (by simp; omega) (less (by
    have : m * n3 ≤ 5 * 5 := Nat.mul_le_mul hm (by omega)
    simp; omega) B3)
  obtain ⟨v5, h5, e5, hv5, B5⟩ := ev_take (k + 6) (n + 59) 4 h4 (by decide) (by decide) B4
  obtain ⟨n5, rfl⟩ : ∃ m : Nat, v5 = m := ⟨v5.toNat, by omega⟩
  obtain ⟨S, h6, e6, l6, D6, B6⟩ := draw_rows (k + 5) n m (rE m (some (rw o)) (some (rw t)) (some (.lst (rows R))) none none none none none none none none none none) 5 h5 h5 ((List.range n5).map fun (k : Nat) => D.int k) hm rfl rfl (by decide) (by simp; omega) (less (by
    have : m * n5 ≤ 5 * 5 := Nat.mul_le_mul hm (by omega)
    simp; omega) B5)
  simp only [List.length_map, List.length_range] at l4 l6
  have D0 : Dr m o t R S := ⟨hm, D1, D2, D4, D6, by omega, by omega⟩
  refine ⟨h6, ?_, B6⟩
  have s0 : evS mo (callN mo tb (k + 7)) (b__law_right.nth 0) (start 22 [.ref 0]) h = .nx (rE m none none none none none none none none none none none none none) h0 := asg_nm ((ev_call2 (ev_var (d := .ref 0) rfl) ev_cst).trans e0)
  have s1 : evS mo (callN mo tb (k + 7)) (b__law_right.nth 1) (rE m none none none none none none none none none none none none none) h0 = .nx (rE m (some (rw o)) (some (rw t)) none none none none none none none none none none none) h2 := by
    show evS mo (callN mo tb (k + 7)) (.par 2 3 (.call F._law_row (.cons (.var 0) (.cons (.var 1) .nil))) (.call F._law_row (.cons (.var 0) (.cons (.var 1) .nil)))) _ _ = _
    rw [evS, (ev_call2 (ev_var (d := .ref 0) rfl) (ev_var (d := .int m) rfl)).trans e1, Res.toS_ok, (ev_call2 (ev_var (d := .ref 0) rfl) (ev_var (d := .int m) rfl)).trans e2, Res.toS_ok]
    rfl
  have s2 : evS mo (callN mo tb (k + 7)) (b__law_right.nth 2) (rE m (some (rw o)) (some (rw t)) none none none none none none none none none none none) h2 = .nx (rE m (some (rw o)) (some (rw t)) (some (.lst (rows R))) none none none none none none none none none none) h4 :=
    asg_nm (ev_cmp_at (it_rng n3 ((ev_call2 (ev_var (d := .ref 0) rfl) ev_cst).trans e3) (by omega)) e4)
  have s3 : evS mo (callN mo tb (k + 7)) (b__law_right.nth 3) (rE m (some (rw o)) (some (rw t)) (some (.lst (rows R))) none none none none none none none none none none) h4 = .nx (eN m o t R S none none none none none none none none none) h6 :=
    asg_nm (ev_cmp_at (it_rng n5 ((ev_call2 (ev_var (d := .ref 0) rfl) ev_cst).trans e5) (by omega)) e6)
  obtain ⟨v10, s10⟩ := rt10 D0 k h6 (some (.lst (got3 o t))) (some (.tup (rows (leastR R)))) none none none none none
  have all : evSs mo (callN mo tb (k + 7)) b__law_right (start 22 [.ref 0]) h = .rt (.bl true) h6 := by
    refine (run_step (b := b__law_right) 0 rfl s0).trans ?_
    refine (run_step (b := b__law_right) 1 rfl s1).trans ?_
    refine (run_step (b := b__law_right) 2 rfl s2).trans ?_
    refine (run_step (b := b__law_right) 3 rfl s3).trans ?_
    refine (run_step (b := b__law_right) 4 rfl (rt4 D0 k h6 _ _ _ _ _ _ _ _ _)).trans ?_
    refine (run_step (b := b__law_right) 5 rfl (rt5 D0 k h6 _ _ _ _ _ _ _ _)).trans ?_
    refine (run_step (b := b__law_right) 6 rfl (rt6 D0 k h6 _ _ _ _ _ _ _ _ _)).trans ?_
    refine (run_step (b := b__law_right) 7 rfl (rt7 D0 k h6 _ _ _ _ _ _ _ _)).trans ?_
    refine (run_step (b := b__law_right) 8 rfl (rt8 D0 k h6 _ _ _ _ _ _ _ _ _)).trans ?_
    refine (run_step (b := b__law_right) 9 rfl (rt9 D0 k h6 _ _ _ _ _ _ _ _ _)).trans ?_
    refine (run_step (b := b__law_right) 10 rfl s10).trans ?_
    refine (run_step (b := b__law_right) 11 rfl (rt11 D0 k h6 _ _ _ _ _ _ _ _ _)).trans ?_
    refine (run_step (b := b__law_right) 12 rfl (rt12 D0 k h6 _ _ _ _ _ _)).trans ?_
    refine (run_step (b := b__law_right) 13 rfl (rt13 D0 k h6 _ _ _ _ _ _ _ _ _)).trans ?_
    refine (run_step (b := b__law_right) 14 rfl (rt14 D0 k h6 _ _ _ _ _ _ _ _)).trans ?_
    refine (run_step (b := b__law_right) 15 rfl (rt15 D0 k h6 _ _ _ _ _ _ _ _ _)).trans ?_
    refine (run_step (b := b__law_right) 16 rfl (rt16 D0 k h6 _ _ _ _ _ _ _ _)).trans ?_
    refine (run_step (b := b__law_right) 17 rfl (rt17 D0 k h6 _ _ _ _ _ _ _)).trans ?_
    refine (run_step (b := b__law_right) 18 rfl (rt18 D0 k h6 _ _ _ _ _ _ _ _)).trans ?_
    refine (run_step (b := b__law_right) 19 rfl (rt19 D0 k h6 _ _ _ _ _ _ _ _ _)).trans ?_
    refine (run_step (b := b__law_right) 20 rfl (rt20 D0 k h6 _ _ _ _ _ _ _ _ _)).trans ?_
    exact run_last (b := b__law_right) 21 rfl (rt21 D0 k h6 _ _ _ _ _ _ _)
  rw [call_at (b := b__law_right) (sl := 22) rfl rfl, all]
  obtain ⟨a, b, c, rfl, _, _⟩ := hB
  obtain ⟨a', b', c', rfl, _, _⟩ := B6
  exact fin_bx rfl

/-! ### what the box is made of -/
abbrev cE (ns : List Int) (n : Nat) (v3 v4 v5 : Option D) : Ev.Env := [some (.scr ns), some (.int 1), some (.ref n), v3, v4, v5]
abbrev cellB : Ss := (.cons (.asg (.nm 5) (.op .mod (.bi .int (.cons (.var 3) .nil)) (.var 1))) (.cons (.set (.var 2) (.var 5) (.op .add (.idx (.var 2) (.var 5)) (.op .mul (.var 4) (.op .add (.var 3) (.cst (.int 2)))))) .nil))
theorem cell_turn (C : Orc) (ns : List Int) (g : AH) (z : Int) (k : Nat) (c : Int) (v5 : Option D) (hk : k ≤ 100) : evSs mo C cellB (cE ns g.length (some (.int k)) (some (.int c)) v5) (g ++ [.lst [.int z]]) = .nx (cE ns g.length (some (.int k)) (some (.int c)) (some (.int 0))) (g ++ [.lst [.int (z + c * (k + 2))]]) := by
  have e1 : evS mo C (.asg (.nm 5) (.op .mod (.bi .int (.cons (.var 3) .nil)) (.var 1))) (cE ns g.length (some (.int k)) (some (.int c)) v5) (g ++ [.lst [.int z]]) = .nx (cE ns g.length (some (.int k)) (some (.int c)) (some (.int 0))) (g ++ [.lst [.int z]]) :=
    asg_nm (ev_op (h1 := g ++ [.lst [.int z]]) ((ev_bi1 (ev_var rfl)).trans (bi_int _ _)) (ev_var rfl) (by rw [op_mod _ _ _ (by decide), Int.emod_one]))
  have ix : idxD (g ++ [.lst [.int z]]) (.ref g.length) (.int 0) = some (.int z) := by
    simp [idxD, idxQ, seqOf, L2.atI, L2.ixN]
  have st : ∀ v, setD (g ++ [.lst [.int z]]) (.ref g.length) (.int 0) (.int v) = some (g ++ [.lst [.int v]]) := fun v => by
    simp [setD, L2.ixN]
  have e2 : evS mo C (.set (.var 2) (.var 5) (.op .add (.idx (.var 2) (.var 5)) (.op .mul (.var 4) (.op .add (.var 3) (.cst (.int 2)))))) (cE ns g.length (some (.int k)) (some (.int c)) (some (.int 0))) (g ++ [.lst [.int z]]) = .nx (cE ns g.length (some (.int k)) (some (.int c)) (some (.int 0))) (g ++ [.lst [.int (z + c * (k + 2))]]) := by
    have q : evE mo C (.op .add (.idx (.var 2) (.var 5)) (.op .mul (.var 4) (.op .add (.var 3) (.cst (.int 2))))) (cE ns g.length (some (.int k)) (some (.int c)) (some (.int 0))) (g ++ [.lst [.int z]]) = .ok (.int (z + c * (k + 2))) (g ++ [.lst [.int z]]) := by
      refine ev_op (h1 := g ++ [.lst [.int z]]) (x := .int z) ?_ (ev_op (h1 := g ++ [.lst [.int z]]) (ev_var rfl) (ev_op (h1 := g ++ [.lst [.int z]]) (ev_var rfl) ev_cst (op_add _ _ _)) (op_mul _ _ _ (by omega))) (op_add _ _ _)
      rw [evE, ev_var (d := .ref g.length) rfl, Res.bind_ok, ev_var (d := .int 0) rfl, Res.bind_ok, ix, optR_some]
    rw [evS, q, Res.toS_ok, ev_var (d := .ref g.length) rfl, Res.toS_ok, ev_var (d := .int 0) rfl, Res.toS_ok, st]
  rw [evSs, e1, SRes.thn_nx, evSs, e2, SRes.thn_nx, evSs]
theorem cell_loop (C : Orc) (ns : List Int) (g h0 : AH) : ∀ (xs : List Int) (k : Nat) (z : Int) (v3 v4 v5 : Option D), k + xs.length ≤ 100 → ∃ z' w3 w4 w5, forL [] h0 (T.put (.cons (.nm 3) (.cons (.nm 4) .nil))) (evSs mo C cellB) (enumL k (xs.map .int)) (cE ns g.length v3 v4 v5) (g ++ [.lst [.int z]]) = .nx (cE ns g.length w3 w4 w5) (g ++ [.lst [.int z']])
  | [], k, z, v3, v4, v5, _ => ⟨z, v3, v4, v5, by simp [enumL, forL, stays_nil]⟩
  | c :: xs, k, z, v3, v4, v5, hk => by
    simp only [List.length_cons] at hk
    obtain ⟨z', w3, w4, w5, e⟩ := cell_loop C ns g h0 xs (k + 1) (z + c * (k + 2)) (some (.int k)) (some (.int c)) (some (.int 0)) (by omega)
    refine ⟨z', w3, w4, w5, ?_⟩
    have e3 : T.put (.cons (.nm 3) (.cons (.nm 4) .nil)) (.tup [.int k, .int c]) (cE ns g.length v3 v4 v5) = some (cE ns g.length (some (.int k)) (some (.int c)) v5) := rfl
    simp only [List.map_cons, enumL, forL, stays_nil, if_true, e3, cell_turn C ns g z k c v5 (by omega), SRes.thn_nx]
    exact e
theorem cut_len {α : Type} (xs : List α) (lo hi : Option Int) : (cutL xs lo hi).length ≤ xs.length := by
  simp only [cutL, List.length_take, List.length_drop]; omega
theorem cut_map (ns : List Int) (lo hi : Option Int) : cutL (ns.map D.int) lo hi = (cutL ns lo hi).map D.int := by
  simp only [cutL, List.length_map, List.map_take, List.map_drop]
theorem frz_cell (g : AH) (z : Int) : fin true [] (.rt (.ref g.length) (g ++ [.lst [.int z]])) = .ok (.lst [.int z]) [] := by
  have q : frz (g ++ [.lst [.int z]]) 0 3 (.ref g.length) = some (.lst [.int z]) := by
    simp [frz, D.mapR]
  simp only [fin, clo, if_true, List.length_nil, q, cut, List.take_zero, true_or]
theorem ev_cells (k : Nat) (ns : List Int) (hl : ns.length ≤ 63) : ∃ z, callN mo tb (k + 1) F._law_cells [.scr ns, .int 1] [] = .ok (.lst [.int z]) [] := by
  have z := z_is
  rw [call_at (b := b__law_cells) (sl := 6) rfl rfl]
  -- the first cell
  have s0 : ∃ (g : AH) (c : Int), evS mo (callN mo tb k) (b__law_cells.nth 0) (start 6 [.scr ns, .int 1]) [] = .nx (cE ns g.length none none none) (g ++ [.lst [.int c]]) := by
    have q : evE mo (callN mo tb k) (.bi .lstM (.cons (.slc (.var 0) .no (.so (.var 1))) .nil)) (start 6 [.scr ns, .int 1]) [] = .ok (.ref 0) [.lst (cutL (ns.map .int) none (some 1))] := by
      refine (ev_bi1 (x := .lst (cutL (ns.map .int) none (some 1))) (h1 := []) ?_).trans rfl
      rw [evE, ev_var (d := .scr ns) rfl, Res.bind_ok, evO, Res.bind_ok, evO, ev_var (d := .int 1) rfl, Res.bind_ok, Res.bind_ok]
      rfl
    cases ns with
    | nil =>
      refine ⟨[.lst []], 0, asg_nm (d := .ref 1) ?_⟩
      rw [evE, q, Res.bind_ok]
      have : truD [.lst (cutL (([] : List Int).map .int) none (some 1))] (.ref 0) = some false := rfl
      rw [this]
      simp only
      rw [evE, es_cons ev_cst es_nil, Res.bind_ok]
      exact if_pos (by simp only [List.length_cons, List.length_nil]; omega)
    | cons c ns =>
      refine ⟨[], c, asg_nm (d := .ref 0) ?_⟩
      have cu : cutL ((c :: ns).map D.int) none (some 1) = [.int c] := by
        simp [cutL, HT.sIx]
      rw [evE, q, Res.bind_ok, cu]
      rfl
  obtain ⟨g, c, s0⟩ := s0
  obtain ⟨z', w3, w4, w5, e⟩ := cell_loop (callN mo tb k) ns g (g ++ [.lst [.int c]]) (cutL ns (some 1) (some 63)) 0 c none none none (by have := cut_len ns (some 1) (some 63); omega)
  refine ⟨z', ?_⟩
  have s1 : evS mo (callN mo tb k) (b__law_cells.nth 1) (cE ns g.length none none none) (g ++ [.lst [.int c]]) = .nx (cE ns g.length w3 w4 w5) (g ++ [.lst [.int z']]) := by
    show evS mo (callN mo tb k) (.for (.cons (.nm 3) (.cons (.nm 4) .nil)) (.enm (.slc (.var 0) (.so (.var 1)) (.so (.cst (.int 63))))) cellB) _ _ = _
    rw [evS, evIt, evE, ev_var (d := .scr ns) rfl, Res.bind_ok, evO, ev_var (d := .int 1) rfl, Res.bind_ok, Res.bind_ok, evO, ev_cst, Res.bind_ok, Res.bind_ok]
    simp only [slcD, cut_map, optR_some, Res.bind_ok, seqOf, depOf, Res.toS_ok]
    exact e
  have all : evSs mo (callN mo tb k) b__law_cells (start 6 [.scr ns, .int 1]) [] = .rt (.ref g.length) (g ++ [.lst [.int z']]) := by
    refine (run_step (b := b__law_cells) 0 rfl s0).trans ?_
    refine (run_step (b := b__law_cells) 1 rfl s1).trans ?_
    refine run_last (b := b__law_cells) 2 rfl ?_
    show evS mo (callN mo tb k) (.ret (.var 2)) _ _ = _
    rw [evS, ev_var (d := .ref g.length) rfl, Res.toS_ok]
  rw [all, frz_cell]
theorem ev_box (k : Nat) (z : Int) : ∃ a b : Int, callN mo tb (k + 1) F._law_box [.lst [.int z], .int 0] [] = .ok (.ref 0) (bx a b 0) := by
  have zz := z_is
  rw [call_eq (fd := ⟨2, 3, false, b__law_box⟩) rfl rfl]
  have s0 : evS mo (callN mo tb k) (b__law_box.nth 0) (start 3 [.lst [.int z], .int 0]) [] = .nx [some (.lst [.int z]), some (.int 0), some (.int z)] [] := by
    refine asg_nm ?_
    rw [evE, ev_op (z := .bl true) (ev_var (d := .int 0) rfl) ((ev_bi1 (ev_var (d := .lst [.int z]) rfl)).trans (len_lst _ _)) rfl, Res.bind_ok, boolR_bl, if_pos rfl, evE, ev_var (d := .lst [.int z]) rfl, Res.bind_ok, ev_var (d := .int 0) rfl, Res.bind_ok]
    rfl
  have ab : evE mo (callN mo tb k) (.bi .abs (.cons (.var 2) .nil)) [some (.lst [.int z]), some (.int 0), some (.int z)] [] = .ok (.int (if z < 0 then -z else z)) [] := (ev_bi1 (ev_var rfl)).trans rfl
  have s1 : ∃ a b : Int, evS mo (callN mo tb k) (b__law_box.nth 1) [some (.lst [.int z]), some (.int 0), some (.int z)] [] = .rt (.ref 0) (bx a b 0) := by
    generalize (if z < 0 then -z else z) = w at ab
    have pw : opD .pow (.int 10) (.int 18) [] = some (.int (10 ^ 18)) := by
      simp only [opD]
      rw [if_pos ⟨by decide, by decide, by decide⟩]
      rfl
    have m1 : ∀ b : Bool, opD .mul (.int w) (.int (if b then 1 else 0)) [] = some (.int (w * (if b then 1 else 0))) := fun b => op_mul _ _ _ (by cases b <;> decide)
    refine ⟨w * (if decide ((10 : Int) ^ 18 ≤ w) then 1 else 0), z % 2305843009213693951 + 39373 * 0 + 2631603, ?_⟩
    show evS mo (callN mo tb k) (.ret (.mls (.cons (.op .mul (.bi .abs (.cons (.var 2) .nil)) (.bi .int (.cons (.op .ge (.bi .abs (.cons (.var 2) .nil)) (.op .pow (.cst (.int 10)) (.cst (.int 18)))) .nil))) (.cons (.op .add (.op .add (.op .mod (.bi .int (.cons (.var 2) .nil)) (.cst (.int 2305843009213693951))) (.op .mul (.cst (.int 39373)) (.var 1))) (.cst (.int 2631603))) (.cons (.cst (.int 0)) .nil))))) _ _ = _
    rw [evS, evE, es_cons (ev_op ab ((ev_bi1 (ev_op ab (ev_op ev_cst ev_cst pw) (op_ge _ _ _))).trans rfl) (m1 _)) (es_cons (ev_op (ev_op (ev_op ((ev_bi1 (ev_var rfl)).trans (bi_int z _)) ev_cst (op_mod _ _ _ (by decide))) (ev_op ev_cst (ev_var (d := .int 0) rfl) (op_mul _ _ _ (by decide))) (op_add _ _ _)) ev_cst (op_add _ _ _)) (es_cons ev_cst es_nil)), Res.bind_ok, if_pos (by simp only [List.length_cons, List.length_nil]; omega), Res.toS_ok]
    rfl
  obtain ⟨a, b, s1⟩ := s1
  refine ⟨a, b, ?_⟩
  have all : evSs mo (callN mo tb k) b__law_box (start 3 [.lst [.int z], .int 0]) [] = .rt (.ref 0) (bx a b 0) :=
    (run_step (b := b__law_box) 0 rfl s0).trans (run_last (b := b__law_box) 1 rfl s1)
  rw [all]
  rfl
abbrev fuel : Nat := 60
theorem law_true (ns : List Int) (hl : ns.length ≤ 63) (hb : ∀ z ∈ ns, Builtin.Int.intBits z ≤ 1048576) : ∃ h, callN mo tb fuel F.law [.scr ns] [] = .ok (.bl true) h := by
  obtain ⟨z, e1⟩ := ev_cells 58 ns hl
  obtain ⟨a, b, e2⟩ := ev_box 58 z
  obtain ⟨h1, e3, B1⟩ := ev_right 51 100 (bx a b 0) ⟨a, b, 0, rfl, by decide, by decide⟩
  obtain ⟨h2, e4, B2⟩ := ev_right 51 0 h1 B1
  refine ⟨[], ?_⟩
  have s0 : evS mo (callN mo tb 59) (b_law.nth 0) (start 2 [.scr ns]) [] = .nx [some (.scr ns), some (.ref 0)] (bx a b 0) := by
    refine asg_nm ((ev_call2 ((ev_call2 (ev_var (d := .scr ns) rfl) ev_cst).trans e1) ev_cst).trans e2)
  have s1 : evS mo (callN mo tb 59) (b_law.nth 1) [some (.scr ns), some (.ref 0)] (bx a b 0) = .rt (.bl true) h2 := by
    show evS mo (callN mo tb 59) (.ret (.and (.call F._law_right (.cons (.var 1) .nil)) (.call F._law_right (.cons (.var 1) .nil)))) _ _ = _
    rw [evS, evE, (ev_call1 (ev_var (d := .ref 0) rfl)).trans e3, Res.bind_ok, boolR_bl, if_pos rfl, (ev_call1 (ev_var (d := .ref 0) rfl)).trans e4, Res.bind_ok, boolR_bl, Res.toS_ok]
  show callN mo tb (59 + 1) F.law [.scr ns] [] = _
  rw [call_at (b := b_law) (sl := 2) rfl rfl]
  have all : evSs mo (callN mo tb 59) b_law (start 2 [.scr ns]) [] = .rt (.bl true) h2 :=
    (run_step (b := b_law) 0 rfl s0).trans (run_last (b := b_law) 1 rfl s1)
  rw [all]
  have q : frz h2 0 3 (.bl true) = some (.bl true) := frz_wf rfl
  simp only [fin, clo, if_true, List.length_nil, q, cut, List.take_zero, true_or]
end K03

set_option maxRecDepth 100000
set_option Elab.async false
namespace K03
open Ev PySem PySem.W L2

def top (i : Nat) : Stmt := PySem.Challenge.pw_countsandfloors_k03_rows_and_their_least.main.body.getD i (.Pass ⟨0, 0, 0, 0⟩)
def inCls (s : Stmt) (i : Nat) : Stmt := inClass s i
def d_is_number : Df := ⟨"is_number", top 5, ["thing"], ["thing"], ⟨1, 1, true, b_is_number⟩⟩
def d_is_from : Df := ⟨"is_from", top 6, ["thing", "least"], ["thing", "least"], ⟨2, 2, true, b_is_from⟩⟩
def d_is_between : Df := ⟨"is_between", top 7, ["thing", "least", "most"], ["thing", "least", "most"], ⟨3, 3, true, b_is_between⟩⟩
def d_tuple_of : Df := ⟨"tuple_of", top 8, ["thing", "part"], ["thing"], ⟨1, 2, true, b_tuple_of⟩⟩
def d_is_tuple_of : Df := ⟨"is_tuple_of", top 9, ["thing", "many"], ["thing", "many"], ⟨2, 2, true, b_is_tuple_of⟩⟩
def d_sure : Df := ⟨"sure", top 10, ["flag"], ["flag"], ⟨1, 1, true, b_sure⟩⟩
def d_is_row_of : Df := ⟨"is_row_of", top 14, ["thing", "many", "own"], ["thing", "many"], ⟨2, 3, true, b_is_row_of⟩⟩
def d_is_row : Df := ⟨"is_row", top 15, ["thing", "many"], ["thing", "many"], ⟨2, 2, true, b_is_row⟩⟩
def d_zero_row : Df := ⟨"zero_row", top 16, ["many"], ["many"], ⟨1, 1, true, b_zero_row⟩⟩
def d_is_low_row : Df := ⟨"is_low_row", top 17, ["thing", "own"], ["thing"], ⟨1, 2, true, b_is_low_row⟩⟩
def d_sure_row : Df := ⟨"sure_row", top 18, ["row", "own"], ["row"], ⟨1, 2, true, b_sure_row⟩⟩
def d_sure_rows : Df := ⟨"sure_rows", top 19, ["rows", "some", "own"], ["rows"], ⟨1, 3, true, b_sure_rows⟩⟩
def d_look_long : Df := ⟨"look_long", top 20, ["rows", "own"], ["rows"], ⟨1, 2, true, b_look_long⟩⟩
def d_added : Df := ⟨"added", top 21, ["one", "other", "near", "far"], ["one", "other"], ⟨2, 4, true, b_added⟩⟩
def d_at_most : Df := ⟨"at_most", top 22, ["one", "other", "near", "far"], ["one", "other"], ⟨2, 4, true, b_at_most⟩⟩
def d_some_at_most : Df := ⟨"some_at_most", top 23, ["rows", "row", "own"], ["rows", "row"], ⟨2, 3, true, b_some_at_most⟩⟩
def d_least_of : Df := ⟨"least_of", top 24, ["rows", "found", "row"], ["rows"], ⟨1, 3, true, b_least_of⟩⟩
def d_row_sum : Df := ⟨"row_sum", top 25, ["one", "other", "near", "far"], ["one", "other"], ⟨2, 4, true, b_row_sum⟩⟩
def d_is_at_most : Df := ⟨"is_at_most", top 26, ["one", "other", "near", "far"], ["one", "other"], ⟨2, 4, true, b_is_at_most⟩⟩
def d_is_below : Df := ⟨"is_below", top 27, ["one", "other", "near", "far"], ["one", "other"], ⟨2, 4, true, b_is_below⟩⟩
def d_least_rows : Df := ⟨"least_rows", top 28, ["rows", "some"], ["rows"], ⟨1, 2, true, b_least_rows⟩⟩
def d_reaches : Df := ⟨"reaches", top 29, ["rows", "row", "some", "own"], ["rows", "row"], ⟨2, 4, true, b_reaches⟩⟩
def d_sums_of : Df := ⟨"sums_of", top 30, ["rows", "others", "some", "more", "one", "other"], ["rows", "others"], ⟨2, 6, true, b_sums_of⟩⟩
def d_met : Df := ⟨"met", top 31, ["rows", "others", "some", "more", "found", "one", "near", "far", "other"], ["rows", "others"], ⟨2, 9, true, b_met⟩⟩
def d__law_box : Df := ⟨"_law_box", top 33, ["script", "k", "cell"], ["script", "k"], ⟨2, 3, false, b__law_box⟩⟩
def d__law_take : Df := ⟨"_law_take", top 34, ["box", "size_so", "drawn", "once", "far", "twice"], ["box", "size_so"], ⟨2, 6, true, b__law_take⟩⟩
def d__law_cells : Df := ⟨"_law_cells", top 35, ["script", "top_so", "cells_so", "k", "cell", "at_so"], ["script", "top_so"], ⟨2, 6, true, b__law_cells⟩⟩
def d__law_same : Df := ⟨"_law_same", top 36, ["got", "due", "mine", "its"], ["got", "due"], ⟨2, 4, true, b__law_same⟩⟩
def d__law_added : Df := ⟨"_law_added", top 39, ["one", "other", "a", "b"], ["one", "other"], ⟨2, 4, true, b__law_added⟩⟩
def d__law_at_most : Df := ⟨"_law_at_most", top 40, ["one", "other", "k", "far"], ["one", "other"], ⟨2, 4, true, b__law_at_most⟩⟩
def d__law_least : Df := ⟨"_law_least", top 41, ["rows", "found", "row", "own"], ["rows"], ⟨1, 4, true, b__law_least⟩⟩
def d__law_heard : Df := ⟨"_law_heard", top 42, ["door", "one", "other", "found", "calls"], ["door", "one", "other"], ⟨3, 5, true, b__law_heard⟩⟩
def d__law_row : Df := ⟨"_law_row", top 43, ["box", "many", "k"], ["box", "many"], ⟨2, 3, true, b__law_row⟩⟩
def d__law_right : Df := ⟨"_law_right", top 44, ["box", "many", "one", "other", "rows", "k", "others", "got", "door", "least", "row", "own", "sums", "both", "far", "a", "b", "near", "longer", "things", "due", "thing"], ["box"], ⟨1, 22, true, b__law_right⟩⟩
def d_law : Df := ⟨"law", top 45, ["script", "box"], ["script"], ⟨1, 2, true, b_law⟩⟩
def dfL : List (Option Df) := [some d_is_number, some d_is_from, some d_is_between, some d_tuple_of, some d_is_tuple_of, some d_sure, some d_is_row_of, some d_is_row, some d_zero_row, some d_is_low_row, some d_sure_row, some d_sure_rows, some d_look_long, some d_added, some d_at_most, some d_some_at_most, some d_least_of, some d_row_sum, some d_is_at_most, some d_is_below, some d_least_rows, some d_reaches, some d_sums_of, some d_met, some d__law_box, some d__law_take, some d__law_cells, some d__law_same, none, none, some d__law_added, some d__law_at_most, some d__law_least, some d__law_heard, some d__law_row, some d__law_right, some d_law]
def dfs : Nat → Option Df := fun x => (dfL[x]?).join
def nt : Nt where
  fn := fun x => match x with
    | 0 => some "is_number"
    | 1 => some "is_from"
    | 2 => some "is_between"
    | 3 => some "tuple_of"
    | 4 => some "is_tuple_of"
    | 5 => some "sure"
    | 6 => some "is_row_of"
    | 7 => some "is_row"
    | 8 => some "zero_row"
    | 9 => some "is_low_row"
    | 10 => some "sure_row"
    | 11 => some "sure_rows"
    | 12 => some "look_long"
    | 13 => some "added"
    | 14 => some "at_most"
    | 15 => some "some_at_most"
    | 16 => some "least_of"
    | 17 => some "row_sum"
    | 18 => some "is_at_most"
    | 19 => some "is_below"
    | 20 => some "least_rows"
    | 21 => some "reaches"
    | 22 => some "sums_of"
    | 23 => some "met"
    | 24 => some "_law_box"
    | 25 => some "_law_take"
    | 26 => some "_law_cells"
    | 27 => some "_law_same"
    | 30 => some "_law_added"
    | 31 => some "_law_at_most"
    | 32 => some "_law_least"
    | 33 => some "_law_heard"
    | 34 => some "_law_row"
    | 35 => some "_law_right"
    | 36 => some "law"
    | _ => none
  gc := fun x => match x with
    | 0 => some "MOST_NUMBER"
    | 1 => some "MOST_ENTRIES"
    | 2 => some "MOST_ROWS"
    | 21 => some "is_at_most"
    | 22 => some "is_below"
    | 20 => some "row_sum"
    | _ => none
  ex := fun x => match x with
    | 0 => some "Unfit"
    | 1 => some "OtherLength"
    | _ => none
  exn := fun x => (exv x).getD 0
theorem tbL_eq : dfL.map (Option.map Df.fd) = tbL := rfl
theorem tb_eq : tbl dfs = tb := by
  funext x
  show ((dfL[x]?).join).map Df.fd = (tbL[x]?).join
  rw [← tbL_eq, List.getElem?_map]
  cases dfL[x]? with
  | none => rfl
  | some o => cases o <;> rfl
theorem ck_is_number : dfC nt d_is_number = true := by decide +kernel
theorem sc_is_number : FnScope d_is_number.N d_is_number.ps (defScope d_is_number.stm) := ⟨rfl, rfl, rfl, by decide +kernel, rfl, by decide +kernel, by decide +kernel⟩
theorem bd_is_number {K : Frag} {a : Addr} {fd : FuncData} (F : L2.Fun K d_is_number.name d_is_number.name d_is_number.stm a fd) : Binds K fd d_is_number.ps [] := F.binds fun _ _ _ _ _ _ us hl => match us, hl with | [_], _ => rfl
theorem ck_is_from : dfC nt d_is_from = true := by decide +kernel
theorem sc_is_from : FnScope d_is_from.N d_is_from.ps (defScope d_is_from.stm) := ⟨rfl, rfl, rfl, by decide +kernel, rfl, by decide +kernel, by decide +kernel⟩
theorem bd_is_from {K : Frag} {a : Addr} {fd : FuncData} (F : L2.Fun K d_is_from.name d_is_from.name d_is_from.stm a fd) : Binds K fd d_is_from.ps [] := F.binds fun _ _ _ _ _ _ us hl => match us, hl with | [_, _], _ => rfl
theorem ck_is_between : dfC nt d_is_between = true := by decide +kernel
theorem sc_is_between : FnScope d_is_between.N d_is_between.ps (defScope d_is_between.stm) := ⟨rfl, rfl, rfl, by decide +kernel, rfl, by decide +kernel, by decide +kernel⟩
theorem bd_is_between {K : Frag} {a : Addr} {fd : FuncData} (F : L2.Fun K d_is_between.name d_is_between.name d_is_between.stm a fd) : Binds K fd d_is_between.ps [] := F.binds fun _ _ _ _ _ _ us hl => match us, hl with | [_, _, _], _ => rfl
theorem ck_tuple_of : dfC nt d_tuple_of = true := by decide +kernel
theorem sc_tuple_of : FnScope d_tuple_of.N d_tuple_of.ps (defScope d_tuple_of.stm) := ⟨rfl, rfl, rfl, by decide +kernel, rfl, by decide +kernel, by decide +kernel⟩
theorem bd_tuple_of {K : Frag} {a : Addr} {fd : FuncData} (F : L2.Fun K d_tuple_of.name d_tuple_of.name d_tuple_of.stm a fd) : Binds K fd d_tuple_of.ps [] := F.binds fun _ _ _ _ _ _ us hl => match us, hl with | [_], _ => rfl
theorem ck_is_tuple_of : dfC nt d_is_tuple_of = true := by decide +kernel
theorem sc_is_tuple_of : FnScope d_is_tuple_of.N d_is_tuple_of.ps (defScope d_is_tuple_of.stm) := ⟨rfl, rfl, rfl, by decide +kernel, rfl, by decide +kernel, by decide +kernel⟩
theorem bd_is_tuple_of {K : Frag} {a : Addr} {fd : FuncData} (F : L2.Fun K d_is_tuple_of.name d_is_tuple_of.name d_is_tuple_of.stm a fd) : Binds K fd d_is_tuple_of.ps [] := F.binds fun _ _ _ _ _ _ us hl => match us, hl with | [_, _], _ => rfl
theorem ck_sure : dfC nt d_sure = true := by decide +kernel
theorem sc_sure : FnScope d_sure.N d_sure.ps (defScope d_sure.stm) := ⟨rfl, rfl, rfl, by decide +kernel, rfl, by decide +kernel, by decide +kernel⟩
theorem bd_sure {K : Frag} {a : Addr} {fd : FuncData} (F : L2.Fun K d_sure.name d_sure.name d_sure.stm a fd) : Binds K fd d_sure.ps [] := F.binds fun _ _ _ _ _ _ us hl => match us, hl with | [_], _ => rfl
theorem ck_is_row_of : dfC nt d_is_row_of = true := by decide +kernel
theorem sc_is_row_of : FnScope d_is_row_of.N d_is_row_of.ps (defScope d_is_row_of.stm) := ⟨rfl, rfl, rfl, by decide +kernel, rfl, by decide +kernel, by decide +kernel⟩
theorem bd_is_row_of {K : Frag} {a : Addr} {fd : FuncData} (F : L2.Fun K d_is_row_of.name d_is_row_of.name d_is_row_of.stm a fd) : Binds K fd d_is_row_of.ps [] := F.binds fun _ _ _ _ _ _ us hl => match us, hl with | [_, _], _ => rfl
theorem ck_is_row : dfC nt d_is_row = true := by decide +kernel
theorem sc_is_row : FnScope d_is_row.N d_is_row.ps (defScope d_is_row.stm) := ⟨rfl, rfl, rfl, by decide +kernel, rfl, by decide +kernel, by decide +kernel⟩
theorem bd_is_row {K : Frag} {a : Addr} {fd : FuncData} (F : L2.Fun K d_is_row.name d_is_row.name d_is_row.stm a fd) : Binds K fd d_is_row.ps [] := F.binds fun _ _ _ _ _ _ us hl => match us, hl with | [_, _], _ => rfl
theorem ck_zero_row : dfC nt d_zero_row = true := by decide +kernel
theorem sc_zero_row : FnScope d_zero_row.N d_zero_row.ps (defScope d_zero_row.stm) := ⟨rfl, rfl, rfl, by decide +kernel, rfl, by decide +kernel, by decide +kernel⟩
theorem bd_zero_row {K : Frag} {a : Addr} {fd : FuncData} (F : L2.Fun K d_zero_row.name d_zero_row.name d_zero_row.stm a fd) : Binds K fd d_zero_row.ps [] := F.binds fun _ _ _ _ _ _ us hl => match us, hl with | [_], _ => rfl
theorem ck_is_low_row : dfC nt d_is_low_row = true := by decide +kernel
theorem sc_is_low_row : FnScope d_is_low_row.N d_is_low_row.ps (defScope d_is_low_row.stm) := ⟨rfl, rfl, rfl, by decide +kernel, rfl, by decide +kernel, by decide +kernel⟩
theorem bd_is_low_row {K : Frag} {a : Addr} {fd : FuncData} (F : L2.Fun K d_is_low_row.name d_is_low_row.name d_is_low_row.stm a fd) : Binds K fd d_is_low_row.ps [] := F.binds fun _ _ _ _ _ _ us hl => match us, hl with | [_], _ => rfl
theorem ck_sure_row : dfC nt d_sure_row = true := by decide +kernel
theorem sc_sure_row : FnScope d_sure_row.N d_sure_row.ps (defScope d_sure_row.stm) := ⟨rfl, rfl, rfl, by decide +kernel, rfl, by decide +kernel, by decide +kernel⟩
theorem bd_sure_row {K : Frag} {a : Addr} {fd : FuncData} (F : L2.Fun K d_sure_row.name d_sure_row.name d_sure_row.stm a fd) : Binds K fd d_sure_row.ps [] := F.binds fun _ _ _ _ _ _ us hl => match us, hl with | [_], _ => rfl
theorem ck_sure_rows : dfC nt d_sure_rows = true := by decide +kernel
theorem sc_sure_rows : FnScope d_sure_rows.N d_sure_rows.ps (defScope d_sure_rows.stm) := ⟨rfl, rfl, rfl, by decide +kernel, rfl, by decide +kernel, by decide +kernel⟩
theorem bd_sure_rows {K : Frag} {a : Addr} {fd : FuncData} (F : L2.Fun K d_sure_rows.name d_sure_rows.name d_sure_rows.stm a fd) : Binds K fd d_sure_rows.ps [] := F.binds fun _ _ _ _ _ _ us hl => match us, hl with | [_], _ => rfl
theorem ck_look_long : dfC nt d_look_long = true := by decide +kernel
theorem sc_look_long : FnScope d_look_long.N d_look_long.ps (defScope d_look_long.stm) := ⟨rfl, rfl, rfl, by decide +kernel, rfl, by decide +kernel, by decide +kernel⟩
theorem bd_look_long {K : Frag} {a : Addr} {fd : FuncData} (F : L2.Fun K d_look_long.name d_look_long.name d_look_long.stm a fd) : Binds K fd d_look_long.ps [] := F.binds fun _ _ _ _ _ _ us hl => match us, hl with | [_], _ => rfl
theorem ck_added : dfC nt d_added = true := by decide +kernel
theorem sc_added : FnScope d_added.N d_added.ps (defScope d_added.stm) := ⟨rfl, rfl, rfl, by decide +kernel, rfl, by decide +kernel, by decide +kernel⟩
theorem bd_added {K : Frag} {a : Addr} {fd : FuncData} (F : L2.Fun K d_added.name d_added.name d_added.stm a fd) : Binds K fd d_added.ps [] := F.binds fun _ _ _ _ _ _ us hl => match us, hl with | [_, _], _ => rfl
theorem ck_at_most : dfC nt d_at_most = true := by decide +kernel
theorem sc_at_most : FnScope d_at_most.N d_at_most.ps (defScope d_at_most.stm) := ⟨rfl, rfl, rfl, by decide +kernel, rfl, by decide +kernel, by decide +kernel⟩
theorem bd_at_most {K : Frag} {a : Addr} {fd : FuncData} (F : L2.Fun K d_at_most.name d_at_most.name d_at_most.stm a fd) : Binds K fd d_at_most.ps [] := F.binds fun _ _ _ _ _ _ us hl => match us, hl with | [_, _], _ => rfl
theorem ck_some_at_most : dfC nt d_some_at_most = true := by decide +kernel
theorem sc_some_at_most : FnScope d_some_at_most.N d_some_at_most.ps (defScope d_some_at_most.stm) := ⟨rfl, rfl, rfl, by decide +kernel, rfl, by decide +kernel, by decide +kernel⟩
theorem bd_some_at_most {K : Frag} {a : Addr} {fd : FuncData} (F : L2.Fun K d_some_at_most.name d_some_at_most.name d_some_at_most.stm a fd) : Binds K fd d_some_at_most.ps [] := F.binds fun _ _ _ _ _ _ us hl => match us, hl with | [_, _], _ => rfl
theorem ck_least_of : dfC nt d_least_of = true := by decide +kernel
theorem sc_least_of : FnScope d_least_of.N d_least_of.ps (defScope d_least_of.stm) := ⟨rfl, rfl, rfl, by decide +kernel, rfl, by decide +kernel, by decide +kernel⟩
theorem bd_least_of {K : Frag} {a : Addr} {fd : FuncData} (F : L2.Fun K d_least_of.name d_least_of.name d_least_of.stm a fd) : Binds K fd d_least_of.ps [] := F.binds fun _ _ _ _ _ _ us hl => match us, hl with | [_], _ => rfl
theorem ck_row_sum : dfC nt d_row_sum = true := by decide +kernel
theorem sc_row_sum : FnScope d_row_sum.N d_row_sum.ps (defScope d_row_sum.stm) := ⟨rfl, rfl, rfl, by decide +kernel, rfl, by decide +kernel, by decide +kernel⟩
theorem bd_row_sum {K : Frag} {a : Addr} {fd : FuncData} (F : L2.Fun K d_row_sum.name d_row_sum.name d_row_sum.stm a fd) : Binds K fd d_row_sum.ps [] := F.binds fun _ _ _ _ _ _ us hl => match us, hl with | [_, _], _ => rfl
theorem ck_is_at_most : dfC nt d_is_at_most = true := by decide +kernel
theorem sc_is_at_most : FnScope d_is_at_most.N d_is_at_most.ps (defScope d_is_at_most.stm) := ⟨rfl, rfl, rfl, by decide +kernel, rfl, by decide +kernel, by decide +kernel⟩
theorem bd_is_at_most {K : Frag} {a : Addr} {fd : FuncData} (F : L2.Fun K d_is_at_most.name d_is_at_most.name d_is_at_most.stm a fd) : Binds K fd d_is_at_most.ps [] := F.binds fun _ _ _ _ _ _ us hl => match us, hl with | [_, _], _ => rfl
theorem ck_is_below : dfC nt d_is_below = true := by decide +kernel
theorem sc_is_below : FnScope d_is_below.N d_is_below.ps (defScope d_is_below.stm) := ⟨rfl, rfl, rfl, by decide +kernel, rfl, by decide +kernel, by decide +kernel⟩
theorem bd_is_below {K : Frag} {a : Addr} {fd : FuncData} (F : L2.Fun K d_is_below.name d_is_below.name d_is_below.stm a fd) : Binds K fd d_is_below.ps [] := F.binds fun _ _ _ _ _ _ us hl => match us, hl with | [_, _], _ => rfl
theorem ck_least_rows : dfC nt d_least_rows = true := by decide +kernel
theorem sc_least_rows : FnScope d_least_rows.N d_least_rows.ps (defScope d_least_rows.stm) := ⟨rfl, rfl, rfl, by decide +kernel, rfl, by decide +kernel, by decide +kernel⟩
theorem bd_least_rows {K : Frag} {a : Addr} {fd : FuncData} (F : L2.Fun K d_least_rows.name d_least_rows.name d_least_rows.stm a fd) : Binds K fd d_least_rows.ps [] := F.binds fun _ _ _ _ _ _ us hl => match us, hl with | [_], _ => rfl
theorem ck_reaches : dfC nt d_reaches = true := by decide +kernel
theorem sc_reaches : FnScope d_reaches.N d_reaches.ps (defScope d_reaches.stm) := ⟨rfl, rfl, rfl, by decide +kernel, rfl, by decide +kernel, by decide +kernel⟩
theorem bd_reaches {K : Frag} {a : Addr} {fd : FuncData} (F : L2.Fun K d_reaches.name d_reaches.name d_reaches.stm a fd) : Binds K fd d_reaches.ps [] := F.binds fun _ _ _ _ _ _ us hl => match us, hl with | [_, _], _ => rfl
theorem ck_sums_of : dfC nt d_sums_of = true := by decide +kernel
theorem sc_sums_of : FnScope d_sums_of.N d_sums_of.ps (defScope d_sums_of.stm) := ⟨rfl, rfl, rfl, by decide +kernel, rfl, by decide +kernel, by decide +kernel⟩
theorem bd_sums_of {K : Frag} {a : Addr} {fd : FuncData} (F : L2.Fun K d_sums_of.name d_sums_of.name d_sums_of.stm a fd) : Binds K fd d_sums_of.ps [] := F.binds fun _ _ _ _ _ _ us hl => match us, hl with | [_, _], _ => rfl
theorem ck_met : dfC nt d_met = true := by decide +kernel
theorem sc_met : FnScope d_met.N d_met.ps (defScope d_met.stm) := ⟨rfl, rfl, rfl, by decide +kernel, rfl, by decide +kernel, by decide +kernel⟩
theorem bd_met {K : Frag} {a : Addr} {fd : FuncData} (F : L2.Fun K d_met.name d_met.name d_met.stm a fd) : Binds K fd d_met.ps [] := F.binds fun _ _ _ _ _ _ us hl => match us, hl with | [_, _], _ => rfl
theorem ck__law_box : dfC nt d__law_box = true := by decide +kernel
theorem sc__law_box : FnScope d__law_box.N d__law_box.ps (defScope d__law_box.stm) := ⟨rfl, rfl, rfl, by decide +kernel, rfl, by decide +kernel, by decide +kernel⟩
theorem bd__law_box {K : Frag} {a : Addr} {fd : FuncData} (F : L2.Fun K d__law_box.name d__law_box.name d__law_box.stm a fd) : Binds K fd d__law_box.ps [] := F.binds fun _ _ _ _ _ _ us hl => match us, hl with | [_, _], _ => rfl
theorem ck__law_take : dfC nt d__law_take = true := by decide +kernel
theorem sc__law_take : FnScope d__law_take.N d__law_take.ps (defScope d__law_take.stm) := ⟨rfl, rfl, rfl, by decide +kernel, rfl, by decide +kernel, by decide +kernel⟩
theorem bd__law_take {K : Frag} {a : Addr} {fd : FuncData} (F : L2.Fun K d__law_take.name d__law_take.name d__law_take.stm a fd) : Binds K fd d__law_take.ps [] := F.binds fun _ _ _ _ _ _ us hl => match us, hl with | [_, _], _ => rfl
theorem ck__law_cells : dfC nt d__law_cells = true := by decide +kernel
theorem sc__law_cells : FnScope d__law_cells.N d__law_cells.ps (defScope d__law_cells.stm) := ⟨rfl, rfl, rfl, by decide +kernel, rfl, by decide +kernel, by decide +kernel⟩
theorem bd__law_cells {K : Frag} {a : Addr} {fd : FuncData} (F : L2.Fun K d__law_cells.name d__law_cells.name d__law_cells.stm a fd) : Binds K fd d__law_cells.ps [] := F.binds fun _ _ _ _ _ _ us hl => match us, hl with | [_, _], _ => rfl
theorem ck__law_same : dfC nt d__law_same = true := by decide +kernel
theorem sc__law_same : FnScope d__law_same.N d__law_same.ps (defScope d__law_same.stm) := ⟨rfl, rfl, rfl, by decide +kernel, rfl, by decide +kernel, by decide +kernel⟩
theorem bd__law_same {K : Frag} {a : Addr} {fd : FuncData} (F : L2.Fun K d__law_same.name d__law_same.name d__law_same.stm a fd) : Binds K fd d__law_same.ps [] := F.binds fun _ _ _ _ _ _ us hl => match us, hl with | [_, _], _ => rfl
theorem ck__law_added : dfC nt d__law_added = true := by decide +kernel
theorem sc__law_added : FnScope d__law_added.N d__law_added.ps (defScope d__law_added.stm) := ⟨rfl, rfl, rfl, by decide +kernel, rfl, by decide +kernel, by decide +kernel⟩
theorem bd__law_added {K : Frag} {a : Addr} {fd : FuncData} (F : L2.Fun K d__law_added.name d__law_added.name d__law_added.stm a fd) : Binds K fd d__law_added.ps [] := F.binds fun _ _ _ _ _ _ us hl => match us, hl with | [_, _], _ => rfl
theorem ck__law_at_most : dfC nt d__law_at_most = true := by decide +kernel
theorem sc__law_at_most : FnScope d__law_at_most.N d__law_at_most.ps (defScope d__law_at_most.stm) := ⟨rfl, rfl, rfl, by decide +kernel, rfl, by decide +kernel, by decide +kernel⟩
theorem bd__law_at_most {K : Frag} {a : Addr} {fd : FuncData} (F : L2.Fun K d__law_at_most.name d__law_at_most.name d__law_at_most.stm a fd) : Binds K fd d__law_at_most.ps [] := F.binds fun _ _ _ _ _ _ us hl => match us, hl with | [_, _], _ => rfl
theorem ck__law_least : dfC nt d__law_least = true := by decide +kernel
theorem sc__law_least : FnScope d__law_least.N d__law_least.ps (defScope d__law_least.stm) := ⟨rfl, rfl, rfl, by decide +kernel, rfl, by decide +kernel, by decide +kernel⟩
theorem bd__law_least {K : Frag} {a : Addr} {fd : FuncData} (F : L2.Fun K d__law_least.name d__law_least.name d__law_least.stm a fd) : Binds K fd d__law_least.ps [] := F.binds fun _ _ _ _ _ _ us hl => match us, hl with | [_], _ => rfl
theorem ck__law_heard : dfC nt d__law_heard = true := by decide +kernel
theorem sc__law_heard : FnScope d__law_heard.N d__law_heard.ps (defScope d__law_heard.stm) := ⟨rfl, rfl, rfl, by decide +kernel, rfl, by decide +kernel, by decide +kernel⟩
theorem bd__law_heard {K : Frag} {a : Addr} {fd : FuncData} (F : L2.Fun K d__law_heard.name d__law_heard.name d__law_heard.stm a fd) : Binds K fd d__law_heard.ps [] := F.binds fun _ _ _ _ _ _ us hl => match us, hl with | [_, _, _], _ => rfl
theorem ck__law_row : dfC nt d__law_row = true := by decide +kernel
theorem sc__law_row : FnScope d__law_row.N d__law_row.ps (defScope d__law_row.stm) := ⟨rfl, rfl, rfl, by decide +kernel, rfl, by decide +kernel, by decide +kernel⟩
theorem bd__law_row {K : Frag} {a : Addr} {fd : FuncData} (F : L2.Fun K d__law_row.name d__law_row.name d__law_row.stm a fd) : Binds K fd d__law_row.ps [] := F.binds fun _ _ _ _ _ _ us hl => match us, hl with | [_, _], _ => rfl
theorem ck__law_right : dfC nt d__law_right = true := by decide +kernel
theorem sc__law_right : FnScope d__law_right.N d__law_right.ps (defScope d__law_right.stm) := ⟨rfl, rfl, rfl, by decide +kernel, rfl, by decide +kernel, by decide +kernel⟩
theorem bd__law_right {K : Frag} {a : Addr} {fd : FuncData} (F : L2.Fun K d__law_right.name d__law_right.name d__law_right.stm a fd) : Binds K fd d__law_right.ps [] := F.binds fun _ _ _ _ _ _ us hl => match us, hl with | [_], _ => rfl
theorem ck_law : dfC nt d_law = true := by decide +kernel
theorem sc_law : FnScope d_law.N d_law.ps (defScope d_law.stm) := ⟨rfl, rfl, rfl, by decide +kernel, rfl, by decide +kernel, by decide +kernel⟩
theorem bd_law {K : Frag} {a : Addr} {fd : FuncData} (F : L2.Fun K d_law.name d_law.name d_law.stm a fd) : Binds K fd d_law.ps [] := F.binds fun _ _ _ _ _ _ us hl => match us, hl with | [_], _ => rfl
def cls : Cls0
  | 0 => some ("Unfit", inClass (top 1) 0)
  | 1 => some ("OtherLength", inClass (top 2) 0)
  | _ => none
theorem in_Unfit : Init0 (inClass (top 1) 0) "an argument is not as stated" := ⟨⟨rfl, rfl, rfl, by decide +kernel, rfl, by decide +kernel, by decide +kernel⟩, ⟨_, _, _, _, _, _, _, by decide +kernel, rfl⟩, rfl, rfl⟩
theorem bi_Unfit {K : Frag} {qual : Str} {a : Addr} {fd : FuncData} (F : L2.Fun K "__init__" qual (inClass (top 1) 0) a fd) : Binds K fd ["self"] [] := F.binds fun _ _ _ _ _ _ us hl => match us, hl with | [_], _ => rfl
theorem in_OtherLength : Init0 (inClass (top 2) 0) "rows have unlike many entries" := ⟨⟨rfl, rfl, rfl, by decide +kernel, rfl, by decide +kernel, by decide +kernel⟩, ⟨_, _, _, _, _, _, _, by decide +kernel, rfl⟩, rfl, rfl⟩
theorem bi_OtherLength {K : Frag} {qual : Str} {a : Addr} {fd : FuncData} (F : L2.Fun K "__init__" qual (inClass (top 2) 0) a fd) : Binds K fd ["self"] [] := F.binds fun _ _ _ _ _ _ us hl => match us, hl with | [_], _ => rfl
theorem mod {prog : Program} {w : World} {K : Frag} {mg : Str → Option Value} {base h : Heap} (X : K.In h) (Gn : h.Ns mainGlobals mg)
    (f_is_number : ∃ a, DefAt K "is_number" (top 5) a)
    (f_is_from : ∃ a, DefAt K "is_from" (top 6) a)
    (f_is_between : ∃ a, DefAt K "is_between" (top 7) a)
    (f_tuple_of : ∃ a, DefAt K "tuple_of" (top 8) a)
    (f_is_tuple_of : ∃ a, DefAt K "is_tuple_of" (top 9) a)
    (f_sure : ∃ a, DefAt K "sure" (top 10) a)
    (f_is_row_of : ∃ a, DefAt K "is_row_of" (top 14) a)
    (f_is_row : ∃ a, DefAt K "is_row" (top 15) a)
    (f_zero_row : ∃ a, DefAt K "zero_row" (top 16) a)
    (f_is_low_row : ∃ a, DefAt K "is_low_row" (top 17) a)
    (f_sure_row : ∃ a, DefAt K "sure_row" (top 18) a)
    (f_sure_rows : ∃ a, DefAt K "sure_rows" (top 19) a)
    (f_look_long : ∃ a, DefAt K "look_long" (top 20) a)
    (f_added : ∃ a, DefAt K "added" (top 21) a)
    (f_at_most : ∃ a, DefAt K "at_most" (top 22) a)
    (f_some_at_most : ∃ a, DefAt K "some_at_most" (top 23) a)
    (f_least_of : ∃ a, DefAt K "least_of" (top 24) a)
    (f_row_sum : ∃ a, DefAt K "row_sum" (top 25) a)
    (f_is_at_most : ∃ a, DefAt K "is_at_most" (top 26) a)
    (f_is_below : ∃ a, DefAt K "is_below" (top 27) a)
    (f_least_rows : ∃ a, DefAt K "least_rows" (top 28) a)
    (f_reaches : ∃ a, DefAt K "reaches" (top 29) a)
    (f_sums_of : ∃ a, DefAt K "sums_of" (top 30) a)
    (f_met : ∃ a, DefAt K "met" (top 31) a)
    (f__law_box : ∃ a, DefAt K "_law_box" (top 33) a)
    (f__law_take : ∃ a, DefAt K "_law_take" (top 34) a)
    (f__law_cells : ∃ a, DefAt K "_law_cells" (top 35) a)
    (f__law_same : ∃ a, DefAt K "_law_same" (top 36) a)
    (f__law_added : ∃ a, DefAt K "_law_added" (top 39) a)
    (f__law_at_most : ∃ a, DefAt K "_law_at_most" (top 40) a)
    (f__law_least : ∃ a, DefAt K "_law_least" (top 41) a)
    (f__law_heard : ∃ a, DefAt K "_law_heard" (top 42) a)
    (f__law_row : ∃ a, DefAt K "_law_row" (top 43) a)
    (f__law_right : ∃ a, DefAt K "_law_right" (top 44) a)
    (f_law : ∃ a, DefAt K "law" (top 45) a)
    (c_Unfit : ∃ D fI, ClsAt K "Unfit" (inClass (top 1) 0) D fI)
    (c_OtherLength : ∃ D fI, ClsAt K "OtherLength" (inClass (top 2) 0) D fI)
    (b_len : nsIn K mainGlobals "len" = some none)
    (b_all : nsIn K mainGlobals "all" = some none)
    (b_any : nsIn K mainGlobals "any" = some none)
    (b_sum : nsIn K mainGlobals "sum" = some none)
    (b_min : nsIn K mainGlobals "min" = some none)
    (b_max : nsIn K mainGlobals "max" = some none)
    (b_sorted : nsIn K mainGlobals "sorted" = some none)
    (b_set : nsIn K mainGlobals "set" = some none)
    (b_tuple : nsIn K mainGlobals "tuple" = some none)
    (b_list : nsIn K mainGlobals "list" = some none)
    (b_dict : nsIn K mainGlobals "dict" = some none)
    (b_abs : nsIn K mainGlobals "abs" = some none)
    (b_int : nsIn K mainGlobals "int" = some none)
    (b_str : nsIn K mainGlobals "str" = some none)
    (b_bool : nsIn K mainGlobals "bool" = some none)
    (b_isinstance : nsIn K mainGlobals "isinstance" = some none)
    (b_enumerate : nsIn K mainGlobals "enumerate" = some none)
    (b_zip : nsIn K mainGlobals "zip" = some none)
    (b_range : nsIn K mainGlobals "range" = some none)
    (b_ValueError : nsIn K mainGlobals "ValueError" = some none)
    (hfc : findCls K (.type "ValueError") (.type "type") "__init__" = some (.val (.builtin "ValueError.__init__")))
    (x_Unfit_Unfit : ∃ D D', nsIn K mainGlobals "Unfit" = some (some (.ref D)) ∧ nsIn K mainGlobals "Unfit" = some (some (.ref D')) ∧ exmOne K (.ref D') (.ref D) = some true)
    (x_Unfit_OtherLength : ∃ D D', nsIn K mainGlobals "Unfit" = some (some (.ref D)) ∧ nsIn K mainGlobals "OtherLength" = some (some (.ref D')) ∧ exmOne K (.ref D') (.ref D) = some false)
    (x_OtherLength_Unfit : ∃ D D', nsIn K mainGlobals "OtherLength" = some (some (.ref D)) ∧ nsIn K mainGlobals "Unfit" = some (some (.ref D')) ∧ exmOne K (.ref D') (.ref D) = some false)
    (x_OtherLength_OtherLength : ∃ D D', nsIn K mainGlobals "OtherLength" = some (some (.ref D)) ∧ nsIn K mainGlobals "OtherLength" = some (some (.ref D')) ∧ exmOne K (.ref D') (.ref D) = some true)
    (g_MOST_NUMBER : ∃ t, nsIn K mainGlobals "MOST_NUMBER" = some (some (.int 1000000 t)))
    (g_MOST_ENTRIES : ∃ t, nsIn K mainGlobals "MOST_ENTRIES" = some (some (.int 5 t)))
    (g_MOST_ROWS : ∃ t, nsIn K mainGlobals "MOST_ROWS" = some (some (.int 40 t))) :
    Mod0 prog w K mg base (glOf K dfs cls fun _ => "") mo nt dfs := by
  refine mod_of X Gn (fun x d h => ?_) (fun x => ?_) ?_ (fun c p h => ?_) (fun c name h => ?_) b_ValueError hfc (fun c c2 p p2 h h2 => ?_) (fun x name d h h2 => ?_)
  · match x, h with
    | 0, h => cases h; exact ⟨f_is_number, sc_is_number, ck_is_number, fun a fd F => bd_is_number F⟩
    | 1, h => cases h; exact ⟨f_is_from, sc_is_from, ck_is_from, fun a fd F => bd_is_from F⟩
    | 2, h => cases h; exact ⟨f_is_between, sc_is_between, ck_is_between, fun a fd F => bd_is_between F⟩
    | 3, h => cases h; exact ⟨f_tuple_of, sc_tuple_of, ck_tuple_of, fun a fd F => bd_tuple_of F⟩
    | 4, h => cases h; exact ⟨f_is_tuple_of, sc_is_tuple_of, ck_is_tuple_of, fun a fd F => bd_is_tuple_of F⟩
    | 5, h => cases h; exact ⟨f_sure, sc_sure, ck_sure, fun a fd F => bd_sure F⟩
    | 6, h => cases h; exact ⟨f_is_row_of, sc_is_row_of, ck_is_row_of, fun a fd F => bd_is_row_of F⟩
    | 7, h => cases h; exact ⟨f_is_row, sc_is_row, ck_is_row, fun a fd F => bd_is_row F⟩
    | 8, h => cases h; exact ⟨f_zero_row, sc_zero_row, ck_zero_row, fun a fd F => bd_zero_row F⟩
    | 9, h => cases h; exact ⟨f_is_low_row, sc_is_low_row, ck_is_low_row, fun a fd F => bd_is_low_row F⟩
    | 10, h => cases h; exact ⟨f_sure_row, sc_sure_row, ck_sure_row, fun a fd F => bd_sure_row F⟩
    | 11, h => cases h; exact ⟨f_sure_rows, sc_sure_rows, ck_sure_rows, fun a fd F => bd_sure_rows F⟩
    | 12, h => cases h; exact ⟨f_look_long, sc_look_long, ck_look_long, fun a fd F => bd_look_long F⟩
    | 13, h => cases h; exact ⟨f_added, sc_added, ck_added, fun a fd F => bd_added F⟩
    | 14, h => cases h; exact ⟨f_at_most, sc_at_most, ck_at_most, fun a fd F => bd_at_most F⟩
    | 15, h => cases h; exact ⟨f_some_at_most, sc_some_at_most, ck_some_at_most, fun a fd F => bd_some_at_most F⟩
    | 16, h => cases h; exact ⟨f_least_of, sc_least_of, ck_least_of, fun a fd F => bd_least_of F⟩
    | 17, h => cases h; exact ⟨f_row_sum, sc_row_sum, ck_row_sum, fun a fd F => bd_row_sum F⟩
    | 18, h => cases h; exact ⟨f_is_at_most, sc_is_at_most, ck_is_at_most, fun a fd F => bd_is_at_most F⟩
    | 19, h => cases h; exact ⟨f_is_below, sc_is_below, ck_is_below, fun a fd F => bd_is_below F⟩
    | 20, h => cases h; exact ⟨f_least_rows, sc_least_rows, ck_least_rows, fun a fd F => bd_least_rows F⟩
    | 21, h => cases h; exact ⟨f_reaches, sc_reaches, ck_reaches, fun a fd F => bd_reaches F⟩
    | 22, h => cases h; exact ⟨f_sums_of, sc_sums_of, ck_sums_of, fun a fd F => bd_sums_of F⟩
    | 23, h => cases h; exact ⟨f_met, sc_met, ck_met, fun a fd F => bd_met F⟩
    | 24, h => cases h; exact ⟨f__law_box, sc__law_box, ck__law_box, fun a fd F => bd__law_box F⟩
    | 25, h => cases h; exact ⟨f__law_take, sc__law_take, ck__law_take, fun a fd F => bd__law_take F⟩
    | 26, h => cases h; exact ⟨f__law_cells, sc__law_cells, ck__law_cells, fun a fd F => bd__law_cells F⟩
    | 27, h => cases h; exact ⟨f__law_same, sc__law_same, ck__law_same, fun a fd F => bd__law_same F⟩
    | 28, h => cases h
    | 29, h => cases h
    | 30, h => cases h; exact ⟨f__law_added, sc__law_added, ck__law_added, fun a fd F => bd__law_added F⟩
    | 31, h => cases h; exact ⟨f__law_at_most, sc__law_at_most, ck__law_at_most, fun a fd F => bd__law_at_most F⟩
    | 32, h => cases h; exact ⟨f__law_least, sc__law_least, ck__law_least, fun a fd F => bd__law_least F⟩
    | 33, h => cases h; exact ⟨f__law_heard, sc__law_heard, ck__law_heard, fun a fd F => bd__law_heard F⟩
    | 34, h => cases h; exact ⟨f__law_row, sc__law_row, ck__law_row, fun a fd F => bd__law_row F⟩
    | 35, h => cases h; exact ⟨f__law_right, sc__law_right, ck__law_right, fun a fd F => bd__law_right F⟩
    | 36, h => cases h; exact ⟨f_law, sc_law, ck_law, fun a fd F => bd_law F⟩
    | n + 37, h => simp [dfs, dfL] at h
  · match x with
    | 0 => rfl
    | 1 => rfl
    | 2 => rfl
    | 3 => rfl
    | 4 => rfl
    | 5 => rfl
    | 6 => rfl
    | 7 => rfl
    | 8 => rfl
    | 9 => rfl
    | 10 => rfl
    | 11 => rfl
    | 12 => rfl
    | 13 => rfl
    | 14 => rfl
    | 15 => rfl
    | 16 => rfl
    | 17 => rfl
    | 18 => rfl
    | 19 => rfl
    | 20 => rfl
    | 21 => rfl
    | 22 => rfl
    | 23 => rfl
    | 24 => rfl
    | 25 => rfl
    | 26 => rfl
    | 27 => rfl
    | 28 => rfl
    | 29 => rfl
    | 30 => rfl
    | 31 => rfl
    | 32 => rfl
    | 33 => rfl
    | 34 => rfl
    | 35 => rfl
    | 36 => rfl
    | n + 37 => simp [nt, dfs, dfL]
  · intro x hx
    simp only [biNames, List.mem_cons, List.not_mem_nil, or_false] at hx
    rcases hx with rfl | rfl | rfl | rfl | rfl | rfl | rfl | rfl | rfl | rfl | rfl | rfl | rfl | rfl | rfl | rfl | rfl | rfl | rfl
    · exact b_len
    · exact b_all
    · exact b_any
    · exact b_sum
    · exact b_min
    · exact b_max
    · exact b_sorted
    · exact b_set
    · exact b_tuple
    · exact b_list
    · exact b_dict
    · exact b_abs
    · exact b_int
    · exact b_str
    · exact b_bool
    · exact b_isinstance
    · exact b_enumerate
    · exact b_zip
    · exact b_range
  · match c, h with
    | 0, h => cases h; exact ⟨c_Unfit, rfl, rfl, rfl, _, in_Unfit⟩
    | 1, h => cases h; exact ⟨c_OtherLength, rfl, rfl, rfl, _, in_OtherLength⟩
    | n + 2, h => cases h
  · match c, h with
    | 0, h => cases h; exact ⟨_, rfl⟩
    | 1, h => cases h; exact ⟨_, rfl⟩
    | n + 2, h => cases h
  · match c, c2, h, h2 with
    | 0, 0, h, h2 => cases h; cases h2; exact x_Unfit_Unfit
    | 0, 1, h, h2 => cases h; cases h2; exact x_Unfit_OtherLength
    | 1, 0, h, h2 => cases h; cases h2; exact x_OtherLength_Unfit
    | 1, 1, h, h2 => cases h; cases h2; exact x_OtherLength_OtherLength
    | n + 2, _, h, _ => cases h
    | _, n + 2, _, h => cases h
  · match x, h, h2 with
    | 0, h, h2 => cases h; cases h2; obtain ⟨t, z⟩ := g_MOST_NUMBER; exact .inl ⟨_, t, rfl, z⟩
    | 1, h, h2 => cases h; cases h2; obtain ⟨t, z⟩ := g_MOST_ENTRIES; exact .inl ⟨_, t, rfl, z⟩
    | 2, h, h2 => cases h; cases h2; obtain ⟨t, z⟩ := g_MOST_ROWS; exact .inl ⟨_, t, rfl, z⟩
    | 20, h, h2 => cases h; cases h2; exact .inr ⟨_, _, rfl, rfl, rfl⟩
    | 21, h, h2 => cases h; cases h2; exact .inr ⟨_, _, rfl, rfl, rfl⟩
    | 22, h, h2 => cases h; cases h2; exact .inr ⟨_, _, rfl, rfl, rfl⟩
    | 3, h, h2 => cases h
    | 4, h, h2 => cases h
    | 5, h, h2 => cases h
    | 6, h, h2 => cases h
    | 7, h, h2 => cases h
    | 8, h, h2 => cases h
    | 9, h, h2 => cases h
    | 10, h, h2 => cases h
    | 11, h, h2 => cases h
    | 12, h, h2 => cases h
    | 13, h, h2 => cases h
    | 14, h, h2 => cases h
    | 15, h, h2 => cases h
    | 16, h, h2 => cases h
    | 17, h, h2 => cases h
    | 18, h, h2 => cases h
    | 19, h, h2 => cases h
    | 23, h, h2 => cases h
    | 24, h, h2 => cases h
    | 25, h, h2 => cases h
    | 26, h, h2 => cases h
    | 27, h, h2 => cases h
    | 28, h, h2 => cases h
    | 29, h, h2 => cases h
    | 30, h, h2 => cases h
    | 31, h, h2 => cases h
    | 32, h, h2 => cases h
    | 33, h, h2 => cases h
    | 34, h, h2 => cases h
    | 35, h, h2 => cases h
    | 36, h, h2 => cases h
    | 37, h, h2 => cases h
    | 38, h, h2 => cases h
    | 39, h, h2 => cases h
    | n + 40, h, h2 => cases h
theorem bt {K : Frag} {qual : Str} {a : Addr} {fd : FuncData} (F : L2.Fun K d_law.name qual d_law.stm a fd) (s : Shared) (u : Value) : BindsTo s fd ⟨[u], []⟩ [("script", u)] := by
  obtain ⟨oc, od, kV, doc, pm, an, cdv, ct, osl, rfl, _⟩ := F.ex
  exact .of_eq rfl
end K03

set_option Elab.async false
set_option maxRecDepth 100000
open PySem PySem.W PyProof.Rows
set_option maxRecDepth 100000 in
set_option maxHeartbeats 0 in
theorem PySem.Challenge.cw_countsandfloors_k03_rows_and_their_least_holds : PySem.Challenge.rw_countsandfloors_k03_rows_and_their_least.Holds := by
  w_on; o_law; k_head; (case hw => w_witness2)
  k_fill
  refine Ev.law_walk (l := PySem.Challenge.rw_countsandfloors_k03_rows_and_their_least) (dfs := K03.dfs) (cls := K03.cls) (ef := fun _ => "") (M := K03.mo) (nt := K03.nt) (fl := 36) (dl := K03.d_law) K03.fuel rfl rfl ⟨rfl, by decide, by decide⟩ (fun w h Y => PySem.W.kIn_of Y) rfl rfl rfl ?F rfl (fun K q a fd => K03.bt) (by rw [K03.tb_eq]; exact K03.law_true)
  case F =>
    intro w mg h X Gn base
    refine K03.mod X Gn ?h0 ?h1 ?h2 ?h3 ?h4 ?h5 ?h6 ?h7 ?h8 ?h9 ?h10 ?h11 ?h12 ?h13 ?h14 ?h15 ?h16 ?h17 ?h18 ?h19 ?h20 ?h21 ?h22 ?h23 ?h24 ?h25 ?h26 ?h27 ?h28 ?h29 ?h30 ?h31 ?h32 ?h33 ?h34 ?h35 ?h36 ?h37 ?h38 ?h39 ?h40 ?h41 ?h42 ?h43 ?h44 ?h45 ?h46 ?h47 ?h48 ?h49 ?h50 ?h51 ?h52 ?h53 ?h54 ?h55 ?h56 ?h57 ?h58 ?h59 ?h60 ?h61 ?h62 ?h63 ?h64
    (case h0 => refine' Ev.DefAt.of ?a ?b ?c ?d; (case a => k_is); (case b => k_is); (case c => k_is); (case d => k_is))
    (case h1 => refine' Ev.DefAt.of ?a ?b ?c ?d; (case a => k_is); (case b => k_is); (case c => k_is); (case d => k_is))
    (case h2 => refine' Ev.DefAt.of ?a ?b ?c ?d; (case a => k_is); (case b => k_is); (case c => k_is); (case d => k_is))
    (case h3 => refine' Ev.DefAt.of ?a ?b ?c ?d; (case a => k_is); (case b => k_is); (case c => k_is); (case d => k_is))
    (case h4 => refine' Ev.DefAt.of ?a ?b ?c ?d; (case a => k_is); (case b => k_is); (case c => k_is); (case d => k_is))
    (case h5 => refine' Ev.DefAt.of ?a ?b ?c ?d; (case a => k_is); (case b => k_is); (case c => k_is); (case d => k_is))
    (case h6 => refine' Ev.DefAt.of ?a ?b ?c ?d; (case a => k_is); (case b => k_is); (case c => k_is); (case d => k_is))
    (case h7 => refine' Ev.DefAt.of ?a ?b ?c ?d; (case a => k_is); (case b => k_is); (case c => k_is); (case d => k_is))
    (case h8 => refine' Ev.DefAt.of ?a ?b ?c ?d; (case a => k_is); (case b => k_is); (case c => k_is); (case d => k_is))
    (case h9 => refine' Ev.DefAt.of ?a ?b ?c ?d; (case a => k_is); (case b => k_is); (case c => k_is); (case d => k_is))
    (case h10 => refine' Ev.DefAt.of ?a ?b ?c ?d; (case a => k_is); (case b => k_is); (case c => k_is); (case d => k_is))
    (case h11 => refine' Ev.DefAt.of ?a ?b ?c ?d; (case a => k_is); (case b => k_is); (case c => k_is); (case d => k_is))
    (case h12 => refine' Ev.DefAt.of ?a ?b ?c ?d; (case a => k_is); (case b => k_is); (case c => k_is); (case d => k_is))
    (case h13 => refine' Ev.DefAt.of ?a ?b ?c ?d; (case a => k_is); (case b => k_is); (case c => k_is); (case d => k_is))
    (case h14 => refine' Ev.DefAt.of ?a ?b ?c ?d; (case a => k_is); (case b => k_is); (case c => k_is); (case d => k_is))
    (case h15 => refine' Ev.DefAt.of ?a ?b ?c ?d; (case a => k_is); (case b => k_is); (case c => k_is); (case d => k_is))
    (case h16 => refine' Ev.DefAt.of ?a ?b ?c ?d; (case a => k_is); (case b => k_is); (case c => k_is); (case d => k_is))
    (case h17 => refine' Ev.DefAt.of ?a ?b ?c ?d; (case a => k_is); (case b => k_is); (case c => k_is); (case d => k_is))
    (case h18 => refine' Ev.DefAt.of ?a ?b ?c ?d; (case a => k_is); (case b => k_is); (case c => k_is); (case d => k_is))
    (case h19 => refine' Ev.DefAt.of ?a ?b ?c ?d; (case a => k_is); (case b => k_is); (case c => k_is); (case d => k_is))
    (case h20 => refine' Ev.DefAt.of ?a ?b ?c ?d; (case a => k_is); (case b => k_is); (case c => k_is); (case d => k_is))
    (case h21 => refine' Ev.DefAt.of ?a ?b ?c ?d; (case a => k_is); (case b => k_is); (case c => k_is); (case d => k_is))
    (case h22 => refine' Ev.DefAt.of ?a ?b ?c ?d; (case a => k_is); (case b => k_is); (case c => k_is); (case d => k_is))
    (case h23 => refine' Ev.DefAt.of ?a ?b ?c ?d; (case a => k_is); (case b => k_is); (case c => k_is); (case d => k_is))
    (case h24 => refine' Ev.DefAt.of ?a ?b ?c ?d; (case a => k_is); (case b => k_is); (case c => k_is); (case d => k_is))
    (case h25 => refine' Ev.DefAt.of ?a ?b ?c ?d; (case a => k_is); (case b => k_is); (case c => k_is); (case d => k_is))
    (case h26 => refine' Ev.DefAt.of ?a ?b ?c ?d; (case a => k_is); (case b => k_is); (case c => k_is); (case d => k_is))
    (case h27 => refine' Ev.DefAt.of ?a ?b ?c ?d; (case a => k_is); (case b => k_is); (case c => k_is); (case d => k_is))
    (case h28 => refine' Ev.DefAt.of ?a ?b ?c ?d; (case a => k_is); (case b => k_is); (case c => k_is); (case d => k_is))
    (case h29 => refine' Ev.DefAt.of ?a ?b ?c ?d; (case a => k_is); (case b => k_is); (case c => k_is); (case d => k_is))
    (case h30 => refine' Ev.DefAt.of ?a ?b ?c ?d; (case a => k_is); (case b => k_is); (case c => k_is); (case d => k_is))
    (case h31 => refine' Ev.DefAt.of ?a ?b ?c ?d; (case a => k_is); (case b => k_is); (case c => k_is); (case d => k_is))
    (case h32 => refine' Ev.DefAt.of ?a ?b ?c ?d; (case a => k_is); (case b => k_is); (case c => k_is); (case d => k_is))
    (case h33 => refine' Ev.DefAt.of ?a ?b ?c ?d; (case a => k_is); (case b => k_is); (case c => k_is); (case d => k_is))
    (case h34 => refine' Ev.DefAt.of ?a ?b ?c ?d; (case a => k_is); (case b => k_is); (case c => k_is); (case d => k_is))
    (case h35 => refine' Ev.ClsAt.of ?a ?b ?c ?d ?e ?f ?g ?i ?j ?k ?l (fun fd F => K03.bi_Unfit F); (case a => k_is); (case b => k_is); (case c => k_is); (case d => k_is); (case e => k_is); (case f => k_is); (case g => k_is); (case i => k_is); (case j => k_is); (case k => k_is); (case l => k_is))
    (case h36 => refine' Ev.ClsAt.of ?a ?b ?c ?d ?e ?f ?g ?i ?j ?k ?l (fun fd F => K03.bi_OtherLength F); (case a => k_is); (case b => k_is); (case c => k_is); (case d => k_is); (case e => k_is); (case f => k_is); (case g => k_is); (case i => k_is); (case j => k_is); (case k => k_is); (case l => k_is))
    (case h37 => k_is)
    (case h38 => k_is)
    (case h39 => k_is)
    (case h40 => k_is)
    (case h41 => k_is)
    (case h42 => k_is)
    (case h43 => k_is)
    (case h44 => k_is)
    (case h45 => k_is)
    (case h46 => k_is)
    (case h47 => k_is)
    (case h48 => k_is)
    (case h49 => k_is)
    (case h50 => k_is)
    (case h51 => k_is)
    (case h52 => k_is)
    (case h53 => k_is)
    (case h54 => k_is)
    (case h55 => k_is)
    (case h56 => k_is)
    (case h57 => first | rfl | k_is)
    (case h58 => refine' Ev.exm_of ?a ?b ?c ?d ?e ?f; (case a => k_is); (case b => k_is); (case c => k_is); (case d => k_is); (case e => k_is); (case f => first | k_is | rfl))
    (case h59 => refine' Ev.exm_of ?a ?b ?c ?d ?e ?f; (case a => k_is); (case b => k_is); (case c => k_is); (case d => k_is); (case e => k_is); (case f => first | k_is | rfl))
    (case h60 => refine' Ev.exm_of ?a ?b ?c ?d ?e ?f; (case a => k_is); (case b => k_is); (case c => k_is); (case d => k_is); (case e => k_is); (case f => first | k_is | rfl))
    (case h61 => refine' Ev.exm_of ?a ?b ?c ?d ?e ?f; (case a => k_is); (case b => k_is); (case c => k_is); (case d => k_is); (case e => k_is); (case f => first | k_is | rfl))
    (case h62 => refine' Ev.int_of ?a; (case a => k_is))
    (case h63 => refine' Ev.int_of ?a; (case a => k_is))
    (case h64 => refine' Ev.int_of ?a; (case a => k_is))
#print axioms PySem.Challenge.cw_countsandfloors_k03_rows_and_their_least_holds
