import PyProof.Rows.All
import Wide.All
import OpenK.AllK
import Wide.FinOn
import HandS.ForMost
import HandS.Deep
import HandS.TupAny
import HandS.TupLe
import HandS.IsInst
import HandS.Zip
import HandS.Iter
import KE.KIndexOf
import PyProof.StrBlock2
import HandS.Conv
import HandS.Style
import HandS.More
import HandS.NoneIn
import HandS.Text
import HandS.Dict
import HandS.SetKeys
import KE.GoesEnum
import HandS.Rev
import PyProof.ListNew
import PySem.Challenge.RW_wroughtline_k02_words
set_option Elab.async false
set_option maxRecDepth 100000
set_option maxHeartbeats 8000000
set_option linter.all false
/-! Part A: the small language, its values and what must hold for a run of it (weakest preconditions) -/
namespace Rf
open PySem

inductive D where
  | non | bl (b : Bool) | int (i : Int) | str (s : List Nat) | tup (xs : List D) | fro (xs : List D) | obj (n : Nat)

mutual
def D.beq : D → D → Bool
  | .non, .non => true
  | .bl a, .bl b => decide (a = b)
  | .int a, .int b => decide (a = b)
  | .str a, .str b => decide (a = b)
  | .tup a, .tup b => D.beqL a b
  | .fro a, .fro b => D.beqL a b
  | .obj a, .obj b => decide (a = b)
  | _, _ => false
def D.beqL : List D → List D → Bool
  | [], [] => true
  | x :: xs, y :: ys => D.beq x y && D.beqL xs ys
  | _, _ => false
end
mutual
theorem D.beq_iff : ∀ a b : D, D.beq a b = true ↔ a = b
  | .non, b => by cases b <;> simp [D.beq]
  | .bl a, b => by cases b <;> simp [D.beq]
  | .int a, b => by cases b <;> simp [D.beq]
  | .str a, b => by cases b <;> simp [D.beq]
  | .tup a, b => by cases b <;> simp [D.beq, D.beqL_iff]
  | .fro a, b => by cases b <;> simp [D.beq, D.beqL_iff]
  | .obj a, b => by cases b <;> simp [D.beq]
theorem D.beqL_iff : ∀ a b : List D, D.beqL a b = true ↔ a = b
  | [], b => by cases b <;> simp [D.beqL]
  | x :: xs, b => by cases b <;> simp [D.beqL, D.beq_iff, D.beqL_iff xs]
end
instance : DecidableEq D := fun a b => decidable_of_iff _ (D.beq_iff a b)
/-- what a table holds at a key -/
def dGet (kvs : List (D × D)) (k : D) : Option D := (kvs.find? fun p => decide (p.1 = k)).map (·.2)
/-- the table with v at k: in its place, or behind -/
def dPut (kvs : List (D × D)) (k v : D) : List (D × D) := if (dGet kvs k).isSome then kvs.map fun p => if p.1 = k then (p.1, v) else p else kvs ++ [(k, v)]
/-- a key that is an int or a text -/
def keyK : D → Option L2.Key
  | .int i => some (.inl i)
  | .str s => some (.inr ⟨s.toArray⟩)
  | _ => none
/-- what may be a key in a dict of that kind -/
def dOk (t : Bool) (k : D) : Prop := t = false ∧ (keyK k).isSome = true
def D.isN : D → Bool
  | .non => true
  | _ => false

inductive O where
  | lst (xs : List D)
  | dic (t : Bool) (kvs : List (D × D))

abbrev Sto := List O
abbrev Env := List (Option D)
abbrev KD := D → Sto → Prop
abbrev KE := Env → Sto → Prop
/-- what is wanted of an exception: its class's place, its arguments, the store -/
abbrev XD := Nat → List D → Sto → Prop

inductive BOp | add | sub | mul | fdiv | mod
  deriving DecidableEq
inductive COp | eq | ne | lt | le | gt | ge | is | isnt | inn | nin
  deriving DecidableEq
inductive Bi | len | intT | sum | tupleT | listT | all | any | min2 | max2 | abs | boolT | sorted | min1 | max1 | strT | repr
  deriving DecidableEq
inductive Me | append | extend | pop | join | insert | index | split | get | setdefault
  deriving DecidableEq
inductive Ty | int | bool | str | tuple | list
  deriving DecidableEq

inductive IE where
  | nil | cons (a r : IE)
  | var (i : Nat) | int (i : Int) | str (s : List Nat) | bl (b : Bool) | non
  | glob (i : Nat)
  | tup (es : IE) | lst (es : IE)
  | bin (op : BOp) (a b : IE) | neg (a : IE)
  | cmp (op : COp) (a b : IE) | chain (op op' : COp) (a b c : IE)
  | and (es : IE) | or (es : IE) | not (a : IE) | ife (c a b : IE)
  | sub (a i : IE) | slc (a lo hi : IE)
  | call (f : Nat) (es : IE)
  | bi (b : Bi) (es : IE)
  | isi (e : IE) (t : Ty)
  | meth (m : Me) (o es : IE)
  | dnew (t : Bool) | trv (tp : Bool) (a : IE)
  | rl1 (tp : Bool) (a : IE) | rl2 (tp : Bool) (a b : IE) | rev (a : IE)
  | comp (vs : List Nat) (t it ifs elt : IE)
  | gc (e : IE)
  | tn (i : Nat) | tt (ts : IE)
  | iv (e : IE) | ir1 (a : IE) | ir2 (a b : IE) | ir3 (a b c : IE) | ien (e : IE) | izip (a b : IE) | irev (e : IE)

inductive IS where
  | skip | seq (a r : IS)
  | asg (t e : IE) | asl (ts e : IE) | par2 (i j : Nat) (a b : IE) | par3 (i j l : Nat) (a b c : IE) | sto (o i e : IE)
  | expr (e : IE) | ret (e : IE) | retn
  | ite (c : IE) (a b : IS)
  | forr (t it : IE) (b : IS) | whl (c : IE) (b : IS)
  | brk | cont

mutual
def D.low (m : Nat) : D → Bool
  | .tup xs => D.lowL m xs
  | .fro xs => D.lowL m xs
  | .obj n => decide (n < m)
  | _ => true
def D.lowL (m : Nat) : List D → Bool
  | [] => true
  | x :: xs => D.low m x && D.lowL m xs
end
def O.low (m : Nat) : O → Bool
  | .lst xs => D.lowL m xs
  | .dic _ kvs => kvs.all fun p => p.1.low m && p.2.low m

/-- give back d; the store is cut at m: nothing that is left leans on what is dropped -/
def gcTo (st : Sto) (d : D) (st' : Sto) (K : KD) : Prop :=
  ∃ m, st.length ≤ m ∧ m ≤ st'.length ∧ d.low m = true ∧ (∀ i, i < m → (i < st.length ∧ st'[i]? = st[i]?) ∨ ∃ o, st'[i]? = some o ∧ o.low m = true) ∧ K d (st'.take m)

def CMulD (i j : Int) : Prop := (-(2 ^ 64) < i ∧ i < 2 ^ 64) ∨ (-(2 ^ 64) < j ∧ j < 2 ^ 64)

/-- what data a value is, as PyData -/
inductive Dat (st : Sto) : D → PyData → Prop
  | non : Dat st .non .none
  | bl (b : Bool) : Dat st (.bl b) (.bool b)
  | int (i : Int) : Dat st (.int i) (.int i)
  | str (s : List Nat) : Dat st (.str s) (.str ⟨s.toArray⟩)
  | tup {xs : List D} {ps : List PyData} : (h : xs.length = ps.length) → (∀ (i : Nat) (x : D) (p : PyData), xs[i]? = some x → ps[i]? = some p → Dat st x p) → Dat st (.tup xs) (.tuple ps)
  | fro {xs : List D} {ps : List PyData} : (h : xs.length = ps.length) → (∀ (i : Nat) (x : D) (p : PyData), xs[i]? = some x → ps[i]? = some p → Dat st x p) → Dat st (.fro xs) (.list ps)
  | obj {n : Nat} {xs : List D} {ps : List PyData} : st[n]? = some (.lst xs) → (h : xs.length = ps.length) → (∀ (i : Nat) (x : D) (p : PyData), xs[i]? = some x → ps[i]? = some p → Dat st x p) → Dat st (.obj n) (.list ps)

/-- a row told n times over -/
def repD {α : Type} (n : Nat) (s : List α) : List α := (List.replicate n s).flatten
/-- a number's text -/
def strI (i : Int) : List Nat := ((toString i : String) : Str).cps.toList
def opB (op : BOp) (x y : D) (st : Sto) (K : KD) : Prop :=
  match op, x, y with
  | .add, .int i, .int j => K (.int (i + j)) st
  | .sub, .int i, .int j => K (.int (i - j)) st
  | .mul, .int i, .int j => CMulD i j ∧ K (.int (i * j)) st
  | .fdiv, .int i, .int j => (0 < j ∧ j < 1073741824) ∧ K (.int (i / j)) st
  | .mod, .int i, .int j => 0 < j ∧ K (.int (i % j)) st
  | .add, .str a, .str b => a.length + b.length ≤ 16777216 ∧ K (.str (a ++ b)) st
  | .add, .tup a, .tup b => a.length + b.length ≤ 16777216 ∧ K (.tup (a ++ b)) st
  | .add, .obj n, .obj m => ∃ xs ys, st[n]? = some (.lst xs) ∧ st[m]? = some (.lst ys) ∧ xs.length + ys.length ≤ 16777216 ∧ K (.obj st.length) (st ++ [.lst (xs ++ ys)])
  | .mul, .str s, .int k => -(2 ^ 63) ≤ k ∧ k < 2 ^ 63 ∧ s.length * k.toNat ≤ 16777216 ∧ K (.str (repD k.toNat s)) st
  | .mul, .obj n, .int k => ∃ xs, st[n]? = some (.lst xs) ∧ -(2 ^ 63) ≤ k ∧ k < 2 ^ 63 ∧ xs.length * k.toNat ≤ 16777216 ∧ K (.obj st.length) (st ++ [.lst (repD k.toNat xs)])
  | _, _, _ => False

def seqD (st : Sto) (x : D) (xs : List D) : Prop :=
  match x with
  | .tup ys => xs = ys
  | .fro ys => xs = ys
  | .obj n => st[n]? = some (.lst xs)
  | _ => False
/-- x in the object n -/
def inO (neg : Bool) (x : D) (n : Nat) (st : Sto) (K : KD) : Prop :=
  (∃ (ns : List Int) (i : Int), x = .int i ∧ st[n]? = some (.lst (ns.map D.int)) ∧ K (.bl (if neg then !decide (i ∈ ns) else decide (i ∈ ns))) st) ∨
  (∃ (ss : List (List Nat)) (s : List Nat), x = .str s ∧ st[n]? = some (.lst (ss.map D.str)) ∧ K (.bl (if neg then !decide (s ∈ ss) else decide (s ∈ ss))) st) ∨
  (∃ (xs : List D) (p : PyData) (ps : List PyData), x = .tup xs ∧ Dat st (.tup xs) p ∧ Dat st (.obj n) (.list ps) ∧ SeqAt.shaped p = true ∧ SeqAt.shaped (.list ps) = true ∧ K (.bl (if neg then !ps.any fun z => PyData.eqv z p else ps.any fun z => PyData.eqv z p)) st) ∨
  ∃ (t : Bool) (kvs : List (D × D)), st[n]? = some (.dic t kvs) ∧ dOk t x ∧ K (.bl (if neg then !(dGet kvs x).isSome else (dGet kvs x).isSome)) st
def opC (op : COp) (x y : D) (st : Sto) (K : KD) : Prop :=
  match op, x, y with
  | .eq, .int i, .int j => K (.bl (decide (i = j))) st
  | .ne, .int i, .int j => K (.bl (!decide (i = j))) st
  | .lt, .int i, .int j => K (.bl (decide (i < j))) st
  | .le, .int i, .int j => K (.bl (decide (i ≤ j))) st
  | .gt, .int i, .int j => K (.bl (decide (j < i))) st
  | .ge, .int i, .int j => K (.bl (decide (j ≤ i))) st
  | .eq, .str a, .str b => K (.bl (decide (a = b))) st
  | .ne, .str a, .str b => K (.bl (!decide (a = b))) st
  | .eq, .bl a, .bl b => K (.bl (decide (a = b))) st
  | .ne, .bl a, .bl b => K (.bl (!decide (a = b))) st
  | .inn, .str [c], .str z => K (.bl (decide (c ∈ z))) st
  | .nin, .str [c], .str z => K (.bl (!decide (c ∈ z))) st
  | .inn, x, .obj n => inO false x n st K
  | .nin, x, .obj n => inO true x n st K
  | .inn, .int i, y => ∃ ns : List Int, seqD st y (ns.map D.int) ∧ K (.bl (decide (i ∈ ns))) st
  | .nin, .int i, y => ∃ ns : List Int, seqD st y (ns.map D.int) ∧ K (.bl (!decide (i ∈ ns))) st
  | .inn, .str s, y => ∃ ss : List (List Nat), seqD st y (ss.map D.str) ∧ K (.bl (decide (s ∈ ss))) st
  | .nin, .str s, y => ∃ ss : List (List Nat), seqD st y (ss.map D.str) ∧ K (.bl (!decide (s ∈ ss))) st
  | .is, .bl a, .bl b => K (.bl (decide (a = b))) st
  | .isnt, .bl a, .bl b => K (.bl (!decide (a = b))) st
  | .is, x, .non => K (.bl x.isN) st
  | .isnt, x, .non => K (.bl (!x.isN)) st
  | .eq, x, y => ∃ p q, Dat st x p ∧ Dat st y q ∧ SeqAt.shaped p = true ∧ SeqAt.shaped q = true ∧ K (.bl (PyData.eqv p q)) st
  | .ne, x, y => ∃ p q, Dat st x p ∧ Dat st y q ∧ SeqAt.shaped p = true ∧ SeqAt.shaped q = true ∧ K (.bl (!PyData.eqv p q)) st
  | _, _, _ => False

/-- the place of an index of any sign -/
def ixD (n : Nat) (i : Int) : Option Nat := if 0 ≤ i then (if i < n then some i.toNat else none) else if -(n : Int) ≤ i then some (i + n).toNat else none
def atD {α : Type} (xs : List α) (i : Int) : Option α := (ixD xs.length i).bind fun j => xs[j]?
/-- the object n at k -/
def ixO (n : Nat) (k : D) (st : Sto) (K : KD) : Prop :=
  (∃ xs v i, k = .int i ∧ st[n]? = some (.lst xs) ∧ atD xs i = some v ∧ K v st) ∨
  ∃ (t : Bool) (kvs : List (D × D)) (v : D), st[n]? = some (.dic t kvs) ∧ dOk t k ∧ dGet kvs k = some v ∧ K v st
def opIx (x y : D) (st : Sto) (K : KD) : Prop :=
  match x, y with
  | .str s, .int i => s.length ≤ 16777216 ∧ ∃ c, atD s i = some c ∧ K (.str [c]) st
  | .obj n, k => ixO n k st K
  | x, .int i => ∃ xs v, seqD st x xs ∧ atD xs i = some v ∧ K v st
  | _, _ => False
def sIxD (n : Nat) (dflt : Nat) : Option Int → Nat
  | none => dflt
  | some i => if i < 0 then (i + n).toNat else min i.toNat n
def cutD {α : Type} (xs : List α) (lo hi : Option Int) : List α := (xs.drop (sIxD xs.length 0 lo)).take (sIxD xs.length xs.length hi - sIxD xs.length 0 lo)
def opSl (x : D) (lo hi : Option Int) (st : Sto) (K : KD) : Prop :=
  match x with
  | .str s => s.length ≤ 16777216 ∧ K (.str (cutD s lo hi)) st
  | .tup xs => K (.tup (cutD xs lo hi)) st
  | .fro xs => K (.obj st.length) (st ++ [.lst (cutD xs lo hi)])
  | .obj n => ∃ xs, st[n]? = some (.lst xs) ∧ K (.obj st.length) (st ++ [.lst (cutD xs lo hi)])
  | _ => False
def opBi (b : Bi) (xs : List D) (st : Sto) (K : KD) : Prop :=
  match b, xs with
  | .len, [.str s] => s.length ≤ 16777216 ∧ K (.int s.length) st
  | .len, [x] => (∃ ys, seqD st x ys ∧ K (.int ys.length) st) ∨ ∃ n t kvs, x = .obj n ∧ st[n]? = some (.dic t kvs) ∧ K (.int (List.length kvs)) st
  | .intT, [.int i] => K (.int i) st
  | .intT, [.bl b] => K (.int (if b then 1 else 0)) st
  | .boolT, [.int i] => K (.bl (i != 0)) st
  | .boolT, [.bl b] => K (.bl b) st
  | .sum, [.obj n] => ∃ ns : List Int, st[n]? = some (.lst (ns.map D.int)) ∧ K (.int ns.sum) st
  | .all, [.obj n] => ∃ bs : List Bool, st[n]? = some (.lst (bs.map D.bl)) ∧ K (.bl (bs.all id)) st
  | .any, [.obj n] => ∃ bs : List Bool, st[n]? = some (.lst (bs.map D.bl)) ∧ K (.bl (bs.any id)) st
  | .tupleT, [.tup xs] => K (.tup xs) st
  | .tupleT, [.str s] => s.length ≤ 16777216 ∧ K (.tup (s.map fun c => .str [c])) st
  | .tupleT, [.obj n] => ∃ xs, st[n]? = some (.lst xs) ∧ K (.tup xs) st
  | .listT, [x] => ∃ ys, seqD st x ys ∧ K (.obj st.length) (st ++ [.lst ys])
  | .min2, [.int i, .int j] => K (.int (if j < i then j else i)) st
  | .max2, [.int i, .int j] => K (.int (if j > i then j else i)) st
  | .abs, [.int i] => K (.int (if i < 0 then -i else i)) st
  | .strT, [.int i] => i.natAbs.log2 < 1920 ∧ K (.str (strI i)) st
  | .repr, [.tup xs] => ∃ p, Dat st (.tup xs) p ∧ p.showable = true ∧ p.hasDict = false ∧ p.depth ≤ 60 ∧ p.shown.length ≤ 16777216 ∧ K (.str p.shown.cps.toList) st
  | .repr, [.obj n] => ∃ p, Dat st (.obj n) p ∧ p.showable = true ∧ p.hasDict = false ∧ p.depth ≤ 60 ∧ p.shown.length ≤ 16777216 ∧ K (.str p.shown.cps.toList) st
  | _, _ => False
def joinD (s : List Nat) : List (List Nat) → List Nat
  | [] => []
  | [p] => p
  | p :: q :: r => p ++ (s ++ joinD s (q :: r))
def opMe (m : Me) (x : D) (vs : List D) (st : Sto) (K : KD) : Prop :=
  match m, x, vs with
  | .append, .obj n, [y] => ∃ xs, st[n]? = some (.lst xs) ∧ xs.length < 16777216 ∧ K .non (st.set n (.lst (xs ++ [y])))
  | .extend, .obj n, [.obj m] => ∃ xs ys, st[n]? = some (.lst xs) ∧ st[m]? = some (.lst ys) ∧ xs.length + ys.length ≤ 16777216 ∧ K .non (st.set n (.lst (xs ++ ys)))
  | .pop, .obj n, [] => ∃ xs y, st[n]? = some (.lst xs) ∧ xs[xs.length - 1]? = some y ∧ K y (st.set n (.lst xs.dropLast))
  | .join, .str a, [x] => ∃ ys : List (List Nat), seqD st x (ys.map D.str) ∧ (ys.map List.length).sum + ys.length * a.length ≤ 16777216 ∧ K (.str (joinD a ys)) st
  | .pop, .obj n, [.int i] => ∃ xs k y, st[n]? = some (.lst xs) ∧ -(2 ^ 63) ≤ i ∧ i < 2 ^ 63 ∧ ixD xs.length i = some k ∧ xs[k]? = some y ∧ K y (st.set n (.lst (xs.eraseIdx k)))
  | .insert, .obj n, [.int i, y] => ∃ xs, st[n]? = some (.lst xs) ∧ xs.length < 16777216 ∧ 0 ≤ i ∧ i < 2 ^ 63 ∧ K .non (st.set n (.lst (xs.take i.toNat ++ [y] ++ xs.drop i.toNat)))
  | .index, x, [.int i] => ∃ ns : List Int, seqD st x (ns.map D.int) ∧ i ∈ ns ∧ K (.int (ns.idxOf i : Nat)) st
  | .index, x, [.str s] => ∃ ss : List (List Nat), seqD st x (ss.map D.str) ∧ s ∈ ss ∧ K (.int (ss.idxOf s : Nat)) st
  | .split, .str a, [.str b] => b ≠ [] ∧ a.length + 2 ≤ 16777216 ∧ K (.obj st.length) (st ++ [.lst ((PySem.Txt.split ⟨a.toArray⟩ ⟨b.toArray⟩).map fun z => D.str z.cps.toList)])
  | .split, .str a, [] => a.length + 2 ≤ 16777216 ∧ K (.obj st.length) (st ++ [.lst ((PySem.Txt.words ⟨a.toArray⟩).map fun z => D.str z.cps.toList)])
  | .get, .obj n, [k] => ∃ t kvs, st[n]? = some (.dic t kvs) ∧ dOk t k ∧ K ((dGet kvs k).getD .non) st
  | .get, .obj n, [k, x] => ∃ t kvs, st[n]? = some (.dic t kvs) ∧ dOk t k ∧ K ((dGet kvs k).getD x) st
  | .setdefault, .obj n, [k, x] => ∃ t kvs, st[n]? = some (.dic t kvs) ∧ dOk t k ∧ kvs.length < 16777216 ∧ (∀ v, dGet kvs k = some v → K v st) ∧ (dGet kvs k = none → K x (st.set n (.dic t (dPut kvs k x))))
  | _, _, _ => False
/-- the receiver of a method is of its class -/
def tyM (m : Me) (x : D) (st : Sto) : Prop :=
  match m, x with
  | .join, .str _ => True
  | .join, _ => False
  | .split, .str _ => True
  | .split, _ => False
  | .index, .tup _ => True
  | .index, .fro _ => True
  | .get, .obj n => ∃ t kvs, st[n]? = some (.dic t kvs)
  | .setdefault, .obj n => ∃ t kvs, st[n]? = some (.dic t kvs)
  | _, .obj n => ∃ xs, st[n]? = some (.lst xs)
  | _, _ => False
def opSet (o i v : D) (st : Sto) (K : Sto → Prop) : Prop :=
  match o, i with
  | .obj n, k => (∃ xs j i, k = .int i ∧ st[n]? = some (.lst xs) ∧ ixD xs.length i = some j ∧ K (st.set n (.lst (xs.set j v)))) ∨
      ∃ t kvs, st[n]? = some (.dic t kvs) ∧ dOk t k ∧ kvs.length < 16777216 ∧ K (st.set n (.dic t (dPut kvs k v)))
  | _, _ => False
def opIs (t : Ty) (x : D) (st : Sto) (K : KD) : Prop :=
  match t, x with
  | .int, .int _ => K (.bl true) st
  | .int, .bl _ => K (.bl true) st
  | .bool, .bl _ => K (.bl true) st
  | .str, .str _ => K (.bl true) st
  | .tuple, .tup _ => K (.bl true) st
  | .list, .fro _ => K (.bl true) st
  | .list, .obj n => ∃ xs, st[n]? = some (.lst xs) ∧ K (.bl true) st
  | .int, .obj n => ∃ xs, st[n]? = some (.lst xs) ∧ K (.bl false) st
  | .bool, .obj n => ∃ xs, st[n]? = some (.lst xs) ∧ K (.bl false) st
  | .str, .obj n => ∃ xs, st[n]? = some (.lst xs) ∧ K (.bl false) st
  | .tuple, .obj n => ∃ xs, st[n]? = some (.lst xs) ∧ K (.bl false) st
  | _, _ => K (.bl false) st

def rdV (env : Env) (i : Nat) (st : Sto) (K : KD) : Prop := ∃ d, env[i]? = some (some d) ∧ K d st

/-- what a loop walks: the items; the lists that must stand still -/
structure Itm where
  xs : List D
  own : List (Nat × List D)
/-- what a value gives to a loop -/
def opIt (d : D) (st : Sto) (K : Itm → Sto → Prop) : Prop :=
  match d with
  | .tup xs => K ⟨xs, []⟩ st
  | .fro xs => K ⟨xs, []⟩ st
  | .str s => K ⟨s.map fun c => .str [c], []⟩ st
  | .obj n => ∃ xs, st[n]? = some (.lst xs) ∧ K ⟨xs, [(n, xs)]⟩ st
  | _ => False
def opZip (d d' : D) (st : Sto) (K : Itm → Sto → Prop) : Prop :=
  match d, d' with
  | .tup xs, .tup ys => K ⟨(xs.zip ys).map fun p => .tup [p.1, p.2], []⟩ st
  | .tup xs, .obj m => ∃ ys, st[m]? = some (.lst ys) ∧ K ⟨(xs.zip ys).map fun p => .tup [p.1, p.2], [(m, ys)]⟩ st
  | .obj n, .tup ys => ∃ xs, st[n]? = some (.lst xs) ∧ K ⟨(xs.zip ys).map fun p => .tup [p.1, p.2], [(n, xs)]⟩ st
  | .obj n, .obj m => ∃ xs ys, st[n]? = some (.lst xs) ∧ st[m]? = some (.lst ys) ∧ K ⟨(xs.zip ys).map fun p => .tup [p.1, p.2], [(n, xs), (m, ys)]⟩ st
  | _, _ => False
/-- enumerate(x): the pairs of place and item -/
def opEn (d : D) (st : Sto) (K : Itm → Sto → Prop) : Prop :=
  match d with
  | .obj n => ∃ xs, st[n]? = some (.lst xs) ∧ K ⟨xs.zipIdx.map fun p => .tup [.int p.2, p.1], [(n, xs)]⟩ st
  | .tup xs => K ⟨xs.zipIdx.map fun p => .tup [.int p.2, p.1], []⟩ st
  | _ => False
/-- reversed(x) -/
def opRv (d : D) (st : Sto) (K : Itm → Sto → Prop) : Prop :=
  match d with
  | .obj n => ∃ xs, st[n]? = some (.lst xs) ∧ K ⟨xs.reverse, [(n, xs)]⟩ st
  | .tup xs => K ⟨xs.reverse, []⟩ st
  | _ => False
def Itm.still (J : Itm) (st : Sto) : Prop := ∀ p ∈ J.own, st[p.1]? = some (.lst p.2)

def argN : IE → Nat
  | .cons _ r => argN r + 1
  | _ => 0

def wT : IE → D → Env → (Env → Prop) → Prop
  | .tn i, d, env, K => K (env.set i (some d))
  | .tt ts, d, env, K => ∃ xs, d = .tup xs ∧ wTs ts xs env K
  | _, _, _, _ => False
where wTs : IE → List D → Env → (Env → Prop) → Prop
  | .nil, xs, env, K => xs = [] ∧ K env
  | .cons t r, xs, env, K => ∃ y ys, xs = y :: ys ∧ wT t y env fun env' => wTs r ys env' K
  | _, _, _, _ => False

def wipeE (env : Env) : List Nat → Env
  | [] => env
  | v :: vs => (wipeE env vs).set v none

/-- a loop over what is walked, by an invariant of its own -/
def loopW (J : Itm) (env : Env) (st : Sto) (nx : KE) (turn : D → Env → Sto → KE → Prop) : Prop :=
  ∃ W : Nat → Env → Sto → Prop, W 0 env st ∧ ∀ i env st, W i env st → J.still st ∧ (J.xs.length ≤ i → nx env st) ∧ ∀ x, J.xs[i]? = some x → turn x env st (W (i + 1))
/-- a list comprehension: the new list stands behind the store -/
def compW (J : Itm) (st1 : Sto) (K : KD) (turn : D → Sto → KD → (Sto → Prop) → Prop) : Prop :=
  ∃ W : Nat → Sto → Prop, W 0 (st1 ++ [.lst []]) ∧ ∀ i st2, W i st2 → J.still st2 ∧ (J.xs.length ≤ i → K (.obj st1.length) st2) ∧
    ∀ x, J.xs[i]? = some x → turn x st2 (fun y st4 => ∃ acc, st4[st1.length]? = some (.lst acc) ∧ acc.length < 16777216 ∧ W (i + 1) (st4.set st1.length (.lst (acc ++ [y])))) (W (i + 1))

abbrev Calls := Nat → List D → Sto → KD → XD → Prop

section
variable (G : List D) (C : Calls)
mutual
def wE : IE → XD → Env → Sto → KD → Prop
  | .var i, _, env, st, K => rdV env i st K
  | .int i, _, _, st, K => K (.int i) st
  | .str s, _, _, st, K => K (.str s) st
  | .bl b, _, _, st, K => K (.bl b) st
  | .non, _, _, st, K => K .non st
  | .glob i, _, _, st, K => ∃ d, G[i]? = some d ∧ K d st
  | .tup es, E, env, st, K => wEs es E env st fun ds st1 => ds.length ≤ 16777216 ∧ K (.tup ds) st1
  | .lst es, E, env, st, K => wEs es E env st fun ds st1 => ds.length ≤ 16777216 ∧ K (.obj st1.length) (st1 ++ [.lst ds])
  | .bin op a b, E, env, st, K => wE a E env st fun x st1 => wE b E env st1 fun y st2 => opB op x y st2 K
  | .neg a, E, env, st, K => wE a E env st fun x st1 => ∃ i, x = .int i ∧ K (.int (-i)) st1
  | .cmp op a b, E, env, st, K => wE a E env st fun x st1 => wE b E env st1 fun y st2 => opC op x y st2 K
  | .chain op op' a b c, E, env, st, K => wE a E env st fun x st1 => wE b E env st1 fun y st2 => opC op x y st2 fun d st3 => ∃ k, d = .bl k ∧
      (k = true → wE c E env st3 fun z st4 => opC op' y z st4 K) ∧ (k = false → K (.bl false) st3)
  | .and es, E, env, st, K => wAnd es E env st K
  | .or es, E, env, st, K => wOr es E env st K
  | .not a, E, env, st, K => wE a E env st fun x st1 => ∃ k, x = .bl k ∧ K (.bl (!k)) st1
  | .ife c a b, E, env, st, K => wE c E env st fun x st1 => ∃ k, x = .bl k ∧ (k = true → wE a E env st1 K) ∧ (k = false → wE b E env st1 K)
  | .sub a i, E, env, st, K => wE a E env st fun x st1 => wE i E env st1 fun y st2 => opIx x y st2 K
  | .slc a lo hi, E, env, st, K => wE a E env st fun x st1 => wO lo E env st1 fun l st2 => wO hi E env st2 fun h st3 => opSl x l h st3 K
  | .call f es, E, env, st, K => wEs es E env st fun ds st1 => ds.length = argN es ∧ C f ds st1 K E
  | .bi b es, E, env, st, K => wEs es E env st fun ds st1 => opBi b ds st1 K
  | .isi e t, E, env, st, K => wE e E env st fun x st1 => opIs t x st1 K
  | .meth m o es, E, env, st, K => wE o E env st fun x st1 => tyM m x st1 ∧ wEs es E env st1 fun ds st2 => opMe m x ds st2 K
  | .dnew t, E, env, st, K => K (.obj st.length) (st ++ [.dic t []])
  | .trv tp a, E, env, st, K => wE a E env st fun x st1 => ∃ n xs, x = .obj n ∧ st1[n]? = some (.lst xs) ∧ if tp then K (.tup xs.reverse) st1 else K (.obj st1.length) (st1 ++ [.lst xs.reverse])
  | .rl1 tp a, E, env, st, K => wE a E env st fun d st1 => ∃ j : Int, d = .int j ∧ (-(2 ^ 62) ≤ j ∧ j ≤ 16777216) ∧
      if tp then K (.tup ((List.range j.toNat).map fun k : Nat => .int k)) st1 else K (.obj st1.length) (st1 ++ [.lst ((List.range j.toNat).map fun k : Nat => .int k)])
  | .rl2 tp a b, E, env, st, K => wE a E env st fun d st1 => wE b E env st1 fun d' st2 => ∃ i j : Int, d = .int i ∧ d' = .int j ∧ (-(2 ^ 62) ≤ i ∧ i < 2 ^ 62 ∧ -(2 ^ 62) ≤ j ∧ j < 2 ^ 62 ∧ j - i ≤ 16777216) ∧
      if tp then K (.tup ((List.range (j - i).toNat).map fun k : Nat => .int (i + k))) st2 else K (.obj st2.length) (st2 ++ [.lst ((List.range (j - i).toNat).map fun k : Nat => .int (i + k))])
  | .rev a, E, env, st, K => wE a E env st fun x st1 => ∃ xs, seqD st1 x xs ∧ (∀ ys, x ≠ .tup ys) ∧ K (.obj st1.length) (st1 ++ [.lst xs.reverse])
  | .comp vs t it ifs elt, E, env, st, K => wI it E env st fun J st1 => compW J st1 K fun x st2 yes no =>
      wT t x (wipeE env vs) fun env2 => wIf ifs (fun _ _ _ => False) env2 st2 fun b st3 => (b = true → wE elt (fun _ _ _ => False) env2 st3 yes) ∧ (b = false → no st3)
  | .gc e, E, env, st, K => wE e E env st fun d st' => gcTo st d st' K
  | _, _, _, _, _ => False
def wEs : IE → XD → Env → Sto → (List D → Sto → Prop) → Prop
  | .nil, _, _, st, K => K [] st
  | .cons a r, E, env, st, K => wE a E env st fun x st1 => wEs r E env st1 fun xs st2 => K (x :: xs) st2
  | _, _, _, _, _ => False
def wAnd : IE → XD → Env → Sto → KD → Prop
  | .cons a .nil, E, env, st, K => wE a E env st K
  | .cons a r, E, env, st, K => wE a E env st fun x st1 => ∃ k, x = .bl k ∧ (k = true → wAnd r E env st1 K) ∧ (k = false → K (.bl false) st1)
  | _, _, _, _, _ => False
def wOr : IE → XD → Env → Sto → KD → Prop
  | .cons a .nil, E, env, st, K => wE a E env st K
  | .cons a r, E, env, st, K => wE a E env st fun x st1 => ∃ k, x = .bl k ∧ (k = true → K (.bl true) st1) ∧ (k = false → wOr r E env st1 K)
  | _, _, _, _, _ => False
def wO : IE → XD → Env → Sto → (Option Int → Sto → Prop) → Prop
  | .nil, _, _, st, K => K none st
  | .cons a _, E, env, st, K => wE a E env st fun x st1 => ∃ i, x = .int i ∧ K (some i) st1
  | _, _, _, _, _ => False
def wIf : IE → XD → Env → Sto → (Bool → Sto → Prop) → Prop
  | .nil, _, _, st, K => K true st
  | .cons a _, E, env, st, K => wE a E env st fun x st1 => ∃ k, x = .bl k ∧ K k st1
  | _, _, _, _, _ => False
def wI : IE → XD → Env → Sto → (Itm → Sto → Prop) → Prop
  | .iv e, E, env, st, K => wE e E env st fun d st1 => opIt d st1 K
  | .ir1 a, E, env, st, K => wE a E env st fun d st1 => ∃ j : Int, d = .int j ∧ (-(2 ^ 62) ≤ j ∧ j < 2 ^ 62) ∧ K ⟨(List.range j.toNat).map fun k : Nat => .int k, []⟩ st1
  | .ir2 a b, E, env, st, K => wE a E env st fun d st1 => wE b E env st1 fun d' st2 => ∃ i j : Int, d = .int i ∧ d' = .int j ∧ (-(2 ^ 62) ≤ i ∧ i < 2 ^ 62 ∧ -(2 ^ 62) ≤ j ∧ j < 2 ^ 62) ∧
      K ⟨(List.range (j - i).toNat).map fun k : Nat => .int (i + k), []⟩ st2
  | .ir3 a b c, E, env, st, K => wE a E env st fun d st1 => wE b E env st1 fun d' st2 => wE c E env st2 fun d'' st3 => ∃ (i j k : Int) (n : Nat), d = .int i ∧ d' = .int j ∧ d'' = .int k ∧ L2.RgC i j k n ∧
      K ⟨(List.range n).map fun m : Nat => .int (i + m * k), []⟩ st3
  | .ien e, E, env, st, K => wE e E env st fun d st1 => opEn d st1 K
  | .izip a b, E, env, st, K => wE a E env st fun d st1 => wE b E env st1 fun d' st2 => opZip d d' st2 K
  | .irev e, E, env, st, K => wE e E env st fun d st1 => opRv d st1 K
  | _, _, _, _, _ => False
end

structure En where
  nx : KE
  rt : KD
  bk : KE
  ct : KE
  ex : XD

def wS : IS → Env → Sto → En → Prop
  | .skip, env, st, K => K.nx env st
  | .seq a r, env, st, K => wS a env st { K with nx := fun env st => wS r env st K }
  | .asg t e, env, st, K => wE G C e K.ex env st fun d st1 => wT t d env fun env' => K.nx env' st1
  | .asl ts e, env, st, K => wE G C e K.ex env st fun d st1 => ∃ xs, seqD st1 d xs ∧ (∀ ys, d ≠ .tup ys) ∧ wT.wTs ts xs env fun env' => K.nx env' st1
  | .par2 i j a b, env, st, K => wE G C a K.ex env st fun v st1 => wE G C b K.ex env st1 fun w st2 => K.nx ((env.set i (some v)).set j (some w)) st2
  | .par3 i j l a b c, env, st, K => wE G C a K.ex env st fun v st1 => wE G C b K.ex env st1 fun w st2 => wE G C c K.ex env st2 fun u st3 => K.nx (((env.set i (some v)).set j (some w)).set l (some u)) st3
  | .sto o i e, env, st, K => wE G C e K.ex env st fun v st1 => wE G C o K.ex env st1 fun x st2 => wE G C i K.ex env st2 fun y st3 => opSet x y v st3 fun st4 => K.nx env st4
  | .expr e, env, st, K => wE G C e K.ex env st fun _ st1 => K.nx env st1
  | .ret e, env, st, K => wE G C e K.ex env st K.rt
  | .retn, _, st, K => K.rt .non st
  | .ite c a b, env, st, K => wE G C c K.ex env st fun x st1 => ∃ k, x = .bl k ∧ (k = true → wS a env st1 K) ∧ (k = false → wS b env st1 K)
  | .forr t it b, env, st, K => wI G C it K.ex env st fun J st1 => loopW J env st1 K.nx fun x env st nxt => wT t x env fun env2 => wS b env2 st { K with nx := nxt, ct := nxt, bk := K.nx }
  | .whl c b, env, st, K => ∃ W : Nat → Env → Sto → Prop, (∃ m, W m env st) ∧ ∀ m env st, W m env st → wE G C c K.ex env st fun x st1 => ∃ k, x = .bl k ∧
      (k = true → ∃ N : KE, (∀ env' st', N env' st' → ∃ m', m' < m ∧ W m' env' st') ∧ wS b env st1 { K with nx := N, ct := N, bk := K.nx }) ∧ (k = false → K.nx env st1)
  | .brk, env, st, K => K.bk env st
  | .cont, env, st, K => K.ct env st
end

/-- a def of the program -/
structure Fn where
  name : Str
  pos : Nat
  N : List Str
  np : Nat
  dfl : List D
  body : IS

def bodyEn (st : Sto) (K : KD) (E : XD) : En :=
  { nx := fun _ st' => K .non st' ∨ gcTo st .non st' K, rt := fun d st' => K d st' ∨ gcTo st d st' K, bk := fun _ _ => False, ct := fun _ _ => False, ex := E }
def startE (n : Nat) (args : List D) : Env := args.map some ++ List.replicate (n - args.length) none
def wCall (G : List D) (T : List Fn) : Nat → Calls
  | 0, _, _, _, _, _ => False
  | k + 1, f, args, st, K, E => ∃ fn, T[f]? = some fn ∧ args.length ≤ fn.np ∧ (args ++ fn.dfl.drop (fn.dfl.length - (fn.np - args.length))).length = fn.np ∧
      wS G (wCall G T k) fn.body (startE fn.N.length (args ++ fn.dfl.drop (fn.dfl.length - (fn.np - args.length)))) st (bodyEn st K E)
end Rf

/-! Part X: tuples as exact objects (no dict of their own); enumerate and zip of lists and tuples -/
namespace Rf
open PySem PySem.Spec PyProof.Rows L2
open Sem (wp)
open AutoSeq1 (wpAny_loadPart')
/-- an object that is a tuple and nothing else -/
def TupO (o : Obj) : Prop := o.cls = .type "tuple" ∧ o.dict = none
/-- at a stands just such a tuple: made by the text, or among its constants -/
def SqX (K : PySem.W.Frag) (H : Hp) (a : Addr) (xs : List V) : Prop :=
  (∃ o, H a = some (.frz o (.tup xs)) ∧ TupO o) ∨
    ∃ (o : Obj) (its : Array Value) (n : Nat), K.lookup a = some o ∧ TupO o ∧ o.data = .seq its n ∧ its.size ≤ sizeLine ∧ Vals xs its.toList
theorem SqX.t {K : PySem.W.Frag} {H : Hp} {a : Addr} {xs : List V} (h : SqX K H a xs) : SqT K H a xs := by
  rcases h with ⟨o, h, _⟩ | ⟨o, its, n, h1, h2, h3⟩
  · exact .inl (.inr ⟨o, h⟩)
  · exact .inr ⟨o, its, n, h1, h2.1, h3⟩
theorem SqX.new {K : PySem.W.Frag} {H : Hp} {a : Addr} {xs : List V} {o : Obj} (h : TupO o) : SqX K (upd H a (.frz o (.tup xs))) a xs := .inl ⟨o, upd_same, h⟩
/-- a new tuple, for every way to use it -/
def NewT (H : Hp) (xs : List V) (Q : VK) : Prop := ∀ p o, H p = none → TupO o → Q (.ref p) (upd H p (.frz o (.tup xs)))
section
variable {X : Cx} {pins : List (Addr × Obj)} {σ : L2.St} {H : Hp} {s : Shared}
/-- the object that has just been laid -/
theorem new_tuple {h' : Heap} {tk : Nat} {xs : List V} {us : List Value} {Q : VK} (I : Inv X pins σ H { s with heap := h', toks := tk }) (r : Vals xs us) (hz : xs.length ≤ sizeLine) (q : NewT H xs Q) :
    EP X pins σ Q (.ref h'.objs.size) { s with heap := h'.push { cls := .type "tuple", data := .seq us.toArray }, toks := tk } := by
  let o : Obj := { cls := .type "tuple", data := .seq us.toArray }
  have e : (h'.push o).get? h'.objs.size = some o := Heap.get?_push_size _ rfl
  have ok : ObjOk X.prog X.w (upd H h'.objs.size (.frz o (.tup xs))) (h'.push o) h'.objs.size (.frz o (.tup xs)) := ⟨e, hz, us, r, o, e, rfl, _, rfl⟩
  exact ⟨.ref h'.objs.size, _, I.laid (t' := tk) (fun b u z => Heap.get?_push_of_some _ z) (Nat.le_refl _) ok, rfl, q _ o (I.hok.fresh (Nat.le_refl _)) ⟨rfl, rfl⟩⟩
end
section
variable {X : Cx}
/-- a tuple of written items -/
def tTupX (t : TA) : TE := fun σ H Q => t σ H fun xs H1 => xs.length ≤ sizeLine ∧ NewT H1 xs Q
theorem pe_tupX {es : List Expr} {t : TA} {x1 : Nat} {pos : Pos} (h : PA X es t) : PE X (.Tuple es x1 pos) (tTupX t) := by
  refine ⟨fun pins s σ H Q I hq => wpAny_Tuple_spliced (thn (h.run pos pins s σ H _ I hq) fun us s1 ⟨xs, H1, I1, r, z, q⟩ => ?_)⟩
  exact ⟨by rw [← r.length]; exact z, new_tuple (tk := s1.toks) (h' := s1.heap) I1 r z q⟩
/-- t + u -/
def rCatX (K : PySem.W.Frag) : R2 := fun x y H Q => ∃ a b xs ys, x = .ref a ∧ y = .ref b ∧ SqT K H a xs ∧ SqT K H b ys ∧ xs.length + ys.length ≤ sizeLine ∧
  (xs = [] → Q (.ref b) H) ∧ (xs ≠ [] → ys = [] → Q (.ref a) H) ∧ (xs ≠ [] → ys ≠ [] → NewT H (xs ++ ys) Q)
theorem op_catX : OpR X (binaryOp .Add) (rCatX X.K) := by
  intro pins s σ H x y v u Q I rx ry ⟨a, b, xs, ys, ex, ey, ha, hb, hz, q0, q1, q2⟩
  subst ex ey
  cases rx; cases ry
  obtain ⟨its, r1, p1, _⟩ := I.tuple ha
  obtain ⟨its2, r2, p2, _⟩ := I.tuple hb
  by_cases hx : xs = []
  · subst hx
    cases r1
    exact cat_tup0 p1 p2 ⟨.ref b, H, I, rfl, q0 rfl⟩
  · refine HT.cat_tup p1 p2 (fun z => hx (r1.nil_iff.mp z)) (fun z => ⟨.ref a, H, I, rfl, q1 hx (r2.nil_iff.mp z)⟩) (fun z => ?_) (by rw [← r1.length, ← r2.length]; exact hz)
    exact new_tuple (tk := s.toks) (h' := s.heap) I (r1.append r2) (by rw [List.length_append]; exact hz) (q2 hx fun w => z (r2.nil_iff.mpr w))
/-- t[lo:hi] -/
def rSlX (K : PySem.W.Frag) : V → Option Int → Option Int → Hp → VK → Prop := fun x lo hi H Q => ∃ a xs, x = .ref a ∧ SqT K H a xs ∧
  (HT.sIx xs.length 0 lo = 0 ∧ HT.sIx xs.length xs.length hi = xs.length → Q (.ref a) H) ∧ (¬ (HT.sIx xs.length 0 lo = 0 ∧ HT.sIx xs.length xs.length hi = xs.length) → NewT H (cutV xs lo hi) Q)
theorem sl_tupX : SlR X (rSlX X.K) := by
  intro pins s σ H x v vl vu lo hi sl Q I rx hs pl pu ⟨a, xs, ex, hx, q1, q2⟩
  subst ex
  cases rx
  obtain ⟨its, r, ht, hz⟩ := I.tuple hx
  have hlen : its.toArray.size = xs.length := by rw [List.size_toArray]; exact r.length.symm
  refine ⟨"tuple", _, PyProof.Rows.slot_tuple_getitem.lookup, ht.typeIs, ?_⟩
  by_cases hw : HT.sIx xs.length 0 lo = 0 ∧ HT.sIx xs.length xs.length hi = xs.length
  · exact getItem_tuple_whole ht hs pl pu (by rw [hlen]; exact hw) ⟨.ref a, H, I, rfl, q1 hw⟩
  · refine HT.getItem_tuple_cut ht hs pl pu (by rw [hlen]; exact hw) ?_ (by rw [hlen]; exact hz)
    rw [hlen]
    exact new_tuple (tk := s.toks) (h' := s.heap) I ((r.drop (HT.sIx xs.length 0 lo)).take (HT.sIx xs.length xs.length hi - HT.sIx xs.length 0 lo)) (Nat.le_trans (cutV_length xs lo hi) hz) (q2 hw)
/-- tuple(x), x a list or a tuple -/
theorem call_tupleX : CallR X (.type "tuple") (fun xs H Q => ∃ p ys, xs = [.ref p] ∧ ((SqL X.K H p ys ∧ NewT H ys Q) ∨ (SqT X.K H p ys ∧ Q (.ref p) H))) := by
  intro pins s σ H xs us Q I r ⟨p, ys, ex, h⟩
  subst ex
  obtain ⟨u, rfl, rx⟩ := vals1 r
  cases rx
  rcases h with ⟨hq, q⟩ | ⟨hq, q⟩
  · obtain ⟨its, r', pl, hz⟩ := I.list hq
    have hlen := r'.length
    refine call_tuple_list pl.isList (fun h' kp => ?_) (by simp only [List.size_toArray] <;> omega)
    exact new_tuple (tk := s.toks) (I.kept (t' := s.toks) kp) r' hz q
  · obtain ⟨its, r', pl, hz⟩ := I.tuple hq
    exact call_tuple_same pl ⟨.ref p, H, I, rfl, q⟩
/-- tuple("..") -/
theorem sign_vals {x : Str} {acc : Array Value} (h : ItemsOf (SignAt x) acc x.cps.size) : Vals (x.cps.toList.map fun c => V.str ⟨#[c]⟩) acc.toList := by
  refine vals_of_at (by rw [List.length_map, Array.length_toList, Array.length_toList, h.1]) fun j y u e1 e2 => ?_
  rw [List.getElem?_map] at e1
  have hs := h.2 j u (by rw [← Array.getElem?_toList]; exact e2)
  obtain ⟨c, t, hc, hu⟩ : ∃ c t, x.cps[j]? = some c ∧ u = .str ⟨#[c]⟩ t := hs
  rw [Array.getElem?_toList, hc] at e1
  cases e1
  subst hu
  exact ⟨t, rfl⟩
theorem call_tupStr (hc : X.calm = true) : CallR X (.type "tuple") (fun xs H Q => ∃ x : Str, xs = [.str x] ∧ x.cps.size ≤ sizeLine ∧ NewT H (x.cps.toList.map fun c => V.str ⟨#[c]⟩) Q) := by
  intro pins s σ H xs us Q I r ⟨x, ex, hz, q⟩
  subst ex
  obtain ⟨u, rfl, rx⟩ := vals1 r
  obtain ⟨t, rfl⟩ := rx
  refine call_tuple_str (I.ok.hd hc) x t (fun h' tk acc hk hi => ?_) hz
  have e := new_tuple (s := s) (tk := tk) (h' := h') (I.kept (t' := tk) hk) (sign_vals hi) (by rw [List.length_map, Array.length_toList]; exact hz) q
  rwa [Array.toArray_toList] at e
/-- tuple(range(..)) -/
theorem pe_tupRgX {e : Expr} {te : L2.St → Hp → (Int → Int → Hp → Prop) → Prop} {p pos : Pos} (hc : X.calm = true) (hg : Gl X "tuple") (hm : X.mg "tuple" = none) (he : PRg X e te) (na : starEach [e] X.env = (false, eval e X.env) :: starEach [] X.env) :
    PE X (.Call (.Name "tuple" p) [e] [] pos) (fun σ H Q => te σ H fun a b H1 => RgOk a b ∧ NewT H1 (rgV a b) Q) := by
  refine ⟨fun pins s σ H Q I h => Call_ (ld_blt I hg hm boot_tuple (PyProof.Rows.callWith_type1 (args_cons (thn (he pins s σ H _ I h) fun x s1 ⟨r, a, b, t, u, v, H1, ex, hr, I1, ok, q⟩ => args_nil ?_) na) na rfl))⟩
  subst ex
  obtain ⟨b1, b2, b3, b4, b5⟩ := ok
  refine call_tuple_range (n := (b - a).toNat) (I1.ok.hd hc) hr (small_one b1 b2 b3 b4) (rangeSize_nat a b) b5 fun h' tk acc hk hi => ?_
  have e := new_tuple (s := s1) (tk := tk) (h' := h') (I1.kept (t' := tk) hk) (vals_rg hi) (by rw [rgV_length, sizeLine_eq]; omega) q
  rwa [Array.toArray_toList] at e
end
/-! ### a list or a tuple, walked -/
def sqK (tp : Bool) (K : PySem.W.Frag) (H : Hp) (a : Addr) (xs : List V) : Prop := match tp with | true => SqT K H a xs | false => SqL K H a xs
def itK (tp : Bool) (h : Heap) (it a : Addr) (i : Nat) : Prop := match tp with | true => h.IsTupleIter it a i | false => h.IsListIter it a i
def obK (tp : Bool) (h : Heap) (a : Addr) (its : Array Value) : Prop := match tp with | true => h.IsTuple a its | false => h.IsList a its
def itO (tp : Bool) (a : Addr) : Obj := { cls := .type (if tp then "tuple_iterator" else "list_iterator"), data := .fields #[.ref a, .int 0 0] }
theorem itK_obj {tp : Bool} {h : Heap} {it a : Addr} {i : Nat} (x : itK tp h it a i) : ∃ o, h.get? it = some o ∧ o.cls = .type (if tp then "tuple_iterator" else "list_iterator") ∧ o.data = .fields #[.ref a, .int i 0] := by
  cases tp <;> exact x
theorem itK_at {tp : Bool} {h h' : Heap} {it a : Addr} {i : Nat} (x : itK tp h it a i) (k : ∀ o, h.get? it = some o → h'.get? it = some o) : itK tp h' it a i := by
  cases tp
  · exact Heap.IsListIter.at x k
  · exact Heap.IsTupleIter.at x k
theorem obK_obj {tp : Bool} {h : Heap} {a : Addr} {its : Array Value} (x : obK tp h a its) : ∃ o, h.get? a = some o ∧ o.cls = .type (if tp then "tuple" else "list") := by
  cases tp
  · obtain ⟨o, e, c, _⟩ := x; exact ⟨o, e, c⟩
  · obtain ⟨o, e, c, _⟩ := x; exact ⟨o, e, c⟩
theorem drawsK {prog : Program} {w : World} {A : Around} (tp : Bool) (hh : A.handled = none) (it a : Addr) (hne : a ≠ it) (its : Array Value) :
    Draws prog w A it [it, a] its.size (fun i v => its[i]? = some v) (fun i h => itK tp h it a i ∧ obK tp h a its) := by
  cases tp
  · exact Draws.list hh it a hne its
  · exact Draws.tuple hh it a hne its
theorem beginsK (tp : Bool) (a : Addr) (its : Array Value) : Begins (.ref a) (itO tp a) fun h => obK tp h a its := by
  cases tp
  · exact begins_list a its
  · exact begins_tuple a its
section
variable {X : Cx} {pins : List (Addr × Obj)} {σ : L2.St} {H : Hp} {s : Shared} {a : Addr} {xs ys : List V} {tp : Bool}
theorem sqK_inv (I : Inv X pins σ H s) (h : sqK tp X.K H a xs) : ∃ its : List Value, Vals xs its ∧ obK tp s.heap a its.toArray ∧ xs.length ≤ sizeLine := by
  cases tp
  · obtain ⟨its, r, p, z⟩ := I.list h; exact ⟨its, r, p.isList, z⟩
  · obtain ⟨its, r, p, z⟩ := I.tuple h; exact ⟨its, r, p, z⟩
theorem sqK_inj (I : Inv X pins σ H s) (h : sqK tp X.K H a xs) (h' : sqK tp X.K H a ys) : xs = ys := by
  cases tp
  · exact I.list_inj h h'
  · exact I.tuple_inj h h'
end
theorem cls_apart {h : Heap} {a b : Addr} {o o' : Obj} {c c' : String} (e : h.get? a = some o) (k : o.cls = .type c) (e' : h.get? b = some o') (k' : o'.cls = .type c') (n : (Value.type c) ≠ .type c') : a ≠ b := fun z => by
  rw [z, e'] at e
  cases e
  exact n (k.symm.trans k')
theorem ob_it {tp tq : Bool} {h : Heap} {it a b : Addr} {i : Nat} {its : Array Value} (x : obK tp h a its) (y : itK tq h it b i) : a ≠ it := by
  obtain ⟨o, e, c⟩ := obK_obj x
  obtain ⟨o', e', c', _⟩ := itK_obj y
  exact cls_apart e c e' c' (by cases tp <;> cases tq <;> decide)
/-! ### enumerate -/
/-- enumerate of one thing whose iterator begins so -/
theorem enum1_meets {v : Value} {o : Obj} {S : Heap → Prop} (B : Begins v o S) :
    Meets (Builtin.«enumerate.__new__» ⟨[.type "enumerate", v], []⟩) (fun _ R s => S s.heap ∧
      R (.ok (.ret (.ref (s.heap.push o).objs.size)))
        { s with heap := (s.heap.push o).push { cls := .type "enumerate", data := .fields #[.none, .bool false, .ref s.heap.objs.size, rawInt 0, .none, .none] } }) := by
  refine .of_wp fun prog w A R s ⟨hS, h⟩ => ?_
  obtain ⟨hp, g, d, tk, os⟩ := s
  have hsub := sub_enumerate
  have begun : ∀ {A' : Around} {E : Value → Shared → Prop} {Q : Value → Shared → Prop}, Q (.ref hp.objs.size) ⟨hp.push o, g, d, tk, os⟩ → wpAny (model prog w) A' (pyIter v) Q E ⟨hp, g, d, tk, os⟩ :=
    fun k => B.iter prog w _ _ ⟨hp, g, d, tk, os⟩ _ hS k
  wp_walk using begun
  refine wpAny_stack_any fun st => wpAny_pure ?_
  split
  · rename_i c _ _ _ _ _
    cases (c == Value.type "enumerate") <;> (wp_walk using begun; exact ⟨_, rfl, h⟩)
  · wp_walk using begun
    exact ⟨_, rfl, h⟩
section
variable {prog : Program} {w : World} {A : Around} {E : Value → Shared → Prop} {s : Shared}
theorem enum1_call {v : Value} {o : Obj} {S : Heap → Prop} {Q : Value → Shared → Prop} (B : Begins v o S) (hS : S s.heap)
    (h : ∀ h', IsEnum h' (s.heap.objs.size + 1) s.heap.objs.size 0 .none → h'.get? s.heap.objs.size = some o → (∀ b ob, s.heap.get? b = some ob → h'.get? b = some ob) → Q (.ref (s.heap.objs.size + 1)) { s with heap := h' }) :
    wpAny (model prog w) A (call (.type "enumerate") [v]) Q E s := by
  have hz : (s.heap.push o).objs.size = s.heap.objs.size + 1 := Heap.size_push ..
  let en : Obj := { cls := .type "enumerate", data := .fields #[.none, .bool false, .ref s.heap.objs.size, rawInt 0, .none, .none] }
  have he : IsEnum ((s.heap.push o).push en) (s.heap.objs.size + 1) s.heap.objs.size 0 .none := by
    have q := Heap.get?_push_size (s.heap.push o) (o := en) rfl
    rwa [hz] at q
  refine callType_new F.called_enumerate (by decide) (F.typeCall_enumerate_1 _) (F.newCall_enumerate_1 _) (fun obj => F.args_object_init_2 obj _) F.entry_enumerate_new (enum1_meets B) ⟨hS, ?_⟩
  show _ ∧ _
  rw [hz]
  exact ⟨⟨_, he, rfl⟩, h _ he (Heap.get?_push_of_some _ (Heap.get?_push_size _ B.free)) fun b ob x => Heap.get?_push_of_some _ (Heap.get?_push_of_some _ x)⟩
end
/-- the list or tuple at a at each turn, each item in a pair of its own -/
def Itek (tp : Bool) (K : PySem.W.Frag) (a : Addr) (n : Nat) : It where
  go i H := ∃ (xs : List V) (x : V), sqK tp K H a xs ∧ xs.length = n ∧ xs[i]? = some x
  yld i H v H' := ∃ T o x, v = .ref T ∧ H T = none ∧ TupO o ∧ H' = upd H T (.frz o (.tup [.int (i : Nat), x])) ∧ ∀ xs, sqK tp K H a xs → xs[i]? = some x
  stop i H := n ≤ i ∧ ∃ xs : List V, sqK tp K H a xs ∧ xs.length = n
theorem turn_enumK {P : Program} {w : World} {K : PySem.W.Frag} {elts : List Expr} {kk : Nat} {tpos : Pos} (tp : Bool) (a e it : Addr) (n : Nat) :
    Turn P w K (.Tuple elts kk tpos) (Itek tp K a n) [e, it] e (fun i h => i ≤ n ∧ (∃ old, IsEnum h e it ((i : Nat) : Int) old) ∧ itK tp h it a i) where
  mem := List.mem_cons_self ..
  obj i h st b hb := by
    obtain ⟨_, ⟨old, he⟩, hi⟩ := st
    obtain ⟨ob, ho, hc, hd⟩ := itK_obj hi
    rcases List.mem_cons.mp hb with z | z
    · exact z ▸ ⟨_, he, fun v q => nomatch q⟩
    · rw [List.mem_singleton.mp z]
      exact ⟨ob, ho, fun v q => by rw [hd] at q; cases q⟩
  keep i h h' st k := by
    obtain ⟨hin, ⟨old, he⟩, hi⟩ := st
    exact ⟨hin, ⟨old, k e (List.mem_cons_self ..) _ he⟩, itK_at hi fun ob q => k it (List.mem_cons_of_mem _ (List.mem_cons_self ..)) ob q⟩
  item X hP hw hK hc i pins s σ H E I hf st hg := by
    subst hP hw hK
    obtain ⟨hin, ⟨old, he⟩, hit⟩ := st
    obtain ⟨xs, x, hq, hn, hx⟩ := hg
    have hlt := (List.getElem?_eq_some_iff.mp hx).1
    obtain ⟨its, rv, p, hz⟩ := sqK_inv I hq
    obtain ⟨u, hu, ru⟩ := rv.get hx
    obtain ⟨oi, hoi, ci, di⟩ := itK_obj hit
    obtain ⟨ot, hot, ct⟩ := obK_obj p
    have hei : e ≠ it := cls_apart he rfl hoi ci (by cases tp <;> decide)
    have hea : e ≠ a := cls_apart he rfl hot ct (by cases tp <;> decide)
    have hai : a ≠ it := ob_it p hit
    have hel := Heap.lt_size he
    have hil := Heap.lt_size hoi
    have hsz : i < its.toArray.size := by
      have := (List.getElem?_eq_some_iff.mp hu).1
      simpa using this
    refine wpAny_pyNext_enum_itemD (drawsK (A := X.A.in1) tp (I.ok.hd hc) it a hai its.toArray) he ⟨hit, p⟩ hsz hei (by simp [hei, hea]) fun y h' tk hy hout hst hT hsz' hk => ?_
    have hy : its.toArray[i]? = some y := hy
    have hyu : y = u := by
      have : its.toArray[i]? = some u := by simpa using hu
      rw [hy] at this; cases this; rfl
    subst hyu
    refine ⟨_, rfl, wpAny_letOwnedTupleGo_enum (s := { s with heap := h', toks := tk + 1 }) hout fun h'' he' sb => ?_⟩
    have hT2 : h''.get? s.heap.objs.size = some { cls := .type "tuple", data := .seq #[.int i tk, y] } := by rw [sb.2 _ (Nat.ne_of_gt hel)]; exact hT
    have made : ObjOk X.prog X.w (upd H s.heap.objs.size (.frz { cls := .type "tuple", data := .seq #[.int i tk, y] } (.tup [.int (i : Nat), x]))) h'' s.heap.objs.size (.frz { cls := .type "tuple", data := .seq #[.int i tk, y] } (.tup [.int (i : Nat), x])) :=
      ⟨hT2, (by decide : 2 ≤ sizeLine), [.int i tk, y], .cons ⟨_, rfl⟩ (.cons ru .nil), _, hT2, rfl, _, rfl⟩
    have I1 := I.turnedNew (t' := tk + 1) (ch := [e, it]) (fun b ob hb q => by
        have n1 : b ≠ e := fun z => hb (by simp [z])
        have n2 : b ≠ it := fun z => hb (by simp [z])
        rw [sb.2 b n1]; exact hk b ob n1 n2 q) hf (Nat.le_refl _) made
    refine ⟨.ref s.heap.objs.size, _, I1, rfl, ⟨_, _, x, rfl, I.hok.fresh (Nat.le_refl _), ⟨rfl, rfl⟩, rfl, fun ys hy' => by rw [sqK_inj I hy' hq]; exact hx⟩, ⟨by omega, ⟨y, ?_⟩, itK_at hst.1 fun ob q => (sb.2 it (Ne.symm hei)).trans q⟩, fun b hb => ?_⟩
    · rw [show ((i + 1 : Nat) : Int) = (i : Int) + 1 by omega]
      exact he'
    · have hb' : b < s.heap.objs.size := by
        rcases List.mem_cons.mp hb with z | z
        · exact z ▸ hel
        · exact List.mem_singleton.mp z ▸ hil
      rw [upd_ne (Nat.ne_of_lt hb')]
      exact (hf b hb).1
  done X hP hw hK hc i pins s σ H E I hf st hg := by
    subst hP hw hK
    obtain ⟨hin, ⟨old, he⟩, hit⟩ := st
    obtain ⟨hni, xs, hq, hx⟩ := hg
    obtain ⟨its, rv, p, hz⟩ := sqK_inv I hq
    have hai : a ≠ it := ob_it p hit
    obtain ⟨f0, f1, f2, f3, f4, f5⟩ := hf it (by simp)
    have hl := rv.length
    have hi : i = its.toArray.size := by rw [List.size_toArray]; omega
    subst hi
    exact wpAny_pyNext_enum_endD (drawsK (A := X.A.in1) tp (I.ok.hd hc) it a hai its.toArray) he ⟨hit, p⟩ fun h' eb => ⟨rfl, I.turned (t' := s.toks) (fun b ob hb q => eb b ob hb q) f0 f1 f3 f4 f5⟩
  self A i s Q E st h := by
    obtain ⟨_, ⟨old, he⟩, _⟩ := st
    exact wpAny_pyIter_enum he h
def iEnumK (K : PySem.W.Frag) (ta : TA) : TI := fun σ H R => ta σ H fun vs H1 => ∃ tp a xs, vs = [.ref a] ∧ sqK tp K H1 a xs ∧ R (Itek tp K a xs.length) H1
theorem pi_enumK {X : Cx} {e : Expr} {ta : TA} {p pos tpos : Pos} {elts : List Expr} {kk : Nat} (hg : Gl X "enumerate") (hm : X.mg "enumerate" = none) (ha : PA X [e] ta) (hs : starEach [e] X.env = [(false, eval e X.env)]) :
    PI X (.Tuple elts kk tpos) (.Call (.Name "enumerate" p) [e] [] pos) (iEnumK X.K ta) := by
  refine ⟨fun pins s σ H R I h => ?_⟩
  refine Call_ (ld_blt I hg hm boot_enumerate (PyProof.Rows.callWith_type1 (thn (ha.run pos pins s σ H _ I h) fun us s1 ⟨vs, H1, I1, r1, q1⟩ => ?_) hs rfl))
  obtain ⟨tp, a, xs, ex, hq, q⟩ := q1
  subst ex
  cases r1 with
  | cons r rr =>
    cases rr
    cases r
    have free : ∀ b ∈ [s1.heap.objs.size + 1, s1.heap.objs.size], FpOk X pins H1 b := fun b hb => by
      have hle : s1.heap.objs.size ≤ b := by
        rcases List.mem_cons.mp hb with z | z
        · omega
        · rw [List.mem_singleton.mp z]; exact Nat.le_refl _
      exact I1.fpOk hle (I1.hok.fresh hle)
    obtain ⟨its, rv, p', hz⟩ := sqK_inv I1 hq
    refine enum1_call (beginsK tp a its.toArray) p' fun h' he hit hk => wpAny_pyIter_enum he ?_
    have hit0 : itK tp h' s1.heap.objs.size a 0 := by cases tp <;> exact ⟨_, hit, rfl, rfl⟩
    exact ⟨s1.heap.objs.size + 1, [s1.heap.objs.size + 1, s1.heap.objs.size], _, _, H1, rfl, I1.kept (t' := s1.toks) hk, turn_enumK tp a (s1.heap.objs.size + 1) s1.heap.objs.size xs.length, ⟨Nat.zero_le _, ⟨.none, he⟩, hit0⟩, free, q⟩
/-! ### zip -/
/-- two sequences side by side, the items in new pairs -/
def ItzK (tp tq : Bool) (K : PySem.W.Frag) (a b : Addr) (n m : Nat) : It where
  go i H := ∃ (xs ys : List V) (x y : V), sqK tp K H a xs ∧ sqK tq K H b ys ∧ xs.length = n ∧ ys.length = m ∧ xs[i]? = some x ∧ ys[i]? = some y
  yld i H v H' := ∃ T o x y, v = .ref T ∧ H T = none ∧ TupO o ∧ H' = upd H T (.frz o (.tup [x, y])) ∧ (∀ xs, sqK tp K H a xs → xs[i]? = some x) ∧ ∀ ys, sqK tq K H b ys → ys[i]? = some y
  stop i H := (n ≤ i ∨ m ≤ i) ∧ ∃ xs ys : List V, sqK tp K H a xs ∧ sqK tq K H b ys ∧ xs.length = n ∧ ys.length = m
theorem turn_zipK {P : Program} {w : World} {K : PySem.W.Frag} {elts : List Expr} {kk : Nat} {tpos : Pos} (tp tq : Bool) {a b z TI TO i1 i2 : Addr} (n m : Nat) (D : ZipSep2 z TI TO i1 i2 [i1, a] [i2, b]) :
    Turn P w K (.Tuple elts kk tpos) (ItzK tp tq K a b n m) [z, TI, TO, i1, i2] z (fun i h => i ≤ n ∧ i ≤ m ∧ IsZip h z TI TO .none ∧ IsTupOf2 h TI (.ref i1) (.ref i2) ∧ (∃ x y, IsTupOf2 h TO x y) ∧ itK tp h i1 a i ∧ itK tq h i2 b i) where
  mem := List.mem_cons_self ..
  obj i h st c hc := by
    obtain ⟨_, _, hz, hTI, ⟨x, y, hTO⟩, h1, h2⟩ := st
    obtain ⟨o1, e1, _, d1⟩ := itK_obj h1
    obtain ⟨o2, e2, _, d2⟩ := itK_obj h2
    simp only [List.mem_cons, List.not_mem_nil, or_false] at hc
    rcases hc with q | q | q | q | q <;> rw [q]
    · exact ⟨_, hz, fun v q => nomatch q⟩
    · exact ⟨_, hTI, fun v q => nomatch q⟩
    · exact ⟨_, hTO, fun v q => nomatch q⟩
    · exact ⟨o1, e1, fun v q => by rw [d1] at q; cases q⟩
    · exact ⟨o2, e2, fun v q => by rw [d2] at q; cases q⟩
  keep i h h' st k := by
    obtain ⟨l1, l2, hz, hTI, ⟨x, y, hTO⟩, h1, h2⟩ := st
    exact ⟨l1, l2, k z (by simp) _ hz, k TI (by simp) _ hTI, ⟨x, y, k TO (by simp) _ hTO⟩, itK_at h1 fun o q => k i1 (by simp) o q, itK_at h2 fun o q => k i2 (by simp) o q⟩
  item X hP hw hK hc i pins s σ H E I hf st hg := by
    subst hP hw hK
    obtain ⟨_, _, hz, hTI, ⟨x0, y0, hTO⟩, h1, h2⟩ := st
    obtain ⟨xs, ys, x, y, hqx, hqy, hn, hm, hx, hy⟩ := hg
    have hlx := (List.getElem?_eq_some_iff.mp hx).1
    have hly := (List.getElem?_eq_some_iff.mp hy).1
    obtain ⟨its, rv, p, _⟩ := sqK_inv I hqx
    obtain ⟨its2, rv2, p2, _⟩ := sqK_inv I hqy
    obtain ⟨u, hu, ru⟩ := rv.get hx
    obtain ⟨u2, hu2, ru2⟩ := rv2.get hy
    have hul : i < its.toArray.size := by have := (List.getElem?_eq_some_iff.mp hu).1; simpa using this
    have hul2 : i < its2.toArray.size := by have := (List.getElem?_eq_some_iff.mp hu2).1; simpa using this
    have hzl : z < s.heap.objs.size := Heap.lt_size hz
    have hh := I.ok.hd hc
    refine wpAny_pyNext_zipD2_item D (drawsK (A := X.A.in1) tp hh i1 a (ob_it p h1) its.toArray) (drawsK (A := X.A.in1) tq hh i2 b (ob_it p2 h2) its2.toArray) hz hTI hTO ⟨h1, p⟩ ⟨h2, p2⟩ hul hul2 fun v1 v2 h' tk e1 e2 z' TO' st1 st2 hT hsz hk => ?_
    have e1 : its.toArray[i]? = some v1 := e1
    have e2 : its2.toArray[i]? = some v2 := e2
    have v1u : v1 = u := by
      have : its.toArray[i]? = some u := by simpa using hu
      rw [e1] at this; cases this; rfl
    have v2u : v2 = u2 := by
      have : its2.toArray[i]? = some u2 := by simpa using hu2
      rw [e2] at this; cases this; rfl
    subst v1u v2u
    refine ⟨_, rfl, wpAny_letOwnedTupleGo_zip (s := { s with heap := h', toks := tk }) z' fun h'' z'' sb => ?_⟩
    have hT2 : h''.get? s.heap.objs.size = some { cls := .type "tuple", data := .seq #[v1, v2] } := (sb.2 _ (Nat.ne_of_gt hzl)).trans hT
    have made : ObjOk X.prog X.w (upd H s.heap.objs.size (.frz { cls := .type "tuple", data := .seq #[v1, v2] } (.tup [x, y]))) h'' s.heap.objs.size (.frz { cls := .type "tuple", data := .seq #[v1, v2] } (.tup [x, y])) :=
      ⟨hT2, (by decide : 2 ≤ sizeLine), [v1, v2], .cons ru (.cons ru2 .nil), _, hT2, rfl, _, rfl⟩
    have I1 := I.turnedNew (t' := tk) (ch := [z, TI, TO, i1, i2]) (fun c o hb q => by
        have m1 : c ≠ z := fun q' => hb (by simp [q'])
        have m2 : c ≠ TO := fun q' => hb (by simp [q'])
        have m3 : c ≠ i1 := fun q' => hb (by simp [q'])
        have m4 : c ≠ i2 := fun q' => hb (by simp [q'])
        rw [sb.2 c m1]; exact hk c o m1 m2 m3 m4 q) hf (Nat.le_refl _) made
    refine ⟨.ref s.heap.objs.size, _, I1, rfl, ⟨_, _, x, y, rfl, I.hok.fresh (Nat.le_refl _), ⟨rfl, rfl⟩, rfl, fun l hl => by rw [sqK_inj I hl hqx]; exact hx, fun l hl => by rw [sqK_inj I hl hqy]; exact hy⟩, ⟨by omega, by omega, z'', ?_, ⟨v1, v2, ?_⟩, ?_, ?_⟩, fun c hcm => ?_⟩
    · exact (sb.2 _ D.TIz).trans (hk _ _ D.TIz D.TITO D.TIi1 D.TIi2 hTI)
    · exact (sb.2 _ D.TOz).trans TO'
    · exact itK_at st1.1 fun o q => (sb.2 _ (Ne.symm D.zi1)).trans q
    · exact itK_at st2.1 fun o q => (sb.2 _ (Ne.symm D.zi2)).trans q
    · have hlt : c < s.heap.objs.size := by
        obtain ⟨_, y1, _⟩ := itK_obj h1
        obtain ⟨_, y2, _⟩ := itK_obj h2
        simp only [List.mem_cons, List.not_mem_nil, or_false] at hcm
        rcases hcm with q | q | q | q | q <;> rw [q]
        · exact hzl
        · exact Heap.lt_size hTI
        · exact Heap.lt_size hTO
        · exact Heap.lt_size y1
        · exact Heap.lt_size y2
      rw [upd_ne (Nat.ne_of_lt hlt)]
      exact (hf c hcm).1
  done X hP hw hK hc i pins s σ H E I hf st hg := by
    subst hP hw hK
    obtain ⟨l1, l2, hz, hTI, ⟨x0, y0, hTO⟩, h1, h2⟩ := st
    obtain ⟨hend, xs, ys, hqx, hqy, hn, hm⟩ := hg
    obtain ⟨its, rv, p, _⟩ := sqK_inv I hqx
    obtain ⟨its2, rv2, p2, _⟩ := sqK_inv I hqy
    have k1 : its.toArray.size = n := by rw [List.size_toArray, ← rv.length, hn]
    have k2 : its2.toArray.size = m := by rw [List.size_toArray, ← rv2.length, hm]
    have hh := I.ok.hd hc
    refine wpAny_pyNext_zipD2_end D (drawsK (A := X.A.in1) tp hh i1 a (ob_it p h1) its.toArray) (drawsK (A := X.A.in1) tq hh i2 b (ob_it p2 h2) its2.toArray) hz hTI hTO ⟨h1, p⟩ ⟨h2, p2⟩ (by omega) (by omega) (by omega) fun h' tk hk => ⟨rfl, I.turnedL (t' := tk) (ch := [z, TI, TO, i1, i2]) (fun c o hb q => ?_) hf⟩
    exact hk c o (fun q' => hb (by simp [q'])) (fun q' => hb (by simp [q'])) (fun q' => hb (by simp [q'])) (fun q' => hb (by simp [q'])) q
  self A i s Q E st h := wpAny_pyIter_zip st.2.2.1 h
def iZipK (K : PySem.W.Frag) (ta : TA) : TI := fun σ H R => ta σ H fun vs H1 => ∃ tp tq a b xs ys, vs = [.ref a, .ref b] ∧ sqK tp K H1 a xs ∧ sqK tq K H1 b ys ∧ R (ItzK tp tq K a b xs.length ys.length) H1
theorem zip_sep {N a b : Nat} (ha : a < N) (hb : b < N) : ZipSep2 (N + 4) (N + 2) (N + 3) N (N + 1) [N, a] [N + 1, b] where
  TIz := Nat.ne_of_lt (show N + 2 < N + 4 by omega)
  TOz := Nat.ne_of_lt (show N + 3 < N + 4 by omega)
  TITO := Nat.ne_of_lt (show N + 2 < N + 3 by omega)
  TIi1 := Nat.ne_of_gt (show N < N + 2 by omega)
  mem1 := List.mem_cons_self ..
  zf1 := fun h => by
    rcases List.mem_cons.mp h with e | e
    · exact Nat.ne_of_gt (show N < N + 4 by omega) e
    · exact Nat.ne_of_gt (show a < N + 4 by omega) (List.mem_singleton.mp e)
  Tf1 := fun h => by
    rcases List.mem_cons.mp h with e | e
    · exact Nat.ne_of_gt (show N < N + 3 by omega) e
    · exact Nat.ne_of_gt (show a < N + 3 by omega) (List.mem_singleton.mp e)
  TIi2 := Nat.ne_of_gt (show N + 1 < N + 2 by omega)
  mem2 := List.mem_cons_self ..
  zf2 := fun h => by
    rcases List.mem_cons.mp h with e | e
    · exact Nat.ne_of_gt (show N + 1 < N + 4 by omega) e
    · exact Nat.ne_of_gt (show b < N + 4 by omega) (List.mem_singleton.mp e)
  Tf2 := fun h => by
    rcases List.mem_cons.mp h with e | e
    · exact Nat.ne_of_gt (show N + 1 < N + 3 by omega) e
    · exact Nat.ne_of_gt (show b < N + 3 by omega) (List.mem_singleton.mp e)
  sep1_2 := fun h => by
    rcases List.mem_cons.mp h with e | e
    · exact Nat.ne_of_lt (show N < N + 1 by omega) e
    · exact Nat.ne_of_gt (show b < N from hb) (List.mem_singleton.mp e)
  sep2_1 := fun h => by
    rcases List.mem_cons.mp h with e | e
    · exact Nat.ne_of_gt (show N < N + 1 by omega) e
    · exact Nat.ne_of_gt (show a < N + 1 by omega) (List.mem_singleton.mp e)
theorem obK_lt {tp : Bool} {h : Heap} {a : Addr} {its : Array Value} (x : obK tp h a its) : a < h.objs.size := by
  obtain ⟨o, e, _⟩ := obK_obj x
  exact Heap.lt_size e
theorem pi_zipK {X : Cx} {e e2 : Expr} {ta : TA} {p pos tpos : Pos} {elts : List Expr} {kk : Nat} (hg : Gl X "zip") (hm : X.mg "zip" = none) (ha : PA X [e, e2] ta)
    (hs : starEach [e, e2] X.env = (false, eval e X.env) :: starEach [e2] X.env) (hpl : (backTo pos (starEach [e2] X.env)).any (·.1) = false) :
    PI X (.Tuple elts kk tpos) (.Call (.Name "zip" p) [e, e2] [] pos) (iZipK X.K ta) := by
  refine ⟨fun pins s σ H R I h => ?_⟩
  refine Call_ (ld_blt I hg hm PyProof.Rows.boot_zip (PyProof.Rows.callWith_type1 (thn (ha.run pos pins s σ H _ I h) fun us s1 ⟨vs, H1, I1, r1, q1⟩ => ?_) hs hpl))
  obtain ⟨tp, tq, a, b, xs, ys, ex, hqx, hqy, q⟩ := q1
  subst ex
  cases r1 with
  | cons r rr =>
    cases rr with
    | cons r' rr =>
      cases rr
      cases r
      cases r'
      obtain ⟨its, rv, p1, _⟩ := sqK_inv I1 hqx
      obtain ⟨its2, rv2, p2, _⟩ := sqK_inv I1 hqy
      have la := obK_lt p1
      have lb := obK_lt p2
      have free : ∀ c ∈ [s1.heap.objs.size + 4, s1.heap.objs.size + 2, s1.heap.objs.size + 3, s1.heap.objs.size, s1.heap.objs.size + 1], FpOk X pins H1 c := fun c hc => by
        have hle : s1.heap.objs.size ≤ c := by
          simp only [List.mem_cons, List.not_mem_nil, or_false] at hc
          omega
        exact I1.fpOk hle (I1.hok.fresh hle)
      have D : ZipSep2 (s1.heap.objs.size + 4) (s1.heap.objs.size + 2) (s1.heap.objs.size + 3) s1.heap.objs.size (s1.heap.objs.size + 1) [s1.heap.objs.size, a] [s1.heap.objs.size + 1, b] := by
        exact zip_sep la lb
      refine zip_begins2 (beginsK tp a its.toArray) (beginsK tq b its2.toArray) p1 p2 fun h' z' TI' TO' o1 o2 hsz hk => wpAny_pyIter_zip z' ?_
      have t1 : itK tp h' s1.heap.objs.size a 0 := by cases tp <;> exact ⟨_, o1, rfl, rfl⟩
      have t2 : itK tq h' (s1.heap.objs.size + 1) b 0 := by cases tq <;> exact ⟨_, o2, rfl, rfl⟩
      exact ⟨s1.heap.objs.size + 4, _, _, _, H1, rfl, I1.kept (t' := s1.toks) hk, turn_zipK tp tq xs.length ys.length D, ⟨Nat.zero_le _, Nat.zero_le _, z', TI', ⟨_, _, TO'⟩, t1, t2⟩, free, q⟩
/-! ### tuple(reversed(list)) -/
theorem pe_tupRevX {X : Cx} {e : Expr} {te : TE} {p p2 pos pos2 : Pos} (hc : X.calm = true) (hg : Gl X "tuple") (hm : X.mg "tuple" = none) (hg2 : Gl X "reversed") (hm2 : X.mg "reversed" = none) (he : PE X e te)
    (hs : starEach [e] X.env = (false, eval e X.env) :: starEach [] X.env)
    (hs2 : starEach [.Call (.Name "reversed" p2) [e] [] pos2] X.env = (false, eval (.Call (.Name "reversed" p2) [e] [] pos2) X.env) :: starEach [] X.env) :
    PE X (.Call (.Name "tuple" p) [.Call (.Name "reversed" p2) [e] [] pos2] [] pos) (fun σ H Q => te σ H fun v H1 => ∃ (a : Addr) (xs : List V), v = .ref a ∧ SqL X.K H1 a xs ∧ NewT H1 xs.reverse Q) := by
  refine ⟨fun pins s σ H Q I h => ?_⟩
  refine Call_ (ld_blt I hg hm boot_tuple (PyProof.Rows.callWith_type1 (args_cons (Call_ (ld_blt I hg2 hm2 PyProof.Rows.boot_reversed (PyProof.Rows.callWith_type1 (args_cons (thn (he.run pins s σ H _ I h) fun u s1 ⟨v, H1, I1, r1, a, xs, ev, hq, q⟩ => args_nil ?_) hs) hs rfl))) hs2) hs2 rfl))
  subst ev
  obtain rfl : u = Value.ref a := r1
  obtain ⟨its, rv, p', hz⟩ := I1.list hq
  have hl := p'.isList
  obtain ⟨ol, hol, _⟩ := id hl
  have hne : a ≠ s1.heap.objs.size := Nat.ne_of_lt (Heap.lt_size hol)
  refine call_reversed_list hl (args_nil ?_)
  have I2 : Inv X pins σ H1 { s1 with heap := s1.heap.push (revObj a ((its.toArray.size : Int) - 1)) } := I1.kept (t' := s1.toks) fun b o e => Heap.get?_push_of_some _ e
  obtain ⟨f0, f1, f2, f3, f4, f5⟩ := I1.fpOk (H' := H1) (b := s1.heap.objs.size) (Nat.le_refl _) (I1.hok.fresh (Nat.le_refl _))
  refine RT.call_tuple_rev (s := { s1 with heap := s1.heap.push (revObj a ((its.toArray.size : Int) - 1)) }) (I1.ok.hd hc) ⟨_, Heap.get?_push_size _ rfl, rfl, rfl⟩ (hl.push _) hne (by rw [List.size_toArray, ← rv.length]; exact hz) fun h' tk acc hk hi => ?_
  have e := new_tuple (s := s1) (tk := tk) (h' := h') (I2.turned (t' := tk) (fun b o hb e => hk b o hb e) f0 f1 f3 f4 f5) (RT.vals_rev rv hi) (by rw [List.length_reverse]; exact hz) q
  rwa [Array.toArray_toList] at e
/-! ### list(reversed(list)) -/
section
variable {prog : Program} {w : World} {A : Around} {E : Value → Shared → Prop} {s : Shared}
theorem list_init_rev {it l : Addr} {items : Array Value} {R : Result → Shared → Prop} (hh : A.handled = none) (hit : s.heap.IsRevIter it l ((items.size : Int) - 1)) (hl : s.heap.IsList l items) (hne : l ≠ it) (hn : items.size ≤ sizeLine)
    (S : Addr) (hSi : S ≠ it) (hSl : S ≠ l) (hS : s.heap.get? S = some { cls := .type "list", data := .seq #[] })
    (hR : ∀ (h' : Heap) (tk : Nat) (acc : Array Value) (c : Nat), (∀ b o, b ≠ S → b ≠ it → s.heap.get? b = some o → h'.get? b = some o) → h'.get? S = some { cls := .type "list", dict := none, data := .seq acc c, slots := #[] } →
      ItemsOf (fun i v => items[items.size - 1 - i]? = some v) acc items.size → R (.ok (.ret .none)) { s with heap := h', toks := tk }) :
    wpAny (model prog w) A.in1 (Builtin.«list.__init__» ⟨[.ref S, .ref it], []⟩)
      (fun fin s' => match fin with | .done f => R (.ok f) s' | .again c' => c'.quiet = true ∧ codeAny (model prog w) A c' R s') (fun e s' => R (.error e) s') s := by
  have W := (Walks.listRev (prog := prog) (w := w) (A := A.in1) hh it l hne items).toS
  have hSf : S ∉ [it, l] := by simp only [List.mem_cons, List.not_mem_nil, or_false, not_or]; exact ⟨hSi, hSl⟩
  show wpAny _ A.in1 (do let old ← Builtin.List.listItems (.ref S); Builtin.List.listUpdate (.ref S) (fun _ => #[]); letGo old.toList.reverse; Builtin.List.listExtendWith (.ref S) (.ref it) .none) _ _ s
  refine wpAny_bind ?_
  unfold Builtin.List.listItems
  refine wpAny_bind (wpAny_seqItems hS rfl (wpAny_pure ?_))
  show wpAny _ A.in1 (updateSeq S (fun _ => #[]) >>= fun _ => letGo (#[] : Array Value).toList.reverse >>= fun _ => Builtin.List.listExtendWith (.ref S) (.ref it) .none) _ _ s
  refine wpAny_bind (wpAny_updateSeq hS rfl ?_)
  have hS₂ := Heap.get?_update_self (Obj.mapSeq (fun _ => (#[] : Array Value))) hS rfl
  have oth : ∀ b o, b ≠ S → s.heap.get? b = some o → (s.heap.update S (Obj.mapSeq (fun _ => (#[] : Array Value)))).get? b = some o :=
    fun b o hb e => (Heap.get?_update_other _ _ (Ne.symm hb)).trans e
  refine wpAny_bind (wpAny_letGo ?_)
  have hit1 : (s.heap.update S (Obj.mapSeq (fun _ => (#[] : Array Value)))).IsRevIter it l ((items.size : Int) - 1) := hit.at fun o e => oth _ _ (Ne.symm hSi) e
  have hl1 : (s.heap.update S (Obj.mapSeq (fun _ => (#[] : Array Value)))).IsList l items := by
    obtain ⟨o, h1, h2⟩ := hl
    exact ⟨o, oth _ _ (Ne.symm hSl) h1, h2⟩
  have hT : ({ s with heap := s.heap.update S (Obj.mapSeq (fun _ => (#[] : Array Value))) } : Shared).TypeIs (.ref it) "list_reverseiterator" :=
    Heap.IsRevIter.typeIs (s := { s with heap := s.heap.update S (Obj.mapSeq (fun _ => (#[] : Array Value))) }) hit1
  have h1 : Builtin.List.listSameRef (.ref S) (.ref it) = false := by simp [Builtin.List.listSameRef, hSi]
  unfold Builtin.List.listExtendWith
  refine wpAny_bind (wpAny_typeOf hT ?_)
  rw [if_neg (by rw [h1]; decide)]
  refine wpAny_bind (wpAny_pyIter_revIter (s := { s with heap := s.heap.update S (Obj.mapSeq (fun _ => (#[] : Array Value))) }) hit1 ?_)
  refine wpAny_bind (wpAny_holding ?_)
  unfold Builtin.List.listLengthHint
  refine wpAny_bind (wpAny_specialOf hT RT.nolen_lri ?_)
  show wpAny _ A.in1 (specialOf (Value.ref it) (Str.ofString "__length_hint__") >>= _) _ _ _
  refine wpAny_bind (wpAny_specialOf hT RT.hint_lri ?_)
  generalize hid : ("list_reverseiterator.__length_hint__" : String) = id0
  wp_delta
  rw [show splitId id0 = some ("list_reverseiterator", "__length_hint__") from by subst hid; decide +kernel]
  subst hid
  refine wpAny_bind (wpAny_isInstance (b := true) hT (by rw [isSubtype_type]; kernel_rfl) ?_)
  refine wpAny_pure ?_
  rw [if_neg (by decide)]
  have e0 : ((items.size : Nat) : Int) - 1 - ((0 : Nat) : Int) = (items.size : Int) - 1 := by omega
  refine wpAny_pure ⟨plainId_quiet F.plain_extend_loop _, codeAny_extend_loopS W hn _ hSf _ items.size 0 _ _ _ rfl (Nat.zero_le _) ⟨Nat.zero_le _, by rw [e0]; exact hit1, hl1⟩ hS₂ (ItemsOf.nil _) fun s' acc' c' hm hS' hacc => ?_⟩
  rw [Moved.eq_with hm]
  refine hR s'.heap s'.toks acc' c' (fun b o hb hb' e => hm.heap b o (fun hmem => ?_) (oth _ _ hb e)) hS' hacc
  rcases List.mem_cons.mp hmem with e' | hmem
  · exact hb e'
  · exact hb' (List.mem_singleton.mp hmem)
theorem call_list_rev {it l : Addr} {items : Array Value} {Q : Value → Shared → Prop} (hh : A.handled = none) (hit : s.heap.IsRevIter it l ((items.size : Int) - 1)) (hl : s.heap.IsList l items) (hne : l ≠ it) (hn : items.size ≤ sizeLine)
    (hQ : ∀ (h' : Heap) (tk : Nat) (acc : Array Value) (c : Nat), (∀ b o, b ≠ it → s.heap.get? b = some o → h'.get? b = some o) →
      h'.get? s.heap.objs.size = some { cls := .type "list", dict := none, data := .seq acc c, slots := #[] } → ItemsOf (fun i v => items[items.size - 1 - i]? = some v) acc items.size →
      Q (.ref s.heap.objs.size) { s with heap := h', toks := tk }) :
    wpAny (model prog w) A (call (.type "list") [.ref it]) Q E s := by
  obtain ⟨oi, hoi, _⟩ := id hit
  obtain ⟨ol, hol, _⟩ := id hl
  refine callType_codes (Q₁ := fun obj s₁ => obj = .ref s.heap.objs.size ∧ s₁ = { s with heap := s.heap.push { cls := .type "list", data := .seq #[] } }) F.called_list (F.typeCall_list_1 _) F.entry_list_init
    (code_list_new _ ⟨rfl, rfl⟩) fun obj s₁ h₁ => ?_
  obtain ⟨rfl, rfl⟩ := h₁
  have hS : (s.heap.push { cls := .type "list", data := .seq #[] }).get? s.heap.objs.size = some { cls := .type "list", data := .seq #[] } := Heap.get?_push_size _ rfl
  refine ⟨⟨_, hS, rfl⟩, F.args_list_init_2 _ _, list_init_rev (A := A.in1) hh (hit.at fun o e => Heap.get?_push_of_some _ e) (hl.push _) hne hn _ (Nat.ne_of_gt (Heap.lt_size hoi)) (Nat.ne_of_gt (Heap.lt_size hol)) hS fun h' tk acc c hk hS' hacc => ?_⟩
  exact ⟨rfl, hQ h' tk acc c (fun b o hb e => hk b o (Nat.ne_of_lt (Heap.lt_size e)) hb (Heap.get?_push_of_some _ e)) hS' hacc⟩
end
theorem pe_lstRevX {X : Cx} {e : Expr} {te : TE} {p p2 pos pos2 : Pos} (hc : X.calm = true) (hg : Gl X "list") (hm : X.mg "list" = none) (hg2 : Gl X "reversed") (hm2 : X.mg "reversed" = none) (he : PE X e te)
    (hs : starEach [e] X.env = (false, eval e X.env) :: starEach [] X.env)
    (hs2 : starEach [.Call (.Name "reversed" p2) [e] [] pos2] X.env = (false, eval (.Call (.Name "reversed" p2) [e] [] pos2) X.env) :: starEach [] X.env) :
    PE X (.Call (.Name "list" p) [.Call (.Name "reversed" p2) [e] [] pos2] [] pos) (fun σ H Q => te σ H fun v H1 => ∃ (a : Addr) (xs : List V), v = .ref a ∧ SqL X.K H1 a xs ∧ ∀ q, H1 q = none → Q (.ref q) (upd H1 q (.lst xs.reverse))) := by
  refine ⟨fun pins s σ H Q I h => ?_⟩
  refine Call_ (ld_blt I hg hm boot_list (PyProof.Rows.callWith_type1 (args_cons (Call_ (ld_blt I hg2 hm2 PyProof.Rows.boot_reversed (PyProof.Rows.callWith_type1 (args_cons (thn (he.run pins s σ H _ I h) fun u s1 ⟨v, H1, I1, r1, a, xs, ev, hq, q⟩ => args_nil ?_) hs) hs rfl))) hs2) hs2 rfl))
  subst ev
  obtain rfl : u = Value.ref a := r1
  obtain ⟨its, rv, p', hz⟩ := I1.list hq
  have hl := p'.isList
  obtain ⟨ol, hol, _⟩ := id hl
  have hne : a ≠ s1.heap.objs.size := Nat.ne_of_lt (Heap.lt_size hol)
  refine call_reversed_list hl (args_nil ?_)
  have I2 : Inv X pins σ H1 { s1 with heap := s1.heap.push (revObj a ((its.toArray.size : Int) - 1)) } := I1.kept (t' := s1.toks) fun b o e => Heap.get?_push_of_some _ e
  obtain ⟨f0, f1, f2, f3, f4, f5⟩ := I1.fpOk (H' := H1) (b := s1.heap.objs.size) (Nat.le_refl _) (I1.hok.fresh (Nat.le_refl _))
  have hz' : its.toArray.size ≤ sizeLine := by rw [List.size_toArray, ← rv.length]; exact hz
  refine call_list_rev (s := { s1 with heap := s1.heap.push (revObj a ((its.toArray.size : Int) - 1)) }) (I1.ok.hd hc) ⟨_, Heap.get?_push_size _ rfl, rfl, rfl⟩ (hl.push _) hne hz' fun h' tk acc c hk hS hi => ?_
  have sz : s1.heap.objs.size ≤ (s1.heap.push (revObj a ((its.toArray.size : Int) - 1))).objs.size := by simp [Heap.push]
  have hrv : Vals xs.reverse acc.toList := RT.vals_rev rv hi
  refine ⟨.ref (s1.heap.push (revObj a ((its.toArray.size : Int) - 1))).objs.size, upd H1 (s1.heap.push (revObj a ((its.toArray.size : Int) - 1))).objs.size (.lst xs.reverse), I1.laid (t' := tk) (fun b u e => hk b u (Nat.ne_of_lt (Heap.lt_size e)) (Heap.get?_push_of_some _ e)) sz
    (show ObjOk X.prog X.w _ _ _ (.lst xs.reverse) from ⟨by rw [List.length_reverse]; exact hz, acc.toList, c, hrv, ?_⟩), rfl, q _ (I1.hok.fresh sz)⟩
  rw [Array.toArray_toList]; exact hS
end Rf

/-! Part B: how the small language's values lie in the hand layer's abstract heap -/
namespace Rf
open PySem PySem.Spec PyProof.Rows L2

def FrL (K : PySem.W.Frag) (H : Hp) (a : Addr) (xs : List V) : Prop :=
  (∃ o, H a = some (.frz o (.lst xs))) ∨
    ∃ (o : Obj) (its : Array Value) (n : Nat), K.lookup a = some o ∧ o.cls = .type "list" ∧ o.dict = none ∧ o.data = .seq its n ∧ its.size ≤ sizeLine ∧ Vals xs its.toList
theorem FrL.seq {K : PySem.W.Frag} {H : Hp} {a : Addr} {xs : List V} (h : FrL K H a xs) : SqL K H a xs := by
  rcases h with ⟨o, h⟩ | h
  · exact .inl (.inr ⟨o, h⟩)
  · exact .inr h

inductive Rel (K : PySem.W.Frag) (ρ : List Addr) (H : Hp) : D → V → Prop
  | non : Rel K ρ H .non .non
  | bl (b : Bool) : Rel K ρ H (.bl b) (.bl b)
  | int (i : Int) : Rel K ρ H (.int i) (.int i)
  | str (s : List Nat) : Rel K ρ H (.str s) (.str ⟨s.toArray⟩)
  | obj {n : Nat} {a : Addr} : ρ[n]? = some a → Rel K ρ H (.obj n) (.ref a)
  | tup {xs : List D} {a : Addr} {vs : List V} : SqX K H a vs → xs.length = vs.length → (∀ (i : Nat) (x : D) (v : V), xs[i]? = some x → vs[i]? = some v → Rel K ρ H x v) → Rel K ρ H (.tup xs) (.ref a)
  | fro {xs : List D} {a : Addr} {vs : List V} : FrL K H a vs → xs.length = vs.length → (∀ (i : Nat) (x : D) (v : V), xs[i]? = some x → vs[i]? = some v → Rel K ρ H x v) → Rel K ρ H (.fro xs) (.ref a)

structure Rels (K : PySem.W.Frag) (ρ : List Addr) (H : Hp) (xs : List D) (vs : List V) : Prop where
  len : xs.length = vs.length
  at_ : ∀ (i : Nat) (x : D) (v : V), xs[i]? = some x → vs[i]? = some v → Rel K ρ H x v

structure Gr (ρ ρ' : List Addr) (H H' : Hp) : Prop where
  pre : ∃ t, ρ' = ρ ++ t
  tup : ∀ b xs, H b = some (.tup xs) → H' b = some (.tup xs)
  frz : ∀ b o u, H b = some (.frz o u) → H' b = some (.frz o u)

section
variable {K : PySem.W.Frag} {ρ ρ' ρ'' : List Addr} {H H' H'' : Hp} {a p : Addr} {o : HO} {xs ys : List D} {vs ws : List V} {d : D} {v : V} {st : Sto} {n : Nat}
theorem Gr.refl : Gr ρ ρ H H := ⟨⟨[], by simp⟩, fun _ _ h => h, fun _ _ _ h => h⟩
theorem Gr.trans (x : Gr ρ ρ' H H') (y : Gr ρ' ρ'' H' H'') : Gr ρ ρ'' H H'' := by
  obtain ⟨⟨t, rfl⟩, a1, a2⟩ := x
  obtain ⟨⟨u, rfl⟩, b1, b2⟩ := y
  exact ⟨⟨t ++ u, by simp⟩, fun b xs h => b1 b xs (a1 b xs h), fun b o u h => b2 b o u (a2 b o u h)⟩
theorem Gr.ix (g : Gr ρ ρ' H H') {n : Nat} (h : ρ[n]? = some a) : ρ'[n]? = some a := by
  obtain ⟨⟨t, rfl⟩, _, _⟩ := g
  have := (List.getElem?_eq_some_iff.mp h).1
  rw [List.getElem?_append_left this]; exact h
theorem Gr.sqT (g : Gr ρ ρ' H H') (h : SqT K H a vs) : SqT K H' a vs := by
  rcases h with (h | ⟨o, h⟩) | h
  · exact .inl (.inl (g.tup _ _ h))
  · exact .inl (.inr ⟨o, g.frz _ _ _ h⟩)
  · exact .inr h
theorem Gr.sqX (g : Gr ρ ρ' H H') (h : SqX K H a vs) : SqX K H' a vs := by
  rcases h with ⟨o, h, t⟩ | h
  · exact .inl ⟨o, g.frz _ _ _ h, t⟩
  · exact .inr h
theorem Gr.frL (g : Gr ρ ρ' H H') (h : FrL K H a vs) : FrL K H' a vs := by
  rcases h with ⟨o, h⟩ | h
  · exact .inl ⟨o, g.frz _ _ _ h⟩
  · exact .inr h
theorem Rel.mono (r : Rel K ρ H d v) (g : Gr ρ ρ' H H') : Rel K ρ' H' d v := by
  induction r with
  | non => exact .non
  | bl b => exact .bl b
  | int i => exact .int i
  | str s => exact .str s
  | obj h => exact .obj (g.ix h)
  | tup h l _ ih => exact .tup (g.sqX h) l fun i x v e1 e2 => ih i x v e1 e2
  | fro h l _ ih => exact .fro (g.frL h) l fun i x v e1 e2 => ih i x v e1 e2
theorem Rels.mono (r : Rels K ρ H xs vs) (g : Gr ρ ρ' H H') : Rels K ρ' H' xs vs := ⟨r.len, fun i x v e1 e2 => (r.at_ i x v e1 e2).mono g⟩
theorem Rels.nil : Rels K ρ H [] [] := ⟨rfl, fun i x v e _ => by simp at e⟩
theorem Rels.cons (r : Rel K ρ H d v) (t : Rels K ρ H xs vs) : Rels K ρ H (d :: xs) (v :: vs) := ⟨by simp [t.len], fun i x v e1 e2 => by
  cases i with
  | zero => simp at e1 e2; subst e1 e2; exact r
  | succ i => exact t.at_ i x v (by simpa using e1) (by simpa using e2)⟩
theorem Rels.inv_cons {vs : List V} (r : Rels K ρ H (d :: xs) vs) : ∃ v ws, vs = v :: ws ∧ Rel K ρ H d v ∧ Rels K ρ H xs ws := by
  cases vs with
  | nil => have := r.len; simp at this
  | cons v ws =>
    refine ⟨v, ws, rfl, r.at_ 0 d v rfl rfl, by have := r.len; simp at this; exact this, fun i x v e1 e2 => r.at_ (i + 1) x v (by simpa using e1) (by simpa using e2)⟩
theorem Rels.inv_nil {vs : List V} (r : Rels K ρ H [] vs) : vs = [] := by
  have := r.len
  exact List.length_eq_zero_iff.mp this.symm
theorem Rels.append {xs ys : List D} {vs ws : List V} (r : Rels K ρ H xs vs) (q : Rels K ρ H ys ws) : Rels K ρ H (xs ++ ys) (vs ++ ws) := by
  refine ⟨by simp [r.len, q.len], fun i x v e1 e2 => ?_⟩
  by_cases h : i < xs.length
  · rw [List.getElem?_append_left h] at e1
    rw [List.getElem?_append_left (by rw [← r.len]; exact h)] at e2
    exact r.at_ i x v e1 e2
  · have h' : xs.length ≤ i := Nat.le_of_not_lt h
    rw [List.getElem?_append_right h'] at e1
    rw [List.getElem?_append_right (by rw [← r.len]; exact h'), ← r.len] at e2
    exact q.at_ _ x v e1 e2
theorem Rels.get (r : Rels K ρ H xs vs) {i : Nat} (h : xs[i]? = some d) : ∃ v, vs[i]? = some v ∧ Rel K ρ H d v := by
  have hl := (List.getElem?_eq_some_iff.mp h).1
  have hl' : i < vs.length := by rw [← r.len]; exact hl
  exact ⟨vs[i], List.getElem?_eq_getElem hl', r.at_ i d _ h (List.getElem?_eq_getElem hl')⟩
theorem Rels.get' (r : Rels K ρ H xs vs) {i : Nat} (h : vs[i]? = some v) : ∃ d, xs[i]? = some d ∧ Rel K ρ H d v := by
  have hl := (List.getElem?_eq_some_iff.mp h).1
  have hl' : i < xs.length := by rw [r.len]; exact hl
  exact ⟨xs[i], List.getElem?_eq_getElem hl', r.at_ i _ v (List.getElem?_eq_getElem hl') h⟩
theorem Rels.take (r : Rels K ρ H xs vs) (m : Nat) : Rels K ρ H (xs.take m) (vs.take m) := by
  refine ⟨by simp [r.len], fun i x v e1 e2 => ?_⟩
  rw [List.getElem?_take] at e1 e2
  split at e1
  · rename_i h; rw [if_pos h] at e2; exact r.at_ i x v e1 e2
  · cases e1
theorem Rels.drop (r : Rels K ρ H xs vs) (m : Nat) : Rels K ρ H (xs.drop m) (vs.drop m) := by
  refine ⟨by simp [r.len], fun i x v e1 e2 => ?_⟩
  rw [List.getElem?_drop] at e1 e2
  exact r.at_ _ x v e1 e2
theorem Rels.reverse (r : Rels K ρ H xs vs) : Rels K ρ H xs.reverse vs.reverse := by
  refine ⟨by simp [r.len], fun i x v e1 e2 => ?_⟩
  have h1 := (List.getElem?_eq_some_iff.mp e1).1
  rw [List.length_reverse] at h1
  rw [List.getElem?_reverse h1] at e1
  rw [List.getElem?_reverse (by rw [← r.len]; exact h1), ← r.len] at e2
  exact r.at_ _ x v e1 e2
theorem Rels.set (r : Rels K ρ H xs vs) (q : Rel K ρ H d v) (j : Nat) : Rels K ρ H (xs.set j d) (vs.set j v) := by
  refine ⟨by simp [r.len], fun i x w e1 e2 => ?_⟩
  rw [List.getElem?_set] at e1 e2
  by_cases h : j = i
  · subst h
    rw [if_pos rfl] at e1 e2
    split at e1
    · cases e1
      split at e2
      · cases e2; exact q
      · cases e2
    · cases e1
  · rw [if_neg h] at e1 e2
    exact r.at_ i x w e1 e2
theorem Rels.ints {ns : List Int} (r : Rels K ρ H (ns.map D.int) vs) : vs = ns.map V.int := by
  induction ns generalizing vs with
  | nil => exact r.inv_nil
  | cons n ns ih =>
    obtain ⟨v, ws, rfl, q, t⟩ := Rels.inv_cons (d := .int n) (xs := ns.map D.int) r
    cases q
    rw [ih t]; rfl
theorem Rels.bls {bs : List Bool} (r : Rels K ρ H (bs.map D.bl) vs) : vs = bs.map V.bl := by
  induction bs generalizing vs with
  | nil => exact r.inv_nil
  | cons n ns ih =>
    obtain ⟨v, ws, rfl, q, t⟩ := Rels.inv_cons (d := .bl n) (xs := ns.map D.bl) r
    cases q
    rw [ih t]; rfl
theorem Rels.of_ints (ns : List Int) : Rels K ρ H (ns.map D.int) (ns.map V.int) := by
  induction ns with
  | nil => exact .nil
  | cons n ns ih => exact .cons (.int n) ih
theorem Rel.tupR {xs : List D} {vs : List V} (h : SqX K H a vs) (r : Rels K ρ H xs vs) : Rel K ρ H (.tup xs) (.ref a) := .tup h r.len r.at_
theorem Rel.tup_invX {xs : List D} (r : Rel K ρ H (.tup xs) v) : ∃ a vs, v = .ref a ∧ SqX K H a vs ∧ Rels K ρ H xs vs := by
  cases r with
  | tup h l q => exact ⟨_, _, rfl, h, l, q⟩
theorem Rel.tup_inv {xs : List D} (r : Rel K ρ H (.tup xs) v) : ∃ a vs, v = .ref a ∧ SqT K H a vs ∧ Rels K ρ H xs vs := by
  obtain ⟨a, vs, e, h, t⟩ := r.tup_invX
  exact ⟨a, vs, e, h.t, t⟩
theorem Rel.fro_inv {xs : List D} (r : Rel K ρ H (.fro xs) v) : ∃ a vs, v = .ref a ∧ FrL K H a vs ∧ Rels K ρ H xs vs := by
  cases r with
  | fro h l q => exact ⟨_, _, rfl, h, l, q⟩
theorem Rel.obj_inv {n : Nat} (r : Rel K ρ H (.obj n) v) : ∃ a, v = .ref a ∧ ρ[n]? = some a := by
  cases r with
  | obj h => exact ⟨_, rfl, h⟩

/-- a table and the hand layer's dict: key by key, value by value -/
structure DRel (K : PySem.W.Frag) (ρ : List Addr) (H : Hp) (kvs : List (D × D)) (ks : List (Key × V)) : Prop where
  len : kvs.length = ks.length
  at_ : ∀ (i : Nat) (p : D × D) (q : Key × V), kvs[i]? = some p → ks[i]? = some q → keyK p.1 = some q.1 ∧ Rel K ρ H p.2 q.2
/-- an object of the store at its address -/
def OkO (K : PySem.W.Frag) (ρ : List Addr) (H : Hp) (a : Addr) : O → Prop
  | .lst xs => ∃ vs, H a = some (.lst vs) ∧ Rels K ρ H xs vs
  | .dic t kvs => t = false ∧ ∃ ks, H a = some (.dK ks) ∧ DRel K ρ H kvs ks
theorem DRel.mono {K : PySem.W.Frag} {ρ ρ' : List Addr} {H H' : Hp} {kvs : List (D × D)} {ks : List (Key × V)} (r : DRel K ρ H kvs ks) (g : Gr ρ ρ' H H') : DRel K ρ' H' kvs ks :=
  ⟨r.len, fun i p q e1 e2 => ⟨(r.at_ i p q e1 e2).1, (r.at_ i p q e1 e2).2.mono g⟩⟩
theorem keyK_inj {a b : D} {k : Key} (h : keyK a = some k) (h' : keyK b = some k) : a = b := by
  cases a <;> cases b <;> simp [keyK] at h h'
  · rw [← h'] at h; injection h with h; rw [h]
  · rw [← h'] at h; cases h
  · rw [← h'] at h; cases h
  · rw [← h'] at h
    injection h with h
    injection h with h
    have := congrArg Array.toList h
    exact congrArg D.str (by simpa using this)
structure Ok (K : PySem.W.Frag) (ρ : List Addr) (H : Hp) (st : Sto) : Prop where
  len : ρ.length = st.length
  nd : ρ.Nodup
  ok : ∀ (n : Nat) (o : O) (a : Addr), st[n]? = some o → ρ[n]? = some a → OkO K ρ H a o

theorem OkO.some {o : O} (h : OkO K ρ H a o) : ∃ u, H a = some u ∧ (∀ xs, u ≠ .tup xs) ∧ ∀ b w, u ≠ .frz b w := by
  cases o with
  | lst xs => obtain ⟨vs, h, _⟩ := h; exact ⟨_, h, fun _ => (fun z => nomatch z), fun _ _ => fun z => nomatch z⟩
  | dic t kvs => obtain ⟨_, ks, h, _⟩ := h; exact ⟨_, h, fun _ => (fun z => nomatch z), fun _ _ => fun z => nomatch z⟩
theorem OkO.keep {o : O} (h : OkO K ρ H a o) (g : Gr ρ ρ' H H') (e : H' a = H a) : OkO K ρ' H' a o := by
  cases o with
  | lst xs => obtain ⟨vs, h, r⟩ := h; exact ⟨vs, e.trans h, r.mono g⟩
  | dic t kvs => obtain ⟨q, ks, h, r⟩ := h; exact ⟨q, ks, e.trans h, r.mono g⟩
theorem Ok.at_ (x : Ok K ρ H st) {n : Nat} (h : st[n]? = some o') : ∃ a, ρ[n]? = some a ∧ OkO K ρ H a o' := by
  have hl := (List.getElem?_eq_some_iff.mp h).1
  have hl' : n < ρ.length := by rw [x.len]; exact hl
  exact ⟨ρ[n], List.getElem?_eq_getElem hl', x.ok n _ _ h (List.getElem?_eq_getElem hl')⟩
theorem Ok.lst (x : Ok K ρ H st) {n : Nat} {xs : List D} (h : st[n]? = some (.lst xs)) (ha : ρ[n]? = some a) : ∃ vs, H a = some (.lst vs) ∧ Rels K ρ H xs vs := x.ok n _ a h ha
theorem Ok.mem (x : Ok K ρ H st) (h : a ∈ ρ) : ∃ u, H a = some u ∧ (∀ xs, u ≠ .tup xs) ∧ ∀ b w, u ≠ .frz b w := by
  obtain ⟨n, hn, e⟩ := List.getElem_of_mem h
  have hn' : n < st.length := by rw [← x.len]; exact hn
  exact (x.ok n st[n] a (List.getElem?_eq_getElem hn') (by rw [List.getElem?_eq_getElem hn, e])).some
theorem Ok.notin (x : Ok K ρ H st) (h : H p = none) : p ∉ ρ := fun hm => by
  obtain ⟨u, e, _⟩ := x.mem hm
  rw [h] at e; cases e
theorem gr_upd (h : H p = none) : Gr ρ ρ H (upd H p o) :=
  ⟨⟨[], by simp⟩, fun b xs e => by rw [upd_ne (ne_of_none e h)]; exact e, fun b q u e => by rw [upd_ne (ne_of_none e h)]; exact e⟩
theorem gr_new (h : H p = none) : Gr ρ (ρ ++ [p]) H (upd H p o) :=
  ⟨⟨[p], rfl⟩, fun b xs e => by rw [upd_ne (ne_of_none e h)]; exact e, fun b q u e => by rw [upd_ne (ne_of_none e h)]; exact e⟩
theorem gr_set {u : HO} (h : H p = some u) (h1 : ∀ xs, u ≠ .tup xs) (h2 : ∀ b w, u ≠ .frz b w) : Gr ρ ρ H (upd H p o) :=
  ⟨⟨[], by simp⟩, fun b xs e => by rw [upd_ne (ne_of e h (fun z => h1 xs z.symm))]; exact e, fun b q w e => by rw [upd_ne (ne_of e h (fun z => h2 q w z.symm))]; exact e⟩
theorem Ok.upd_free (x : Ok K ρ H st) (h : H p = none) : Ok K ρ (upd H p o) st :=
  ⟨x.len, x.nd, fun n ob a e1 e2 => (x.ok n ob a e1 e2).keep (gr_upd h) (upd_ne fun z => x.notin h (z ▸ List.mem_of_getElem? e2))⟩
theorem Ok.newO {nw : O} {ho : HO} (x : Ok K ρ H st) (h : H p = none) (r : OkO K (ρ ++ [p]) (upd H p ho) p nw) : Ok K (ρ ++ [p]) (upd H p ho) (st ++ [nw]) := by
  refine ⟨by simp [x.len], ?_, fun n ob a e1 e2 => ?_⟩
  · rw [List.nodup_append]
    refine ⟨x.nd, by simp, fun b hb c hc => ?_⟩
    rw [List.mem_singleton] at hc; subst hc
    exact fun z => x.notin h (z ▸ hb)
  · by_cases hn : n < st.length
    · rw [List.getElem?_append_left hn] at e1
      rw [List.getElem?_append_left (by rw [x.len]; exact hn)] at e2
      exact (x.ok n ob a e1 e2).keep (gr_new h) (upd_ne fun z => x.notin h (z ▸ List.mem_of_getElem? e2))
    · have hn' : st.length ≤ n := Nat.le_of_not_lt hn
      rw [List.getElem?_append_right hn'] at e1
      rw [List.getElem?_append_right (by rw [x.len]; exact hn'), x.len] at e2
      cases hk : n - st.length with
      | zero =>
        rw [hk] at e1 e2
        simp at e1 e2
        subst e1 e2
        exact r
      | succ m => rw [hk] at e1; simp at e1
theorem Ok.new (x : Ok K ρ H st) (h : H p = none) (r : Rels K ρ H xs vs) : Ok K (ρ ++ [p]) (upd H p (.lst vs)) (st ++ [.lst xs]) := x.newO h ⟨vs, upd_same, r.mono (gr_new h)⟩
theorem Ok.newD (x : Ok K ρ H st) (h : H p = none) : Ok K (ρ ++ [p]) (upd H p (.dK [])) (st ++ [.dic false []]) := x.newO h ⟨rfl, [], upd_same, rfl, fun i p q e _ => by simp at e⟩
theorem Ok.ref_new (x : Ok K ρ H st) : (ρ ++ [p])[st.length]? = some p := by rw [← x.len]; simp
theorem Ok.setO {nw : O} {ho : HO} (x : Ok K ρ H st) {n : Nat} {ob : O} (e : st[n]? = some ob) (ha : ρ[n]? = some a) (r : Gr ρ ρ H (upd H a ho) → OkO K ρ (upd H a ho) a nw) : Ok K ρ (upd H a ho) (st.set n nw) ∧ Gr ρ ρ H (upd H a ho) := by
  obtain ⟨u, hu, h1, h2⟩ := (x.ok n ob a e ha).some
  have g : Gr ρ ρ H (upd H a ho) := gr_set hu h1 h2
  have hn := (List.getElem?_eq_some_iff.mp e).1
  refine ⟨⟨by simp [x.len], x.nd, fun m ob' b e1 e2 => ?_⟩, g⟩
  by_cases hm : n = m
  · subst hm
    rw [ha] at e2; cases e2
    rw [List.getElem?_set_self hn] at e1; cases e1
    exact r g
  · rw [List.getElem?_set_ne hm] at e1
    refine (x.ok m ob' b e1 e2).keep g (upd_ne fun z => hm ?_)
    subst z
    obtain ⟨l1, q1⟩ := List.getElem?_eq_some_iff.mp ha
    obtain ⟨l2, q2⟩ := List.getElem?_eq_some_iff.mp e2
    exact (List.getElem_inj x.nd).mp (q1.trans q2.symm)
theorem Ok.set (x : Ok K ρ H st) {n : Nat} {ob : O} (e : st[n]? = some ob) (ha : ρ[n]? = some a) (r : Rels K ρ H xs vs) : Ok K ρ (upd H a (.lst vs)) (st.set n (.lst xs)) ∧ Gr ρ ρ H (upd H a (.lst vs)) :=
  x.setO e ha fun g => ⟨vs, upd_same, r.mono g⟩
theorem Ok.dic (x : Ok K ρ H st) {n : Nat} {t : Bool} {kvs : List (D × D)} (h : st[n]? = some (.dic t kvs)) (ha : ρ[n]? = some a) : t = false ∧ ∃ ks, H a = some (.dK ks) ∧ DRel K ρ H kvs ks := x.ok n _ a h ha
end

/-! ### low values: what the cut of the store keeps -/
section
variable {K : PySem.W.Frag} {ρ : List Addr} {H : Hp}
theorem lowL_iff {m : Nat} : ∀ {xs : List D}, D.lowL m xs = true ↔ ∀ x ∈ xs, D.low m x = true
  | [] => by simp [D.lowL]
  | x :: xs => by simp [D.lowL, lowL_iff (xs := xs)]
theorem Rel.cut {m : Nat} {d : D} {v : V} (r : Rel K ρ H d v) (h : d.low m = true) : Rel K (ρ.take m) H d v := by
  induction r with
  | non => exact .non
  | bl b => exact .bl b
  | int i => exact .int i
  | str s => exact .str s
  | @obj k _ e =>
    refine .obj ?_
    have h' : k < m := by simpa [D.low] using h
    rw [List.getElem?_take, if_pos h']; exact e
  | tup e l _ ih =>
    refine .tup e l fun i x v e1 e2 => ih i x v e1 e2 ?_
    exact lowL_iff.mp (by simpa [D.low] using h) x (List.mem_of_getElem? e1)
  | fro e l _ ih =>
    refine .fro e l fun i x v e1 e2 => ih i x v e1 e2 ?_
    exact lowL_iff.mp (by simpa [D.low] using h) x (List.mem_of_getElem? e1)
theorem Rels.cut {m : Nat} {xs : List D} {vs : List V} (r : Rels K ρ H xs vs) (h : D.lowL m xs = true) : Rels K (ρ.take m) H xs vs :=
  ⟨r.len, fun i x v e1 e2 => (r.at_ i x v e1 e2).cut (lowL_iff.mp h x (List.mem_of_getElem? e1))⟩
theorem Rel.low {d : D} {v : V} (r : Rel K ρ H d v) : d.low ρ.length = true := by
  induction r with
  | non => rfl
  | bl b => rfl
  | int i => rfl
  | str s => rfl
  | obj e => simpa [D.low] using (List.getElem?_eq_some_iff.mp e).1
  | @tup xs a vs e l _ ih =>
    show D.lowL _ xs = true
    refine lowL_iff.mpr fun x hx => ?_
    obtain ⟨i, hi, q⟩ := List.getElem_of_mem hx
    exact ih i x vs[i] (by rw [List.getElem?_eq_getElem hi, q]) (List.getElem?_eq_getElem (by rw [← l]; exact hi))
  | @fro xs a vs e l _ ih =>
    show D.lowL _ xs = true
    refine lowL_iff.mpr fun x hx => ?_
    obtain ⟨i, hi, q⟩ := List.getElem_of_mem hx
    exact ih i x vs[i] (by rw [List.getElem?_eq_getElem hi, q]) (List.getElem?_eq_getElem (by rw [← l]; exact hi))
mutual
theorem low_mono {m n : Nat} (h : m ≤ n) : ∀ d : D, d.low m = true → d.low n = true
  | .non, _ => rfl
  | .bl _, _ => rfl
  | .int _, _ => rfl
  | .str _, _ => rfl
  | .tup xs, q => lowL_mono h xs q
  | .fro xs, q => lowL_mono h xs q
  | .obj k, q => by
    have q' : k < m := by simpa [D.low] using q
    simpa [D.low] using Nat.lt_of_lt_of_le q' h
theorem lowL_mono {m n : Nat} (h : m ≤ n) : ∀ xs : List D, D.lowL m xs = true → D.lowL n xs = true
  | [], _ => rfl
  | x :: xs, q => by
    have q' : D.low m x = true ∧ D.lowL m xs = true := by simpa [D.lowL] using q
    show (D.low n x && D.lowL n xs) = true
    rw [low_mono h x q'.1, lowL_mono h xs q'.2]; rfl
end
theorem OkO.lowO {a : Addr} {o : O} (h : OkO K ρ H a o) : o.low ρ.length = true := by
  cases o with
  | lst xs =>
    obtain ⟨vs, _, r⟩ := h
    refine lowL_iff.mpr fun x hx => ?_
    obtain ⟨i, hi, q⟩ := List.getElem_of_mem hx
    obtain ⟨v, _, r'⟩ := r.get (i := i) (d := x) (by rw [List.getElem?_eq_getElem hi, q])
    exact r'.low
  | dic t kvs =>
    obtain ⟨_, ks, _, r⟩ := h
    show (kvs.all fun p => p.1.low ρ.length && p.2.low ρ.length) = true
    rw [List.all_eq_true]
    intro p hp
    obtain ⟨i, hi, q⟩ := List.getElem_of_mem hp
    have hi' : i < ks.length := by rw [← r.len]; exact hi
    obtain ⟨k1, k2⟩ := r.at_ i p ks[i] (by rw [List.getElem?_eq_getElem hi, q]) (List.getElem?_eq_getElem hi')
    have h1 : p.1.low ρ.length = true := by cases e : p.1 <;> rw [e] at k1 <;> first | rfl | cases k1
    rw [h1, k2.low]; rfl
theorem O.low_mono {m n : Nat} (h : m ≤ n) {o : O} (q : o.low m = true) : o.low n = true := by
  cases o with
  | lst xs => exact Rf.lowL_mono h xs q
  | dic t kvs =>
    have q' : (kvs.all fun p => p.1.low m && p.2.low m) = true := q
    show (kvs.all fun p => p.1.low n && p.2.low n) = true
    rw [List.all_eq_true] at q' ⊢
    intro p hp
    have := q' p hp
    rw [Bool.and_eq_true] at this ⊢
    exact ⟨Rf.low_mono h _ this.1, Rf.low_mono h _ this.2⟩
theorem OkO.cut {m : Nat} {a : Addr} {o : O} (h : OkO K ρ H a o) (q : o.low m = true) : OkO K (ρ.take m) H a o := by
  cases o with
  | lst xs => obtain ⟨vs, e, r⟩ := h; exact ⟨vs, e, r.cut q⟩
  | dic t kvs =>
    obtain ⟨f, ks, e, r⟩ := h
    have q : (kvs.all fun p => p.1.low m && p.2.low m) = true := q
    rw [List.all_eq_true] at q
    refine ⟨f, ks, e, r.len, fun i p k e1 e2 => ⟨(r.at_ i p k e1 e2).1, (r.at_ i p k e1 e2).2.cut ?_⟩⟩
    have := q p (List.mem_of_getElem? e1)
    rw [Bool.and_eq_true] at this
    exact this.2
/-- the cut of the store keeps the bond -/
theorem gc_ok {ρ₀ : List Addr} {H₀ : Hp} {st st' : Sto} {d : D} {v : V} {KQ : KD} (x₀ : Ok K ρ₀ H₀ st) (g : Gr ρ₀ ρ H₀ H) (x : Ok K ρ H st') (r : Rel K ρ H d v) (h : gcTo st d st' KQ) :
    ∃ ρ' st'', Gr ρ₀ ρ' H₀ H ∧ Ok K ρ' H st'' ∧ Rel K ρ' H d v ∧ KQ d st'' := by
  obtain ⟨m, h1, h2, h3, h4, h5⟩ := h
  obtain ⟨⟨t, rfl⟩, gt, gf⟩ := g
  refine ⟨(ρ₀ ++ t).take m, st'.take m, ⟨⟨t.take (m - ρ₀.length), ?_⟩, gt, gf⟩, ⟨by simp [← x.len], x.nd.sublist (List.take_sublist _ _), fun n o a e1 e2 => ?_⟩, r.cut h3, h5⟩
  · rw [List.take_append, List.take_of_length_le (by rw [x₀.len]; exact h1)]
  · rw [List.getElem?_take] at e1 e2
    split at e1
    · rename_i hn
      rw [if_pos hn] at e2
      have q := x.ok n o a e1 e2
      refine q.cut ?_
      rcases h4 n hn with ⟨hl, e⟩ | ⟨o', e, lo⟩
      · rw [e1] at e
        have hn' : n < ρ₀.length := by rw [x₀.len]; exact hl
        rw [List.getElem?_append_left hn'] at e2
        have l0 := (x₀.ok n o a e.symm e2).lowO
        exact O.low_mono (by rw [x₀.len]; exact h1) l0
      · rw [e1] at e; cases e; exact lo
    · cases e1
end
end Rf

/-! Part C: the operators, calls of built-ins, subscripts, by values -/
namespace Rf
open PySem PySem.Spec PyProof.Rows L2

/-- what is wanted of a value and the heap, told by what is wanted of a small value and the store -/
def Lift (K : PySem.W.Frag) (ρ : List Addr) (H : Hp) (P : KD) (Q : VK) : Prop :=
  ∀ d st' ρ' H' v, P d st' → Gr ρ ρ' H H' → Ok K ρ' H' st' → Rel K ρ' H' d v → Q v H'

section
variable {K : PySem.W.Frag} {ρ ρ' : List Addr} {H H' : Hp} {st : Sto} {P : KD} {Q : VK} {d : D} {v : V}
theorem Lift.same (l : Lift K ρ H P Q) (o : Ok K ρ H st) (r : Rel K ρ H d v) (p : P d st) : Q v H := l d st ρ H v p .refl o r
theorem Lift.tup {xs : List D} {vs : List V} (l : Lift K ρ H P Q) (o : Ok K ρ H st) (r : Rels K ρ H xs vs) (q : P (.tup xs) st) : NewT H vs Q :=
  fun p ob hp ho => l _ _ ρ _ _ q (gr_upd hp) (o.upd_free hp) (.tupR (.new ho) (r.mono (gr_upd hp)))
theorem Lift.new {p : Addr} {xs : List D} {vs : List V} (l : Lift K ρ H P Q) (o : Ok K ρ H st) (r : Rels K ρ H xs vs) (q : P (.obj st.length) (st ++ [.lst xs])) (hp : H p = none) : Q (.ref p) (upd H p (.lst vs)) :=
  l _ _ (ρ ++ [p]) _ _ q (gr_new hp) (o.new hp r) (.obj o.ref_new)
theorem Lift.trans {l' : Gr ρ ρ' H H'} (l : Lift K ρ H P Q) : Lift K ρ' H' P Q := fun d st' ρ'' H'' v p g o r => l d st' ρ'' H'' v p (l'.trans g) o r
theorem rel_str {s : List Nat} (r : Rel K ρ H (.str s) v) : v = .str ⟨s.toArray⟩ := by cases r; rfl
theorem rel_int {i : Int} (r : Rel K ρ H (.int i) v) : v = .int i := by cases r; rfl
theorem rel_bl {i : Bool} (r : Rel K ρ H (.bl i) v) : v = .bl i := by cases r; rfl
theorem rel_non (r : Rel K ρ H .non v) : v = .non := by cases r; rfl
theorem slen (s : List Nat) : (Str.length ⟨s.toArray⟩) = s.length := by simp [Str.length]
theorem sapp (a b : List Nat) : (⟨a.toArray⟩ ++ ⟨b.toArray⟩ : Str) = ⟨(a ++ b).toArray⟩ := by
  show Str.append _ _ = _
  simp [Str.append]
theorem seq_val {x : D} {xs : List D} (o : Ok K ρ H st) (r : Rel K ρ H x v) (h : seqD st x xs) : ∃ a vs, v = .ref a ∧ (SqL K H a vs ∨ SqT K H a vs) ∧ Rels K ρ H xs vs := by
  cases x with
  | tup ys => obtain ⟨a, vs, rfl, q, t⟩ := r.tup_inv; cases h; exact ⟨a, vs, rfl, .inr q, t⟩
  | fro ys => obtain ⟨a, vs, rfl, q, t⟩ := r.fro_inv; cases h; exact ⟨a, vs, rfl, .inl q.seq, t⟩
  | obj n =>
    obtain ⟨a, rfl, ha⟩ := r.obj_inv
    obtain ⟨vs, e, t⟩ := o.lst h ha
    exact ⟨a, vs, rfl, .inl (.of e), t⟩
  | non => exact h.elim
  | bl _ => exact h.elim
  | int _ => exact h.elim
  | str _ => exact h.elim

mutual
theorem dat_dp (o : Ok K ρ H st) : ∀ (p : PyData) (x : D) (v : V), Dat st x p → Rel K ρ H x v → Dp K H v p
  | .none, _, _, h, r => by cases h; cases r; exact .non
  | .bool b, _, _, h, r => by cases h; cases r; exact .bl b
  | .int i, _, _, h, r => by cases h; cases r; exact .int i
  | .str s, _, _, h, r => by cases h; cases r; exact .str _
  | .tuple ps, _, _, h, r => by
    cases h with
    | tup l q =>
      obtain ⟨a, vs, rfl, e, t⟩ := r.tup_inv
      exact .tup e (dat_dps o ps _ _ l t.len (fun i x p e1 e2 => q i x p e1 e2) fun i x v e1 e2 => t.at_ i x v e1 e2)
  | .list ps, _, _, h, r => by
    cases h with
    | fro l q =>
      obtain ⟨a, vs, rfl, e, t⟩ := r.fro_inv
      exact .lst e.seq (dat_dps o ps _ _ l t.len (fun i x p e1 e2 => q i x p e1 e2) fun i x v e1 e2 => t.at_ i x v e1 e2)
    | obj hs l q =>
      obtain ⟨a, rfl, ha⟩ := r.obj_inv
      obtain ⟨vs, e, t⟩ := o.lst hs ha
      exact .lst (.of e) (dat_dps o ps _ _ l t.len (fun i x p e1 e2 => q i x p e1 e2) fun i x v e1 e2 => t.at_ i x v e1 e2)
  | .dict _, _, _, h, _ => by cases h
theorem dat_dps (o : Ok K ρ H st) : ∀ (ps : List PyData) (xs : List D) (vs : List V), xs.length = ps.length → xs.length = vs.length →
    (∀ (i : Nat) (x : D) (p : PyData), xs[i]? = some x → ps[i]? = some p → Dat st x p) → (∀ (i : Nat) (x : D) (v : V), xs[i]? = some x → vs[i]? = some v → Rel K ρ H x v) → DpAll K H vs ps
  | [], [], [], _, _, _, _ => .nil
  | p :: ps, x :: xs, v :: vs, l1, l2, h1, h2 => .cons (dat_dp o p x v (h1 0 x p rfl rfl) (h2 0 x v rfl rfl))
      (dat_dps o ps xs vs (by simpa using l1) (by simpa using l2) (fun i x p e1 e2 => h1 (i + 1) x p (by simpa using e1) (by simpa using e2)) fun i x v e1 e2 => h2 (i + 1) x v (by simpa using e1) (by simpa using e2))
  | [], _ :: _, _, l, _, _, _ => by simp at l
  | _ :: _, [], _, l, _, _, _ => by simp at l
  | [], [], _ :: _, _, l, _, _ => by simp at l
  | _ :: _, _ :: _, [], _, l, _, _ => by simp at l
end
theorem inV_ints (i : Int) (ns : List Int) : inV (.int i) (ns.map V.int) = decide (i ∈ ns) := by
  induction ns with
  | nil => rfl
  | cons n ns ih =>
    have e : inV (.int i) ((n :: ns).map V.int) = ((n == i) || inV (.int i) (ns.map V.int)) := rfl
    rw [e, ih]
    by_cases h : n = i
    · subst h; simp
    · have h' : (n == i) = false := beq_eq_false_iff_ne.mpr h
      have h2 : ¬ i = n := fun z => h z.symm
      simp [h', h2]
theorem str_inj {a b : List Nat} : ((⟨a.toArray⟩ : Str) = ⟨b.toArray⟩) ↔ a = b := by
  constructor
  · intro h
    have := congrArg (fun z : Str => z.cps.toList) h
    simpa using this
  · rintro rfl; rfl
theorem inV_strs (i : List Nat) (ns : List (List Nat)) : inV (.str ⟨i.toArray⟩) (ns.map fun s => V.str ⟨s.toArray⟩) = decide (i ∈ ns) := by
  induction ns with
  | nil => rfl
  | cons n ns ih =>
    have e : inV (.str ⟨i.toArray⟩) ((n :: ns).map fun s => V.str ⟨s.toArray⟩) = (((⟨n.toArray⟩ : Str) == ⟨i.toArray⟩) || inV (.str ⟨i.toArray⟩) (ns.map fun s => V.str ⟨s.toArray⟩)) := rfl
    rw [e, ih]
    by_cases h : n = i
    · subst h; simp
    · have h' : ((⟨n.toArray⟩ : Str) == ⟨i.toArray⟩) = false := beq_eq_false_iff_ne.mpr fun z => h (str_inj.mp z)
      have h2 : ¬ i = n := fun z => h z.symm
      simp [h', h2]
theorem Rels.strs {ns : List (List Nat)} {vs : List V} (r : Rels K ρ H (ns.map D.str) vs) : vs = ns.map fun s => V.str ⟨s.toArray⟩ := by
  induction ns generalizing vs with
  | nil => exact r.inv_nil
  | cons n ns ih =>
    obtain ⟨v, ws, rfl, q, t⟩ := Rels.inv_cons (d := .str n) (xs := ns.map D.str) r
    rw [rel_str q, ih t]; rfl
end

/-! ### repr of data -/
section
variable {X : Cx}
theorem repr_ok (hG : X.A.guards = some []) (hu : X.A.units + 65 < cLine) : CallR X (.builtin "repr") (fun vs H Q => ∃ a d, vs = [.ref a] ∧ Dp X.K H (.ref a) d ∧ d.showable = true ∧ d.hasDict = false ∧ d.depth ≤ 60 ∧ d.shown.length ≤ sizeLine ∧ Q (.str d.shown) H) := by
  intro pins s σ H vs us Q I r h
  obtain ⟨a, d, rfl, hd, h1, h2, h3, h4, q⟩ := h
  obtain ⟨u, rfl, ru⟩ := vals1 r
  obtain ⟨as, rd⟩ := Dp.reads I d _ u hd ru
  cases ru
  refine repr_of_reads' rd h1 (fun z => by rw [h2] at z; cases z) hG (by omega) (fun b o e => e) (fun h' u tk hk => ?_) h4
  exact ⟨.str d.shown, H, I.kept (t' := tk) hk, ⟨u, rfl⟩, q⟩
end

def bop : BOp → Operator
  | .add => .Add | .sub => .Sub | .mul => .Mult | .fdiv => .FloorDiv | .mod => .Mod
def cop : COp → CmpOp
  | .eq => .Eq | .ne => .NotEq | .lt => .Lt | .le => .LtE | .gt => .Gt | .ge => .GtE | .is => .Is | .isnt => .IsNot | .inn => .In | .nin => .NotIn

theorem mul_rep (s : List Nat) (k : Int) : Txt.mul ⟨s.toArray⟩ k = ⟨(repD k.toNat s).toArray⟩ := by
  unfold Txt.mul
  have fold : ∀ (n : Nat) (acc : Array Nat), (List.replicate n s.toArray).foldl (· ++ ·) acc = acc ++ (repD n s).toArray := by
    intro n
    induction n with
    | zero => intro acc; simp [repD]
    | succ n ih => intro acc; rw [List.replicate_succ, List.foldl_cons, ih]; simp [repD, List.replicate_succ]
  by_cases h : k < 1
  · rw [if_pos h]
    have : k.toNat = 0 := by omega
    rw [this]; rfl
  · rw [if_neg h]
    by_cases h2 : (k == 1 || Str.length ⟨s.toArray⟩ == 0) = true
    · rw [if_pos h2]
      rw [Bool.or_eq_true, beq_iff_eq, beq_iff_eq, slen] at h2
      rcases h2 with h2 | h2
      · subst h2; simp [repD]
      · have e := List.length_eq_zero_iff.mp h2
        subst e; simp [repD]
    · rw [if_neg h2]
      show (⟨(List.replicate k.toNat s.toArray).foldl (· ++ ·) #[]⟩ : Str) = _
      rw [fold]; simp
theorem Rels.rep {K : PySem.W.Frag} {ρ : List Addr} {H : Hp} {xs : List D} {vs : List V} (r : Rels K ρ H xs vs) : ∀ n : Nat, Rels K ρ H (repD n xs) (List.replicate n vs).flatten
  | 0 => .nil
  | n + 1 => by
    unfold repD
    rw [List.replicate_succ, List.replicate_succ, List.flatten_cons, List.flatten_cons]
    exact r.append (Rels.rep r n)
theorem Rels.erase {K : PySem.W.Frag} {ρ : List Addr} {H : Hp} {xs : List D} {vs : List V} (r : Rels K ρ H xs vs) (n : Nat) : Rels K ρ H (xs.eraseIdx n) (vs.eraseIdx n) := by
  rw [List.eraseIdx_eq_take_drop_succ, List.eraseIdx_eq_take_drop_succ]
  exact (r.take _).append (r.drop _)
theorem Rels.of_strs {K : PySem.W.Frag} {ρ : List Addr} {H : Hp} (ns : List Str) : Rels K ρ H (ns.map fun z => D.str z.cps.toList) (ns.map V.str) := by
  induction ns with
  | nil => exact .nil
  | cons n ns ih =>
    refine .cons ?_ ih
    have := Rel.str (K := K) (ρ := ρ) (H := H) n.cps.toList
    simpa using this

/-- an operation on small values, as a rule on values -/
def rD2 (K : PySem.W.Frag) (f : D → D → Sto → KD → Prop) : R2 := fun v w H Q => ∃ ρ st x y P, Ok K ρ H st ∧ Rel K ρ H x v ∧ Rel K ρ H y w ∧ f x y st P ∧ Lift K ρ H P Q

section
variable {X : Cx}
theorem opB_ok (op : BOp) : OpR X (binaryOp (bop op)) (rD2 X.K (opB op)) := by
  intro pins s σ H v w u1 u2 Q I r1 r2 ⟨ρ, st, x, y, P, o, q1, q2, h, l⟩
  unfold opB at h
  split at h
  · cases q1; cases q2
    exact op_add pins s σ H _ _ _ _ Q I r1 r2 ⟨_, _, rfl, rfl, l.same o (.int _) h⟩
  · cases q1; cases q2
    exact op_sub pins s σ H _ _ _ _ Q I r1 r2 ⟨_, _, rfl, rfl, l.same o (.int _) h⟩
  · cases q1; cases q2
    exact op_mul pins s σ H _ _ _ _ Q I r1 r2 ⟨_, _, rfl, rfl, h.1, l.same o (.int _) h.2⟩
  · cases q1; cases q2
    exact op_fdiv pins s σ H _ _ _ _ Q I r1 r2 ⟨_, _, rfl, rfl, h.1, l.same o (.int _) h.2⟩
  · cases q1; cases q2
    exact op_mod pins s σ H _ _ _ _ Q I r1 r2 ⟨_, _, rfl, rfl, h.1, l.same o (.int _) h.2⟩
  · cases q1; cases q2
    exact op_add_str pins s σ H _ _ _ _ Q I r1 r2 ⟨_, _, rfl, rfl, by rw [slen, slen]; exact h.1, by rw [sapp]; exact l.same o (.str _) h.2⟩
  · obtain ⟨a, vs, rfl, e1, t1⟩ := q1.tup_inv
    obtain ⟨b, ws, rfl, e2, t2⟩ := q2.tup_inv
    refine op_catX pins s σ H _ _ _ _ Q I r1 r2 ⟨a, b, vs, ws, rfl, rfl, e1, e2, by rw [← t1.len, ← t2.len]; exact h.1, fun z => ?_, fun _ z => ?_, fun _ _ => l.tup o (t1.append t2) h.2⟩
    · subst z
      refine l.same o ?_ h.2
      have := t1.len
      have e := List.length_eq_zero_iff.mp this
      rw [e]; exact q2
    · subst z
      refine l.same o ?_ h.2
      have := t2.len
      have e := List.length_eq_zero_iff.mp this
      rw [e, List.append_nil]; exact q1
  · obtain ⟨xs, ys, h1, h2, h3, h4⟩ := h
    obtain ⟨a, rfl, ha⟩ := q1.obj_inv
    obtain ⟨b, rfl, hb⟩ := q2.obj_inv
    obtain ⟨vs, e1, t1⟩ := o.lst h1 ha
    obtain ⟨ws, e2, t2⟩ := o.lst h2 hb
    exact op_cat pins s σ H _ _ _ _ Q I r1 r2 ⟨a, b, vs, ws, rfl, rfl, e1, e2, by rw [← t1.len, ← t2.len]; exact h3, fun p hp => l.new o (t1.append t2) h4 hp⟩
  · rename_i s k
    cases q1; cases q2
    obtain ⟨h1, h2, h3, h4⟩ := h
    obtain ⟨t, e1⟩ := r1
    obtain ⟨t', e2⟩ := r2
    rw [e1, e2]
    refine SB.mul ⟨by rw [decide_eq_false (by omega), decide_eq_false (by omega)]; rfl, fun z _ => ?_, fun z _ => ?_⟩ fun t'' tk => ⟨.str (Txt.mul ⟨s.toArray⟩ k), H, I.tok _, ⟨_, rfl⟩, ?_⟩
    · rw [slen]
      have hk : (k.toNat : Int) = k := Int.toNat_of_nonneg (by omega)
      have hm : (s.length : Int) * k ≤ 16777216 := by
        rw [← hk, ← Int.natCast_mul]; exact Int.ofNat_le.mpr h3
      have : (s.length : Int) ≤ (2 ^ 63 - 1) / k := (Int.le_ediv_iff_mul_le (by omega)).mpr (by omega)
      omega
    · rw [slen]
      exact decide_eq_false (Nat.not_lt.mpr (Nat.le_trans h3 (Nat.le_of_eq sizeLine_eq.symm)))
    · rw [mul_rep]
      exact l.same o (.str _) h4
  · obtain ⟨xs, h1, h2, h3, h4, h5⟩ := h
    obtain ⟨a, rfl, ha⟩ := q1.obj_inv
    cases q2
    obtain ⟨vs, e1, t1⟩ := o.lst h1 ha
    exact op_rep pins s σ H _ _ _ _ Q I r1 r2 ⟨a, _, vs, rfl, rfl, e1, h2, h3, by rw [← t1.len]; exact h4, fun p hp => l.new o (t1.rep _) h5 hp⟩
  · exact h.elim

theorem dec_vi (i j : Int) : decide (V.int i = V.int j) = decide (i = j) := by
  by_cases h : i = j
  · subst h; simp
  · simp [h]
theorem dec_vs (i j : List Nat) : decide (V.str ⟨i.toArray⟩ = V.str ⟨j.toArray⟩) = decide (i = j) := by
  by_cases h : i = j
  · subst h; simp
  · have : ¬ V.str ⟨i.toArray⟩ = V.str ⟨j.toArray⟩ := fun z => h (str_inj.mp (V.str.inj z))
    rw [decide_eq_false this, decide_eq_false h]
theorem dec_vb (i j : Bool) : decide (V.bl i = V.bl j) = decide (i = j) := by
  by_cases h : i = j
  · subst h; simp
  · simp [h]
theorem isN_rel {K : PySem.W.Frag} {ρ : List Addr} {H : Hp} {x : D} {v : V} (r : Rel K ρ H x v) : decide (v = .non) = x.isN := by
  cases r <;> simp [D.isN]

theorem DRel.inv {K : PySem.W.Frag} {ρ : List Addr} {H : Hp} {p : D × D} {kvs : List (D × D)} {ks : List (Key × V)} (r : DRel K ρ H (p :: kvs) ks) : ∃ q ks', ks = q :: ks' ∧ keyK p.1 = some q.1 ∧ Rel K ρ H p.2 q.2 ∧ DRel K ρ H kvs ks' := by
  cases ks with
  | nil => exact absurd r.len (by simp)
  | cons q ks' =>
    obtain ⟨a, b⟩ := r.at_ 0 p q rfl rfl
    exact ⟨q, ks', rfl, a, b, by have := r.len; simpa using this, fun i x y e1 e2 => r.at_ (i + 1) x y (by simpa using e1) (by simpa using e2)⟩
theorem DRel.cons {K : PySem.W.Frag} {ρ : List Addr} {H : Hp} {p : D × D} {q : Key × V} {kvs : List (D × D)} {ks : List (Key × V)} (a : keyK p.1 = some q.1) (b : Rel K ρ H p.2 q.2) (r : DRel K ρ H kvs ks) : DRel K ρ H (p :: kvs) (q :: ks) :=
  ⟨by simp [r.len], fun i x y e1 e2 => by
    cases i with
    | zero => simp at e1 e2; subst e1 e2; exact ⟨a, b⟩
    | succ i => exact r.at_ i x y (by simpa using e1) (by simpa using e2)⟩
theorem DRel.nil {K : PySem.W.Frag} {ρ : List Addr} {H : Hp} : DRel K ρ H [] [] := ⟨rfl, fun i p q e _ => by simp at e⟩
theorem key_iff {a b : D} {x y : Key} (h : keyK a = some x) (h' : keyK b = some y) : a = b ↔ x = y :=
  ⟨fun e => by subst e; rw [h] at h'; cases h'; rfl, fun e => by subst e; exact keyK_inj h h'⟩
theorem DRel.val {K : PySem.W.Frag} {ρ : List Addr} {H : Hp} {k : D} {key : Key} (hk : keyK k = some key) : ∀ {kvs : List (D × D)} {ks : List (Key × V)}, DRel K ρ H kvs ks → (dGet kvs k = none → valV ks key = none) ∧ ∀ d, dGet kvs k = some d → ∃ v, valV ks key = some v ∧ Rel K ρ H d v
  | [], ks, r => by
    have : ks = [] := List.eq_nil_of_length_eq_zero r.len.symm
    subst this
    exact ⟨fun _ => rfl, fun d e => nomatch e⟩
  | p :: kvs, ks, r => by
    obtain ⟨q, ks', rfl, a, b, r'⟩ := r.inv
    obtain ⟨i1, i2⟩ := DRel.val hk r'
    by_cases e : p.1 = k
    · have e2 : q.1 = key := (key_iff a hk).mp e
      have g : dGet (p :: kvs) k = some p.2 := by simp [dGet, List.find?_cons, e]
      rw [g, valV_pos e2]
      exact ⟨fun z => (nomatch z), fun d z => by cases z; exact ⟨_, rfl, b⟩⟩
    · have e2 : ¬ q.1 = key := fun z => e ((key_iff a hk).mpr z)
      have g : dGet (p :: kvs) k = dGet kvs k := by simp [dGet, List.find?_cons, e]
      rw [g, valV_neg e2]
      exact ⟨i1, i2⟩
theorem DRel.some_eq {K : PySem.W.Frag} {ρ : List Addr} {H : Hp} {k : D} {key : Key} {kvs : List (D × D)} {ks : List (Key × V)} (hk : keyK k = some key) (r : DRel K ρ H kvs ks) : (valV ks key).isSome = (dGet kvs k).isSome := by
  obtain ⟨i1, i2⟩ := r.val hk
  cases e : dGet kvs k with
  | none => rw [i1 e]; rfl
  | some d => obtain ⟨v, h, _⟩ := i2 d e; rw [h]; rfl
theorem DRel.map {K : PySem.W.Frag} {ρ : List Addr} {H : Hp} {k d : D} {key : Key} {v : V} (hk : keyK k = some key) (hd : Rel K ρ H d v) : ∀ {kvs : List (D × D)} {ks : List (Key × V)}, DRel K ρ H kvs ks → DRel K ρ H (kvs.map fun p => if p.1 = k then (p.1, d) else p) (ks.map fun q => if q.1 = key then (q.1, v) else q)
  | [], ks, r => by
    have : ks = [] := List.eq_nil_of_length_eq_zero r.len.symm
    subst this
    exact .nil
  | p :: kvs, ks, r => by
    obtain ⟨q, ks', rfl, a, b, r'⟩ := r.inv
    have ih := DRel.map hk hd r'
    rw [List.map_cons, List.map_cons]
    by_cases e : p.1 = k
    · rw [if_pos e, if_pos ((key_iff a hk).mp e)]
      exact .cons a hd ih
    · rw [if_neg e, if_neg fun z => e ((key_iff a hk).mpr z)]
      exact .cons a b ih
theorem DRel.snoc {K : PySem.W.Frag} {ρ : List Addr} {H : Hp} {k d : D} {key : Key} {v : V} (hk : keyK k = some key) (hd : Rel K ρ H d v) : ∀ {kvs : List (D × D)} {ks : List (Key × V)}, DRel K ρ H kvs ks → DRel K ρ H (kvs ++ [(k, d)]) (ks ++ [(key, v)])
  | [], ks, r => by
    have : ks = [] := List.eq_nil_of_length_eq_zero r.len.symm
    subst this
    exact .cons hk hd .nil
  | p :: kvs, ks, r => by
    obtain ⟨q, ks', rfl, a, b, r'⟩ := r.inv
    exact .cons a b (DRel.snoc hk hd r')
theorem DRel.put {K : PySem.W.Frag} {ρ : List Addr} {H : Hp} {k d : D} {key : Key} {v : V} {kvs : List (D × D)} {ks : List (Key × V)} (hk : keyK k = some key) (hd : Rel K ρ H d v) (r : DRel K ρ H kvs ks) : DRel K ρ H (dPut kvs k d) (putK ks key v) := by
  have e := r.some_eq hk
  unfold dPut putK
  rw [valV_any, e]
  cases (dGet kvs k).isSome with
  | true => exact r.map hk hd
  | false => exact r.snoc hk hd
theorem rel_key {K : PySem.W.Frag} {ρ : List Addr} {H : Hp} {k : D} {v : V} {key : Key} (r : Rel K ρ H k v) (hk : keyK k = some key) : v = kV key := by
  cases k <;> simp [keyK] at hk
  · subst hk; cases r; rfl
  · subst hk; cases r; rfl
theorem dOk_key {t : Bool} {k : D} (h : dOk t k) : ∃ key, keyK k = some key := Option.isSome_iff_exists.mp h.2
theorem dic_get {K : PySem.W.Frag} {ρ : List Addr} {H : Hp} {st : Sto} (o : Ok K ρ H st) {n : Nat} {a : Addr} {t : Bool} {kvs : List (D × D)} {k : D} {v : V} (h : st[n]? = some (.dic t kvs)) (ha : ρ[n]? = some a) (hk : dOk t k) (r : Rel K ρ H k v) :
    ∃ ks key, H a = some (.dK ks) ∧ v = kV key ∧ keyK k = some key ∧ DRel K ρ H kvs ks := by
  obtain ⟨_, ks, e, d⟩ := o.dic h ha
  obtain ⟨key, e2⟩ := dOk_key hk
  exact ⟨ks, key, e, rel_key r e2, e2, d⟩
theorem inO_ok (hu : X.A.units + 65 < cLine) (neg : Bool) {pins : List (Addr × Obj)} {s : Shared} {σ : L2.St} {H : Hp} {v w : V} {u1 u2 : Value} {Q : VK} (I : Inv X pins σ H s) (r1 : RelV v u1) (r2 : RelV w u2) {ρ : List Addr} {st : Sto} {x : D} {n : Nat} {P : KD}
    (o : Ok X.K ρ H st) (q1 : Rel X.K ρ H x v) (q2 : Rel X.K ρ H (.obj n) w) (h : inO neg x n st P) (l : Lift X.K ρ H P Q) :
    wpAny (model X.prog X.w) X.A (compareOp (if neg then .NotIn else .In) u1 u2) (EP X pins σ Q) X.xe s := by
  rcases h with ⟨ns, i, rfl, h1, h2⟩ | ⟨ss, z, rfl, h1, h2⟩ | ⟨xs, p, ps, rfl, h1, h2, h3, h4, h5⟩ | ⟨t, kvs, h1, h2, h3⟩
  · cases q1
    obtain ⟨a, vs, rfl, hs, t⟩ := seq_val o q2 (show seqD st (.obj n) _ from h1)
    have e := t.ints; subst e
    cases neg with
    | false => exact op_in_seq pins s σ H _ _ _ _ Q I r1 r2 ⟨a, _, rfl, hs, rfl, by simp [flatV], by simp only [Bool.false_eq_true, if_false]; rw [inV_ints]; exact l.same o (.bl _) h2⟩
    | true => exact op_notIn_seq pins s σ H _ _ _ _ Q I r1 r2 ⟨a, _, rfl, hs, rfl, by simp [flatV], by simp only [if_true]; rw [inV_ints]; exact l.same o (.bl _) h2⟩
  · cases q1
    obtain ⟨a, vs, rfl, hs, t⟩ := seq_val o q2 (show seqD st (.obj n) _ from h1)
    have e := t.strs; subst e
    cases neg with
    | false => exact op_in_seq pins s σ H _ _ _ _ Q I r1 r2 ⟨a, _, rfl, hs, rfl, by simp [flatV], by simp only [Bool.false_eq_true, if_false]; rw [inV_strs]; exact l.same o (.bl _) h2⟩
    | true => exact op_notIn_seq pins s σ H _ _ _ _ Q I r1 r2 ⟨a, _, rfl, hs, rfl, by simp [flatV], by simp only [if_true]; rw [inV_strs]; exact l.same o (.bl _) h2⟩
  · cases neg with
    | false => exact op_inD hu pins s σ H _ _ _ _ Q I r1 r2 ⟨p, ps, dat_dp o _ _ _ h1 q1, dat_dp o _ _ _ h2 q2, h3, h4, l.same o (.bl _) h5⟩
    | true => exact op_notInD hu pins s σ H _ _ _ _ Q I r1 r2 ⟨p, ps, dat_dp o _ _ _ h1 q1, dat_dp o _ _ _ h2 q2, h3, h4, l.same o (.bl _) h5⟩
  · obtain ⟨a, rfl, ha⟩ := q2.obj_inv
    cases r2
    obtain ⟨ks, key, e, rfl, hk, d⟩ := dic_get o h1 ha h2 q1
    have hs := d.some_eq hk
    cases neg with
    | false => exact d_in (by omega) I (DGet.k e) r1 fun s' I' => ⟨.bl _, H, I', rfl, by rw [hs]; exact l.same o (.bl _) h3⟩
    | true => exact d_notIn (by omega) I (DGet.k e) r1 fun s' I' => ⟨.bl _, H, I', rfl, by rw [hs]; exact l.same o (.bl _) h3⟩
theorem opC_ok (hu : X.A.units + 65 < cLine) (op : COp) : OpR X (compareOp (cop op)) (rD2 X.K (opC op)) := by
  have hu' : X.A.units + 64 < cLine := by omega
  intro pins s σ H v w u1 u2 Q I r1 r2 ⟨ρ, st, x, y, P, o, q1, q2, h, l⟩
  unfold opC at h
  split at h
  · cases q1; cases q2
    exact op_eq pins s σ H _ _ _ _ Q I r1 r2 ⟨rfl, by rw [dec_vi]; exact l.same o (.bl _) h⟩
  · cases q1; cases q2
    exact op_ne pins s σ H _ _ _ _ Q I r1 r2 ⟨rfl, by rw [dec_vi]; exact l.same o (.bl _) h⟩
  · cases q1; cases q2
    exact op_lt pins s σ H _ _ _ _ Q I r1 r2 ⟨_, _, rfl, rfl, l.same o (.bl _) h⟩
  · cases q1; cases q2
    exact op_le pins s σ H _ _ _ _ Q I r1 r2 ⟨_, _, rfl, rfl, l.same o (.bl _) h⟩
  · cases q1; cases q2
    exact op_gt pins s σ H _ _ _ _ Q I r1 r2 ⟨_, _, rfl, rfl, l.same o (.bl _) h⟩
  · cases q1; cases q2
    exact op_ge pins s σ H _ _ _ _ Q I r1 r2 ⟨_, _, rfl, rfl, l.same o (.bl _) h⟩
  · cases q1; cases q2
    exact op_eq pins s σ H _ _ _ _ Q I r1 r2 ⟨rfl, by rw [dec_vs]; exact l.same o (.bl _) h⟩
  · cases q1; cases q2
    exact op_ne pins s σ H _ _ _ _ Q I r1 r2 ⟨rfl, by rw [dec_vs]; exact l.same o (.bl _) h⟩
  · cases q1; cases q2
    exact op_eq pins s σ H _ _ _ _ Q I r1 r2 ⟨rfl, by rw [dec_vb]; exact l.same o (.bl _) h⟩
  · cases q1; cases q2
    exact op_ne pins s σ H _ _ _ _ Q I r1 r2 ⟨rfl, by rw [dec_vb]; exact l.same o (.bl _) h⟩
  · cases q1; cases q2
    exact op_in_sign pins s σ H _ _ _ _ Q I r1 r2 ⟨_, _, rfl, rfl, l.same o (.bl _) h⟩
  · cases q1; cases q2
    exact op_notIn_sign pins s σ H _ _ _ _ Q I r1 r2 ⟨_, _, rfl, rfl, l.same o (.bl _) h⟩
  · exact inO_ok hu false I r1 r2 o q1 q2 h l
  · exact inO_ok hu true I r1 r2 o q1 q2 h l
  · cases q1
    obtain ⟨ns, h1, h2⟩ := h
    obtain ⟨a, vs, rfl, hs, t⟩ := seq_val o q2 h1
    have e := t.ints; subst e
    exact op_in_seq pins s σ H _ _ _ _ Q I r1 r2 ⟨a, _, rfl, hs, rfl, by simp [flatV], by simp only [Bool.false_eq_true, if_false]; rw [inV_ints]; exact l.same o (.bl _) h2⟩
  · cases q1
    obtain ⟨ns, h1, h2⟩ := h
    obtain ⟨a, vs, rfl, hs, t⟩ := seq_val o q2 h1
    have e := t.ints; subst e
    exact op_notIn_seq pins s σ H _ _ _ _ Q I r1 r2 ⟨a, _, rfl, hs, rfl, by simp [flatV], by simp only [if_true]; rw [inV_ints]; exact l.same o (.bl _) h2⟩
  · cases q1
    obtain ⟨ns, h1, h2⟩ := h
    obtain ⟨a, vs, rfl, hs, t⟩ := seq_val o q2 h1
    have e := t.strs; subst e
    exact op_in_seq pins s σ H _ _ _ _ Q I r1 r2 ⟨a, _, rfl, hs, rfl, by simp [flatV], by simp only [Bool.false_eq_true, if_false]; rw [inV_strs]; exact l.same o (.bl _) h2⟩
  · cases q1
    obtain ⟨ns, h1, h2⟩ := h
    obtain ⟨a, vs, rfl, hs, t⟩ := seq_val o q2 h1
    have e := t.strs; subst e
    exact op_notIn_seq pins s σ H _ _ _ _ Q I r1 r2 ⟨a, _, rfl, hs, rfl, by simp [flatV], by simp only [if_true]; rw [inV_strs]; exact l.same o (.bl _) h2⟩
  · cases q1; cases q2
    exact op_is_bl pins s σ H _ _ _ _ Q I r1 r2 ⟨_, _, rfl, rfl, l.same o (.bl _) h⟩
  · cases q1; cases q2
    exact op_isnot_bl pins s σ H _ _ _ _ Q I r1 r2 ⟨_, _, rfl, rfl, l.same o (.bl _) h⟩
  · cases q2
    exact op_isN pins s σ H _ _ _ _ Q I r1 r2 ⟨rfl, by rw [isN_rel q1]; exact l.same o (.bl _) h⟩
  · cases q2
    exact op_notN pins s σ H _ _ _ _ Q I r1 r2 ⟨rfl, by rw [isN_rel q1]; exact l.same o (.bl _) h⟩
  · obtain ⟨p, q, h1, h2, h3, h4, h5⟩ := h
    exact op_eqD hu' pins s σ H _ _ _ _ Q I r1 r2 ⟨p, q, dat_dp o _ _ _ h1 q1, dat_dp o _ _ _ h2 q2, h3, h4, l.same o (.bl _) h5⟩
  · obtain ⟨p, q, h1, h2, h3, h4, h5⟩ := h
    exact op_neD hu' pins s σ H _ _ _ _ Q I r1 r2 ⟨p, q, dat_dp o _ _ _ h1 q1, dat_dp o _ _ _ h2 q2, h3, h4, l.same o (.bl _) h5⟩
  · exact h.elim

theorem ixD_eq (n : Nat) (i : Int) : ixD n i = ixN n i := rfl
theorem sIx_eq (n d : Nat) (i : Option Int) : sIxD n d i = HT.sIx n d i := by cases i <;> rfl
theorem Rels.cutR {K : PySem.W.Frag} {ρ : List Addr} {H : Hp} {xs : List D} {vs : List V} (r : Rels K ρ H xs vs) (lo hi : Option Int) : Rels K ρ H (cutD xs lo hi) (cutV vs lo hi) := by
  unfold cutD cutV
  rw [sIx_eq, sIx_eq, r.len]
  exact (r.drop _).take _
theorem cutS_eq (s : List Nat) (lo hi : Option Int) : cutS ⟨s.toArray⟩ lo hi = ⟨(cutD s lo hi).toArray⟩ := by
  unfold cutS cutD
  rw [sIx_eq, sIx_eq, slen]

theorem opIx_ok (hu : X.A.units + 65 < cLine) : IxR X (rD2 X.K opIx) := by
  intro value slice pins s σ H v w u1 u2 Q I r1 r2 ⟨ρ, st, x, y, P, o, q1, q2, h, l⟩ hs
  unfold opIx at h
  split at h
  · obtain ⟨hl, c, h1, h2⟩ := h
    cases q1; cases q2
    refine ix_str value slice pins s σ H _ _ _ _ Q I r1 r2 ⟨_, _, c, rfl, rfl, by rw [slen]; exact hl, ?_, l.same o (.str [c]) h2⟩ hs
    simpa [atI, atD, ixD_eq] using h1
  · rcases h with ⟨xs, d, i0, rfl, h1, h2, h3⟩ | ⟨t, kvs, d, h1, h2, h3, h4⟩
    · cases q2
      obtain ⟨a, rfl, ha⟩ := q1.obj_inv
      obtain ⟨vs, e0, t⟩ := o.lst h1 ha
      unfold atD at h2
      cases e : ixD xs.length i0 with
      | none => rw [e] at h2; cases h2
      | some j =>
        rw [e] at h2
        obtain ⟨v', e', rv⟩ := t.get (i := j) h2
        have hat : (ixN vs.length i0).bind (fun j => vs[j]?) = some v' := by
          rw [← t.len, ← ixD_eq, e]; exact e'
        exact ix_list value slice pins s σ H _ _ _ _ Q I r1 r2 ⟨a, vs, _, v', rfl, rfl, .of e0, hat, l.same o rv h3⟩ hs
    · obtain ⟨a, rfl, ha⟩ := q1.obj_inv
      cases r1
      obtain ⟨ks, key, e, rfl, hk, dr⟩ := dic_get o h1 ha h2 q2
      obtain ⟨v', hv, rv⟩ := (dr.val hk).2 d h3
      have g : DGet H a (kV key) (some v') := by rw [← hv]; exact DGet.k e
      exact tail_any (dict_typeIs I g) PySem.F.slot_dict_getitem.lookup (d_getItem (by omega) I g r2 fun w' s' I' rw' => ⟨v', H, I', rw', l.same o rv h4⟩) hs
  · rename_i i0 _ _
    obtain ⟨xs, d, h1, h2, h3⟩ := h
    cases q2
    obtain ⟨a, vs, rfl, hq, t⟩ := seq_val o q1 h1
    unfold atD at h2
    cases e : ixD xs.length i0 with
    | none => rw [e] at h2; cases h2
    | some j =>
      rw [e] at h2
      obtain ⟨v', e', rv⟩ := t.get (i := j) h2
      have hat : (ixN vs.length i0).bind (fun j => vs[j]?) = some v' := by
        rw [← t.len, ← ixD_eq, e]; exact e'
      rcases hq with hq | hq
      · exact ix_list value slice pins s σ H _ _ _ _ Q I r1 r2 ⟨a, vs, _, v', rfl, rfl, hq, hat, l.same o rv h3⟩ hs
      · exact ix_tup value slice pins s σ H _ _ _ _ Q I r1 r2 ⟨a, vs, _, v', rfl, rfl, hq, hat, l.same o rv h3⟩ hs
  · exact h.elim

def rDSl (K : PySem.W.Frag) : V → Option Int → Option Int → Hp → VK → Prop := fun v lo hi H Q => ∃ ρ st x P, Ok K ρ H st ∧ Rel K ρ H x v ∧ opSl x lo hi st P ∧ Lift K ρ H P Q
theorem opSl_ok : SlR X (rDSl X.K) := by
  intro pins s σ H v u vl vu lo hi sl Q I r hs hl hu ⟨ρ, st, x, P, o, q, h, l⟩
  unfold opSl at h
  split at h
  · cases q
    exact sl_str pins s σ H _ _ vl vu lo hi sl Q I r hs hl hu ⟨_, rfl, by rw [slen]; exact h.1, by rw [cutS_eq]; exact l.same o (.str _) h.2⟩
  · obtain ⟨a, vs, rfl, eX, t⟩ := q.tup_invX
    have e := eX.t
    refine sl_tupX pins s σ H _ _ vl vu lo hi sl Q I r hs hl hu ⟨a, vs, rfl, e, fun z => l.same o ?_ h, fun _ => l.tup o (t.cutR lo hi) h⟩
    have t2 := t.cutR lo hi
    have e2 : cutV vs lo hi = vs := by
      unfold cutV
      rw [z.1, z.2, Nat.sub_zero, List.drop_zero, List.take_length]
    rw [e2] at t2
    exact .tupR eX t2
  · obtain ⟨a, vs, rfl, e, t⟩ := q.fro_inv
    exact sl_list pins s σ H _ _ vl vu lo hi sl Q I r hs hl hu ⟨a, vs, rfl, e.seq, fun p hp => l.new o (t.cutR lo hi) h hp⟩
  · obtain ⟨xs, h1, h2⟩ := h
    obtain ⟨a, rfl, ha⟩ := q.obj_inv
    obtain ⟨vs, e, t⟩ := o.lst h1 ha
    exact sl_list pins s σ H _ _ vl vu lo hi sl Q I r hs hl hu ⟨a, vs, rfl, .of e, fun p hp => l.new o (t.cutR lo hi) h2 hp⟩
  · exact h.elim

def biVal : Bi → Value
  | .len => .builtin "len" | .intT => .type "int" | .sum => .builtin "sum" | .tupleT => .type "tuple" | .listT => .type "list" | .all => .builtin "all" | .any => .builtin "any"
  | .min2 => .builtin "min" | .max2 => .builtin "max" | .abs => .builtin "abs" | .boolT => .type "bool" | .sorted => .builtin "sorted" | .min1 => .builtin "min" | .max1 => .builtin "max" | .strT => .type "str" | .repr => .builtin "repr"
def rDC (K : PySem.W.Frag) (f : List D → Sto → KD → Prop) : List V → Hp → VK → Prop := fun vs H Q => ∃ ρ st xs P, Ok K ρ H st ∧ Rels K ρ H xs vs ∧ f xs st P ∧ Lift K ρ H P Q
theorem rels1 {K : PySem.W.Frag} {ρ : List Addr} {H : Hp} {x : D} {vs : List V} (r : Rels K ρ H [x] vs) : ∃ v, vs = [v] ∧ Rel K ρ H x v := by
  obtain ⟨v, ws, rfl, q, t⟩ := r.inv_cons
  cases t.inv_nil
  exact ⟨v, rfl, q⟩
theorem rels2 {K : PySem.W.Frag} {ρ : List Addr} {H : Hp} {x y : D} {vs : List V} (r : Rels K ρ H [x, y] vs) : ∃ v w, vs = [v, w] ∧ Rel K ρ H x v ∧ Rel K ρ H y w := by
  obtain ⟨v, ws, rfl, q, t⟩ := r.inv_cons
  obtain ⟨w, rfl, q2⟩ := rels1 t
  exact ⟨v, w, rfl, q, q2⟩
theorem Rels.of_signs {K : PySem.W.Frag} {ρ : List Addr} {H : Hp} (s : List Nat) : Rels K ρ H (s.map fun c => D.str [c]) (((⟨s.toArray⟩ : Str).cps.toList).map fun c => V.str ⟨#[c]⟩) := by
  refine ⟨by simp, fun i x v e1 e2 => ?_⟩
  rw [List.getElem?_map] at e1
  rw [List.getElem?_map] at e2
  have e3 : ((⟨s.toArray⟩ : Str).cps.toList) = s := by simp
  rw [e3] at e2
  cases z : s[i]? with
  | none => rw [z] at e1; cases e1
  | some c => rw [z] at e1 e2; cases e1; cases e2; exact .str [c]
theorem opBi_ok (hc : X.calm = true) (hG : X.A.guards = some []) (hu : X.A.units + 65 < cLine) (b : Bi) : CallR X (biVal b) (rDC X.K (opBi b)) := by
  intro pins s σ H vs us Q I r ⟨ρ, st, xs, P, o, q, h, l⟩
  unfold opBi at h
  split at h
  · have q9 := rels1 q; clear q; obtain ⟨v, rfl, q⟩ := q9
    cases q
    exact call_len_str pins s σ H _ _ Q I r ⟨_, rfl, by rw [slen]; exact h.1, by rw [slen]; exact l.same o (.int _) h.2⟩
  · have q9 := rels1 q; clear q; obtain ⟨v, rfl, q⟩ := q9
    rcases h with ⟨ys, h1, h2⟩ | ⟨n, t, kvs, rfl, h1, h2⟩
    · obtain ⟨a, ws, rfl, hq, t⟩ := seq_val o q h1
      exact call_len_seq pins s σ H _ _ Q I r ⟨a, ws, rfl, hq, by rw [← t.len]; exact l.same o (.int _) h2⟩
    · obtain ⟨a, rfl, ha⟩ := q.obj_inv
      obtain ⟨_, ks, e, dr⟩ := o.dic h1 ha
      cases r with
      | cons r rr =>
        cases rr
        cases r
        exact d_len I (.inl e) fun t s' I' => ⟨.int _, H, I', ⟨_, rfl⟩, by rw [← dr.len]; exact l.same o (.int _) h2⟩
  · have q9 := rels1 q; clear q; obtain ⟨v, rfl, q⟩ := q9
    cases q
    exact call_int1 pins s σ H _ _ Q I r (.inl ⟨_, rfl, l.same o (.int _) h⟩)
  · have q9 := rels1 q; clear q; obtain ⟨v, rfl, q⟩ := q9
    cases q
    exact call_int1 pins s σ H _ _ Q I r (.inr ⟨_, rfl, l.same o (.int _) h⟩)
  · have q9 := rels1 q; clear q; obtain ⟨v, rfl, q⟩ := q9
    cases q
    exact call_bool1 pins s σ H _ _ Q I r (.inl ⟨_, rfl, l.same o (.bl _) h⟩)
  · have q9 := rels1 q; clear q; obtain ⟨v, rfl, q⟩ := q9
    cases q
    exact call_bool1 pins s σ H _ _ Q I r (.inr ⟨_, rfl, l.same o (.bl _) h⟩)
  · have q9 := rels1 q; clear q; obtain ⟨v, rfl, q⟩ := q9
    obtain ⟨ns, h1, h2⟩ := h
    obtain ⟨a, ws, rfl, hq, t⟩ := seq_val (x := .obj _) o q h1
    have e := t.ints; subst e
    obtain ⟨a', e', ha⟩ := q.obj_inv; cases e'
    obtain ⟨vs', e1, t1⟩ := o.lst h1 ha
    have e2 := t1.ints; subst e2
    exact cr_sum hc pins s σ H _ _ Q I r ⟨a, ns, rfl, .of e1, l.same o (.int _) h2⟩
  · have q9 := rels1 q; clear q; obtain ⟨v, rfl, q⟩ := q9
    obtain ⟨bs, h1, h2⟩ := h
    obtain ⟨a, rfl, ha⟩ := q.obj_inv
    obtain ⟨vs', e1, t1⟩ := o.lst h1 ha
    have e2 := t1.bls; subst e2
    exact cr_all hc pins s σ H _ _ Q I r ⟨a, bs, rfl, .of e1, l.same o (.bl _) h2⟩
  · have q9 := rels1 q; clear q; obtain ⟨v, rfl, q⟩ := q9
    obtain ⟨bs, h1, h2⟩ := h
    obtain ⟨a, rfl, ha⟩ := q.obj_inv
    obtain ⟨vs', e1, t1⟩ := o.lst h1 ha
    have e2 := t1.bls; subst e2
    exact cr_any hc pins s σ H _ _ Q I r ⟨a, bs, rfl, .of e1, l.same o (.bl _) h2⟩
  · have q9 := rels1 q; clear q; obtain ⟨v, rfl, q⟩ := q9
    obtain ⟨a, ws, rfl, e, t⟩ := q.tup_inv
    exact call_tupleX pins s σ H _ _ Q I r ⟨a, ws, rfl, .inr ⟨e, l.same o q h⟩⟩
  · have q9 := rels1 q; clear q; obtain ⟨v, rfl, q⟩ := q9
    cases q
    refine call_tupStr hc pins s σ H _ _ Q I r ⟨_, rfl, by rw [List.size_toArray]; exact h.1, ?_⟩
    have e := Rels.of_signs (K := X.K) (ρ := ρ) (H := H) ‹List Nat›
    exact l.tup o e h.2
  · have q9 := rels1 q; clear q; obtain ⟨v, rfl, q⟩ := q9
    obtain ⟨xs, h1, h2⟩ := h
    obtain ⟨a, rfl, ha⟩ := q.obj_inv
    obtain ⟨vs', e1, t1⟩ := o.lst h1 ha
    exact call_tupleX pins s σ H _ _ Q I r ⟨a, vs', rfl, .inl ⟨.of e1, l.tup o t1 h2⟩⟩
  · have q9 := rels1 q; clear q; obtain ⟨v, rfl, q⟩ := q9
    obtain ⟨ys, h1, h2⟩ := h
    obtain ⟨a, ws, rfl, hq, t⟩ := seq_val o q h1
    exact call_list_of pins s σ H _ _ Q I r ⟨a, ws, rfl, hq, fun p hp => l.new o t h2 hp⟩
  · obtain ⟨v, w, rfl, q1, q2⟩ := rels2 q
    cases q1; cases q2
    exact call_min2 hc pins s σ H _ _ Q I r ⟨_, _, rfl, l.same o (.int _) h⟩
  · obtain ⟨v, w, rfl, q1, q2⟩ := rels2 q
    cases q1; cases q2
    exact call_max2 hc pins s σ H _ _ Q I r ⟨_, _, rfl, l.same o (.int _) h⟩
  · have q9 := rels1 q; clear q; obtain ⟨v, rfl, q⟩ := q9
    cases q
    exact call_abs pins s σ H _ _ Q I r ⟨_, rfl, l.same o (.int _) h⟩
  · rename_i i0
    have q9 := rels1 q; clear q; obtain ⟨v, rfl, q⟩ := q9
    cases q
    refine call_str_int pins s σ H _ _ Q I r ⟨_, rfl, h.1, l.same o ?_ h.2⟩
    have := Rel.str (K := X.K) (ρ := ρ) (H := H) (strI i0)
    simpa [strI] using this
  · have q9 := rels1 q; clear q; obtain ⟨v, rfl, q⟩ := q9
    obtain ⟨p, d, h1, h2, h3, h4, h5⟩ := h
    obtain ⟨a, ws, rfl, e, t⟩ := id q.tup_inv
    refine repr_ok hG hu pins s σ H _ _ Q I r ⟨a, p, rfl, dat_dp o _ _ _ d q, h1, h2, h3, h4, l.same o ?_ h5⟩
    have := Rel.str (K := X.K) (ρ := ρ) (H := H) p.shown.cps.toList
    simpa using this
  · have q9 := rels1 q; clear q; obtain ⟨v, rfl, q⟩ := q9
    obtain ⟨p, d, h1, h2, h3, h4, h5⟩ := h
    obtain ⟨a, rfl, ha⟩ := id q.obj_inv
    refine repr_ok hG hu pins s σ H _ _ Q I r ⟨a, p, rfl, dat_dp o _ _ _ d q, h1, h2, h3, h4, l.same o ?_ h5⟩
    have := Rel.str (K := X.K) (ρ := ρ) (H := H) p.shown.cps.toList
    simpa using this
  · exact h.elim

/-- what a small value's class is -/
theorem ty_of {K : PySem.W.Frag} {ρ : List Addr} {H : Hp} {x : D} {v : V} (r : Rel K ρ H x v) : match x with
    | .non => TyX K H v (.type "NoneType") | .bl _ => TyX K H v (.type "bool") | .int _ => TyX K H v (.type "int") | .str _ => TyX K H v (.type "str") | .tup _ => TyX K H v (.type "tuple") | .fro _ => TyX K H v (.type "list") | .obj _ => True := by
  cases r with
  | non => exact .base .non
  | bl b => exact .base (.bl b)
  | int i => exact .base (.int i)
  | str s => exact .base (.str _)
  | obj _ => trivial
  | tup h _ _ =>
    rcases h.t with (h | ⟨o, h⟩) | ⟨o, its, n, h, c, _⟩
    · exact .base (.tup h)
    · exact .fTuple h
    · exact .kTuple h c
  | fro h _ _ =>
    rcases h with ⟨o, h⟩ | ⟨o, its, n, h, c, _⟩
    · exact .base (.frz h)
    · exact .kList h c
def tyName : Ty → String
  | .int => "int" | .bool => "bool" | .str => "str" | .tuple => "tuple" | .list => "list"
def rDU (K : PySem.W.Frag) (f : D → Sto → KD → Prop) : V → Hp → VK → Prop := fun v H Q => ∃ ρ st x P, Ok K ρ H st ∧ Rel K ρ H x v ∧ f x st P ∧ Lift K ρ H P Q
theorem kit_tab : ∀ (t : Ty), kitB "NoneType" (tyName t) = some false ∧ kitB "bool" (tyName t) = some (t = .int ∨ t = .bool : Bool) ∧ kitB "int" (tyName t) = some (t = .int : Bool) ∧ kitB "str" (tyName t) = some (t = .str : Bool) ∧
    kitB "tuple" (tyName t) = some (t = .tuple : Bool) ∧ kitB "list" (tyName t) = some (t = .list : Bool) := by
  intro t
  cases t <;> decide +kernel
theorem opIs_ok (t : Ty) : CallR X (.builtin "isinstance") (fun vs H Q => ∃ v, vs = [v, .ty (tyName t)] ∧ rDU X.K (opIs t) v H Q) := by
  intro pins s σ H vs us Q I r ⟨v, e, ρ, st, x, P, o, q, h, l⟩
  subst e
  obtain ⟨k1, k2, k3, k4, k5, k6⟩ := kit_tab t
  have ty := ty_of q
  have fin : ∀ {T : String} {b : Bool}, TyX X.K H v (.type T) → kitB T (tyName t) = some b → P (.bl b) st → wpAny (model X.prog X.w) X.A (call (.builtin "isinstance") us) (EP X pins σ Q) X.xe s := fun {T b} ty k p =>
    call_isi pins s σ H _ _ Q I r ⟨v, _, _, _, b, rfl, .ty _, ty, kit_ty k, l.same o (.bl b) p⟩
  cases x with
  | non => exact fin ty k1 (by cases t <;> exact h)
  | bl b => exact fin ty k2 (by cases t <;> exact h)
  | int i => exact fin ty k3 (by cases t <;> exact h)
  | str z => exact fin ty k4 (by cases t <;> exact h)
  | tup xs => exact fin ty k5 (by cases t <;> exact h)
  | fro xs => exact fin ty k6 (by cases t <;> exact h)
  | obj n =>
    obtain ⟨a, rfl, ha⟩ := q.obj_inv
    have hh : ∃ xs, st[n]? = some (.lst xs) ∧ P (.bl (t = .list : Bool)) st := by cases t <;> exact h
    obtain ⟨xs, h1, h2⟩ := hh
    obtain ⟨vs', e1, _⟩ := o.lst h1 ha
    exact fin (.base (.lst e1)) k6 h2

def meTy : Me → D → String
  | .get, _ => "dict" | .setdefault, _ => "dict" | .join, _ => "str" | .split, _ => "str" | .index, .tup _ => "tuple" | _, _ => "list"
def meId : Me → D → String
  | .append, _ => "list.append" | .extend, _ => "list.extend" | .pop, _ => "list.pop" | .join, _ => "str.join" | .insert, _ => "list.insert" | .split, _ => "str.split" | .index, .tup _ => "tuple.index" | .index, _ => "list.index" | .get, _ => "dict.get" | .setdefault, _ => "dict.setdefault"
def rDM (K : PySem.W.Frag) (f : D → List D → Sto → KD → Prop) (x : D) : V → List V → Hp → VK → Prop := fun v vs H Q => ∃ ρ st xs P, Ok K ρ H st ∧ Rel K ρ H x v ∧ Rels K ρ H xs vs ∧ f x xs st P ∧ Lift K ρ H P Q
theorem tl_eq (s : Str) : (⟨(TL.tl s).toArray⟩ : Str) = s := by simp [TL.tl]
theorem join_eq (a : List Nat) (ys : List (List Nat)) : Txt.join ⟨a.toArray⟩ (ys.map fun z => ⟨z.toArray⟩) = ⟨(joinD a ys).toArray⟩ := by
  have e := TL.tl_join ⟨a.toArray⟩ (ys.map fun z => ⟨z.toArray⟩)
  have e2 : ((ys.map fun z => (⟨z.toArray⟩ : Str)).map TL.tl) = ys := by
    rw [List.map_map]
    have : TL.tl ∘ (fun z : List Nat => (⟨z.toArray⟩ : Str)) = id := by funext z; simp [TL.tl]
    rw [this, List.map_id]
  rw [e2] at e
  have e3 : ∀ ys : List (List Nat), TL.joinL a ys = joinD a ys := by
    intro ys
    induction ys with
    | nil => rfl
    | cons p r ih =>
      cases r with
      | nil => rfl
      | cons q r => show p ++ (a ++ TL.joinL a (q :: r)) = p ++ (a ++ joinD a (q :: r)); rw [ih]
  have e4 : TL.tl (⟨a.toArray⟩ : Str) = a := by simp [TL.tl]
  rw [e4, e3] at e
  rw [← e, tl_eq, TL.join_eq]
theorem isList_of {X : Cx} {pins : List (Addr × Obj)} {σ : L2.St} {H : Hp} {s : Shared} {a : Addr} {vs : List V} (I : Inv X pins σ H s) (h : SqL X.K H a vs) : ∃ its, Vals vs its ∧ s.heap.IsList a its.toArray ∧ vs.length ≤ sizeLine := by
  obtain ⟨its, rv, h1, h2⟩ := I.list h
  exact ⟨its, rv, h1.isList, h2⟩
theorem isTuple_of {X : Cx} {pins : List (Addr × Obj)} {σ : L2.St} {H : Hp} {s : Shared} {a : Addr} {vs : List V} (I : Inv X pins σ H s) (h : SqT X.K H a vs) : ∃ its, Vals vs its ∧ s.heap.IsTuple a its.toArray := by
  obtain ⟨its, r, pl, hz⟩ := I.tuple h
  obtain ⟨ob, ho, hc, n, hd⟩ := pl
  exact ⟨its, r, ob, ho, hc, n, hd⟩
theorem idx_strs (s : List Nat) (ss : List (List Nat)) : (ss.map fun z => (⟨z.toArray⟩ : Str)).idxOf ⟨s.toArray⟩ = ss.idxOf s := by
  induction ss with
  | nil => rfl
  | cons z ss ih =>
    rw [List.map_cons, List.idxOf_cons, List.idxOf_cons, ih]
    by_cases h : z = s
    · subst h; simp
    · have h1 : ((⟨z.toArray⟩ : Str) == ⟨s.toArray⟩) = false := beq_eq_false_iff_ne.mpr fun e => h (str_inj.mp e)
      have h2 : (z == s) = false := beq_eq_false_iff_ne.mpr h
      rw [h1, h2]
theorem opMe_ok (hu : X.A.units + 65 < cLine) (m : Me) (x : D) : MtR X (meId m x) (rDM X.K (opMe m) x) := by
  intro pins s σ H v vs u us Q I r1 r2 ⟨ρ, st, xs, P, o, q1, q2, h, l⟩
  unfold opMe at h
  split at h
  · obtain ⟨xs, h1, h2, h3⟩ := h
    obtain ⟨a, rfl, ha⟩ := q1.obj_inv
    have q9 := rels1 q2; clear q2; obtain ⟨w, rfl, q2⟩ := q9
    obtain ⟨ws, e, t⟩ := o.lst h1 ha
    obtain ⟨o', g'⟩ := o.set h1 ha (t.append (.cons q2 .nil))
    exact mt_append pins s σ H _ _ _ _ Q I r1 r2 ⟨a, ws, w, rfl, rfl, e, by rw [← t.len]; exact h2, l _ _ _ _ _ h3 g' o' .non⟩
  · obtain ⟨xs, ys, h1, h2, h3, h4⟩ := h
    obtain ⟨a, rfl, ha⟩ := q1.obj_inv
    have q9 := rels1 q2; clear q2; obtain ⟨w, rfl, q2⟩ := q9
    obtain ⟨b, rfl, hb⟩ := q2.obj_inv
    obtain ⟨ws, e, t⟩ := o.lst h1 ha
    obtain ⟨ws2, e2, t2⟩ := o.lst h2 hb
    obtain ⟨o', g'⟩ := o.set h1 ha (t.append t2)
    exact mt_extend pins s σ H _ _ _ _ Q I r1 r2 ⟨a, b, ws, ws2, rfl, rfl, e, e2, by rw [← t.len, ← t2.len]; exact h3, l _ _ _ _ _ h4 g' o' .non⟩
  · obtain ⟨xs, y, h1, h2, h3⟩ := h
    obtain ⟨a, rfl, ha⟩ := q1.obj_inv
    cases q2.inv_nil
    obtain ⟨ws, e, t⟩ := o.lst h1 ha
    obtain ⟨w, e2, rw'⟩ := t.get h2
    have td : Rels X.K ρ H xs.dropLast ws.dropLast := by
      rw [List.dropLast_eq_take, List.dropLast_eq_take, t.len]; exact t.take _
    obtain ⟨o', g'⟩ := o.set h1 ha td
    exact mt_pop pins s σ H _ _ _ _ Q I r1 r2 ⟨a, ws, w, rfl, rfl, e, by rw [← t.len]; exact e2, l _ _ _ _ _ h3 g' o' (rw'.mono g')⟩
  · obtain ⟨ys, h1, h2, h3⟩ := h
    have q9 := rels1 q2; clear q2; obtain ⟨w, rfl, q2⟩ := q9
    cases q1
    obtain ⟨b, ws, rfl, hq, t⟩ := seq_val o q2 h1
    have e := t.strs; subst e
    refine mt_join pins s σ H _ _ _ _ Q I r1 r2 ⟨_, b, ys.map fun z => ⟨z.toArray⟩, rfl, rfl, by rw [List.map_map]; exact hq, ?_, ?_⟩
    · rw [List.map_map, List.length_map, slen]
      have e : (fun z : Str => z.length) ∘ (fun z : List Nat => (⟨z.toArray⟩ : Str)) = List.length := by funext z; exact slen z
      rw [e]; exact h2
    · rw [join_eq]; exact l.same o (.str _) h3
  · obtain ⟨xs, k, y, h1, h2, h3, h4, h5, h6⟩ := h
    obtain ⟨a, rfl, ha⟩ := q1.obj_inv
    have q9 := rels1 q2; clear q2; obtain ⟨w, rfl, q2⟩ := q9
    cases q2
    obtain ⟨ws, e, t⟩ := o.lst h1 ha
    obtain ⟨w, e2, rw'⟩ := t.get h5
    obtain ⟨o', g'⟩ := o.set h1 ha (t.erase k)
    exact mt_popAt pins s σ H _ _ _ _ Q I r1 r2 ⟨a, ws, _, k, w, rfl, rfl, e, h2, h3, by rw [← t.len]; exact (ixN_seq h4).1, e2, l _ _ _ _ _ h6 g' o' (rw'.mono g')⟩
  · obtain ⟨xs, h1, h2, h3, h4, h5⟩ := h
    obtain ⟨a, rfl, ha⟩ := q1.obj_inv
    have q9 := rels2 q2; clear q2; obtain ⟨w, w2, rfl, q2, q3⟩ := q9
    cases q2
    obtain ⟨ws, e, t⟩ := o.lst h1 ha
    obtain ⟨o', g'⟩ := o.set h1 ha (((t.take (Int.toNat _)).append (.cons q3 .nil)).append (t.drop (Int.toNat _)))
    exact mt_insert pins s σ H _ _ _ _ Q I r1 r2 ⟨a, ws, _, w2, rfl, rfl, e, by rw [← t.len]; exact h2, h3, h4, l _ _ _ _ _ h5 g' o' .non⟩
  · obtain ⟨ns, h1, h2, h3⟩ := h
    have q9 := rels1 q2; clear q2; obtain ⟨w, rfl, q2⟩ := q9
    cases q2
    obtain ⟨uk, rfl, tk, rfl⟩ := vals1 r2
    obtain ⟨a, ws, rfl, hq, t⟩ := seq_val o q1 h1
    have e := t.ints; subst e
    cases r1
    cases x with
    | tup ys =>
      obtain ⟨a', vs', e', hT, t'⟩ := q1.tup_inv
      cases e'
      cases h1
      have e2 := t'.ints; subst e2
      obtain ⟨its, rv, hl⟩ := isTuple_of I hT
      exact SeqAt.tuple_index_ints hl rv.ints h2 ⟨.int _, H, I.tok _, ⟨_, rfl⟩, l.same o (.int _) h3⟩
    | fro ys =>
      obtain ⟨a', vs', e', hT, t'⟩ := q1.fro_inv
      cases e'
      cases h1
      have e2 := t'.ints; subst e2
      obtain ⟨its, rv, hl, hz⟩ := isList_of I hT.seq
      exact SeqAt.list_index_ints hl rv.ints (by simpa using hz) h2 ⟨.int _, H, I.tok _, ⟨_, rfl⟩, l.same o (.int _) h3⟩
    | obj n =>
      obtain ⟨a', e', ha⟩ := q1.obj_inv
      cases e'
      obtain ⟨vs', e1, t'⟩ := o.lst h1 ha
      have e2 := t'.ints; subst e2
      obtain ⟨its, rv, hl, hz⟩ := isList_of I (.of e1)
      exact SeqAt.list_index_ints hl rv.ints (by simpa using hz) h2 ⟨.int _, H, I.tok _, ⟨_, rfl⟩, l.same o (.int _) h3⟩
    | non => exact h1.elim
    | bl _ => exact h1.elim
    | int _ => exact h1.elim
    | str _ => exact h1.elim
  · rename_i s0
    obtain ⟨ns, h1, h2, h3⟩ := h
    have q9 := rels1 q2; clear q2; obtain ⟨w, rfl, q2⟩ := q9
    cases q2
    obtain ⟨uk, rfl, tk, rfl⟩ := vals1 r2
    obtain ⟨a, ws, rfl, hq, t⟩ := seq_val o q1 h1
    have e := t.strs; subst e
    cases r1
    have hmem : (⟨s0.toArray⟩ : Str) ∈ ns.map fun z => (⟨z.toArray⟩ : Str) := List.mem_map.mpr ⟨s0, h2, rfl⟩
    rw [← idx_strs] at h3
    have em : (ns.map fun z => V.str ⟨z.toArray⟩) = (ns.map fun z => (⟨z.toArray⟩ : Str)).map V.str := by rw [List.map_map]; rfl
    cases x with
    | tup ys =>
      obtain ⟨a', vs', e', hT, t'⟩ := q1.tup_inv
      cases e'
      cases h1
      have e2 := t'.strs; subst e2
      rw [em] at hT
      obtain ⟨its, rv, hl⟩ := isTuple_of I hT
      exact SeqAt.tuple_index_strs hl rv.strs hmem ⟨.int _, H, I.tok _, ⟨_, rfl⟩, l.same o (.int _) h3⟩
    | fro ys =>
      obtain ⟨a', vs', e', hT, t'⟩ := q1.fro_inv
      cases e'
      cases h1
      have e2 := t'.strs; subst e2
      rw [em] at hT
      obtain ⟨its, rv, hl, hz⟩ := isList_of I hT.seq
      exact SeqAt.list_index_strs hl rv.strs (by simpa using hz) hmem ⟨.int _, H, I.tok _, ⟨_, rfl⟩, l.same o (.int _) h3⟩
    | obj n =>
      obtain ⟨a', e', ha⟩ := q1.obj_inv
      cases e'
      obtain ⟨vs', e1, t'⟩ := o.lst h1 ha
      have e2 := t'.strs; subst e2
      rw [em] at e1
      obtain ⟨its, rv, hl, hz⟩ := isList_of I (.of e1)
      exact SeqAt.list_index_strs hl rv.strs (by simpa using hz) hmem ⟨.int _, H, I.tok _, ⟨_, rfl⟩, l.same o (.int _) h3⟩
    | non => exact h1.elim
    | bl _ => exact h1.elim
    | int _ => exact h1.elim
    | str _ => exact h1.elim
  · obtain ⟨h1, h2, h3⟩ := h
    have q9 := rels1 q2; clear q2; obtain ⟨w, rfl, q2⟩ := q9
    cases q1; cases q2
    exact mt_split pins s σ H _ _ _ _ Q I r1 r2 ⟨_, _, rfl, rfl, by rw [slen]; exact beq_eq_false_iff_ne.mpr fun z => h1 (List.length_eq_zero_iff.mp z), by rw [slen]; exact h2, fun p hp => l.new o (Rels.of_strs _) h3 hp⟩
  · cases q1
    cases q2.inv_nil
    exact mt_words pins s σ H _ _ _ _ Q I r1 r2 ⟨_, rfl, rfl, by rw [slen]; exact h.1, fun p hp => l.new o (Rels.of_strs _) h.2 hp⟩
  · obtain ⟨t, kvs, h1, h2, h3⟩ := h
    obtain ⟨a, rfl, ha⟩ := q1.obj_inv
    cases r1
    have q9 := rels1 q2; clear q2; obtain ⟨w, rfl, q2⟩ := q9
    obtain ⟨ks, key, e, rfl, hk, dr⟩ := dic_get o h1 ha h2 q2
    cases r2 with
    | cons r rr =>
      cases rr
      refine d_get1 (by omega) I (DGet.k e) r fun w' s' I' rw' => ⟨_, H, I', rw', ?_⟩
      obtain ⟨i1, i2⟩ := dr.val hk
      cases z : dGet kvs _ with
      | none => rw [z] at h3; rw [i1 z]; exact l.same o .non h3
      | some d => obtain ⟨v', hv, rv⟩ := i2 d z; rw [z] at h3; rw [hv]; exact l.same o rv h3
  · obtain ⟨t, kvs, h1, h2, h3⟩ := h
    obtain ⟨a, rfl, ha⟩ := q1.obj_inv
    cases r1
    have q9 := rels2 q2; clear q2; obtain ⟨w, w2, rfl, q2, q3⟩ := q9
    obtain ⟨ks, key, e, rfl, hk, dr⟩ := dic_get o h1 ha h2 q2
    cases r2 with
    | cons r rr =>
      cases rr with
      | cons r3 rr =>
        cases rr
        refine d_get2 (by omega) I (DGet.k e) r r3 fun w' s' I' rw' => ⟨_, H, I', rw', ?_⟩
        obtain ⟨i1, i2⟩ := dr.val hk
        cases z : dGet kvs _ with
        | none => rw [z] at h3; rw [i1 z]; exact l.same o q3 h3
        | some d => obtain ⟨v', hv, rv⟩ := i2 d z; rw [z] at h3; rw [hv]; exact l.same o rv h3
  · obtain ⟨t, kvs, h1, h2, h3, h4, h5⟩ := h
    obtain ⟨a, rfl, ha⟩ := q1.obj_inv
    cases r1
    have q9 := rels2 q2; clear q2; obtain ⟨w, w2, rfl, q2, q3⟩ := q9
    obtain ⟨ks, key, e, rfl, hk, dr⟩ := dic_get o h1 ha h2 q2
    have ht := (o.dic h1 ha).1
    cases r2 with
    | cons r rr =>
      cases rr with
      | cons r3 rr =>
        cases rr
        obtain ⟨i1, i2⟩ := dr.val hk
        refine d_setd I e r r3 (by rw [← dr.len]; exact h3) (fun v hv w' s' I' rw' => ?_) fun hv w' s' I' rw' => ?_
        · cases z : dGet kvs _ with
          | none => rw [i1 z] at hv; cases hv
          | some d =>
            obtain ⟨v', hv', rv⟩ := i2 d z
            rw [hv] at hv'; cases hv'
            exact ⟨v, H, I', rw', l.same o rv (h4 d z)⟩
        · cases z : dGet kvs _ with
          | some d => obtain ⟨v', hv', _⟩ := i2 d z; rw [hv] at hv'; cases hv'
          | none =>
            obtain ⟨o', g'⟩ := o.setO (nw := .dic t (dPut kvs _ _)) (ho := .dK (putK ks key w2)) h1 ha fun g => ⟨ht, _, upd_same, (dr.put hk q3).mono g⟩
            exact ⟨w2, _, I', rw', l _ _ _ _ _ (h5 z) g' o' (q3.mono g')⟩
  · exact h.elim
def rDS (K : PySem.W.Frag) : V → V → V → Hp → (Hp → Prop) → Prop := fun v1 v2 v3 H Q => ∃ ρ st x y z P, Ok K ρ H st ∧ Rel K ρ H x v1 ∧ Rel K ρ H y v2 ∧ Rel K ρ H z v3 ∧ opSet x y z st P ∧ ∀ st' ρ' H', P st' → Gr ρ ρ' H H' → Ok K ρ' H' st' → Q H'
theorem opSet_ok (hu : X.A.units + 65 < cLine) : PSet X (rDS X.K) := by
  intro pins s σ H v1 v2 v3 u1 u2 u3 Q I r1 r2 r3 ⟨ρ, st, x, y, z, P, o, q1, q2, q3, h, l⟩
  unfold opSet at h
  split at h
  · rcases h with ⟨xs, j, i, rfl, h1, h2, h3⟩ | ⟨t, kvs, h1, h2, h3, h4⟩
    rotate_left
    · obtain ⟨a, rfl, ha⟩ := q1.obj_inv
      cases r1
      obtain ⟨ks, key, e, rfl, hk, dr⟩ := dic_get o h1 ha h2 q2
      have ht := (o.dic h1 ha).1
      obtain ⟨o', g'⟩ := o.setO (nw := .dic t (dPut kvs _ _)) (ho := .dK (putK ks key v3)) h1 ha fun g => ⟨ht, _, upd_same, (dr.put hk q3).mono g⟩
      exact d_setItem (by omega) I (DPut.k e (by rw [← dr.len]; exact h3)) r2 r3 fun s' I' => ⟨_, I', l _ _ _ h4 g' o'⟩
    obtain ⟨a, rfl, ha⟩ := q1.obj_inv
    cases q2
    obtain ⟨ws, e, t⟩ := o.lst h1 ha
    obtain ⟨o', g'⟩ := o.set h1 ha (t.set q3 j)
    exact set_list pins s σ H _ _ _ _ _ _ Q I r1 r2 r3 ⟨a, ws, _, j, rfl, rfl, e, by rw [← t.len]; exact h2, l _ _ _ h3 g' o'⟩
  · exact h.elim
end
end Rf

/-! Part D: a text of the program and its small form; the rules of the hand layer, by the small form -/
namespace Rf
open PySem PySem.Spec PyProof.Rows L2

def notStar : Expr → Bool
  | .Starred .. => false
  | _ => true
def notSet : Expr → Bool
  | .Set .. => false
  | _ => true
def notComp : Expr → Bool
  | .ListComp .. => false | .SetComp .. => false | .DictComp .. => false
  | _ => true
def notTup : Expr → Bool
  | .Tuple .. => false
  | _ => true
def notCall : Expr → Bool
  | .Call .. => false
  | _ => true
def notSlice : Expr → Bool
  | .Slice .. => false
  | _ => true
def visB (sc : Scope) (x : Str) : Bool := match sc.names.lookup x with | some .local => true | some .cell => true | some .free => true | _ => false
def locB (sc : Scope) (x : Str) : Bool := match sc.names.lookup x with | some .local => true | some .cell => true | _ => false
def glB (sc : Scope) (x : Str) : Bool := match sc.names.lookup x with | some .globalImplicit => true | _ => false
def okN (x : Str) : Bool := !(x == ("__debug__" : Str)) && !(x == ("__classdict__" : Str))
def biName : Bi → Str
  | .len => "len" | .intT => "int" | .sum => "sum" | .tupleT => "tuple" | .listT => "list" | .all => "all" | .any => "any" | .min2 => "min" | .max2 => "max" | .abs => "abs" | .boolT => "bool" | .sorted => "sorted" | .min1 => "min" | .max1 => "max" | .strT => "str" | .repr => "repr"
def tyStr : Ty → Str
  | .int => "int" | .bool => "bool" | .str => "str" | .tuple => "tuple" | .list => "list"
def meName : Me → Str
  | .append => "append" | .extend => "extend" | .pop => "pop" | .join => "join" | .insert => "insert" | .index => "index" | .split => "split" | .get => "get" | .setdefault => "setdefault"
/-- the names of built-ins that the small language leans on -/
def bNames : List Str := ["len", "int", "sum", "tuple", "list", "all", "any", "min", "max", "abs", "bool", "sorted", "str", "isinstance", "range", "enumerate", "zip", "reversed", "repr"]

section
variable (GN TN N : List Str)
def ownOf (vs : List Nat) : List (Str × Nat) := vs.map fun i => (N.getD i "", i)
mutual
def mtT : IE → Scope → Expr → Bool
  | .tn i, sc, e => match e with | .Name x _ => locB sc x && decide (N[i]? = some x) | _ => false
  | .tt ts, sc, e => match e with | .Tuple es _ _ => mtTs ts sc es | _ => false
  | _, _, _ => false
def mtTs : IE → Scope → List Expr → Bool
  | .nil, _, es => es.isEmpty
  | .cons a r, sc, es => match es with | e :: es => notStar e && mtT a sc e && mtTs r sc es | [] => false
  | _, _, _ => false
end
/-- the target's slots are among vs -/
def tIn (vs : List Nat) : IE → Bool
  | .tn i => vs.contains i
  | .tt ts => tIn vs ts
  | .cons a r => tIn vs a && tIn vs r
  | .nil => true
  | _ => false
mutual
def mtE : IE → Scope → Expr → Bool
  | .var i, sc, e => match e with | .Name x _ => visB sc x && decide (N[i]? = some x) && okN x | _ => false
  | .int i, _, e => match e with | .Constant (.int j) _ _ => decide (i = j) | _ => false
  | .str s, _, e => match e with | .Constant (.str x) _ _ => decide (x.cps.toList = s) | _ => false
  | .bl b, _, e => match e with | .Constant (.bool c) _ _ => decide (b = c) | _ => false
  | .non, _, e => match e with | .Constant .none _ _ => true | _ => false
  | .glob i, sc, e => match e with | .Name x _ => glB sc x && decide (GN[i]? = some x) && okN x | _ => false
  | .tup es, sc, e => match e with | .Tuple xs _ _ => mtEs es sc xs | _ => false
  | .lst es, sc, e => match e with | .List xs _ => mtEs es sc xs | _ => false
  | .bin op a b, sc, e => match e with | .BinOp x o y _ => decide (o = bop op) && mtE a sc x && mtE b sc y | _ => false
  | .neg a, sc, e => match e with | .UnaryOp .USub x _ => mtE a sc x | _ => false
  | .cmp op a b, sc, e => match e with | .Compare x [o] [y] _ => decide (o = cop op) && mtE a sc x && mtE b sc y && notSet y | _ => false
  | .chain op op' a b c, sc, e => match e with | .Compare x [o, o'] [y, z] _ => decide (o = cop op) && decide (o' = cop op') && mtE a sc x && mtE b sc y && mtE c sc z && notSet y && notSet z | _ => false
  | .and es, sc, e => match e with | .BoolOp .And xs _ => mtEs es sc xs && !xs.isEmpty | _ => false
  | .or es, sc, e => match e with | .BoolOp .Or xs _ => mtEs es sc xs && !xs.isEmpty | _ => false
  | .not a, sc, e => match e with | .UnaryOp .Not x _ => mtE a sc x | _ => false
  | .ife c a b, sc, e => match e with | .IfExp x y z _ => mtE c sc x && mtE a sc y && mtE b sc z | _ => false
  | .sub a i, sc, e => match e with | .Subscript x y _ => mtE a sc x && mtE i sc y && notSlice y | _ => false
  | .slc a lo hi, sc, e => match e with | .Subscript x (.Slice l h none _) _ => mtE a sc x && mtO lo sc l && mtO hi sc h | _ => false
  | .call f es, sc, e => match e with | .Call (.Name x _) xs [] _ => glB sc x && decide (TN[f]? = some x) && okN x && mtEs es sc xs | _ => false
  | .bi b es, sc, e => match e with | .Call (.Name x _) xs [] _ => glB sc x && decide (x = biName b) && mtEs es sc xs && !xs.isEmpty | _ => false
  | .isi a t, sc, e => match e with | .Call (.Name x _) [y, .Name z _] [] _ => glB sc x && glB sc z && decide (x = ("isinstance" : Str)) && decide (z = tyStr t) && notStar y && mtE a sc y | _ => false
  | .meth m o es, sc, e => match e with | .Call (.Attribute ob nm apos) xs [] cpos => decide (nm = meName m) && (apos.endLine == cpos.line) && notCall ob && mtE o sc ob && mtEs es sc xs && decide (xs.length < 20) | _ => false
  | .trv tp a, sc, e => match e with | .Call (.Name x _) [.Call (.Name y _) [z] [] _] [] _ => glB sc x && glB sc y && decide (x = if tp then ("tuple" : Str) else "list") && decide (y = ("reversed" : Str)) && notStar z && mtE a sc z | _ => false
  | .dnew t, _, e => match e with | .Dict [] [] _ => !t | _ => false
  | .rl1 tp a, sc, e => match e with | .Call (.Name x _) [.Call (.Name y _) [z] [] _] [] _ => glB sc x && glB sc y && decide (x = if tp then ("tuple" : Str) else "list") && decide (y = ("range" : Str)) && notStar z && mtE a sc z | _ => false
  | .rl2 tp a b, sc, e => match e with | .Call (.Name x _) [.Call (.Name y _) [z, w] [] _] [] _ => glB sc x && glB sc y && decide (x = if tp then ("tuple" : Str) else "list") && decide (y = ("range" : Str)) && notStar z && notStar w && mtE a sc z && mtE b sc w | _ => false
  | .rev a, sc, e => match e with | .Subscript x (.Slice none none (some (.UnaryOp .USub (.Constant (.int 1) _ _) _)) _) _ => mtE a sc x | _ => false
  | .comp vs t it ifs elt, sc, e => match e with
    | .ListComp el [⟨tg, iter, fs, 0⟩] scope _ => blkC N sc scope (ownOf N vs) && mtT N t scope tg && tIn vs t && mtI it sc tg iter && notSet iter && mtIf ifs scope fs && mtE elt scope el
    | _ => false
  | .gc a, sc, e => mtE a sc e
  | _, _, _ => false
def mtEs : IE → Scope → List Expr → Bool
  | .nil, _, es => es.isEmpty
  | .cons a r, sc, es => match es with | e :: es => notStar e && mtE a sc e && mtEs r sc es | [] => false
  | _, _, _ => false
def mtO : IE → Scope → Option Expr → Bool
  | .nil, _, e => e.isNone
  | .cons a _, sc, e => match e with | some e => mtE a sc e | none => false
  | _, _, _ => false
def mtIf : IE → Scope → List Expr → Bool
  | .nil, _, es => es.isEmpty
  | .cons a _, sc, es => match es with | [e] => mtE a sc e | _ => false
  | _, _, _ => false
def mtI : IE → Scope → Expr → Expr → Bool
  | .iv a, sc, _, e => mtE a sc e
  | .ir1 a, sc, _, e => match e with | .Call (.Name x _) [y] [] _ => glB sc x && decide (x = ("range" : Str)) && notStar y && mtE a sc y | _ => false
  | .ir2 a b, sc, _, e => match e with | .Call (.Name x _) [y, z] [] _ => glB sc x && decide (x = ("range" : Str)) && notStar y && notStar z && mtE a sc y && mtE b sc z | _ => false
  | .ir3 a b c, sc, _, e => match e with | .Call (.Name x _) [y, z, w] [] _ => glB sc x && decide (x = ("range" : Str)) && notStar y && notStar z && notStar w && mtE a sc y && mtE b sc z && mtE c sc w | _ => false
  | .ien a, sc, tg, e => match e with | .Call (.Name x _) [y] [] _ => glB sc x && decide (x = ("enumerate" : Str)) && notStar y && mtE a sc y && !notTup tg | _ => false
  | .izip a b, sc, tg, e => match e with | .Call (.Name x _) [y, z] [] _ => glB sc x && decide (x = ("zip" : Str)) && notStar y && notStar z && mtE a sc y && mtE b sc z && !notTup tg | _ => false
  | .irev a, sc, _, e => match e with | .Call (.Name x _) [y] [] _ => glB sc x && decide (x = ("reversed" : Str)) && notStar y && mtE a sc y | _ => false
  | _, _, _, _ => false
end
/-- a written tuple of constants -/
def foldT : Expr → Bool
  | .Tuple vs _ _ => vs.all (foldedForSure 8)
  | _ => false
def isComp : IE → Bool
  | .comp .. => true
  | _ => false
def isLc (N : List Str) (sc : Scope) (tg e : Expr) (l : Nat) : Bool :=
  match tg, e with
  | .Name y py, .ListComp _ _ scope pos => decide (sc.names.lookup y = some .local) && (py.line == pos.line) && !(scope.names.any fun (n, k) => n == y && (k == .local || k == .cell))
  | _, _ => false
def isCc (sc : Scope) (tg : Expr) : Bool :=
  match tg with
  | .Name y _ => decide (sc.names.lookup y = some .cell)
  | _ => false
mutual
def mtS : IS → Scope → Stmt → Bool
  | .asg t a, sc, s => match s with | .Assign [tg] e pos => mtT N t sc tg && mtE GN TN N a sc e && ((notComp e && (notTup tg || notTup e || foldT e)) || (isComp a && (isLc N sc tg e pos.line || isCc sc tg))) && notStar tg | _ => false
  | .asl ts a, sc, s => match s with | .Assign [.Tuple es _ _] e _ => mtTs N ts sc es && mtE GN TN N a sc e && notComp e && notTup e | _ => false
  | .par2 i j a b, sc, s => match s with
    | .Assign [.Tuple [.Name x px, .Name y py] _ _] (.Tuple [e1, e2] _ _) _ => decide (N[i]? = some x) && decide (N[j]? = some y) && decide (i ≠ j) && decide (x ≠ y) && decide (sc.names.lookup x = some .local) && decide (sc.names.lookup y = some .local) &&
        (py.line == px.line) && !([e1, e2].all (foldedForSure 8)) && !([e1, e2].all (constantsAlone 8)) && notStar e1 && notStar e2 && mtE GN TN N a sc e1 && mtE GN TN N b sc e2
    | _ => false
  | .par3 i j l a b c, sc, s => match s with
    | .Assign [.Tuple [.Name x px, .Name y py, .Name z pz] _ _] (.Tuple [e1, e2, e3] _ _) _ => decide (N[i]? = some x) && decide (N[j]? = some y) && decide (N[l]? = some z) && decide (i ≠ j) && decide (i ≠ l) && decide (j ≠ l) && decide (x ≠ y) && decide (x ≠ z) && decide (y ≠ z) &&
        decide (sc.names.lookup x = some .local) && decide (sc.names.lookup y = some .local) && decide (sc.names.lookup z = some .local) &&
        (py.line == px.line) && (pz.line == px.line) && !([e1, e2, e3].all (foldedForSure 8)) && !([e1, e2, e3].all (constantsAlone 8)) && notStar e1 && notStar e2 && notStar e3 && mtE GN TN N a sc e1 && mtE GN TN N b sc e2 && mtE GN TN N c sc e3
    | _ => false
  | .sto o i a, sc, s => match s with | .Assign [.Subscript x y _] e _ => mtE GN TN N o sc x && mtE GN TN N i sc y && mtE GN TN N a sc e && notSlice y | _ => false
  | .expr a, sc, s => match s with | .Expr e _ => mtE GN TN N a sc e && notComp e | _ => false
  | .ret a, sc, s => match s with | .Return (some e) _ => mtE GN TN N a sc e | _ => false
  | .retn, _, s => match s with | .Return none _ => true | _ => false
  | .ite c a b, sc, s => match s with | .If e x y _ => mtE GN TN N c sc e && mtSs a sc x && mtSs b sc y | _ => false
  | .forr t it b, sc, s => match s with | .For tg e x [] _ => mtT N t sc tg && mtI GN TN N it sc tg e && notSet e && mtSs b sc x | _ => false
  | .whl c b, sc, s => match s with | .While e x [] _ => mtE GN TN N c sc e && mtSs b sc x | _ => false
  | .brk, _, s => match s with | .Break _ => true | _ => false
  | .cont, _, s => match s with | .Continue _ => true | _ => false
  | .skip, _, s => match s with | .Pass _ => true | _ => false
  | .seq _ _, _, _ => false
def mtSs : IS → Scope → List Stmt → Bool
  | .skip, _, ss => ss.isEmpty
  | .seq a r, sc, ss => match ss with | s :: ss => mtS a sc s && mtSs r sc ss | [] => false
  | _, _, _ => false
end
end

/-! ### what a context must be -/
structure Gd (X : Cx) (N : List Str) (sc : Scope) : Prop where
  n : X.N = N
  nd : N.Nodup
  calm : X.calm = true
  kind : X.env.scope.kind = .function
  lk : ∀ x k, sc.names.lookup x = some k → X.env.scope.names.lookup x = some k ∨ (k = .free ∧ X.env.scope.names.lookup x = some .cell)
  fn : ∀ x, sc.names.lookup x = some .cell → X.fn x = true
structure EnvOk (K : PySem.W.Frag) (ρ : List Addr) (H : Hp) (env : Env) (σ : L2.St) : Prop where
  len : env.length = σ.length
  at_ : ∀ (i : Nat) (d : D), env[i]? = some (some d) → ∃ v, σ[i]? = some (some v) ∧ Rel K ρ H d v

theorem lookup_map2 (g : Str → NameKind → NameKind) : ∀ (names : List (Str × NameKind)) (x : Str), (names.map fun p => (p.1, g p.1 p.2)).lookup x = (names.lookup x).map (g x)
  | [], _ => rfl
  | (n, k) :: r, x => by
    rw [List.map_cons, List.lookup_cons, List.lookup_cons]
    cases hx : x == n with
    | true => rw [eq_of_beq hx]; rfl
    | false => exact lookup_map2 g r x
def relK (sc : Scope) (n : Str) (k : NameKind) : NameKind := if (k == NameKind.free && sc.kind == .function && sc.names.lookup n == some .cell) = true then NameKind.cell else k
theorem lookup_relF {sc : Scope} {names : List (Str × NameKind)} {x : Str} (h : names.lookup x = some .free) :
    (names.map fun (n, k) => if (k == NameKind.free && sc.kind == .function && sc.names.lookup n == some .cell) then (n, NameKind.cell) else (n, k)).lookup x = some .free ∨
    (names.map fun (n, k) => if (k == NameKind.free && sc.kind == .function && sc.names.lookup n == some .cell) then (n, NameKind.cell) else (n, k)).lookup x = some .cell := by
  have e : (fun (p : Str × NameKind) => match p with | (n, k) => if (k == NameKind.free && sc.kind == .function && sc.names.lookup n == some .cell) = true then (n, NameKind.cell) else (n, k)) =
      fun p => (p.1, relK sc p.1 p.2) := by
    funext ⟨n, k⟩
    show (if _ then _ else _) = (n, if _ then _ else _)
    split <;> rfl
  rw [e, lookup_map2 (relK sc), h]
  show some (if _ then _ else _) = _ ∨ some (if _ then _ else _) = _
  split
  · exact .inr rfl
  · exact .inl rfl
section
variable {X : Cx} {N : List Str} {sc scope : Scope} {x : Str}
theorem Gd.vis (g : Gd X N sc) (h : visB sc x = true) : Vis X.env.scope x := by
  unfold visB at h
  split at h
  · rename_i e; rcases g.lk _ _ e with q | ⟨q, _⟩
    · exact .inl q
    · cases q
  · rename_i e; rcases g.lk _ _ e with q | ⟨q, _⟩
    · exact .inr (.inl q)
    · cases q
  · rename_i e; rcases g.lk _ _ e with q | ⟨_, q⟩
    · exact .inr (.inr q)
    · exact .inr (.inl q)
  · cases h
theorem Gd.loc (g : Gd X N sc) (h : locB sc x = true) : Loc X.env.scope x ∧ (X.fn x = true ∨ X.env.scope.names.lookup x = some .local) := by
  unfold locB at h
  split at h
  · rename_i e; rcases g.lk _ _ e with q | ⟨q, _⟩
    · exact ⟨.inl q, .inr q⟩
    · cases q
  · rename_i e; rcases g.lk _ _ e with q | ⟨q, _⟩
    · exact ⟨.inr q, .inl (g.fn _ e)⟩
    · cases q
  · cases h
theorem Gd.gl (g : Gd X N sc) (h : glB sc x = true) : Gl X x := by
  unfold glB at h
  split at h
  · rename_i e; rcases g.lk _ _ e with q | ⟨q, _⟩
    · exact q
    · cases q
  · cases h
theorem okN_d (h : okN x = true) : (x == ("__debug__" : Str)) = false ∧ (x == ("__classdict__" : Str)) = false := by
  unfold okN at h
  simpa using h
theorem Gd.blk (g : Gd X N sc) {vs : List Nat} (h : blkC N sc scope (ownOf N vs) = true) : BlkOk X.N X.env.scope scope (ownOf N vs) ∧
    ∀ (s : Shared) (H : Hp) (C : Addr) (cl : List (Str × Addr)) (fp : List Addr), Gd (X.blk s H scope (compEnvC scope cl C X.env) fp) N scope := by
  have b := blkOk_by h
  rw [g.n]
  refine ⟨⟨b.kind, b.uniq, b.ix, fun y hy e => ?_, b.own⟩, fun s H C cl fp => ⟨g.n, g.nd, g.calm, b.kind, fun x k e => ?_, fun x e => ?_⟩⟩
  · rcases b.free y hy e with q | q
    · rcases g.lk _ _ q with z | ⟨z, _⟩
      · exact .inl z
      · cases z
    · rcases g.lk _ _ q with z | ⟨_, z⟩
      · exact .inr z
      · exact .inl z
  · show (relabel scope X.env).names.lookup x = some k ∨ _
    by_cases hk : k = .free
    · subst hk
      rcases lookup_relF (sc := X.env.scope) e with q | q
      · exact .inl q
      · exact .inr ⟨rfl, q⟩
    · exact .inl (lookup_relS_keep (sc := X.env.scope) hk e)
  · show (scope.names.lookup x == some .cell) = true
    rw [e]; rfl
end
end Rf

/-! Part E: what the small form says is what the text does: expressions -/
namespace Rf
open PySem PySem.Spec PyProof.Rows L2

abbrev X0 : XD := fun _ _ _ => False
theorem _root_.L2.PE.weak {X : Cx} {e : Expr} {t t' : TE} (h : PE X e t) (w : ∀ σ H Q, t' σ H Q → t σ H Q) : PE X e t' := ⟨fun pins s σ H Q I q => h.run pins s σ H Q I (w σ H Q q)⟩
theorem _root_.L2.PT.weak {X : Cx} {e : Expr} {t t' : TT} (h : PT X e t) (w : ∀ σ H Q, t' σ H Q → t σ H Q) : PT X e t' := ⟨fun pins s σ H Q I q => h.run pins s σ H Q I (w σ H Q q)⟩
theorem _root_.L2.PW.weak {X : Cx} {e : Expr} {t t' : TT} (h : PW X e t) (w : ∀ σ H Q, t' σ H Q → t σ H Q) : PW X e t' := ⟨fun wh pins s σ H Q I q => h.run wh pins s σ H Q I (w σ H Q q)⟩
theorem _root_.L2.PA.weak {X : Cx} {e : List Expr} {t t' : TA} (h : PA X e t) (w : ∀ σ H Q, t' σ H Q → t σ H Q) : PA X e t' := ⟨fun p pins s σ H Q I q => h.run p pins s σ H Q I (w σ H Q q)⟩
theorem _root_.L2.PO.weak {X : Cx} {e : Option Expr} {t t' : TO} (h : PO X e t) (w : ∀ σ H Q, t' σ H Q → t σ H Q) : PO X e t' := ⟨fun pins s σ H Q I q => h.run pins s σ H Q I (w σ H Q q)⟩
theorem _root_.L2.PTs.weak {X : Cx} {e : List Expr} {t t' : TT} (h : PTs X e t) (w : ∀ σ H Q, t' σ H Q → t σ H Q) : PTs X e t' := ⟨fun pins s σ H Q I q => h.run pins s σ H Q I (w σ H Q q)⟩
theorem _root_.L2.PI.weak {X : Cx} {tg e : Expr} {t t' : TI} (h : PI X tg e t) (w : ∀ σ H Q, t' σ H Q → t σ H Q) : PI X tg e t' := ⟨fun pins s σ H Q I q => h.run pins s σ H Q I (w σ H Q q)⟩

theorem EnvOk.mono {K : PySem.W.Frag} {ρ ρ' : List Addr} {H H' : Hp} {env : Env} {σ : L2.St} (e : EnvOk K ρ H env σ) (g : Gr ρ ρ' H H') : EnvOk K ρ' H' env σ :=
  ⟨e.len, fun i d h => let ⟨v, h1, h2⟩ := e.at_ i d h; ⟨v, h1, h2.mono g⟩⟩
theorem EnvOk.set {K : PySem.W.Frag} {ρ : List Addr} {H : Hp} {env : Env} {σ : L2.St} {d : D} {v : V} (e : EnvOk K ρ H env σ) (r : Rel K ρ H d v) (i : Nat) : EnvOk K ρ H (env.set i (some d)) (σ.set i (some v)) := by
  refine ⟨by simp [e.len], fun j c h => ?_⟩
  rw [List.getElem?_set] at h
  by_cases hj : i = j
  · subst hj
    rw [if_pos rfl] at h
    split at h
    · rename_i hl
      cases h
      exact ⟨v, by rw [List.getElem?_set_self (by rw [← e.len]; exact hl)], r⟩
    · cases h
  · rw [if_neg hj] at h
    obtain ⟨w, h1, h2⟩ := e.at_ j c h
    exact ⟨w, by rw [List.getElem?_set_ne hj]; exact h1, h2⟩
theorem EnvOk.unset {K : PySem.W.Frag} {ρ : List Addr} {H : Hp} {env : Env} {σ : L2.St} (e : EnvOk K ρ H env σ) (i : Nat) : EnvOk K ρ H (env.set i none) (σ.set i none) := by
  refine ⟨by simp [e.len], fun j c h => ?_⟩
  rw [List.getElem?_set] at h
  by_cases hj : i = j
  · subst hj
    rw [if_pos rfl] at h
    split at h <;> cases h
  · rw [if_neg hj] at h
    obtain ⟨w, h1, h2⟩ := e.at_ j c h
    exact ⟨w, by rw [List.getElem?_set_ne hj]; exact h1, h2⟩
theorem EnvOk.wipe {K : PySem.W.Frag} {ρ : List Addr} {H : Hp} {env : Env} {σ : L2.St} (e : EnvOk K ρ H env σ) : ∀ vs : List Nat, EnvOk K ρ H (wipeE env vs) (L2.wipe σ vs)
  | [] => e
  | v :: vs => (EnvOk.wipe e vs).unset v

section
variable (K : PySem.W.Frag)
def liftE (we : Env → Sto → KD → Prop) : TE := fun σ H Q => ∃ ρ env st P, EnvOk K ρ H env σ ∧ Ok K ρ H st ∧ we env st P ∧ Lift K ρ H P Q
def LiftB (ρ : List Addr) (H : Hp) (P : Bool → Sto → Prop) (Q : Bool → Hp → Prop) : Prop := ∀ k st' ρ' H', P k st' → Gr ρ ρ' H H' → Ok K ρ' H' st' → Q k H'
def liftT (we : Env → Sto → KD → Prop) : TT := fun σ H Q => ∃ ρ env st P, EnvOk K ρ H env σ ∧ Ok K ρ H st ∧ we env st P ∧ ∀ d st', P d st' → ∃ k, d = .bl k ∧ ∀ ρ' H', Gr ρ ρ' H H' → Ok K ρ' H' st' → Q k H'
def LiftA (ρ : List Addr) (H : Hp) (P : List D → Sto → Prop) (Q : List V → Hp → Prop) : Prop := ∀ ds st' ρ' H' vs, P ds st' → Gr ρ ρ' H H' → Ok K ρ' H' st' → Rels K ρ' H' ds vs → Q vs H'
def liftA (we : Env → Sto → (List D → Sto → Prop) → Prop) : TA := fun σ H Q => ∃ ρ env st P, EnvOk K ρ H env σ ∧ Ok K ρ H st ∧ we env st P ∧ LiftA K ρ H P Q
def liftO (we : Env → Sto → (Option Int → Sto → Prop) → Prop) : TO := fun σ H Q => ∃ ρ env st P, EnvOk K ρ H env σ ∧ Ok K ρ H st ∧ we env st P ∧ ∀ i st' ρ' H', P i st' → Gr ρ ρ' H H' → Ok K ρ' H' st' → Q i H'
def liftF (we : Env → Sto → (Bool → Sto → Prop) → Prop) : TT := fun σ H Q => ∃ ρ env st P, EnvOk K ρ H env σ ∧ Ok K ρ H st ∧ we env st P ∧ LiftB K ρ H P Q
/-- an iterator of the hand layer yields the items -/
def ItOk (ρ₀ : List Addr) (H₀ : Hp) (J : Itm) (Jt : It) : Prop := ∀ i ρ H st, Gr ρ₀ ρ H₀ H → Ok K ρ H st → J.still st →
  (∀ x, J.xs[i]? = some x → Jt.go i H ∧ ∀ v H', Jt.yld i H v H' → Gr ρ ρ H H' ∧ Ok K ρ H' st ∧ Rel K ρ H' x v) ∧ (J.xs.length ≤ i → Jt.stop i H)
def liftI (wi : Env → Sto → (Itm → Sto → Prop) → Prop) : TI := fun σ H R => ∃ ρ env st P, EnvOk K ρ H env σ ∧ Ok K ρ H st ∧ wi env st P ∧
  ∀ J st' ρ' H' Jt, P J st' → Gr ρ ρ' H H' → Ok K ρ' H' st' → ItOk K ρ' H' J Jt → R Jt H'
end
theorem Lift.up {K : PySem.W.Frag} {ρ ρ' : List Addr} {H H' : Hp} {P : KD} {Q : VK} (l : Lift K ρ H P Q) (g : Gr ρ ρ' H H') : Lift K ρ' H' P Q := fun d st' ρ'' H'' v p g' o r => l d st' ρ'' H'' v p (g.trans g') o r

/-- a test that is tested by its value -/
theorem pt_of {X : Cx} {a : Expr} {we : Env → Sto → KD → Prop} (h : PE X a (liftE X.K we)) (he : ∀ whole, isTrue a X.env whole = (do let v ← whole; standAt a.pos; holding [v] (truthy v))) : PT X a (liftT X.K we) := by
  refine (pt_val h he).weak fun σ H Q ⟨ρ, env, st, P, en, o, w, l⟩ => ⟨ρ, env, st, P, en, o, w, fun d st' ρ' H' v p g o' r => ?_⟩
  obtain ⟨k, rfl, q⟩ := l d st' p
  exact ⟨k, rel_bl r, q ρ' H' g o'⟩

/-! ### targets -/
section
variable (K : PySem.W.Frag)
mutual
def gOf : IE → TG
  | .tn i => gName i
  | .tt ts => fun v σ H Q => ∃ a xs, v = .ref a ∧ SqT K H a xs ∧ xs.length = argN ts ∧ gsOf ts xs σ H Q
  | _ => fun _ _ _ _ => False
def gsOf : IE → TGs
  | .nil => gNil
  | .cons a r => gCons (gOf a) (gsOf r)
  | _ => fun _ _ _ _ => False
end
end
theorem _root_.L2.PG.weak {X : Cx} {e : Expr} {t t' : TG} (h : PG X e t) (w : ∀ v σ H Q, t' v σ H Q → t v σ H Q) : PG X e t' := ⟨fun pins s σ H v u Q I r q => h.run pins s σ H v u Q I r (w v σ H Q q)⟩
theorem assignEach_len : ∀ (es : List Expr) (env : PySem.Env), (assignEach es env).length = es.length
  | [], _ => rfl
  | e :: es, env => by cases e <;> simp [assignEach, assignEach_len es env]
theorem mtTs_star {N : List Str} {sc : Scope} {t : IE} : ∀ {es : List Expr}, mtTs N t sc es = true → es.all notStar = true := by
  induction t with
  | nil =>
    intro es h
    have h : es.isEmpty = true := h
    rw [List.isEmpty_iff.mp h]; rfl
  | cons a r _ ih =>
    intro es h
    cases es with
    | nil => exact nomatch h
    | cons e es =>
      have h : (notStar e && mtT N a sc e && mtTs N r sc es) = true := h
      rw [Bool.and_eq_true, Bool.and_eq_true] at h
      rw [List.all_cons, h.1.1, ih h.2]; rfl
  | _ => intro es h; exact nomatch h
theorem assignEach_star (env : PySem.Env) : ∀ (es : List Expr), es.all notStar = true → (assignEach es env).findIdx? (·.1) = none
  | [], _ => rfl
  | e :: es, h => by
    rw [List.all_cons, Bool.and_eq_true] at h
    have ih := assignEach_star env es h.2
    have e1 : assignEach (e :: es) env = (false, assign e env) :: assignEach es env := by
      cases e <;> first | rfl | (simp [notStar] at h)
    rw [e1, List.findIdx?_cons]
    simp [ih]

theorem mtTs_len {N : List Str} {sc : Scope} {t : IE} : ∀ {es : List Expr}, mtTs N t sc es = true → es.length = argN t := by
  induction t with
  | nil =>
    intro es h
    have h : es.isEmpty = true := h
    rw [List.isEmpty_iff.mp h]; rfl
  | cons a r _ ih =>
    intro es h
    cases es with
    | nil => exact nomatch h
    | cons e es =>
      have h : (notStar e && mtT N a sc e && mtTs N r sc es) = true := h
      rw [Bool.and_eq_true] at h
      show es.length + 1 = argN r + 1
      rw [ih h.2]
  | _ => intro es h; exact nomatch h
/-- a target: its rule, and what it does to the slots -/
theorem tgt_ok {X : Cx} {N : List Str} {sc : Scope} (g : Gd X N sc) (t : IE) : (∀ tg, mtT N t sc tg = true → PG X tg (gOf X.K t)) ∧ ∀ es, mtTs N t sc es = true → PGs X es (gsOf X.K t) := by
  induction t with
  | tn i =>
    refine ⟨fun tg h => ?_, fun es h => (nomatch h)⟩
    unfold mtT at h
    split at h
    · rw [Bool.and_eq_true, decide_eq_true_eq] at h
      obtain ⟨h1, h2⟩ := h
      obtain ⟨l1, l2⟩ := g.loc h1
      exact pg_name (by rw [g.n]; exact g.nd) (by rw [g.n]; exact h2) l1 l2
    · cases h
  | tt ts ih =>
    refine ⟨fun tg h => ?_, fun es h => (nomatch h)⟩
    unfold mtT at h
    split at h
    · rename_i es k pos
      have hs := mtTs_star h
      refine (pg_tup (n := es.length) g.calm (ih.2 _ h) (assignEach_len _ _) (assignEach_star _ _ hs)).weak fun v σ H Q ⟨a, xs, e, q, l, w⟩ => ⟨a, xs, e, q, l.trans (mtTs_len h).symm, w⟩
    · cases h
  | nil =>
    refine ⟨fun tg h => (nomatch h), fun es h => ?_⟩
    have h : es.isEmpty = true := h
    rw [List.isEmpty_iff.mp h]
    exact pgs_nil
  | cons a r ih1 ih2 =>
    refine ⟨fun tg h => (nomatch h), fun es h => ?_⟩
    cases es with
    | nil => exact nomatch h
    | cons e es =>
      have h : (notStar e && mtT N a sc e && mtTs N r sc es) = true := h
      rw [Bool.and_eq_true, Bool.and_eq_true] at h
      refine pgs_cons (ih1.1 e h.1.2) (ih2.2 es h.2) ?_
      cases e <;> first | rfl | (exact absurd h.1.1 (by simp [notStar]))
  | _ => exact ⟨fun tg h => (nomatch h), fun es h => (nomatch h)⟩
theorem wipe_set (σ : L2.St) (i : Nat) (o : Option V) : ∀ vs : List Nat, vs.contains i = true → L2.wipe (σ.set i o) vs = L2.wipe σ vs
  | [], h => by simp at h
  | v :: vs, h => by
    show (L2.wipe (σ.set i o) vs).set v none = (L2.wipe σ vs).set v none
    by_cases hv : v = i
    · subst hv
      have e : ∀ (ws : List Nat), (L2.wipe (σ.set v o) ws).set v none = (L2.wipe σ ws).set v none := by
        intro ws
        induction ws with
        | nil => show (σ.set v o).set v none = σ.set v none; rw [List.set_set]
        | cons w ws ih =>
          show ((L2.wipe (σ.set v o) ws).set w none).set v none = ((L2.wipe σ ws).set w none).set v none
          by_cases hw : w = v
          · subst hw; rw [ih]
          · rw [List.set_comm _ _ hw, ih, List.set_comm _ _ (fun z => hw z.symm)]
      exact e vs
    · have h' : vs.contains i = true := by
        rw [List.contains_cons] at h
        have : (i == v) = false := beq_eq_false_iff_ne.mpr fun z => hv z.symm
        rw [this, Bool.false_or] at h; exact h
      rw [wipe_set σ i o vs h']
theorem tgt_ex (t : IE) : (∀ (d : D) (env : Env) (P : Env → Prop), wT t d env P → ∃ env', P env') ∧ (∀ (xs : List D) (env : Env) (P : Env → Prop), wT.wTs t xs env P → ∃ env', P env' ∧ xs.length = argN t) := by
  induction t with
  | tn i => exact ⟨fun d env P w => ⟨_, w⟩, fun xs env P w => w.elim⟩
  | tt ts ih =>
    refine ⟨fun d env P w => ?_, fun xs env P w => w.elim⟩
    obtain ⟨xs, rfl, w⟩ := w
    obtain ⟨env', w', _⟩ := ih.2 xs env P w
    exact ⟨env', w'⟩
  | nil => exact ⟨fun d env P w => w.elim, fun xs env P w => ⟨env, w.2, by rw [w.1]; rfl⟩⟩
  | cons a r ih1 ih2 =>
    refine ⟨fun d env P w => w.elim, fun xs env P w => ?_⟩
    obtain ⟨y, ys, rfl, w⟩ := w
    obtain ⟨env', w'⟩ := ih1.1 y env _ w
    obtain ⟨env2, w2, l⟩ := ih2.2 ys env' P w'
    exact ⟨env2, w2, congrArg (· + 1) l⟩
  | _ => exact ⟨fun d env P w => w.elim, fun xs env P w => w.elim⟩
/-- a value goes to its target -/
theorem tgt_go {K : PySem.W.Frag} {ρ : List Addr} {H : Hp} (t : IE) : (∀ (d : D) (v : V) (env : Env) (σ : L2.St) (P : Env → Prop) (Q : L2.St → Hp → Prop), wT t d env P → EnvOk K ρ H env σ → Rel K ρ H d v →
      (∀ env' σ', P env' → EnvOk K ρ H env' σ' → (∀ vs, tIn vs t = true → L2.wipe σ' vs = L2.wipe σ vs) → Q σ' H) → gOf K t v σ H Q) ∧
    (∀ (xs : List D) (ws : List V) (env : Env) (σ : L2.St) (P : Env → Prop) (Q : L2.St → Hp → Prop), wT.wTs t xs env P → EnvOk K ρ H env σ → Rels K ρ H xs ws →
      (∀ env' σ', P env' → EnvOk K ρ H env' σ' → (∀ vs, tIn vs t = true → L2.wipe σ' vs = L2.wipe σ vs) → Q σ' H) → gsOf K t ws σ H Q ∧ ws.length = argN t) := by
  induction t with
  | tn i => exact ⟨fun d v env σ P Q w e r k => k _ _ w (e.set r i) fun vs h => wipe_set σ i _ vs h, fun xs ws env σ P Q w => w.elim⟩
  | tt ts ih =>
    refine ⟨fun d v env σ P Q w e r k => ?_, fun xs ws env σ P Q w => w.elim⟩
    obtain ⟨xs, rfl, w⟩ := w
    obtain ⟨a, vs, rfl, q, t⟩ := r.tup_inv
    obtain ⟨h1, h2⟩ := ih.2 xs vs env σ P Q w e t k
    exact ⟨a, vs, rfl, q, h2, h1⟩
  | nil =>
    refine ⟨fun d v env σ P Q w => w.elim, fun xs ws env σ P Q w e r k => ?_⟩
    obtain ⟨rfl, w⟩ := w
    cases r.inv_nil
    exact ⟨⟨rfl, k env σ w e fun vs h => rfl⟩, rfl⟩
  | cons a r ih1 ih2 =>
    refine ⟨fun d v env σ P Q w => w.elim, fun xs ws env σ P Q w e q k => ?_⟩
    obtain ⟨y, ys, rfl, w⟩ := w
    obtain ⟨v, vs, rfl, q1, q2⟩ := q.inv_cons
    have len : vs.length = argN r := by
      obtain ⟨env', w'⟩ := (tgt_ex a).1 y env _ w
      obtain ⟨_, _, l⟩ := (tgt_ex r).2 ys env' P w'
      rw [← q2.len, l]
    refine ⟨⟨v, vs, rfl, ?_⟩, congrArg (· + 1) len⟩
    refine ih1.1 y v env σ _ _ w e q1 fun env' σ' w' e' k' => ?_
    refine (ih2.2 ys vs env' σ' P Q w' e' q2 fun env2 σ2 w2 e2 k2 => k env2 σ2 w2 e2 fun us h => ?_).1
    have h : (tIn us a && tIn us r) = true := h
    rw [Bool.and_eq_true] at h
    exact (k2 us h.2).trans (k' us h.1)
  | _ => exact ⟨fun d v env σ P Q w => w.elim, fun xs ws env σ P Q w => w.elim⟩
end Rf

/-! Part L2: defs that are run while no text of a tuple is under way (so repr of data is known) -/
namespace Rf
open PySem PySem.Spec PyProof.Rows L2

/-- a def's promise, kept where nothing is being shown -/
structure FnG (P : Program) (w : World) (K : PySem.W.Frag) (mg : Str → Option Value) (base : Heap) (k : Nat) (f : Addr) (fd : FuncData) (ps : List Str) (sp : Sp) : Prop where
  len : ∀ vs H Q E, sp vs H Q E → vs.length = ps.length
  run : ∀ (A : Around) (outer : List PySem.Env) (s : Shared) (H : Hp) (args : Args) (us : List Value) (vs : List V) (Q : VK) (E : XK), Room k A → A.guards = some [] →
    Env0 P w K mg base A outer s H → BindsTo s fd args (ps.zip us) → Vals vs us → sp vs H Q E → codeAny (model P w) A (.call (.ref f) args) (CR CX0 outer P w H s Q E) s
section
variable {X : Cx} {k : Nat} {f : Addr} {fd : FuncData} {ps : List Str} {sp : Sp} {dvs : List V} {ds : List Value} {x : Str} {p pos : Pos} {e : Expr} {es : List Expr} {t : TA}
theorem g_run {pins : List (Addr × Obj)} {σ : L2.St} {H : Hp} {s : Shared} {Q : VK} {us : List Value} {vs : List V} (F : FnG X.prog X.w X.K X.mg X.base k f fd ps sp) (hr : Room k X.A) (hg : X.A.guards = some []) (hb : Binds X.K fd ps ds) (hd : Vals dvs ds)
    (I : Inv X pins σ H s) (r : Vals vs us) (h : sp (vs ++ dvs) H Q E0) : wpAny (model X.prog X.w) X.A (PySem.call (.ref f) us) (EP X pins σ Q) X.xe s := by
  have both : Vals (vs ++ dvs) (us ++ ds) := Vals.append r hd
  have size : (us ++ ds).length = ps.length := (both.length).symm.trans (F.len _ _ _ _ h)
  have go := F.run X.A X.stack s H ⟨us, []⟩ (us ++ ds) (vs ++ dvs) Q E0 hr hg I.env0 (hb s us I.kIn size) both h
  apply wpAny_call
  refine codeAny_mono go ?_
  rintro (err | fl) s' hq
  · exact False.elim hq
  · cases fl with
    | ret u => exact Inv.after I hq
    | next => cases hq
    | brk => cases hq
    | cont => cases hq
theorem g_call (F : FnG X.prog X.w X.K X.mg X.base k f fd ps sp) (hr : Room k X.A) (hG : X.A.guards = some []) (hg : Gl X x) (hm : X.mg x = some (.ref f)) (hk : PySem.W.keepIn X.K (.ref f) = true) (hb : Binds X.K fd ps ds) (hd : Vals dvs ds)
    (ha : PA X (e :: es) t) (hdb : (x == ("__debug__" : Str)) = false) (he : starEach (e :: es) X.env = (false, eval e X.env) :: starEach es X.env) (hpl : (backTo pos (starEach es X.env)).any (·.1) = false) :
    PE X (.Call (.Name x p) (e :: es) [] pos) (tCall sp dvs E0 t) := by
  constructor
  intro pins s σ H Q I h
  apply wpAny_Call_Name_kw
  refine ld_glob I hg hm ?_ hdb
  have args := ha.run pos pins s σ H _ I h
  refine PySem.W.callWith_K (h₀ := X.base) I.ok.mod.kin hk (thn args ?_) he hpl
  rintro us s1 ⟨vs, H1, I1, r, q⟩
  exact ⟨I1.kIn, g_run F hr hG hb hd I1 r q⟩
theorem g_call0 (F : FnG X.prog X.w X.K X.mg X.base k f fd ps sp) (hr : Room k X.A) (hG : X.A.guards = some []) (hg : Gl X x) (hm : X.mg x = some (.ref f)) (hk : PySem.W.keepIn X.K (.ref f) = true) (hb : Binds X.K fd ps ds) (hd : Vals dvs ds)
    (hdb : (x == ("__debug__" : Str)) = false) : PE X (.Call (.Name x p) [] [] pos) (tCall sp dvs E0 tNil) := by
  constructor
  intro pins s σ H Q I h
  apply wpAny_Call_Name_kw
  refine ld_glob I hg hm ?_ hdb
  exact PySem.W.callWith_K0 I.kIn hk (g_run (us := []) F hr hG hb hd I Paired.nil h)
end
section
variable {P : Program} {w : World} {K : PySem.W.Frag} {mg : Str → Option Value} {base : Heap}
/-- the rule for a def of the text -/
theorem g_def {x qual : Str} {st : Stmt} {f : Addr} {fd : FuncData} {N ps : List Str} {k : Nat} {sp : Sp} (F : Fun K x qual st f fd) (S : FnScope N ps (defScope st)) (len : ∀ vs H Q E, sp vs H Q E → vs.length = ps.length)
    (hbody : ∀ (cdv : Value) (A : Around) (outer : List PySem.Env) (s : Shared) (H : Hp) (vs : List V) (Q : VK) (E : XK), Room k (A.deeper (envOfC qual (defScope st) s.heap.objs.size f cdv)) → A.guards = some [] → sp vs H Q E →
      ∃ t, PSs (cxOf CX0 P w K mg base N qual (defScope st) f cdv A outer s H E).nox (defBody st) t ∧ t { nx := fun _ H' => Q .non H', rt := Q } (L2.start N vs) H) : FnG P w K mg base (k + 1) f fd ps sp := by
  obtain ⟨oc, od, kV, doc, pm, an, cdv, ct, osl, rfl, lk, hcd⟩ := F.ex
  refine ⟨len, ?_⟩
  intro A outer s H args us vs Q E hr hG e0 hb r hsp
  have hl := len _ _ _ _ hsp
  have keeps : ∀ b o, base.get? b = some o → s.heap.get? b = some o := fun b o e => (e0.bs b o e).1
  have kin : K.In s.heap := e0.mod.kin.keeps keeps
  have nolim : s.heap.NoLimit := e0.mod.nolimit.keeps keeps
  have kinds : ∀ y ∈ ps.zip us, (defScope st).names.lookup y.1 = some .local ∨ ((defScope st).names.lookup y.1 = some .cell ∧ ((cellsFrom (s.heap.objs.size + 1) (defScope st).names []).lookup y.1).isSome = true) := by
    rintro ⟨n, v⟩ hy
    have hp := S.par n (List.of_mem_zip hy).1
    rcases hp with q | q
    · exact Or.inl q
    · exact Or.inr ⟨q, PySem.W.cellsFrom_some _ _ _ (Or.inl q)⟩
  apply codeAny_call_function hr.depth (kin _ _ lk) rfl S.co S.gen rfl (PySem.W.codeRec_of kin hcd) (hb _ _ _ _ ?_)
  apply wpAny_newFunctionEnv_cells S.kind kinds
  intro env he s1 x
  subst he
  refine ⟨nolim.keeps x.toInCall.keep, ?_⟩
  apply codeAny_func
  obtain ⟨t, ht, hq⟩ := hbody cdv A outer s H vs Q E (hr.deeper _) hG hsp
  have I := inv_start (CX := CX0) (P := P) (qual := qual) (f := f) (cd := cdv) (E := E) S hr.hd e0 hl r x
  have done : ∀ {σ' : L2.St} {H' : Hp} {v : V} {u : Value} {s' : Shared}, Inv (cxOf CX0 P w K mg base N qual (defScope st) f cdv A outer s H E) [] σ' H' s' → RelV v u → Q v H' → CE outer P w H s Q u s' := by
    intro σ' H' v u s' J rv q
    exact ⟨v, H', J.os, J.bare, J.base, J.hok, rv, q⟩
  apply wpAny_mono (ht.nox.run [] s1 (L2.start N vs) H _ I hq)
  · intro fl s' hs
    cases fl with
    | ret u =>
      obtain ⟨v, σ', H', J, rv, q⟩ := hs
      exact done J rv q
    | next =>
      obtain ⟨σ', H', J, q⟩ := hs
      exact done (v := V.non) (u := Value.none) J rfl q
    | brk =>
      obtain ⟨_, _, _, q⟩ := hs
      cases q
    | cont =>
      obtain ⟨_, _, _, q⟩ := hs
      cases q
  · intro e s' hs
    exact hs
theorem FnG.imp {k : Nat} {f : Addr} {fd : FuncData} {ps : List Str} {sp sp' : Sp} (F : FnG P w K mg base k f fd ps sp) (h : ∀ vs H Q E, sp' vs H Q E → sp vs H Q E) : FnG P w K mg base k f fd ps sp' :=
  ⟨fun vs H Q E q => F.len vs H Q E (h _ _ _ _ q), fun A outer s H args us vs Q E hr hG he hb hv hs => F.run A outer s H args us vs Q E hr hG he hb hv (h _ _ _ _ hs)⟩
end


/-! ### the law's end -/
section
variable {P : Program} {w : World} {K : PySem.W.Frag} {mg mb : Str → Option Value} {k : Nat} {fa a : Addr} {fd : FuncData} {x : Str} {sp : Sp} {s₁ : Shared} {vs : List Value} {ns : List Int}
/-- the law is called where at most the script is tracked -/
theorem g_core (KX : K.In s₁.heap) (hns : s₁.heap.Ns mainGlobals mg) (hb : s₁.heap.Ns builtinsNs mb) (hbb : ∀ x : Str, x ≠ "__name__" → mb x = bootBuiltins x) (hlim : s₁.heap.NoLimit) (hg : s₁.gens = #[])
    (ha : s₁.heap.get? a = some { cls := .type "list", data := .seq vs.toArray }) (hr : Room k callerA) (F : ∀ base : Heap, K.In base → base.Ns mainGlobals mg → FnG P w K mg base k fa fd [x] sp)
    (hbind : ∀ (s : Shared) (u : Value), BindsTo s fd ⟨[u], []⟩ [(x, u)]) (hsp : ∀ H : Hp, Only H → SqL K H a (ns.map V.int) → sp [.ref a] H (fun v _ => v = .bl true) fun _ _ _ => False)
    (H : Hp) (hO : Only H) (hS : SqL K H a (ns.map V.int)) (hok : HOk P w H s₁.heap) (hA : ∀ b, H b ≠ none → b = a) (hK : H a ≠ none → K.lookup a = none) :
    codeAny (model P w) callerA (.call (.ref fa) ⟨[.ref a], []⟩) (fun r s' => r = .ok (.ret (.bool true)) ∧ OldK s₁.heap s'.heap ∧ s'.os = s₁.os ∧ AllBare s'.gens) s₁ := by
  -- what is not the script is untracked
  have free : ∀ {b : Addr}, b ≠ a → H b = none := by
    intro b hne
    cases q : H b with
    | none => rfl
    | some u => exact absurd (hA b (fun z => by rw [q] at z; cases z)) hne
  have dicts : ∀ {b : Addr} {o : Obj} {es : Array DictEntry} {ep : Nat}, s₁.heap.get? b = some o → o.data = .dict es ep → H b = none := by
    intro b o es ep e d
    refine free ?_
    rintro rfl
    rw [ha] at e
    cases e
    have d' : Data.seq vs.toArray _ = Data.dict es ep := d
    exact nomatch d'
  have names : ∀ {b : Addr} {m : Str → Option Value}, s₁.heap.Ns b m → (hidT s₁.heap H).Ns b m := by
    rintro b m ⟨o, es, ep, e, d, r⟩
    exact ⟨o, es, ep, hidT_get e (dicts e d), d, r⟩
  have kin : K.In (hidT s₁.heap H) := by
    intro b o e
    refine hidT_get (KX b o e) ?_
    by_cases hba : b = a
    · subst hba
      cases q : H b with
      | none => rfl
      | some u =>
        have := hK (fun z => by rw [q] at z; cases z)
        rw [this] at e
        cases e
    · exact free hba
  have blt : ∃ mb, (hidT s₁.heap H).Ns builtinsNs mb ∧ ∀ x : Str, x ≠ "__name__" → mb x = bootBuiltins x := ⟨mb, names hb, hbb⟩
  have lim : (hidT s₁.heap H).NoLimit := by
    obtain ⟨mc, h1, h2⟩ := hlim
    exact ⟨mc, names h1, h2⟩
  have M : Mod K mg (hidT s₁.heap H) := ⟨kin, names hns, blt, lim⟩
  have E : Env0 P w K mg (hidT s₁.heap H) callerA [] s₁ H := by
    refine ⟨rfl, M, fun b o e => of_hidT e, Nat.le_of_eq (hidT_size _ _), trivial, ?_, hok, .of_eq hg⟩
    intro b hb
    exact nomatch (show b ∈ ([] : List Addr) from hb)
  have one : Vals [V.ref a] [Value.ref a] := Paired.cons rfl Paired.nil
  have run := (F _ kin (names hns)).run callerA [] s₁ H ⟨[.ref a], []⟩ [.ref a] [.ref a] _ _ hr rfl E (hbind s₁ (.ref a)) one (hsp H hO hS)
  refine codeAny_mono run ?_
  rintro (err | fl) s' h
  · exact False.elim h
  cases fl with
  | next => cases h
  | brk => cases h
  | cont => cases h
  | ret u =>
    obtain ⟨v, H', os, bare, un, hok', r', q⟩ := h
    have hv : v = .bl true := q
    rw [hv] at r'
    have hu : u = Value.bool true := r'
    rw [hu]
    refine ⟨rfl, OldK.of_keep ?_, os, bare⟩
    intro b o e
    cases q : H b with
    | none => exact un.keep b o e q (fun z => nomatch (show b ∈ ([] : List Addr) from z)) (fun z => nomatch z)
    | some u =>
      rcases hO b with z | ⟨ob, xs, z⟩
      · rw [q] at z
        cases z
      · obtain ⟨e1, _⟩ := hok b _ z
        obtain ⟨e2, _⟩ := hok' b _ (un.frzs b ob _ z)
        rw [e] at e1
        cases e1
        exact e2
theorem g_law (KX : K.In s₁.heap) (hns : s₁.heap.Ns mainGlobals mg) (hb : s₁.heap.Ns builtinsNs mb) (hbb : ∀ x : Str, x ≠ "__name__" → mb x = bootBuiltins x) (hlim : s₁.heap.NoLimit) (hg : s₁.gens = #[])
    (ha : s₁.heap.get? a = some { cls := .type "list", data := .seq vs.toArray }) (hi : IntsAre vs ns) (hl : ns.length ≤ sizeLine) (hr : Room k callerA) (F : ∀ base : Heap, K.In base → base.Ns mainGlobals mg → FnG P w K mg base k fa fd [x] sp)
    (hbind : ∀ (s : Shared) (u : Value), BindsTo s fd ⟨[u], []⟩ [(x, u)]) (hsp : ∀ H : Hp, Only H → SqL K H a (ns.map V.int) → sp [.ref a] H (fun v _ => v = .bl true) fun _ _ _ => False) :
    codeAny (model P w) callerA (.call (.ref fa) ⟨[.ref a], []⟩) (fun r s' => r = .ok (.ret (.bool true)) ∧ OldK s₁.heap s'.heap ∧ s'.os = s₁.os ∧ AllBare s'.gens) s₁ := by
  have rv := vals_ints hi
  have size : vs.length = ns.length := hi.length
  cases hk : K.lookup a with
  | some o =>
    have e := KX a o hk
    rw [ha] at e
    cases e
    have seen : SqL K (fun _ => none) a (ns.map V.int) := by
      refine Or.inr ⟨_, vs.toArray, _, hk, rfl, rfl, rfl, ?_, ?_⟩
      · rw [List.size_toArray, size]
        exact hl
      · simpa using rv
    exact g_core (H := fun _ => none) KX hns hb hbb hlim hg ha hr F hbind hsp (fun _ => Or.inl rfl) seen (fun b u z => nomatch (show (none : Option HO) = some u from z)) (fun b z => absurd rfl z) (fun z => absurd rfl z)
  | none =>
    let fz : HO := .frz { cls := .type "list", data := .seq vs.toArray } (.lst (ns.map V.int))
    have at_a : (fun b => if b = a then some fz else none : Hp) a = some fz := if_pos rfl
    refine g_core (H := fun b => if b = a then some fz else none) KX hns hb hbb hlim hg ha hr F hbind hsp ?_ (Or.inl (Or.inr ⟨_, at_a⟩)) ?_ ?_ (fun _ => hk)
    · intro b
      by_cases hba : b = a
      · exact Or.inr ⟨_, _, if_pos hba⟩
      · exact Or.inl (if_neg hba)
    · intro b u z
      by_cases hba : b = a
      · subst hba
        have z2 := at_a.symm.trans z
        cases z2
        refine ⟨ha, ?_, vs, _, rv, ha⟩
        rw [List.length_map]
        exact hl
      · have z2 : (none : Option HO) = some u := (if_neg hba).symm.trans z
        cases z2
    · intro b z
      by_cases hba : b = a
      · exact hba
      · exact absurd (if_neg hba) z
end
theorem g_walk {l : PySem.W.OpenLaw} {n k : Nat} {q : Program} {loose : List Str} {XP : (Str → Option Value) → Heap → Prop} {YP : World → Heap → Prop} {d : DefRec} {K : Params → PySem.W.Frag} {sp : PySem.W.Frag → Sp} {x : Str}
    (hn : l.most = some n) (hn2 : n ≤ sizeLine) (hdf : d.params.defaults = []) (hr : Room k callerA) (hY : ∀ (w : World) (h : Heap), YP w h → (K w.params).In h)
    (F : ∀ (w : World) (mg : Str → Option Value) (fa : Addr) (h : Heap), (K w.params).In h → h.Ns mainGlobals mg → mg d.name = some (.ref fa) →
      ∃ fd : FuncData, (∀ (s : Shared) (u : Value), BindsTo s fd ⟨[u], []⟩ [(x, u)]) ∧ ∀ base : Heap, (K w.params).In base → base.Ns mainGlobals mg → FnG l.prog w (K w.params) mg base k fa fd [x] (sp (K w.params)))
    (hsp : ∀ (K : PySem.W.Frag) (H : Hp) (a : Addr) (ns : List Int), ns.length ≤ n → Only H → SqL K H a (ns.map V.int) → sp K [.ref a] H (fun v _ => v = .bl true) fun _ _ _ => False) :
    PySem.W.WalkO q loose XP YP l.row.toRowW d [] (fun f vs => PySem.call f vs) := by
  refine Att.attach_call hn hdf ?_
  intro w s₀ s₁ mg mb fa o pm cd doc a vs ns G Y ho hd hcd hmg hobj hints hlen hg
  have KX := hY w _ Y
  obtain ⟨fd, hb, hF⟩ := F w mg fa _ KX G.T.g hmg
  exact g_law KX G.T.g G.T.b G.T.builtins G.T.nolimit hg hobj hints (Nat.le_trans hlen hn2) hr hF hb (fun H hO hS => hsp _ H a ns hlen hO hS)
end Rf

/-! Part F: what the small form says is what the text does: expressions -/
namespace Rf
open PySem PySem.Spec PyProof.Rows L2

/-- the facts of the module that a context brings -/
structure Fx (G : List D) (C : Calls) (GN TN : List Str) (X : Cx) : Prop where
  hu : X.A.units + 65 < cLine
  hG : X.A.guards = some []
  hb : ∀ b ∈ bNames, X.mg b = none
  hg : ∀ (i : Nat) (x : Str) (d : D), GN[i]? = some x → G[i]? = some d → ∃ u v, X.mg x = some u ∧ RelV v u ∧ ∀ ρ H, Rel X.K ρ H d v
  hc : ∀ (f : Nat) (x : Str), TN[f]? = some x → ∃ fa fd ps k, X.mg x = some (.ref fa) ∧ PySem.W.keepIn X.K (.ref fa) = true ∧ Room k X.A ∧ ∀ m : Nat, ∃ dvs ds sp,
    FnG X.prog X.w X.K X.mg X.base k fa fd ps sp ∧ Binds X.K fd ps ds ∧ Vals dvs ds ∧
    ∀ ρ H st args vs P Q, args.length = m → Ok X.K ρ H st → Rels X.K ρ H args vs → C f args st P X0 → Lift X.K ρ H P Q → sp (vs ++ dvs) H Q E0
theorem Fx.blk {G : List D} {C : Calls} {GN TN : List Str} {X : Cx} (h : Fx G C GN TN X) (s : Shared) (H : Hp) (scope : Scope) (cenv : PySem.Env) (fp : List Addr) : Fx G C GN TN (X.blk s H scope cenv fp) := ⟨h.hu, h.hG, h.hb, h.hg, h.hc⟩

theorem starEach_ok (env : PySem.Env) : ∀ (es : List Expr), es.all notStar = true → starEach es env = es.map fun e => (false, eval e env)
  | [], _ => rfl
  | e :: es, h => by
    rw [List.all_cons, Bool.and_eq_true] at h
    have ih := starEach_ok env es h.2
    rw [List.map_cons, ← ih]
    cases e <;> first | rfl | (exact absurd h.1 (by simp [notStar]))
theorem starEach_cons (env : PySem.Env) {e : Expr} {es : List Expr} (h : notStar e = true) : starEach (e :: es) env = (false, eval e env) :: starEach es env := by
  cases e <;> first | rfl | (exact absurd h (by simp [notStar]))
theorem backTo_any (pos : Pos) (env : PySem.Env) {es : List Expr} (h : es.all notStar = true) : (backTo pos (starEach es env)).any (·.1) = false := by
  rw [starEach_ok env es h]
  unfold backTo
  rw [List.map_map]
  induction es with
  | nil => rfl
  | cons e es ih =>
    rw [List.all_cons, Bool.and_eq_true] at h
    rw [List.map_cons, List.any_cons, ih h.2]; rfl
theorem backTo_all (pos : Pos) (env : PySem.Env) {es : List Expr} (h : es.all notStar = true) : (backTo pos (starEach es env)).all (fun x => !x.1) = true := by
  rw [starEach_ok env es h]
  unfold backTo
  rw [List.map_map]
  induction es with
  | nil => rfl
  | cons e es ih =>
    rw [List.all_cons, Bool.and_eq_true] at h
    rw [List.map_cons, List.all_cons, ih h.2]; rfl
theorem base_ok {o : Expr} (h : notCall o = true) (name : Str) (env : PySem.Env) (w : Sem Value) : attributeBase o name env w = w := by
  cases o <;> first | rfl | (exact absurd h (by simp [notCall]))
theorem mark_ok {op : CmpOp} {b : Expr} (h : notSet b = true) : behindInMarks op b = false := by
  cases b <;> first | rfl | (exact absurd h (by simp [notSet]))
theorem fold_ok {e : Expr} (h : notSet e = true) (env : PySem.Env) (x : Value) : foldedSetIterable e env x = pure x := by
  cases e <;> first | rfl | (exact absurd h (by simp [notSet]))
theorem plain_ix {b : Expr} (h : notSlice b = true) : PlainIx b := fun o i => by
  cases b <;> first | rfl | (exact absurd h (by simp [notSlice]))

structure Snd (G : List D) (C : Calls) (GN TN : List Str) (e : IE) : Prop where
  pe : ∀ {X : Cx} {N : List Str} {sc : Scope} {a : Expr}, Gd X N sc → Fx G C GN TN X → mtE GN TN N e sc a = true → PE X a (liftE X.K (wE G C e X0)) ∧ PT X a (liftT X.K (wE G C e X0))
  pa : ∀ {X : Cx} {N : List Str} {sc : Scope} {es : List Expr}, Gd X N sc → Fx G C GN TN X → mtEs GN TN N e sc es = true → PA X es (liftA X.K (wEs G C e X0)) ∧ es.all notStar = true
  an : ∀ {X : Cx} {N : List Str} {sc : Scope} {b : Expr} {r : List Expr} {pos : Pos}, Gd X N sc → Fx G C GN TN X → mtEs GN TN N e sc (b :: r) = true →
    PE X (.BoolOp .And (b :: r) pos) (liftE X.K (wAnd G C e X0)) ∧ PW X (.BoolOp .And (b :: r) pos) (liftT X.K (wAnd G C e X0))
  ro : ∀ {X : Cx} {N : List Str} {sc : Scope} {b : Expr} {r : List Expr} {pos : Pos}, Gd X N sc → Fx G C GN TN X → mtEs GN TN N e sc (b :: r) = true →
    PE X (.BoolOp .Or (b :: r) pos) (liftE X.K (wOr G C e X0)) ∧ PW X (.BoolOp .Or (b :: r) pos) (liftT X.K (wOr G C e X0))
  po : ∀ {X : Cx} {N : List Str} {sc : Scope} {o : Option Expr}, Gd X N sc → Fx G C GN TN X → mtO GN TN N e sc o = true → PO X o (liftO X.K (wO G C e X0))
  fi : ∀ {X : Cx} {N : List Str} {sc : Scope} {es : List Expr}, Gd X N sc → Fx G C GN TN X → mtIf GN TN N e sc es = true → PTs X es (liftF X.K (wIf G C e X0))
  it : ∀ {X : Cx} {N : List Str} {sc : Scope} {tg a : Expr}, Gd X N sc → Fx G C GN TN X → mtI GN TN N e sc tg a = true → PI X tg a (liftI X.K (wI G C e X0))

section
variable {G : List D} {C : Calls} {GN TN : List Str}
/-- an expression that is neither a list of arguments nor an iterator -/
theorem Snd.ofE {e : IE} (h1 : ∀ {X : Cx} {N : List Str} {sc : Scope} {a : Expr}, Gd X N sc → Fx G C GN TN X → mtE GN TN N e sc a = true → PE X a (liftE X.K (wE G C e X0)) ∧ PT X a (liftT X.K (wE G C e X0)))
    (h2 : ∀ N sc es, mtEs GN TN N e sc es = false) (h3 : ∀ N sc es, mtO GN TN N e sc es = false) (h4 : ∀ N sc es, mtIf GN TN N e sc es = false) (h5 : ∀ N sc tg a, mtI GN TN N e sc tg a = false) : Snd G C GN TN e :=
  ⟨h1, fun _ _ h => (by rw [h2] at h; cases h), fun _ _ h => (by rw [h2] at h; cases h), fun _ _ h => (by rw [h2] at h; cases h), fun _ _ h => (by rw [h3] at h; cases h), fun _ _ h => (by rw [h4] at h; cases h), fun _ _ h => (by rw [h5] at h; cases h)⟩
theorem Snd.ofI {e : IE} (h1 : ∀ {X : Cx} {N : List Str} {sc : Scope} {tg a : Expr}, Gd X N sc → Fx G C GN TN X → mtI GN TN N e sc tg a = true → PI X tg a (liftI X.K (wI G C e X0)))
    (h2 : ∀ N sc es, mtEs GN TN N e sc es = false) (h3 : ∀ N sc es, mtO GN TN N e sc es = false) (h4 : ∀ N sc es, mtIf GN TN N e sc es = false) (h5 : ∀ N sc a, mtE GN TN N e sc a = false) : Snd G C GN TN e :=
  ⟨fun _ _ h => (by rw [h5] at h; cases h), fun _ _ h => (by rw [h2] at h; cases h), fun _ _ h => (by rw [h2] at h; cases h), fun _ _ h => (by rw [h2] at h; cases h), fun _ _ h => (by rw [h3] at h; cases h), fun _ _ h => (by rw [h4] at h; cases h), h1⟩
/-- from the value's rule alone -/
theorem Snd.ofV {e : IE} (h1 : ∀ {X : Cx} {N : List Str} {sc : Scope} {a : Expr}, Gd X N sc → Fx G C GN TN X → mtE GN TN N e sc a = true → PE X a (liftE X.K (wE G C e X0)) ∧ ∀ whole, isTrue a X.env whole = (do let v ← whole; standAt a.pos; holding [v] (truthy v)))
    (h2 : ∀ N sc es, mtEs GN TN N e sc es = false) (h3 : ∀ N sc es, mtO GN TN N e sc es = false) (h4 : ∀ N sc es, mtIf GN TN N e sc es = false) (h5 : ∀ N sc tg a, mtI GN TN N e sc tg a = false) : Snd G C GN TN e :=
  .ofE (fun g f m => ⟨(h1 g f m).1, pt_of (h1 g f m).1 (h1 g f m).2⟩) h2 h3 h4 h5

theorem snd_const {e : IE} {d : D} (hw : ∀ env st K, wE G C e X0 env st K = K d st) (hm : ∀ {X : Cx} {N : List Str} {sc : Scope} {a : Expr}, mtE GN TN N e sc a = true → ∃ v, PE X a (tC v) ∧ (∀ ρ H, Rel X.K ρ H d v) ∧ ∀ whole, isTrue a X.env whole = (do let v ← whole; standAt a.pos; holding [v] (truthy v)))
    (h2 : ∀ N sc es, mtEs GN TN N e sc es = false) (h3 : ∀ N sc es, mtO GN TN N e sc es = false) (h4 : ∀ N sc es, mtIf GN TN N e sc es = false) (h5 : ∀ N sc tg a, mtI GN TN N e sc tg a = false) : Snd G C GN TN e :=
  .ofV (fun {X N sc a} g f m => by
    obtain ⟨v, h, r, t⟩ := hm (X := X) m
    refine ⟨h.weak fun σ H Q ⟨ρ, env, st, P, en, o, w, l⟩ => ?_, t⟩
    rw [hw] at w
    exact l.same o (r _ _) w) h2 h3 h4 h5

theorem snd_var (i : Nat) : Snd G C GN TN (.var i) := by
  refine .ofV (fun {X N sc a} g f m => ?_) (fun _ _ _ => rfl) (fun _ _ _ => rfl) (fun _ _ _ => rfl) (fun _ _ _ _ => rfl)
  unfold mtE at m
  split at m
  · rename_i x pos
    rw [Bool.and_eq_true, Bool.and_eq_true, decide_eq_true_eq] at m
    obtain ⟨⟨m1, m2⟩, m3⟩ := m
    obtain ⟨d1, d2⟩ := okN_d m3
    refine ⟨(pe_var (i := i) (by rw [g.n]; exact m2) (g.vis m1) d1 d2).weak fun σ H Q ⟨ρ, env, st, P, en, o, w, l⟩ => ?_, fun _ => rfl⟩
    obtain ⟨d, e, w⟩ := w
    obtain ⟨v, e', r⟩ := en.at_ i d e
    exact ⟨v, e', l.same o r w⟩
  · cases m
theorem snd_int (i : Int) : Snd G C GN TN (.int i) := by
  refine snd_const (d := .int i) (fun _ _ _ => rfl) (fun {X N sc a} m => ?_) (fun _ _ _ => rfl) (fun _ _ _ => rfl) (fun _ _ _ => rfl) (fun _ _ _ _ => rfl)
  unfold mtE at m
  split at m
  · rw [decide_eq_true_eq] at m; subst m
    exact ⟨_, pe_int, fun _ _ => .int i, fun _ => rfl⟩
  · cases m
theorem snd_str (z : List Nat) : Snd G C GN TN (.str z) := by
  refine snd_const (d := .str z) (fun _ _ _ => rfl) (fun {X N sc a} m => ?_) (fun _ _ _ => rfl) (fun _ _ _ => rfl) (fun _ _ _ => rfl) (fun _ _ _ _ => rfl)
  unfold mtE at m
  split at m
  · rename_i x _ _
    rw [decide_eq_true_eq] at m; subst m
    refine ⟨_, pe_str, fun ρ H => ?_, fun _ => rfl⟩
    have := Rel.str (K := X.K) (ρ := ρ) (H := H) x.cps.toList
    simpa using this
  · cases m
theorem snd_bl (b : Bool) : Snd G C GN TN (.bl b) := by
  refine snd_const (d := .bl b) (fun _ _ _ => rfl) (fun {X N sc a} m => ?_) (fun _ _ _ => rfl) (fun _ _ _ => rfl) (fun _ _ _ => rfl) (fun _ _ _ _ => rfl)
  unfold mtE at m
  split at m
  · rw [decide_eq_true_eq] at m; subst m
    exact ⟨_, pe_bl, fun _ _ => .bl b, fun _ => rfl⟩
  · cases m
theorem snd_non : Snd G C GN TN .non := by
  refine snd_const (d := .non) (fun _ _ _ => rfl) (fun {X N sc a} m => ?_) (fun _ _ _ => rfl) (fun _ _ _ => rfl) (fun _ _ _ => rfl) (fun _ _ _ _ => rfl)
  unfold mtE at m
  split at m
  · exact ⟨_, pe_non, fun _ _ => .non, fun _ => rfl⟩
  · cases m
theorem snd_glob (i : Nat) : Snd G C GN TN (.glob i) := by
  refine .ofV (fun {X N sc a} g f m => ?_) (fun _ _ _ => rfl) (fun _ _ _ => rfl) (fun _ _ _ => rfl) (fun _ _ _ _ => rfl)
  unfold mtE at m
  split at m
  · rename_i x pos
    rw [Bool.and_eq_true, Bool.and_eq_true, decide_eq_true_eq] at m
    obtain ⟨⟨m1, m2⟩, m3⟩ := m
    obtain ⟨d1, d2⟩ := okN_d m3
    cases e : G[i]? with
    | none =>
      refine ⟨⟨fun pins s σ H Q I ⟨ρ, env, st, P, en, o, w, l⟩ => ?_⟩, fun _ => rfl⟩
      obtain ⟨d, e', _⟩ := w
      rw [e] at e'; cases e'
    | some d =>
      obtain ⟨u, v, hm, r, q⟩ := f.hg i x d m2 e
      refine ⟨(pe_glob (g.gl m1) hm r d1).weak fun σ H Q ⟨ρ, env, st, P, en, o, w, l⟩ => ?_, fun _ => rfl⟩
      obtain ⟨d', e', w⟩ := w
      rw [e] at e'; cases e'
      exact l.same o (q _ _) w
  · cases m
end
end Rf

/-! Part G: compound expressions -/
namespace Rf
open PySem PySem.Spec PyProof.Rows L2

section
variable {G : List D} {C : Calls} {GN TN : List Str}

theorem snd_tup {es : IE} (ih : Snd G C GN TN es) : Snd G C GN TN (.tup es) := by
  refine .ofV (fun {X N sc a} g f m => ?_) (fun _ _ _ => rfl) (fun _ _ _ => rfl) (fun _ _ _ => rfl) (fun _ _ _ _ => rfl)
  unfold mtE at m
  split at m
  · refine ⟨(pe_tupX (ih.pa g f m).1).weak fun σ H Q ⟨ρ, env, st, P, en, o, w, l⟩ => ⟨ρ, env, st, _, en, o, w, fun ds st1 ρ1 H1 vs ⟨w1, w2⟩ g1 o1 r1 => ⟨by rw [← r1.len]; exact w1, (l.up g1).tup o1 r1 w2⟩⟩, fun _ => rfl⟩
  · cases m
theorem snd_lst {es : IE} (ih : Snd G C GN TN es) : Snd G C GN TN (.lst es) := by
  refine .ofV (fun {X N sc a} g f m => ?_) (fun _ _ _ => rfl) (fun _ _ _ => rfl) (fun _ _ _ => rfl) (fun _ _ _ _ => rfl)
  unfold mtE at m
  split at m
  · refine ⟨(pe_lst (ih.pa g f m).1).weak fun σ H Q ⟨ρ, env, st, P, en, o, w, l⟩ => ⟨ρ, env, st, _, en, o, w, fun ds st1 ρ1 H1 vs ⟨w1, w2⟩ g1 o1 r1 => ⟨by rw [← r1.len]; exact w1, fun p hp => (l.up g1).new o1 r1 w2 hp⟩⟩, fun _ => rfl⟩
  · cases m
/-- two operands, then an operation -/
theorem two {K : PySem.W.Frag} {wa wb : Env → Sto → KD → Prop} {f : D → D → Sto → KD → Prop} {σ : L2.St} {H : Hp} {Q : VK} (h : liftE K (fun env st P => wa env st fun x st1 => wb env st1 fun y st2 => f x y st2 P) σ H Q) :
    tOp (rD2 K f) (liftE K wa) (liftE K wb) σ H Q := by
  obtain ⟨ρ, env, st, P, en, o, w, l⟩ := h
  exact ⟨ρ, env, st, _, en, o, w, fun x st1 ρ1 H1 v1 w1 g1 o1 r1 => ⟨ρ1, env, st1, _, en.mono g1, o1, w1, fun y st2 ρ2 H2 v2 w2 g2 o2 r2 => ⟨ρ2, st2, x, y, P, o2, r1.mono g2, r2, w2, l.up (g1.trans g2)⟩⟩⟩
theorem snd_bin (op : BOp) {a b : IE} (iha : Snd G C GN TN a) (ihb : Snd G C GN TN b) : Snd G C GN TN (.bin op a b) := by
  refine .ofV (fun {X N sc e} g f m => ?_) (fun _ _ _ => rfl) (fun _ _ _ => rfl) (fun _ _ _ => rfl) (fun _ _ _ _ => rfl)
  unfold mtE at m
  split at m
  · rw [Bool.and_eq_true, Bool.and_eq_true, decide_eq_true_eq] at m
    obtain ⟨⟨m1, m2⟩, m3⟩ := m
    subst m1
    exact ⟨(pe_op (opB_ok op) (iha.pe g f m2).1 (ihb.pe g f m3).1).weak fun σ H Q h => two h, fun _ => rfl⟩
  · cases m
theorem snd_neg {a : IE} (iha : Snd G C GN TN a) : Snd G C GN TN (.neg a) := by
  refine .ofV (fun {X N sc e} g f m => ?_) (fun _ _ _ => rfl) (fun _ _ _ => rfl) (fun _ _ _ => rfl) (fun _ _ _ _ => rfl)
  unfold mtE at m
  split at m
  · refine ⟨(pe_un un_neg (iha.pe g f m).1).weak fun σ H Q ⟨ρ, env, st, P, en, o, w, l⟩ => ⟨ρ, env, st, _, en, o, w, fun x st1 ρ1 H1 v1 w1 g1 o1 r1 => ?_⟩, fun _ => rfl⟩
    obtain ⟨i, rfl, w1⟩ := w1
    cases r1
    exact ⟨i, rfl, (l.up g1).same o1 (.int _) w1⟩
  · cases m
theorem test_of {K : PySem.W.Frag} {we : Env → Sto → KD → Prop} {t : TE} (h : ∀ σ H Q, liftE K we σ H Q → t σ H Q) : ∀ σ H Q, liftT K we σ H Q → tTest t σ H Q := fun σ H Q ⟨ρ, env, st, P, en, o, w, l⟩ =>
  h σ H _ ⟨ρ, env, st, P, en, o, w, fun d st1 ρ1 H1 v1 w1 g1 o1 r1 => by
    obtain ⟨k, rfl, q⟩ := l d st1 w1
    exact ⟨k, rel_bl r1, q ρ1 H1 g1 o1⟩⟩
theorem snd_cmp (op : COp) {a b : IE} (iha : Snd G C GN TN a) (ihb : Snd G C GN TN b) : Snd G C GN TN (.cmp op a b) := by
  refine .ofE (fun {X N sc e} g f m => ?_) (fun _ _ _ => rfl) (fun _ _ _ => rfl) (fun _ _ _ => rfl) (fun _ _ _ _ => rfl)
  unfold mtE at m
  split at m
  · rw [Bool.and_eq_true, Bool.and_eq_true, Bool.and_eq_true, decide_eq_true_eq] at m
    obtain ⟨⟨⟨m1, m2⟩, m3⟩, m4⟩ := m
    subst m1
    exact ⟨(pe_cmpR (opC_ok f.hu op) (iha.pe g f m2).1 (ihb.pe g f m3).1 (mark_ok m4)).weak fun σ H Q h => two h, (pt_cmpR (opC_ok f.hu op) (iha.pe g f m2).1 (ihb.pe g f m3).1 (mark_ok m4)).weak (test_of fun σ H Q h => two h)⟩
  · cases m
theorem snd_chain (op op' : COp) {a b c : IE} (iha : Snd G C GN TN a) (ihb : Snd G C GN TN b) (ihc : Snd G C GN TN c) : Snd G C GN TN (.chain op op' a b c) := by
  refine .ofE (fun {X N sc e} g f m => ?_) (fun _ _ _ => rfl) (fun _ _ _ => rfl) (fun _ _ _ => rfl) (fun _ _ _ _ => rfl)
  unfold mtE at m
  split at m
  · rename_i x0 o0 o1 y0 z0 pos0
    simp only [Bool.and_eq_true, decide_eq_true_eq] at m
    obtain ⟨⟨⟨⟨⟨⟨m1, m1'⟩, m2⟩, m3⟩, m4⟩, m5⟩, m6⟩ := m
    subst m1 m1'
    have lm : lastMarks [cop op, cop op'] [y0, z0] = false := mark_ok m6
    have key : ∀ σ H Q, liftE X.K (wE G C (.chain op op' a b c) X0) σ H Q → tChain (rD2 X.K (opC op)) (rD2 X.K (opC op')) (liftE X.K (wE G C a X0)) (liftE X.K (wE G C b X0)) (liftE X.K (wE G C c X0)) σ H Q := by
      intro σ H Q ⟨ρ, env, st, P, en, o, w, l⟩
      refine ⟨ρ, env, st, _, en, o, w, fun x st1 ρ1 H1 v1 w1 g1 o1 r1 => ⟨ρ1, env, st1, _, en.mono g1, o1, w1, fun y st2 ρ2 H2 v2 w2 g2 o2 r2 => ⟨ρ2, st2, x, y, _, o2, r1.mono g2, r2, w2, fun d st3 ρ3 H3 v3 w3 g3 o3 r3 => ?_⟩⟩⟩
      obtain ⟨k, rfl, k1, k2⟩ := w3
      refine ⟨k, rel_bl r3, ?_⟩
      cases k with
      | true =>
        rw [if_pos rfl]
        exact ⟨ρ3, env, st3, _, en.mono (g1.trans (g2.trans g3)), o3, k1 rfl, fun z st4 ρ4 H4 v4 w4 g4 o4 r4 => ⟨ρ4, st4, y, z, P, o4, r2.mono (g3.trans g4), r4, w4, l.up (g1.trans (g2.trans (g3.trans g4)))⟩⟩
      | false =>
        rw [if_neg Bool.false_ne_true]
        exact (l.up (g1.trans (g2.trans g3))).same o3 (.bl _) (k2 rfl)
    exact ⟨(pe_chain (opC_ok f.hu op) (opC_ok f.hu op') (iha.pe g f m2).1 (ihb.pe g f m3).1 (ihc.pe g f m4).1 lm).weak key, (pt_chain (opC_ok f.hu op) (opC_ok f.hu op') (iha.pe g f m2).1 (ihb.pe g f m3).1 (ihc.pe g f m4).1 lm).weak (test_of key)⟩
  · cases m
theorem snd_and {es : IE} (ih : Snd G C GN TN es) : Snd G C GN TN (.and es) := by
  refine .ofE (fun {X N sc e} g f m => ?_) (fun _ _ _ => rfl) (fun _ _ _ => rfl) (fun _ _ _ => rfl) (fun _ _ _ _ => rfl)
  unfold mtE at m
  split at m
  · rename_i xs _
    rw [Bool.and_eq_true] at m
    cases xs with
    | nil => exact absurd m.2 (by simp)
    | cons b r => exact ⟨(ih.an g f m.1).1, (ih.an g f m.1).2.pt⟩
  · cases m
theorem snd_or {es : IE} (ih : Snd G C GN TN es) : Snd G C GN TN (.or es) := by
  refine .ofE (fun {X N sc e} g f m => ?_) (fun _ _ _ => rfl) (fun _ _ _ => rfl) (fun _ _ _ => rfl) (fun _ _ _ _ => rfl)
  unfold mtE at m
  split at m
  · rename_i xs _
    rw [Bool.and_eq_true] at m
    cases xs with
    | nil => exact absurd m.2 (by simp)
    | cons b r => exact ⟨(ih.ro g f m.1).1, (ih.ro g f m.1).2.pt⟩
  · cases m
theorem snd_not {a : IE} (iha : Snd G C GN TN a) : Snd G C GN TN (.not a) := by
  refine .ofE (fun {X N sc e} g f m => ?_) (fun _ _ _ => rfl) (fun _ _ _ => rfl) (fun _ _ _ => rfl) (fun _ _ _ _ => rfl)
  unfold mtE at m
  split at m
  · refine ⟨(pe_not (iha.pe g f m).1).weak fun σ H Q ⟨ρ, env, st, P, en, o, w, l⟩ => ⟨ρ, env, st, _, en, o, w, fun x st1 ρ1 H1 v1 w1 g1 o1 r1 => ?_⟩,
      (pt_not (iha.pe g f m).2).weak fun σ H Q ⟨ρ, env, st, P, en, o, w, l⟩ => ⟨ρ, env, st, _, en, o, w, fun d st' w' => ?_⟩⟩
    · obtain ⟨k, rfl, w1⟩ := w1
      exact ⟨k, rel_bl r1, (l.up g1).same o1 (.bl _) w1⟩
    · obtain ⟨k, rfl, w'⟩ := w'
      obtain ⟨k', e', q⟩ := l _ _ w'
      cases e'
      exact ⟨k, rfl, q⟩
  · cases m
theorem snd_ife {c a b : IE} (ihc : Snd G C GN TN c) (iha : Snd G C GN TN a) (ihb : Snd G C GN TN b) : Snd G C GN TN (.ife c a b) := by
  have key : ∀ {X : Cx} {N : List Str} {sc : Scope} {e : Expr}, Gd X N sc → Fx G C GN TN X → mtE GN TN N (.ife c a b) sc e = true → PE X e (liftE X.K (wE G C (.ife c a b) X0)) := by
    intro X N sc e g f m
    unfold mtE at m
    split at m
    · rw [Bool.and_eq_true, Bool.and_eq_true] at m
      obtain ⟨⟨m1, m2⟩, m3⟩ := m
      refine (pe_ifExp (ihc.pe g f m1).2 (iha.pe g f m2).1 (ihb.pe g f m3).1).weak fun σ H Q ⟨ρ, env, st, P, en, o, w, l⟩ => ⟨ρ, env, st, _, en, o, w, fun d st' w' => ?_⟩
      obtain ⟨k, rfl, k1, k2⟩ := w'
      refine ⟨k, rfl, fun ρ' H' g' o' => ?_⟩
      cases k with
      | true => rw [if_pos rfl]; exact ⟨ρ', env, st', P, en.mono g', o', k1 rfl, l.up g'⟩
      | false => rw [if_neg Bool.false_ne_true]; exact ⟨ρ', env, st', P, en.mono g', o', k2 rfl, l.up g'⟩
    · cases m
  refine .ofE (fun {X N sc e} g f m => ⟨key g f m, ?_⟩) (fun _ _ _ => rfl) (fun _ _ _ => rfl) (fun _ _ _ => rfl) (fun _ _ _ _ => rfl)
  unfold mtE at m
  split at m
  · rw [Bool.and_eq_true, Bool.and_eq_true] at m
    obtain ⟨⟨m1, m2⟩, m3⟩ := m
    have h1 := (ihc.pe g f m1).2
    have h2 := (iha.pe g f m2).2
    have h3 := (ihb.pe g f m3).2
    refine ⟨fun pins s σ H Q I ⟨ρ, env, st, P, en, o, w, l⟩ => ?_⟩
    show wpAny _ X.A (do if ← isTrue _ X.env (eval _ X.env) then isTrue _ X.env (eval _ X.env) else isTrue _ X.env (eval _ X.env)) _ _ s
    have q0 : liftT X.K (wE G C c X0) σ H (fun k H1 => if k = true then liftT X.K (wE G C a X0) σ H1 Q else liftT X.K (wE G C b X0) σ H1 Q) := by
      refine ⟨ρ, env, st, _, en, o, w, fun d st' w' => ?_⟩
      obtain ⟨k, rfl, k1, k2⟩ := w'
      refine ⟨k, rfl, fun ρ' H' g' o' => ?_⟩
      cases k with
      | true => rw [if_pos rfl]; exact ⟨ρ', env, st', P, en.mono g', o', k1 rfl, fun d st1 w1 => let ⟨k, e, q⟩ := l d st1 w1; ⟨k, e, fun ρ1 H1 g1 o1 => q ρ1 H1 (g'.trans g1) o1⟩⟩
      | false => rw [if_neg Bool.false_ne_true]; exact ⟨ρ', env, st', P, en.mono g', o', k2 rfl, fun d st1 w1 => let ⟨k, e, q⟩ := l d st1 w1; ⟨k, e, fun ρ1 H1 g1 o1 => q ρ1 H1 (g'.trans g1) o1⟩⟩
    refine wpAny_bind (thn (h1.run pins s σ H _ I q0) fun k s1 ⟨H1, I1, q1⟩ => ?_)
    cases k with
    | true =>
      rw [if_pos rfl] at q1
      exact h2.run pins s1 σ H1 Q I1 q1
    | false =>
      rw [if_neg Bool.false_ne_true] at q1
      exact h3.run pins s1 σ H1 Q I1 q1
  · cases m
theorem snd_sub {a i : IE} (iha : Snd G C GN TN a) (ihb : Snd G C GN TN i) : Snd G C GN TN (.sub a i) := by
  refine .ofV (fun {X N sc e} g f m => ?_) (fun _ _ _ => rfl) (fun _ _ _ => rfl) (fun _ _ _ => rfl) (fun _ _ _ _ => rfl)
  unfold mtE at m
  split at m
  · rw [Bool.and_eq_true, Bool.and_eq_true] at m
    obtain ⟨⟨m1, m2⟩, m3⟩ := m
    exact ⟨(pe_ix (opIx_ok f.hu) (iha.pe g f m1).1 (ihb.pe g f m2).1 (plain_ix m3)).weak fun σ H Q h => two h, fun _ => rfl⟩
  · cases m
theorem snd_slc {a lo hi : IE} (iha : Snd G C GN TN a) (ihl : Snd G C GN TN lo) (ihh : Snd G C GN TN hi) : Snd G C GN TN (.slc a lo hi) := by
  refine .ofV (fun {X N sc e} g f m => ?_) (fun _ _ _ => rfl) (fun _ _ _ => rfl) (fun _ _ _ => rfl) (fun _ _ _ _ => rfl)
  unfold mtE at m
  split at m
  · rw [Bool.and_eq_true, Bool.and_eq_true] at m
    obtain ⟨⟨m1, m2⟩, m3⟩ := m
    refine ⟨(pe_slice opSl_ok (iha.pe g f m1).1 (ihl.po g f m2) (ihh.po g f m3)).weak fun σ H Q ⟨ρ, env, st, P, en, o, w, l⟩ => ?_, fun _ => rfl⟩
    exact ⟨ρ, env, st, _, en, o, w, fun x st1 ρ1 H1 v1 w1 g1 o1 r1 => ⟨ρ1, env, st1, _, en.mono g1, o1, w1, fun i st2 ρ2 H2 w2 g2 o2 => ⟨ρ2, env, st2, _, en.mono (g1.trans g2), o2, w2, fun j st3 ρ3 H3 w3 g3 o3 =>
      ⟨ρ3, st3, x, P, o3, r1.mono (g2.trans g3), w3, l.up (g1.trans (g2.trans g3))⟩⟩⟩⟩
  · cases m
theorem snd_gc {a : IE} (iha : Snd G C GN TN a) : Snd G C GN TN (.gc a) := by
  refine .ofE (fun {X N sc e} g f m => ?_) (fun _ _ _ => rfl) (fun _ _ _ => rfl) (fun _ _ _ => rfl) (fun _ _ _ _ => rfl)
  unfold mtE at m
  obtain ⟨h1, h2⟩ := iha.pe g f m
  refine ⟨h1.weak fun σ H Q ⟨ρ, env, st, P, en, o, w, l⟩ => ⟨ρ, env, st, _, en, o, w, fun x st1 ρ1 H1 v1 w1 g1 o1 r1 => ?_⟩, h2.weak fun σ H Q ⟨ρ, env, st, P, en, o, w, l⟩ => ⟨ρ, env, st, _, en, o, w, fun x st1 w1 => ?_⟩⟩
  · obtain ⟨ρ2, st2, g2, o2, r2, q2⟩ := gc_ok o g1 o1 r1 w1
    exact l x st2 ρ2 H1 v1 q2 g2 o2 r2
  · obtain ⟨m', a1, a2, a3, a4, a5⟩ := id w1
    obtain ⟨k, rfl, q⟩ := l _ _ a5
    refine ⟨k, rfl, fun ρ' H' g' o' => ?_⟩
    obtain ⟨ρ2, st2, g2, o2, r2, q2⟩ := gc_ok o g' o' (.bl k) w1
    obtain ⟨k', e', q'⟩ := l _ _ q2
    cases e'
    exact q' ρ2 H' g2 o2
theorem three1 {K : PySem.W.Frag} {wes : Env → Sto → (List D → Sto → Prop) → Prop} {f : List D → Sto → KD → Prop} {σ : L2.St} {H : Hp} {Q : VK} (h : liftE K (fun env st P => wes env st fun xs st1 => f xs st1 P) σ H Q) :
    tCB (rDC K f) (liftA K wes) σ H Q := by
  obtain ⟨ρ, env, st, P, en, o, w, l⟩ := h
  exact ⟨ρ, env, st, _, en, o, w, fun xs st1 ρ1 H1 vs w1 g1 o1 r1 => ⟨ρ1, st1, xs, P, o1, r1, w1, l.up g1⟩⟩
theorem bi_mem (b : Bi) : biName b ∈ bNames := by cases b <;> decide +kernel
theorem bi_boot (b : Bi) : bootBuiltins (biName b) = some (biVal b) := by cases b <;> decide +kernel
theorem bi_ok (b : Bi) : biName b ≠ "__name__" ∧ (biName b == ("__debug__" : Str)) = false := by cases b <;> decide +kernel
theorem snd_bi (b : Bi) {es : IE} (ih : Snd G C GN TN es) : Snd G C GN TN (.bi b es) := by
  refine .ofV (fun {X N sc e} g f m => ?_) (fun _ _ _ => rfl) (fun _ _ _ => rfl) (fun _ _ _ => rfl) (fun _ _ _ _ => rfl)
  unfold mtE at m
  split at m
  · rename_i x p xs pos
    simp only [Bool.and_eq_true, decide_eq_true_eq] at m
    obtain ⟨⟨⟨m1, m2⟩, m3⟩, m4⟩ := m
    subst m2
    cases xs with
    | nil => exact absurd m4 (by simp)
    | cons y ys =>
      obtain ⟨ha, hs⟩ := ih.pa g f m3
      rw [List.all_cons, Bool.and_eq_true] at hs
      have hm := f.hb _ (bi_mem b)
      have hv := bi_boot b
      obtain ⟨hn, hd⟩ := bi_ok b
      have hc := opBi_ok g.calm f.hG f.hu b
      refine ⟨?_, fun _ => rfl⟩
      cases b with
      | len => exact (pe_callB hc (g.gl m1) hm hv ha hn hd (starEach_cons _ hs.1) (backTo_any _ _ hs.2)).weak fun σ H Q h => three1 h
      | intT => exact (pe_callTy hc (g.gl m1) hm hv ha hn hd (starEach_cons _ hs.1) (backTo_any _ _ hs.2)).weak fun σ H Q h => three1 h
      | sum => exact (pe_callB hc (g.gl m1) hm hv ha hn hd (starEach_cons _ hs.1) (backTo_any _ _ hs.2)).weak fun σ H Q h => three1 h
      | tupleT => exact (pe_callTy hc (g.gl m1) hm hv ha hn hd (starEach_cons _ hs.1) (backTo_any _ _ hs.2)).weak fun σ H Q h => three1 h
      | listT => exact (pe_callTy hc (g.gl m1) hm hv ha hn hd (starEach_cons _ hs.1) (backTo_any _ _ hs.2)).weak fun σ H Q h => three1 h
      | all => exact (pe_callB hc (g.gl m1) hm hv ha hn hd (starEach_cons _ hs.1) (backTo_any _ _ hs.2)).weak fun σ H Q h => three1 h
      | any => exact (pe_callB hc (g.gl m1) hm hv ha hn hd (starEach_cons _ hs.1) (backTo_any _ _ hs.2)).weak fun σ H Q h => three1 h
      | min2 => exact (pe_callB hc (g.gl m1) hm hv ha hn hd (starEach_cons _ hs.1) (backTo_any _ _ hs.2)).weak fun σ H Q h => three1 h
      | max2 => exact (pe_callB hc (g.gl m1) hm hv ha hn hd (starEach_cons _ hs.1) (backTo_any _ _ hs.2)).weak fun σ H Q h => three1 h
      | abs => exact (pe_callB hc (g.gl m1) hm hv ha hn hd (starEach_cons _ hs.1) (backTo_any _ _ hs.2)).weak fun σ H Q h => three1 h
      | boolT => exact (pe_callTy hc (g.gl m1) hm hv ha hn hd (starEach_cons _ hs.1) (backTo_any _ _ hs.2)).weak fun σ H Q h => three1 h
      | sorted => exact (pe_callB hc (g.gl m1) hm hv ha hn hd (starEach_cons _ hs.1) (backTo_any _ _ hs.2)).weak fun σ H Q h => three1 h
      | min1 => exact (pe_callB hc (g.gl m1) hm hv ha hn hd (starEach_cons _ hs.1) (backTo_any _ _ hs.2)).weak fun σ H Q h => three1 h
      | max1 => exact (pe_callB hc (g.gl m1) hm hv ha hn hd (starEach_cons _ hs.1) (backTo_any _ _ hs.2)).weak fun σ H Q h => three1 h
      | strT => exact (pe_callTy hc (g.gl m1) hm hv ha hn hd (starEach_cons _ hs.1) (backTo_any _ _ hs.2)).weak fun σ H Q h => three1 h
      | repr => exact (pe_callB hc (g.gl m1) hm hv ha hn hd (starEach_cons _ hs.1) (backTo_any _ _ hs.2)).weak fun σ H Q h => three1 h
  · cases m
theorem rl_list {X : Cx} {tp : Bool} {te : L2.St → Hp → (Int → Int → Hp → Prop) → Prop} {e : Expr} {p pos : Pos} {x : Str} (hc : X.calm = true) (hx : x = if tp then ("tuple" : Str) else "list") (hg : Gl X x) (hb : ∀ b ∈ bNames, X.mg b = none)
    (he : PRg X e te) (hs : notStar e = true) : PE X (.Call (.Name x p) [e] [] pos) (fun σ H Q => te σ H fun a b H1 => RgOk a b ∧ if tp then NewT H1 (rgV a b) Q else ∀ q, H1 q = none → Q (.ref q) (upd H1 q (.lst (rgV a b)))) := by
  cases tp with
  | true =>
    have hx : x = ("tuple" : Str) := hx
    subst hx
    exact (pe_tupRgX hc hg (hb _ (by decide +kernel)) he (starEach_cons _ hs)).weak fun σ H Q h => h
  | false =>
    have hx : x = ("list" : Str) := hx
    subst hx
    exact pe_listRg hc hg (hb _ (by decide +kernel)) he (starEach_cons _ hs)
theorem rgR {K : PySem.W.Frag} {ρ : List Addr} {H : Hp} (i : Int) (n : Nat) : Rels K ρ H ((List.range n).map fun k : Nat => D.int (i + k)) ((List.range n).map fun k : Nat => V.int (i + (k : Nat))) := by
  have := Rels.of_ints (K := K) (ρ := ρ) (H := H) ((List.range n).map fun k : Nat => i + (k : Int))
  rw [List.map_map, List.map_map] at this
  exact this
theorem rl_fin {K : PySem.W.Frag} {ρ : List Addr} {H : Hp} {st : Sto} {P : KD} {Q : VK} {tp : Bool} {i j : Int} (l : Lift K ρ H P Q) (o : Ok K ρ H st)
    (h : if tp then P (.tup ((List.range (j - i).toNat).map fun k : Nat => .int (i + k))) st else P (.obj st.length) (st ++ [.lst ((List.range (j - i).toNat).map fun k : Nat => .int (i + k))])) :
    if tp then NewT H (rgV i j) Q else ∀ q, H q = none → Q (.ref q) (upd H q (.lst (rgV i j))) := by
  cases tp with
  | true =>
    rw [if_pos rfl] at h ⊢
    exact l.tup o (rgR i _) h
  | false =>
    rw [if_neg Bool.false_ne_true] at h ⊢
    exact fun q hq => l.new o (rgR i _) h hq
theorem snd_rl1 (tp : Bool) {a : IE} (iha : Snd G C GN TN a) : Snd G C GN TN (.rl1 tp a) := by
  refine .ofV (fun {X N sc e} g f m => ?_) (fun _ _ _ => rfl) (fun _ _ _ => rfl) (fun _ _ _ => rfl) (fun _ _ _ _ => rfl)
  unfold mtE at m
  split at m
  · rename_i x p y q z pos pos2
    simp only [Bool.and_eq_true, decide_eq_true_eq] at m
    obtain ⟨⟨⟨⟨⟨m1, m2⟩, m3⟩, m4⟩, m5⟩, m6⟩ := m
    subst m4
    have h1 := prg_1 (p := q) (pos := pos) (g.gl m2) (f.hb "range" (by decide +kernel)) (iha.pe g f m6).1 (starEach_cons _ m5)
    refine ⟨(rl_list g.calm m3 (g.gl m1) f.hb h1 rfl).weak fun σ H Q ⟨ρ, env, st, P, en, o, w, l⟩ => ?_, fun _ => rfl⟩
    refine ⟨ρ, env, st, _, en, o, w, fun d st1 ρ1 H1 v1 w1 g1 o1 r1 => ?_⟩
    obtain ⟨j, rfl, h2, h3⟩ := w1
    have e0 : (List.range j.toNat).map (fun k : Nat => D.int k) = (List.range (j - 0).toNat).map fun k : Nat => D.int (0 + k) := by
      rw [Int.sub_zero]
      exact congrArg (fun z => List.map z _) (funext fun k => by rw [Int.zero_add])
    rw [e0] at h3
    exact ⟨j, rel_int r1, ⟨by omega, by omega, by omega, by omega, by omega⟩, rl_fin (l.up g1) o1 h3⟩
  · cases m
theorem snd_rl2 (tp : Bool) {a b : IE} (iha : Snd G C GN TN a) (ihb : Snd G C GN TN b) : Snd G C GN TN (.rl2 tp a b) := by
  refine .ofV (fun {X N sc e} g f m => ?_) (fun _ _ _ => rfl) (fun _ _ _ => rfl) (fun _ _ _ => rfl) (fun _ _ _ _ => rfl)
  unfold mtE at m
  split at m
  · rename_i x p y q z w pos pos2
    simp only [Bool.and_eq_true, decide_eq_true_eq] at m
    obtain ⟨⟨⟨⟨⟨⟨⟨m1, m2⟩, m3⟩, m4⟩, m5⟩, m5'⟩, m6⟩, m7⟩ := m
    subst m4
    have h1 := prg_2 (p := q) (pos := pos) (g.gl m2) (f.hb "range" (by decide +kernel)) (iha.pe g f m6).1 (ihb.pe g f m7).1 (starEach_cons _ m5) (starEach_cons _ m5') (backTo_any _ _ (by rw [List.all_cons, m5']; rfl))
    refine ⟨(rl_list g.calm m3 (g.gl m1) f.hb h1 rfl).weak fun σ H Q ⟨ρ, env, st, P, en, o, w, l⟩ => ?_, fun _ => rfl⟩
    refine ⟨ρ, env, st, _, en, o, w, fun d st1 ρ1 H1 v1 w1 g1 o1 r1 => ⟨ρ1, env, st1, _, en.mono g1, o1, w1, fun d2 st2 ρ2 H2 v2 w2 g2 o2 r2 => ?_⟩⟩
    obtain ⟨i, j, rfl, rfl, h2, h3⟩ := w2
    exact ⟨i, j, rel_int r1, rel_int r2, ⟨by omega, by omega, by omega, by omega, by omega⟩, rl_fin (l.up (g1.trans g2)) o2 h3⟩
  · cases m
theorem snd_rev {a : IE} (iha : Snd G C GN TN a) : Snd G C GN TN (.rev a) := by
  refine .ofV (fun {X N sc e} g f m => ?_) (fun _ _ _ => rfl) (fun _ _ _ => rfl) (fun _ _ _ => rfl) (fun _ _ _ _ => rfl)
  unfold mtE at m
  split at m
  · refine ⟨(pe_revL (iha.pe g f m).1).weak fun σ H Q ⟨ρ, env, st, P, en, o, w, l⟩ => ?_, fun _ => rfl⟩
    refine ⟨ρ, env, st, _, en, o, w, fun d st1 ρ1 H1 v1 w1 g1 o1 r1 => ?_⟩
    obtain ⟨xs, h1, h2, h3⟩ := w1
    cases d with
    | tup ys => exact absurd rfl (h2 ys)
    | fro ys =>
      obtain ⟨a, vs, rfl, q, t⟩ := r1.fro_inv
      cases h1
      exact ⟨a, vs, rfl, q.seq, fun p hp => (l.up g1).new o1 t.reverse h3 hp⟩
    | obj n =>
      obtain ⟨a, rfl, ha⟩ := r1.obj_inv
      obtain ⟨vs, e1, t⟩ := o1.lst h1 ha
      exact ⟨a, vs, rfl, .of e1, fun p hp => (l.up g1).new o1 t.reverse h3 hp⟩
    | non => exact h1.elim
    | bl _ => exact h1.elim
    | int _ => exact h1.elim
    | str _ => exact h1.elim
  · cases m
theorem ty_boot (t : Ty) : bootBuiltins (tyStr t) = some (.type (tyName t)) := by cases t <;> decide +kernel
theorem ty_mem (t : Ty) : tyStr t ∈ bNames := by cases t <;> decide +kernel
theorem ty_ok (t : Ty) : tyStr t ≠ "__name__" ∧ (tyStr t == ("__debug__" : Str)) = false := by cases t <;> decide +kernel
theorem boot_isi : bootBuiltins "isinstance" = some (.builtin "isinstance") := by decide +kernel
theorem snd_isi (t : Ty) {a : IE} (ih : Snd G C GN TN a) : Snd G C GN TN (.isi a t) := by
  refine .ofV (fun {X N sc e} g f m => ?_) (fun _ _ _ => rfl) (fun _ _ _ => rfl) (fun _ _ _ => rfl) (fun _ _ _ _ => rfl)
  unfold mtE at m
  split at m
  · rename_i x p y z q pos
    simp only [Bool.and_eq_true, decide_eq_true_eq] at m
    obtain ⟨⟨⟨⟨⟨m1, m2⟩, m3⟩, m4⟩, m5⟩, m6⟩ := m
    subst m3 m4
    have hm := f.hb "isinstance" (by decide +kernel)
    obtain ⟨tn, td⟩ := ty_ok t
    have hz : PE X (.Name (tyStr t) q) (tC (.ty (tyName t))) := pe_bltn (g.gl m2) (f.hb _ (ty_mem t)) (ty_boot t) rfl tn td
    have ha : PA X [y, .Name (tyStr t) q] (tCons (liftE X.K (wE G C a X0)) (tCons (tC (.ty (tyName t))) tNil)) := pa_cons (ih.pe g f m6).1 (pa_cons hz pa_nil (starEach_cons _ rfl)) (starEach_cons _ m5)
    refine ⟨(pe_callB (opIs_ok t) (g.gl m1) hm boot_isi ha (by decide) (by decide) (starEach_cons _ m5) (backTo_any _ _ rfl)).weak fun σ H Q ⟨ρ, env, st, P, en, o, w, l⟩ => ?_, fun _ => rfl⟩
    exact ⟨ρ, env, st, _, en, o, w, fun x st1 ρ1 H1 v1 w1 g1 o1 r1 => ⟨v1, rfl, ρ1, st1, x, P, o1, r1, w1, l.up g1⟩⟩
  · cases m
end
end Rf

/-! Part H: calls, methods, lists of arguments, comprehensions, what is walked -/
namespace Rf
open PySem PySem.Spec PyProof.Rows L2

section
variable {G : List D} {C : Calls} {GN TN : List Str}
theorem mtEs_len {N : List Str} {sc : Scope} {t : IE} : ∀ {es : List Expr}, mtEs GN TN N t sc es = true → es.length = argN t := by
  induction t with
  | nil =>
    intro es h
    have h : es.isEmpty = true := h
    rw [List.isEmpty_iff.mp h]; rfl
  | cons a r _ ih =>
    intro es h
    cases es with
    | nil => exact nomatch h
    | cons e es =>
      have h : (notStar e && mtE GN TN N a sc e && mtEs GN TN N r sc es) = true := h
      rw [Bool.and_eq_true] at h
      show es.length + 1 = argN r + 1
      rw [ih h.2]
  | _ => intro es h; exact nomatch h
theorem snd_call (fi : Nat) {es : IE} (ih : Snd G C GN TN es) : Snd G C GN TN (.call fi es) := by
  refine .ofV (fun {X N sc e} g f m => ?_) (fun _ _ _ => rfl) (fun _ _ _ => rfl) (fun _ _ _ => rfl) (fun _ _ _ _ => rfl)
  unfold mtE at m
  split at m
  · rename_i x p xs pos
    simp only [Bool.and_eq_true, decide_eq_true_eq] at m
    obtain ⟨⟨⟨m1, m2⟩, m3⟩, m4⟩ := m
    obtain ⟨d1, d2⟩ := okN_d m3
    obtain ⟨fa, fd, ps, k, hm, hk, hr, hh⟩ := f.hc fi x m2
    obtain ⟨dvs, ds, sp, F, hb, hd, himp⟩ := hh (argN es)
    obtain ⟨ha, hs⟩ := ih.pa g f m4
    have key : ∀ σ H Q, liftE X.K (wE G C (.call fi es) X0) σ H Q → tCall sp dvs E0 (liftA X.K (wEs G C es X0)) σ H Q := fun σ H Q ⟨ρ, env, st, P, en, o, w, l⟩ =>
      ⟨ρ, env, st, _, en, o, w, fun xs st1 ρ1 H1 vs w1 g1 o1 r1 => himp ρ1 H1 st1 xs vs P Q w1.1 o1 r1 w1.2 (l.up g1)⟩
    refine ⟨?_, fun _ => rfl⟩
    cases xs with
    | nil =>
      have e0 : argN es = 0 := (mtEs_len m4).symm
      refine (g_call0 F hr f.hG (g.gl m1) hm hk hb hd d1).weak fun σ H Q ⟨ρ, env, st, P, en, o, w, l⟩ => ?_
      have hn : es = .nil := by
        cases es with
        | nil => rfl
        | cons _ _ => exact nomatch m4
        | _ => exact nomatch m4
      subst hn
      exact himp ρ H st [] [] P Q rfl o .nil w.2 l
    | cons y ys =>
      rw [List.all_cons, Bool.and_eq_true] at hs
      exact (g_call F hr f.hG (g.gl m1) hm hk hb hd ha d1 (starEach_cons _ hs.1) (backTo_any _ _ hs.2)).weak key
  · cases m
/-- the value is of that class, and has no dict of its own -/
def tyW (K : PySem.W.Frag) (T : String) (v : V) (H : Hp) : Prop := tyV K T v H ∨ (T = "tuple" ∧ ∃ p xs, v = .ref p ∧ SqX K H p xs)
theorem tyW_is {X : Cx} {pins : List (Addr × Obj)} {σ : L2.St} {H : Hp} {s : Shared} {T : String} {x : V} {v : Value} (I : Inv X pins σ H s) (r : RelV x v) (ty : tyW X.K T x H) :
    s.TypeIs v T ∧ ∀ a, v = .ref a → ∃ ob, s.heap.get? a = some ob ∧ ob.dict = none := by
  rcases ty with ty | ⟨rfl, p, xs, rfl, h⟩
  · exact tyV_is I r ty
  · cases r
    obtain ⟨o, e, t⟩ : ∃ o, s.heap.get? p = some o ∧ TupO o := by
      rcases h with ⟨o, h, t⟩ | ⟨o, its, n, h, t, _⟩
      · exact ⟨o, (I.hok p _ h).1, t⟩
      · exact ⟨o, I.kIn p o h, t⟩
    refine ⟨⟨o, e, t.1⟩, fun a q => ?_⟩
    cases q
    exact ⟨o, e, t.2⟩
/-- what is known of a method's name at a class -/
structure MtF (name : Str) (T id : String) : Prop where
  pa : PlainAttrs T
  slot : Slot T name id
  ty : typeOf (.builtin id) = pure (.type "method_descriptor")
section
variable {X : Cx} {o e : Expr} {es : List Expr} {to : TE} {t : TA} {name : Str} {apos cpos : Pos}
/-- o.m(): the class is known when o is -/
theorem pe_bmY0 {r : D → V → List V → Hp → VK → Prop} {ty id : D → String} (hf : ∀ x, MtF name (ty x) (id x)) (hm : ∀ x, MtR X (id x) (r x)) (ho : PE X o to) (hbase : attributeBase o name X.env (eval o X.env) = eval o X.env) (hline : (apos.endLine == cpos.line) = true) :
    PE X (.Call (.Attribute o name apos) [] [] cpos) (fun σ H Q => to σ H fun v H1 => ∃ x, tyW X.K (ty x) v H1 ∧ r x v [] H1 Q) := by
  refine ⟨fun pins s σ H Q I h => wpAny_Call_method0_late hbase hline (thn (ho.run pins s σ H _ I h) fun v s1 ⟨y, H1, I1, r1, x, hty, q1⟩ => ?_)⟩
  obtain ⟨h1, h2⟩ := tyW_is I1 r1 hty
  exact ⟨_, _, (hf x).pa, (hf x).slot, (hf x).ty, h1, h2, Calls.callWith_builtin rfl (PySem.evalArgs_none (hm x pins s1 σ H1 y [] v [] Q I1 r1 .nil q1))⟩
theorem pe_bmY {r : D → V → List V → Hp → VK → Prop} {ty id : D → String} (hf : ∀ x, MtF name (ty x) (id x)) (hm : ∀ x, MtR X (id x) (r x)) (ho : PE X o to) (ha : PA X (e :: es) t) (hbase : attributeBase o name X.env (eval o X.env) = eval o X.env)
    (hfew : ((backTo cpos (starEach (e :: es) X.env)).all (fun x => !x.1) && (backToKw cpos (keywordEach [] X.env)).all (fun x => x.1.isSome)
      && decide ((e :: es).length + ([] : List Keyword).length + (if ([] : List Keyword).isEmpty then 0 else 1) < 30)) = true)
    (hline : (apos.endLine == cpos.line) = true) (hs : starEach (e :: es) X.env = (false, eval e X.env) :: starEach es X.env) (hplain : (backTo cpos (starEach es X.env)).any (·.1) = false) :
    PE X (.Call (.Attribute o name apos) (e :: es) [] cpos) (fun σ H Q => to σ H fun v H1 => ∃ x, tyW X.K (ty x) v H1 ∧ t σ H1 fun vs H2 => r x v vs H2 Q) := by
  refine ⟨fun pins s σ H Q I h => wpAny_Call_method_late hbase hfew hline rfl (thn (ho.run pins s σ H _ I h) fun v s1 ⟨y, H1, I1, r1, x, hty, q1⟩ => ?_)⟩
  obtain ⟨h1, h2⟩ := tyW_is I1 r1 hty
  refine ⟨_, _, (hf x).pa, (hf x).slot, (hf x).ty, h1, h2, ?_⟩
  have hA := ha.run cpos pins s1 σ H1 _ I1 q1
  rw [hs] at hA ⊢
  refine Calls.callWith_builtin (by show (false || (backTo cpos (starEach es X.env)).any (·.1)) = false; rw [hplain] <;> rfl) (Calls.evalArgs_plain ?_)
  exact thn hA fun us s2 ⟨vs, H2, I2, r2, q2⟩ => hm x pins s2 σ H2 y vs v us Q I2 r1 r2 q2
end
theorem mt_facts (m : Me) (x : D) : MtF (meName m) (meTy m x) (meId m x) := by
  cases m with
  | append => exact ⟨PySem.F.plainAttrs_list, PySem.F.slot_list_append, PySem.F.type_list_append⟩
  | extend => exact ⟨PySem.F.plainAttrs_list, PySem.F.slot_list_extend, PySem.F.type_list_extend⟩
  | pop => exact ⟨PySem.F.plainAttrs_list, PySem.F.slot_list_pop, PySem.F.type_list_pop⟩
  | join => exact ⟨PySem.F.plainAttrs_str, PySem.F.slot_str_join, PySem.F.type_str_join⟩
  | insert => exact ⟨PySem.F.plainAttrs_list, PySem.F.slot_list_insert, PySem.F.type_list_insert⟩
  | split => exact ⟨PySem.F.plainAttrs_str, PySem.F.slot_str_split, PySem.F.type_str_split⟩
  | get => exact ⟨PySem.F.plainAttrs_dict, PySem.F.slot_dict_get, PySem.F.type_dict_get⟩
  | setdefault => exact ⟨PySem.F.plainAttrs_dict, PySem.F.slot_dict_setdefault, PySem.F.type_dict_setdefault⟩
  | index =>
    cases x <;> first
      | exact ⟨PySem.F.plainAttrs_tuple, PySem.F.slot_tuple_index, PySem.F.type_tuple_index⟩
      | exact ⟨PySem.F.plainAttrs_list, PySem.F.slot_list_index, PySem.F.type_list_index⟩
theorem tyM_ok {K : PySem.W.Frag} {ρ : List Addr} {H : Hp} {st : Sto} {x : D} {v : V} (m : Me) (h : tyM m x st) (o : Ok K ρ H st) (r : Rel K ρ H x v) : tyW K (meTy m x) v H := by
  unfold tyM at h
  split at h
  · cases r; exact .inl rfl
  · exact h.elim
  · cases r; exact .inl rfl
  · exact h.elim
  · obtain ⟨a, vs, rfl, q, _⟩ := r.tup_invX
    exact .inr ⟨rfl, a, vs, rfl, q⟩
  · obtain ⟨a, vs, rfl, q, _⟩ := r.fro_inv
    exact .inl (.inl ⟨rfl, vs, q.seq⟩)
  · obtain ⟨t, kvs, h⟩ := h
    obtain ⟨a, rfl, ha⟩ := r.obj_inv
    obtain ⟨_, ks, e, _⟩ := o.dic h ha
    exact .inl (.inr (.inr (.inl ⟨rfl, .inl ⟨ks, e⟩⟩)))
  · obtain ⟨t, kvs, h⟩ := h
    obtain ⟨a, rfl, ha⟩ := r.obj_inv
    obtain ⟨_, ks, e, _⟩ := o.dic h ha
    exact .inl (.inr (.inr (.inl ⟨rfl, .inl ⟨ks, e⟩⟩)))
  · rename_i m' n h1 h2 h3 h4
    obtain ⟨xs, h⟩ := h
    obtain ⟨a, rfl, ha⟩ := r.obj_inv
    obtain ⟨vs, e, _⟩ := o.lst h ha
    have : meTy m (.obj n) = "list" := by
      cases m <;> first | rfl | exact absurd rfl h1 | exact absurd rfl h2 | exact absurd rfl h3 | exact absurd rfl h4
    rw [this]
    exact .inl (.inl ⟨rfl, vs, .of e⟩)
  · exact h.elim
theorem snd_dnew (t : Bool) : Snd G C GN TN (.dnew t) := by
  refine .ofV (fun {X N sc e} g f m => ?_) (fun _ _ _ => rfl) (fun _ _ _ => rfl) (fun _ _ _ => rfl) (fun _ _ _ _ => rfl)
  unfold mtE at m
  split at m
  · cases t with
    | true => cases m
    | false =>
      refine ⟨(pe_dnewK).weak fun σ H Q ⟨ρ, env, st, P, en, o, w, l⟩ p hp => ?_, fun _ => rfl⟩
      have o' := o.newD hp
      exact l (.obj st.length) _ _ _ (.ref p) w (gr_new hp) o' (.obj o.ref_new)
  · cases m
theorem snd_meth (m : Me) {ob es : IE} (iho : Snd G C GN TN ob) (ihe : Snd G C GN TN es) : Snd G C GN TN (.meth m ob es) := by
  refine .ofV (fun {X N sc e} g f mm => ?_) (fun _ _ _ => rfl) (fun _ _ _ => rfl) (fun _ _ _ => rfl) (fun _ _ _ _ => rfl)
  unfold mtE at mm
  split at mm
  · rename_i o1 nm apos xs cpos
    simp only [Bool.and_eq_true, decide_eq_true_eq] at mm
    obtain ⟨⟨⟨⟨⟨m1, m2⟩, m3⟩, m4⟩, m5⟩, m6⟩ := mm
    subst m1
    have ho := (iho.pe g f m4).1
    obtain ⟨ha, hs⟩ := ihe.pa g f m5
    refine ⟨?_, fun _ => rfl⟩
    cases xs with
    | nil =>
      have hn : es = .nil := by
        cases es with
        | nil => rfl
        | cons _ _ => exact nomatch m5
        | _ => exact nomatch m5
      subst hn
      refine (pe_bmY0 (r := fun x => rDM X.K (opMe m) x) (mt_facts m) (fun x => opMe_ok f.hu m x) ho (base_ok m3 _ _ _) m2).weak fun σ H Q ⟨ρ, env, st, P, en, o, w, l⟩ => ?_
      exact ⟨ρ, env, st, _, en, o, w, fun x st1 ρ1 H1 v1 w1 g1 o1 r1 => ⟨x, tyM_ok m w1.1 o1 r1, ρ1, st1, [], P, o1, r1, .nil, w1.2, l.up g1⟩⟩
    | cons y ys =>
      rw [List.all_cons, Bool.and_eq_true] at hs
      have hfew : ((backTo cpos (starEach (y :: ys) X.env)).all (fun x => !x.1) && (backToKw cpos (keywordEach [] X.env)).all (fun x => x.1.isSome)
          && decide ((y :: ys).length + ([] : List Keyword).length + (if ([] : List Keyword).isEmpty then 0 else 1) < 30)) = true := by
        rw [backTo_all _ _ (by rw [List.all_cons, hs.1, hs.2]; rfl), Bool.and_eq_true, Bool.and_eq_true, decide_eq_true_eq]
        refine ⟨⟨rfl, rfl⟩, ?_⟩
        show (y :: ys).length + 0 + 0 < 30
        omega
      refine (pe_bmY (r := fun x => rDM X.K (opMe m) x) (mt_facts m) (fun x => opMe_ok f.hu m x) ho ha (base_ok m3 _ _ _) hfew m2 (starEach_cons _ hs.1) (backTo_any _ _ hs.2)).weak fun σ H Q ⟨ρ, env, st, P, en, o, w, l⟩ => ?_
      exact ⟨ρ, env, st, _, en, o, w, fun x st1 ρ1 H1 v1 w1 g1 o1 r1 => ⟨x, tyM_ok m w1.1 o1 r1, ρ1, env, st1, _, en.mono g1, o1, w1.2, fun ds st2 ρ2 H2 vs w2 g2 o2 r2 => ⟨ρ2, st2, ds, P, o2, r1.mono g2, r2, w2, l.up (g1.trans g2)⟩⟩⟩
  · cases mm
theorem snd_trv (tp : Bool) {a : IE} (iha : Snd G C GN TN a) : Snd G C GN TN (.trv tp a) := by
  refine .ofV (fun {X N sc e} g f m => ?_) (fun _ _ _ => rfl) (fun _ _ _ => rfl) (fun _ _ _ => rfl) (fun _ _ _ _ => rfl)
  unfold mtE at m
  split at m
  · rename_i x p y q z pos pos2
    simp only [Bool.and_eq_true, decide_eq_true_eq] at m
    obtain ⟨⟨⟨⟨⟨m1, m2⟩, m3⟩, m4⟩, m5⟩, m6⟩ := m
    subst m4
    cases tp with
    | true =>
      rw [if_pos rfl] at m3
      subst m3
      refine ⟨(pe_tupRevX g.calm (g.gl m1) (f.hb "tuple" (by decide +kernel)) (g.gl m2) (f.hb "reversed" (by decide +kernel)) (iha.pe g f m6).1 (starEach_cons _ m5) (starEach_cons _ rfl)).weak fun σ H Q ⟨ρ, env, st, P, en, o, w, l⟩ => ?_, fun _ => rfl⟩
      refine ⟨ρ, env, st, _, en, o, w, fun d st1 ρ1 H1 v1 ⟨n, xs, e, h1, w1⟩ g1 o1 r1 => ?_⟩
      subst e
      obtain ⟨a, rfl, ha⟩ := r1.obj_inv
      obtain ⟨vs, e, t⟩ := o1.lst h1 ha
      rw [if_pos rfl] at w1
      exact ⟨a, vs, rfl, .of e, (l.up g1).tup o1 t.reverse w1⟩
    | false =>
      rw [if_neg Bool.false_ne_true] at m3
      subst m3
      refine ⟨(pe_lstRevX g.calm (g.gl m1) (f.hb "list" (by decide +kernel)) (g.gl m2) (f.hb "reversed" (by decide +kernel)) (iha.pe g f m6).1 (starEach_cons _ m5) (starEach_cons _ rfl)).weak fun σ H Q ⟨ρ, env, st, P, en, o, w, l⟩ => ?_, fun _ => rfl⟩
      refine ⟨ρ, env, st, _, en, o, w, fun d st1 ρ1 H1 v1 ⟨n, xs, e, h1, w1⟩ g1 o1 r1 => ?_⟩
      subst e
      obtain ⟨a, rfl, ha⟩ := r1.obj_inv
      obtain ⟨vs, e, t⟩ := o1.lst h1 ha
      rw [if_neg Bool.false_ne_true] at w1
      exact ⟨a, vs, rfl, .of e, fun q hq => (l.up g1).new o1 t.reverse w1 hq⟩
  · cases m

/-! ### argument lists -/
theorem snd_nil : Snd G C GN TN .nil := by
  refine ⟨fun _ _ h => (nomatch h), fun {X N sc es} g f m => ?_, fun _ _ h => (nomatch h), fun _ _ h => (nomatch h), fun {X N sc o} g f m => ?_, fun {X N sc es} g f m => ?_, fun _ _ h => (nomatch h)⟩
  · have h : es.isEmpty = true := m
    rw [List.isEmpty_iff.mp h]
    exact ⟨pa_nil.weak fun σ H Q ⟨ρ, env, st, P, en, o, w, l⟩ => l [] st ρ H [] w .refl o .nil, rfl⟩
  · have h : o.isNone = true := m
    rw [Option.isNone_iff_eq_none.mp h]
    exact po_none.weak fun σ H Q ⟨ρ, env, st, P, en, o, w, l⟩ => l none st ρ H w .refl o
  · have h : es.isEmpty = true := m
    rw [List.isEmpty_iff.mp h]
    exact pts_nil.weak fun σ H Q ⟨ρ, env, st, P, en, o, w, l⟩ => l true st ρ H w .refl o
theorem snd_cons {a r : IE} (iha : Snd G C GN TN a) (ihr : Snd G C GN TN r) : Snd G C GN TN (.cons a r) := by
  refine ⟨fun _ _ h => (nomatch h), fun {X N sc es} g f m => ?_, fun {X N sc b rr pos} g f m => ?_, fun {X N sc b rr pos} g f m => ?_, fun {X N sc o} g f m => ?_, fun {X N sc es} g f m => ?_, fun _ _ h => (nomatch h)⟩
  · cases es with
    | nil => exact nomatch m
    | cons e es =>
      have m : (notStar e && mtE GN TN N a sc e && mtEs GN TN N r sc es) = true := m
      rw [Bool.and_eq_true, Bool.and_eq_true] at m
      obtain ⟨⟨m1, m2⟩, m3⟩ := m
      obtain ⟨h1, h2⟩ := ihr.pa g f m3
      refine ⟨(pa_cons (iha.pe g f m2).1 h1 (starEach_cons _ m1)).weak fun σ H Q ⟨ρ, env, st, P, en, o, w, l⟩ => ?_, by rw [List.all_cons, m1, h2]; rfl⟩
      exact ⟨ρ, env, st, _, en, o, w, fun x st1 ρ1 H1 v1 w1 g1 o1 r1 => ⟨ρ1, env, st1, _, en.mono g1, o1, w1, fun xs st2 ρ2 H2 vs w2 g2 o2 r2 => l _ _ _ _ _ w2 (g1.trans g2) o2 (.cons (r1.mono g2) r2)⟩⟩
  · have m : (notStar b && mtE GN TN N a sc b && mtEs GN TN N r sc rr) = true := m
    rw [Bool.and_eq_true, Bool.and_eq_true] at m
    obtain ⟨⟨m1, m2⟩, m3⟩ := m
    obtain ⟨h1, h2⟩ := iha.pe g f m2
    cases r with
    | nil =>
      have h : rr.isEmpty = true := m3
      rw [List.isEmpty_iff.mp h]
      exact ⟨pe_one h1, (pw_and1 h2).weak fun σ H Q h => h⟩
    | cons a' r' =>
      cases rr with
      | nil => exact nomatch m3
      | cons b' rr' =>
        obtain ⟨q1, q2⟩ := ihr.an (pos := pos) g f m3
        refine ⟨(pe_and h1 q1).weak fun σ H Q ⟨ρ, env, st, P, en, o, w, l⟩ => ⟨ρ, env, st, _, en, o, w, fun x st1 ρ1 H1 v1 w1 g1 o1 r1 => ?_⟩, (pw_and h2 q2).weak fun σ H Q ⟨ρ, env, st, P, en, o, w, l⟩ => ⟨ρ, env, st, _, en, o, w, fun x st1 w1 => ?_⟩⟩
        · obtain ⟨k, rfl, k1, k2⟩ := w1
          refine ⟨k, rel_bl r1, ?_⟩
          cases k with
          | true => rw [if_pos rfl]; exact ⟨ρ1, env, st1, P, en.mono g1, o1, k1 rfl, l.up g1⟩
          | false => rw [if_neg Bool.false_ne_true]; exact (l.up g1).same o1 (.bl _) (k2 rfl)
        · obtain ⟨k, rfl, k1, k2⟩ := w1
          refine ⟨k, rfl, fun ρ' H' g' o' => ?_⟩
          cases k with
          | true => rw [if_pos rfl]; exact ⟨ρ', env, st1, P, en.mono g', o', k1 rfl, fun d st2 w2 => let ⟨k, e, q⟩ := l d st2 w2; ⟨k, e, fun ρ1 H1 g1 o1 => q ρ1 H1 (g'.trans g1) o1⟩⟩
          | false =>
            rw [if_neg Bool.false_ne_true]
            obtain ⟨k, e, q⟩ := l _ _ (k2 rfl)
            cases e
            exact q ρ' H' g' o'
    | _ => exact nomatch m3
  · have m : (notStar b && mtE GN TN N a sc b && mtEs GN TN N r sc rr) = true := m
    rw [Bool.and_eq_true, Bool.and_eq_true] at m
    obtain ⟨⟨m1, m2⟩, m3⟩ := m
    obtain ⟨h1, h2⟩ := iha.pe g f m2
    cases r with
    | nil =>
      have h : rr.isEmpty = true := m3
      rw [List.isEmpty_iff.mp h]
      exact ⟨pe_one h1, (pw_or1 h2).weak fun σ H Q h => h⟩
    | cons a' r' =>
      cases rr with
      | nil => exact nomatch m3
      | cons b' rr' =>
        obtain ⟨q1, q2⟩ := ihr.ro (pos := pos) g f m3
        refine ⟨(pe_or h1 q1).weak fun σ H Q ⟨ρ, env, st, P, en, o, w, l⟩ => ⟨ρ, env, st, _, en, o, w, fun x st1 ρ1 H1 v1 w1 g1 o1 r1 => ?_⟩, (pw_or h2 q2).weak fun σ H Q ⟨ρ, env, st, P, en, o, w, l⟩ => ⟨ρ, env, st, _, en, o, w, fun x st1 w1 => ?_⟩⟩
        · obtain ⟨k, rfl, k1, k2⟩ := w1
          refine ⟨k, rel_bl r1, ?_⟩
          cases k with
          | true => rw [if_pos rfl]; exact (l.up g1).same o1 (.bl _) (k1 rfl)
          | false => rw [if_neg Bool.false_ne_true]; exact ⟨ρ1, env, st1, P, en.mono g1, o1, k2 rfl, l.up g1⟩
        · obtain ⟨k, rfl, k1, k2⟩ := w1
          refine ⟨k, rfl, fun ρ' H' g' o' => ?_⟩
          cases k with
          | true =>
            rw [if_pos rfl]
            obtain ⟨k, e, q⟩ := l _ _ (k1 rfl)
            cases e
            exact q ρ' H' g' o'
          | false => rw [if_neg Bool.false_ne_true]; exact ⟨ρ', env, st1, P, en.mono g', o', k2 rfl, fun d st2 w2 => let ⟨k, e, q⟩ := l d st2 w2; ⟨k, e, fun ρ1 H1 g1 o1 => q ρ1 H1 (g'.trans g1) o1⟩⟩
    | _ => exact nomatch m3
  · unfold mtO at m
    split at m
    · refine (po_some (iha.pe g f m).1).weak fun σ H Q ⟨ρ, env, st, P, en, o, w, l⟩ => ⟨ρ, env, st, _, en, o, w, fun x st1 ρ1 H1 v1 w1 g1 o1 r1 => ?_⟩
      obtain ⟨i, rfl, w1⟩ := w1
      exact ⟨i, rel_int r1, l (some i) st1 ρ1 H1 w1 g1 o1⟩
    · cases m
  · unfold mtIf at m
    split at m
    · refine (pts_one (iha.pe g f m).2).weak fun σ H Q ⟨ρ, env, st, P, en, o, w, l⟩ => ⟨ρ, env, st, _, en, o, w, fun d st1 w1 => ?_⟩
      obtain ⟨k, rfl, w1⟩ := w1
      exact ⟨k, rfl, fun ρ' H' g' o' => l k st1 ρ' H' w1 g' o'⟩
    · cases m
end
end Rf

/-! Part I: what is walked; list comprehensions -/
namespace Rf
open PySem PySem.Spec PyProof.Rows L2 RZ

section
variable {G : List D} {C : Calls} {GN TN : List Str} {K : PySem.W.Frag} {ρ : List Addr} {H : Hp}
/-- a walk over a sequence that is found again at each turn -/
theorem it_seq {J : Itm} {Jt : It} (S : Hp → List V → Prop) (hgo : ∀ i H vs v, S H vs → vs[i]? = some v → Jt.go i H) (hy : ∀ i H vs v H', S H vs → i < vs.length → Jt.yld i H v H' → H' = H ∧ vs[i]? = some v) (hs : ∀ i H vs, S H vs → vs.length ≤ i → Jt.stop i H)
    (hS : ∀ ρ' H' st, Gr ρ ρ' H H' → Ok K ρ' H' st → J.still st → ∃ vs, S H' vs ∧ Rels K ρ' H' J.xs vs) : ItOk K ρ H J Jt := by
  intro i ρ' H' st g o s
  obtain ⟨vs, q, t⟩ := hS ρ' H' st g o s
  refine ⟨fun x hx => ?_, fun hl => hs i H' vs q (by rw [← t.len]; exact hl)⟩
  obtain ⟨v, e, r⟩ := t.get hx
  refine ⟨hgo i H' vs v q e, fun v' H2 hv => ?_⟩
  obtain ⟨rfl, e'⟩ := hy i H' vs v' H2 q (List.getElem?_eq_some_iff.mp e).1 hv
  rw [e] at e'; cases e'
  exact ⟨.refl, o, r⟩
theorem it_tuple {xs : List D} {a : Addr} {vs : List V} (hq : SqT K H a vs) (t : Rels K ρ H xs vs) : ItOk K ρ H ⟨xs, []⟩ (Itt K a) :=
  it_seq (fun H vs => SqT K H a vs) (fun i H vs v q e => ⟨vs, v, q, e⟩) (fun i H vs v H' q _ h => ⟨h.1, h.2 vs q⟩) (fun i H vs q l => ⟨vs, q, l⟩) fun ρ' H' st g o s => ⟨vs, g.sqT hq, t.mono g⟩
theorem it_fro {xs : List D} {a : Addr} {vs : List V} (hq : FrL K H a vs) (t : Rels K ρ H xs vs) : ItOk K ρ H ⟨xs, []⟩ (Itl K a) :=
  it_seq (fun H vs => SqL K H a vs) (fun i H vs v q e => ⟨vs, v, q, e⟩) (fun i H vs v H' q _ h => ⟨h.1, h.2 vs q⟩) (fun i H vs q l => ⟨vs, q, l⟩) fun ρ' H' st g o s => ⟨vs, (g.frL hq).seq, t.mono g⟩
theorem it_list {xs : List D} {n : Nat} {a : Addr} (ha : ρ[n]? = some a) : ItOk K ρ H ⟨xs, [(n, xs)]⟩ (Itl K a) :=
  it_seq (fun H vs => SqL K H a vs) (fun i H vs v q e => ⟨vs, v, q, e⟩) (fun i H vs v H' q _ h => ⟨h.1, h.2 vs q⟩) (fun i H vs q l => ⟨vs, q, l⟩) fun ρ' H' st g o s => by
    obtain ⟨vs, e, t⟩ := o.lst (s (n, xs) (by simp)) (g.ix ha)
    exact ⟨vs, .of e, t⟩
theorem it_rev {xs : List D} {n : Nat} {a : Addr} (ha : ρ[n]? = some a) : ItOk K ρ H ⟨xs.reverse, [(n, xs)]⟩ (Itv K a xs.length) :=
  it_seq (fun H vs => ∃ ws, SqL K H a ws ∧ ws.length = xs.length ∧ vs = ws.reverse) (fun i H vs v ⟨ws, q, l, e⟩ h => by
      subst e
      have hl := (List.getElem?_eq_some_iff.mp h).1
      rw [List.length_reverse] at hl
      rw [List.getElem?_reverse hl, l] at h
      exact ⟨by omega, ws, v, q, h⟩)
    (fun i H vs v H' ⟨ws, q, l, e⟩ hl h => by
      subst e
      rw [List.length_reverse] at hl
      refine ⟨h.1, ?_⟩
      have h2 := h.2 ws q
      rw [List.getElem?_reverse hl, l]; exact h2) (fun i H vs ⟨ws, q, l, e⟩ h => by subst e; rw [List.length_reverse, l] at h; exact h) fun ρ' H' st g o s => by
    obtain ⟨vs, e, t⟩ := o.lst (s (n, xs) (by simp)) (g.ix ha)
    exact ⟨vs.reverse, ⟨vs, .of e, t.len.symm, rfl⟩, t.reverse⟩
theorem it_str (s : List Nat) : ItOk K ρ H ⟨s.map fun c => .str [c], []⟩ (Its ⟨s.toArray⟩) := by
  intro i ρ' H' st g o _
  refine ⟨fun x hx => ?_, fun hl => ?_⟩
  · have hx : (s.map fun c => D.str [c])[i]? = some x := hx
    rw [List.getElem?_map] at hx
    cases e : s[i]? with
    | none => rw [e] at hx; cases hx
    | some c =>
      rw [e] at hx; cases hx
      have hl := (List.getElem?_eq_some_iff.mp e).1
      refine ⟨?_, fun v H2 ⟨h1, c', h2, h3⟩ => ?_⟩
      · show i < s.toArray.size
        simpa using hl
      · subst h1 h3
        have h2 : s.toArray[i]? = some c' := h2
        rw [List.getElem?_toArray, e] at h2
        cases h2
        exact ⟨.refl, o, .str [c]⟩
  · have hl : (s.map fun c => D.str [c]).length ≤ i := hl
    show s.toArray.size ≤ i
    simpa using hl
theorem it_range (lo : Int) (n : Nat) : ItOk K ρ H ⟨(List.range n).map fun k : Nat => .int (lo + k), []⟩ (Itr lo n) := by
  intro i ρ' H' st g o _
  refine ⟨fun x hx => ?_, fun hl => ?_⟩
  · have hx : ((List.range n).map fun k : Nat => D.int (lo + k))[i]? = some x := hx
    rw [List.getElem?_map] at hx
    by_cases hi : i < n
    · rw [List.getElem?_range hi] at hx
      cases hx
      exact ⟨hi, fun v H2 ⟨h1, h2⟩ => by subst h1 h2; exact ⟨.refl, o, .int _⟩⟩
    · rw [List.getElem?_eq_none (by simpa using hi)] at hx; cases hx
  · have hl : ((List.range n).map fun k : Nat => D.int (lo + k)).length ≤ i := hl
    show n ≤ i
    simpa using hl
/-- a sequence that is found again at each turn, while its own lists stand still -/
def Fnd (K : PySem.W.Frag) (tp : Bool) (ρ : List Addr) (H : Hp) (a : Addr) (xs : List D) (own : List (Nat × List D)) : Prop :=
  ∀ ρ' H' st, Gr ρ ρ' H H' → Ok K ρ' H' st → (∀ p ∈ own, st[p.1]? = some (.lst p.2)) → ∃ vs, sqK tp K H' a vs ∧ Rels K ρ' H' xs vs
theorem fnd_tup {xs : List D} {a : Addr} {vs : List V} (hq : SqT K H a vs) (t : Rels K ρ H xs vs) : Fnd K true ρ H a xs [] :=
  fun ρ' H' st g o s => ⟨vs, g.sqT hq, t.mono g⟩
theorem fnd_lst {xs : List D} {n : Nat} {a : Addr} (ha : ρ[n]? = some a) : Fnd K false ρ H a xs [(n, xs)] := fun ρ' H' st g o s => by
  obtain ⟨vs, e, t⟩ := o.lst (s (n, xs) (by simp)) (g.ix ha)
  exact ⟨vs, .of e, t⟩
theorem it_enumK {tp : Bool} {xs : List D} {a : Addr} {own : List (Nat × List D)} (f : Fnd K tp ρ H a xs own) : ItOk K ρ H ⟨xs.zipIdx.map fun p => .tup [.int p.2, p.1], own⟩ (Itek tp K a xs.length) := by
  intro i ρ' H' st g o s
  obtain ⟨vs, e, t⟩ := f ρ' H' st g o s
  refine ⟨fun x hx => ?_, fun hl => ?_⟩
  · have hx : (xs.zipIdx.map fun p => D.tup [.int p.2, p.1])[i]? = some x := hx
    rw [List.getElem?_map, List.getElem?_zipIdx] at hx
    cases e1 : xs[i]? with
    | none => rw [e1] at hx; cases hx
    | some d =>
      rw [e1] at hx
      cases hx
      obtain ⟨v, e2, r⟩ := t.get e1
      refine ⟨⟨vs, v, e, t.len.symm, e2⟩, fun w H2 ⟨T, ob, x, h1, h2, h0, h3, h4⟩ => ?_⟩
      have h5 := h4 vs e
      rw [e2] at h5; cases h5
      subst h1 h3
      refine ⟨gr_upd h2, o.upd_free h2, .tupR (.new h0) (.cons ?_ (.cons (r.mono (gr_upd h2)) .nil))⟩
      rw [Nat.zero_add]
      exact .int i
  · have hl : (xs.zipIdx.map fun p => D.tup [.int p.2, p.1]).length ≤ i := hl
    exact ⟨by simpa using hl, vs, e, t.len.symm⟩
theorem zip_get {α β : Type} {xs : List α} {ys : List β} {i : Nat} {p : α × β} (h : (xs.zip ys)[i]? = some p) : xs[i]? = some p.1 ∧ ys[i]? = some p.2 := by
  rw [List.getElem?_zip_eq_some] at h
  exact h
theorem it_zipK {tp tq : Bool} {xs ys : List D} {a b : Addr} {o1 o2 : List (Nat × List D)} (f : Fnd K tp ρ H a xs o1) (f' : Fnd K tq ρ H b ys o2) : ItOk K ρ H ⟨(xs.zip ys).map fun p => .tup [p.1, p.2], o1 ++ o2⟩ (ItzK tp tq K a b xs.length ys.length) := by
  intro i ρ' H' st g o s
  obtain ⟨vs, e, t⟩ := f ρ' H' st g o fun p hp => s p (List.mem_append_left _ hp)
  obtain ⟨ws, e', t'⟩ := f' ρ' H' st g o fun p hp => s p (List.mem_append_right _ hp)
  refine ⟨fun x hx => ?_, fun hl => ?_⟩
  · have hx : ((xs.zip ys).map fun p => D.tup [p.1, p.2])[i]? = some x := hx
    rw [List.getElem?_map] at hx
    cases e1 : (xs.zip ys)[i]? with
    | none => rw [e1] at hx; cases hx
    | some p =>
      rw [e1] at hx
      cases hx
      obtain ⟨p1, p2⟩ := zip_get e1
      obtain ⟨v, e2, r⟩ := t.get p1
      obtain ⟨w, e3, r'⟩ := t'.get p2
      refine ⟨⟨vs, ws, v, w, e, e', t.len.symm, t'.len.symm, e2, e3⟩, fun u H2 ⟨T, ob, x, y, h1, h2, h0, h3, h4, h5⟩ => ?_⟩
      have q1 := h4 vs e
      have q2 := h5 ws e'
      rw [e2] at q1; cases q1
      rw [e3] at q2; cases q2
      subst h1 h3
      exact ⟨gr_upd h2, o.upd_free h2, .tupR (.new h0) (.cons (r.mono (gr_upd h2)) (.cons (r'.mono (gr_upd h2)) .nil))⟩
  · have hl : ((xs.zip ys).map fun p => D.tup [p.1, p.2]).length ≤ i := hl
    rw [List.length_map, List.length_zip] at hl
    exact ⟨by omega, vs, ws, e, e', t.len.symm, t'.len.symm⟩
theorem it_revT {xs : List D} {a : Addr} {vs : List V} (hq : SqT K H a vs) (t0 : Rels K ρ H xs vs) : ItOk K ρ H ⟨xs.reverse, []⟩ (RT.ItvT K a xs.length) := by
  have hl0 := t0.len
  refine it_seq (fun H ws => ∃ vs, SqT K H a vs ∧ vs.length = xs.length ∧ ws = vs.reverse) (fun i H ws v ⟨vs, q, l, e⟩ h => ?_) (fun i H ws v H' ⟨vs, q, l, e⟩ hi h => ?_) (fun i H ws ⟨vs, q, l, e⟩ hi => ?_) fun ρ' H' st g o s => ⟨vs.reverse, ⟨vs, g.sqT hq, hl0.symm, rfl⟩, (t0.mono g).reverse⟩
  · subst e
    have hlt := (List.getElem?_eq_some_iff.mp h).1
    rw [List.length_reverse] at hlt
    rw [List.getElem?_reverse hlt, l] at h
    exact ⟨by omega, vs, v, q, h⟩
  · subst e
    rw [List.length_reverse] at hi
    rw [List.getElem?_reverse hi, l]
    exact ⟨h.1, h.2 vs q⟩
  · subst e
    rw [List.length_reverse] at hi
    show xs.length ≤ i
    omega

/-- a value of any kind is walked -/
def iAny (K : PySem.W.Frag) (te : TE) : TI := fun σ H R => te σ H fun x H1 => (∃ a, x = .ref a ∧ (∃ xs, SqL K H1 a xs) ∧ R (Itl K a) H1) ∨ (∃ a, x = .ref a ∧ (∃ xs, SqT K H1 a xs) ∧ R (Itt K a) H1) ∨ ∃ z, x = .str z ∧ R (Its z) H1
theorem pi_any {X : Cx} {tg e : Expr} {te : TE} (he : PE X e te) : PI X tg e (iAny X.K te) := by
  refine ⟨fun pins s σ H R I h => thn (he.run pins s σ H _ I h) fun v s1 ⟨x, H1, I1, r1, q1⟩ => ?_⟩
  rcases q1 with ⟨a, rfl, ⟨xs, hq⟩, q⟩ | ⟨a, rfl, ⟨xs, hq⟩, q⟩ | ⟨z, rfl, q⟩
  · cases r1
    obtain ⟨its, rv, p, hz⟩ := I1.list hq
    exact wpAny_pyIter_list p.isList (pi_one I1 _ (turn_list a _) ⟨_, Heap.get?_push_size _ rfl, rfl, rfl⟩ q)
  · cases r1
    obtain ⟨its, rv, p, hz⟩ := I1.tuple hq
    exact wpAny_pyIter_tuple (show s1.heap.IsTuple a its.toArray from p) (pi_one I1 _ (turn_tuple a _) ⟨_, Heap.get?_push_size _ rfl, rfl, rfl⟩ q)
  · obtain ⟨t, rfl⟩ := r1
    cases hw : z.cps.all (· < 128) with
    | false => exact wpAny_pyIter_wide hw (pi_one I1 _ (turn_str _ z t "str_iterator" (.inr rfl)) ⟨_, Heap.get?_push_size _ rfl, rfl, rfl⟩ q)
    | true => exact wpAny_pyIter_ascii hw (pi_one I1 _ (turn_str _ z t "str_ascii_iterator" (.inl rfl)) ⟨_, Heap.get?_push_size _ rfl, rfl, rfl⟩ q)
theorem snd_iv {a : IE} (ih : Snd G C GN TN a) : Snd G C GN TN (.iv a) := by
  refine .ofI (fun {X N sc tg e} g f m => ?_) (fun _ _ _ => rfl) (fun _ _ _ => rfl) (fun _ _ _ => rfl) (fun _ _ _ => rfl)
  refine (pi_any (ih.pe g f m).1).weak fun σ H R ⟨ρ, env, st, P, en, o, w, l⟩ => ⟨ρ, env, st, _, en, o, w, fun d st1 ρ1 H1 v1 w1 g1 o1 r1 => ?_⟩
  cases d with
  | tup xs =>
    obtain ⟨a, vs, rfl, q, t⟩ := r1.tup_inv
    exact .inr (.inl ⟨a, rfl, ⟨vs, q⟩, l _ _ ρ1 H1 _ w1 g1 o1 (it_tuple q t)⟩)
  | fro xs =>
    obtain ⟨a, vs, rfl, q, t⟩ := r1.fro_inv
    exact .inl ⟨a, rfl, ⟨vs, q.seq⟩, l _ _ ρ1 H1 _ w1 g1 o1 (it_fro q t)⟩
  | str z =>
    cases r1
    exact .inr (.inr ⟨_, rfl, l _ _ ρ1 H1 _ w1 g1 o1 (it_str z)⟩)
  | obj n =>
    obtain ⟨xs, h1, w1⟩ := w1
    obtain ⟨a, rfl, ha⟩ := r1.obj_inv
    obtain ⟨vs, e, t⟩ := o1.lst h1 ha
    exact .inl ⟨a, rfl, ⟨vs, .of e⟩, l _ _ ρ1 H1 _ w1 g1 o1 (it_list ha)⟩
  | non => exact w1.elim
  | bl _ => exact w1.elim
  | int _ => exact w1.elim
theorem starEach2 {a b : Expr} {env : PySem.Env} (h : notStar a = true) (h' : notStar b = true) : starEach [a, b] env = [(false, eval a env), (false, eval b env)] := by
  rw [starEach_cons _ h, starEach_cons _ h']; rfl
theorem range_eq (n : Nat) : ((List.range n).map fun k : Nat => D.int k) = (List.range n).map fun k : Nat => D.int (0 + (k : Int)) := by
  congr 1; funext k; rw [Int.zero_add]
theorem snd_ir1 {a : IE} (ih : Snd G C GN TN a) : Snd G C GN TN (.ir1 a) := by
  refine .ofI (fun {X N sc tg e} g f m => ?_) (fun _ _ _ => rfl) (fun _ _ _ => rfl) (fun _ _ _ => rfl) (fun _ _ _ => rfl)
  unfold mtI at m
  split at m
  · simp only [Bool.and_eq_true, decide_eq_true_eq] at m
    obtain ⟨⟨⟨m1, m2⟩, m3⟩, m4⟩ := m
    subst m2
    refine (pi_range1 (g.gl m1) (f.hb "range" (by decide +kernel)) (pa_cons (ih.pe g f m4).1 pa_nil (starEach_cons _ m3)) (starEach_cons _ m3)).weak fun σ H R ⟨ρ, env, st, P, en, o, w, l⟩ => ⟨ρ, env, st, _, en, o, w, fun d st1 ρ1 H1 v1 w1 g1 o1 r1 => ?_⟩
    obtain ⟨j, rfl, hb, w1⟩ := w1
    cases r1
    refine ⟨j, rfl, hb.1, hb.2, l _ _ ρ1 H1 _ w1 g1 o1 ?_⟩
    rw [range_eq]
    exact it_range 0 _
  · cases m
theorem snd_ir2 {a b : IE} (iha : Snd G C GN TN a) (ihb : Snd G C GN TN b) : Snd G C GN TN (.ir2 a b) := by
  refine .ofI (fun {X N sc tg e} g f m => ?_) (fun _ _ _ => rfl) (fun _ _ _ => rfl) (fun _ _ _ => rfl) (fun _ _ _ => rfl)
  unfold mtI at m
  split at m
  · simp only [Bool.and_eq_true, decide_eq_true_eq] at m
    obtain ⟨⟨⟨⟨⟨m1, m2⟩, m3⟩, m4⟩, m5⟩, m6⟩ := m
    subst m2
    refine (pi_range2 (g.gl m1) (f.hb "range" (by decide +kernel)) (pa_cons (iha.pe g f m5).1 (pa_cons (ihb.pe g f m6).1 pa_nil (starEach_cons _ m4)) (starEach_cons _ m3)) (starEach2 m3 m4) (starEach_cons _ m4)).weak
      fun σ H R ⟨ρ, env, st, P, en, o, w, l⟩ => ⟨ρ, env, st, _, en, o, w, fun d st1 ρ1 H1 v1 w1 g1 o1 r1 => ⟨ρ1, env, st1, _, en.mono g1, o1, w1, fun d2 st2 ρ2 H2 v2 w2 g2 o2 r2 => ?_⟩⟩
    obtain ⟨i, j, rfl, rfl, hb, w2⟩ := w2
    cases r1; cases r2
    exact ⟨i, j, rfl, hb, l _ _ ρ2 H2 _ w2 (g1.trans g2) o2 (it_range i _)⟩
  · cases m
theorem it_rangeC {K : PySem.W.Frag} {ρ : List Addr} {H : Hp} (lo c : Int) (n : Nat) : ItOk K ρ H ⟨(List.range n).map fun k : Nat => .int (lo + k * c), []⟩ (Itc lo c n) := by
  intro i ρ' H' st g o _
  refine ⟨fun x hx => ?_, fun hl => ?_⟩
  · have hx : ((List.range n).map fun k : Nat => D.int (lo + k * c))[i]? = some x := hx
    rw [List.getElem?_map] at hx
    by_cases hi : i < n
    · rw [List.getElem?_range hi] at hx
      cases hx
      exact ⟨hi, fun v H2 ⟨h1, h2⟩ => by subst h1 h2; exact ⟨.refl, o, .int _⟩⟩
    · rw [List.getElem?_eq_none (by simpa using hi)] at hx; cases hx
  · have hl : ((List.range n).map fun k : Nat => D.int (lo + k * c)).length ≤ i := hl
    show n ≤ i
    simpa using hl
theorem snd_ir3 {a b c : IE} (iha : Snd G C GN TN a) (ihb : Snd G C GN TN b) (ihc : Snd G C GN TN c) : Snd G C GN TN (.ir3 a b c) := by
  refine .ofI (fun {X N sc tg e} g f m => ?_) (fun _ _ _ => rfl) (fun _ _ _ => rfl) (fun _ _ _ => rfl) (fun _ _ _ => rfl)
  unfold mtI at m
  split at m
  · simp only [Bool.and_eq_true, decide_eq_true_eq] at m
    obtain ⟨⟨⟨⟨⟨⟨⟨m1, m2⟩, m3⟩, m4⟩, m5⟩, m6⟩, m7⟩, m8⟩ := m
    subst m2
    refine (pi_range3 (g.gl m1) (f.hb "range" (by decide +kernel)) (pa_cons (iha.pe g f m6).1 (pa_cons (ihb.pe g f m7).1 (pa_cons (ihc.pe g f m8).1 pa_nil (starEach_cons _ m5)) (starEach_cons _ m4)) (starEach_cons _ m3)) (starEach_cons _ m3) (backTo_any _ _ (by rw [List.all_cons, List.all_cons, m4, m5]; rfl))).weak
      fun σ H R ⟨ρ, env, st, P, en, o, w, l⟩ => ⟨ρ, env, st, _, en, o, w, fun d st1 ρ1 H1 v1 w1 g1 o1 r1 => ⟨ρ1, env, st1, _, en.mono g1, o1, w1, fun d2 st2 ρ2 H2 v2 w2 g2 o2 r2 => ⟨ρ2, env, st2, _, (en.mono g1).mono g2, o2, w2, fun d3 st3 ρ3 H3 v3 w3 g3 o3 r3 => ?_⟩⟩⟩
    obtain ⟨i, j, k, n, rfl, rfl, rfl, hb, w3⟩ := w3
    cases r1; cases r2; cases r3
    exact ⟨i, j, k, n, rfl, hb, l _ _ ρ3 H3 _ w3 ((g1.trans g2).trans g3) o3 (it_rangeC i k n)⟩
  · cases m
theorem snd_ien {a : IE} (ih : Snd G C GN TN a) : Snd G C GN TN (.ien a) := by
  refine .ofI (fun {X N sc tg e} g f m => ?_) (fun _ _ _ => rfl) (fun _ _ _ => rfl) (fun _ _ _ => rfl) (fun _ _ _ => rfl)
  unfold mtI at m
  split at m
  · simp only [Bool.and_eq_true, decide_eq_true_eq] at m
    obtain ⟨⟨⟨⟨m1, m2⟩, m3⟩, m4⟩, m5⟩ := m
    subst m2
    cases tg with
    | Tuple elts kk tpos =>
      refine (pi_enumK (g.gl m1) (f.hb "enumerate" (by decide +kernel)) (pa_cons (ih.pe g f m4).1 pa_nil (starEach_cons _ m3)) (starEach_cons _ m3)).weak fun σ H R ⟨ρ, env, st, P, en, o, w, l⟩ => ⟨ρ, env, st, _, en, o, w, fun d st1 ρ1 H1 v1 w1 g1 o1 r1 => ?_⟩
      unfold opEn at w1
      split at w1
      · obtain ⟨xs, h1, w1⟩ := w1
        obtain ⟨a, rfl, ha⟩ := r1.obj_inv
        obtain ⟨vs, e, t⟩ := o1.lst h1 ha
        refine ⟨false, a, vs, rfl, .of e, ?_⟩
        rw [← t.len]
        exact l _ _ ρ1 H1 _ w1 g1 o1 (it_enumK (fnd_lst ha))
      · obtain ⟨a, vs, rfl, q, t⟩ := r1.tup_inv
        refine ⟨true, a, vs, rfl, q, ?_⟩
        rw [← t.len]
        exact l _ _ ρ1 H1 _ w1 g1 o1 (it_enumK (fnd_tup q t))
      · exact w1.elim
    | _ => exact absurd m5 (by simp [notTup])
  · cases m
theorem snd_izip {a b : IE} (iha : Snd G C GN TN a) (ihb : Snd G C GN TN b) : Snd G C GN TN (.izip a b) := by
  refine .ofI (fun {X N sc tg e} g f m => ?_) (fun _ _ _ => rfl) (fun _ _ _ => rfl) (fun _ _ _ => rfl) (fun _ _ _ => rfl)
  unfold mtI at m
  split at m
  · simp only [Bool.and_eq_true, decide_eq_true_eq] at m
    obtain ⟨⟨⟨⟨⟨⟨m1, m2⟩, m3⟩, m4⟩, m5⟩, m6⟩, m7⟩ := m
    subst m2
    cases tg with
    | Tuple elts kk tpos =>
      refine (pi_zipK (g.gl m1) (f.hb "zip" (by decide +kernel)) (pa_cons (iha.pe g f m5).1 (pa_cons (ihb.pe g f m6).1 pa_nil (starEach_cons _ m4)) (starEach_cons _ m3)) (starEach_cons _ m3) (backTo_any _ _ (by rw [List.all_cons, m4]; rfl))).weak
        fun σ H R ⟨ρ, env, st, P, en, o, w, l⟩ => ⟨ρ, env, st, _, en, o, w, fun d st1 ρ1 H1 v1 w1 g1 o1 r1 => ⟨ρ1, env, st1, _, en.mono g1, o1, w1, fun d2 st2 ρ2 H2 v2 w2 g2 o2 r2 => ?_⟩⟩
      have r1 := r1.mono g2
      unfold opZip at w2
      split at w2
      · obtain ⟨a, vs, rfl, q, t⟩ := r1.tup_inv
        obtain ⟨b, ws, rfl, q', t'⟩ := r2.tup_inv
        refine ⟨true, true, a, b, vs, ws, rfl, q, q', ?_⟩
        rw [← t.len, ← t'.len]
        exact l _ _ ρ2 H2 _ w2 (g1.trans g2) o2 (it_zipK (fnd_tup q t) (fnd_tup q' t'))
      · obtain ⟨ys, h2, w2⟩ := w2
        obtain ⟨a, vs, rfl, q, t⟩ := r1.tup_inv
        obtain ⟨b, rfl, hb⟩ := r2.obj_inv
        obtain ⟨ws, e', t'⟩ := o2.lst h2 hb
        refine ⟨true, false, a, b, vs, ws, rfl, q, .of e', ?_⟩
        rw [← t.len, ← t'.len]
        exact l _ _ ρ2 H2 _ w2 (g1.trans g2) o2 (it_zipK (fnd_tup q t) (fnd_lst hb))
      · obtain ⟨xs, h1, w2⟩ := w2
        obtain ⟨a, rfl, ha⟩ := r1.obj_inv
        obtain ⟨b, ws, rfl, q', t'⟩ := r2.tup_inv
        obtain ⟨vs, e, t⟩ := o2.lst h1 ha
        refine ⟨false, true, a, b, vs, ws, rfl, .of e, q', ?_⟩
        rw [← t.len, ← t'.len]
        exact l _ _ ρ2 H2 _ w2 (g1.trans g2) o2 (it_zipK (fnd_lst ha) (fnd_tup q' t'))
      · obtain ⟨xs, ys, h1, h2, w2⟩ := w2
        obtain ⟨a, rfl, ha⟩ := r1.obj_inv
        obtain ⟨b, rfl, hb⟩ := r2.obj_inv
        obtain ⟨vs, e, t⟩ := o2.lst h1 ha
        obtain ⟨ws, e', t'⟩ := o2.lst h2 hb
        refine ⟨false, false, a, b, vs, ws, rfl, .of e, .of e', ?_⟩
        rw [← t.len, ← t'.len]
        exact l _ _ ρ2 H2 _ w2 (g1.trans g2) o2 (it_zipK (fnd_lst ha) (fnd_lst hb))
      · exact w2.elim
    | _ => exact absurd m7 (by simp [notTup])
  · cases m
theorem snd_irev {a : IE} (ih : Snd G C GN TN a) : Snd G C GN TN (.irev a) := by
  refine .ofI (fun {X N sc tg e} g f m => ?_) (fun _ _ _ => rfl) (fun _ _ _ => rfl) (fun _ _ _ => rfl) (fun _ _ _ => rfl)
  unfold mtI at m
  split at m
  · simp only [Bool.and_eq_true, decide_eq_true_eq] at m
    obtain ⟨⟨⟨m1, m2⟩, m3⟩, m4⟩ := m
    subst m2
    refine (RT.pi_revA (g.gl m1) (f.hb "reversed" (by decide +kernel)) (ih.pe g f m4).1 (starEach_cons _ m3)).weak fun σ H R ⟨ρ, env, st, P, en, o, w, l⟩ => ⟨ρ, env, st, _, en, o, w, fun d st1 ρ1 H1 v1 w1 g1 o1 r1 => ?_⟩
    unfold opRv at w1
    split at w1
    · obtain ⟨xs, h1, w1⟩ := w1
      obtain ⟨a, rfl, ha⟩ := r1.obj_inv
      obtain ⟨vs, e, t⟩ := o1.lst h1 ha
      refine ⟨a, vs, rfl, .inl ⟨.of e, ?_⟩⟩
      rw [← t.len]
      exact l _ _ ρ1 H1 _ w1 g1 o1 (it_rev ha)
    · obtain ⟨a, vs, rfl, q, t⟩ := r1.tup_inv
      refine ⟨a, vs, rfl, .inr ⟨q, ?_⟩⟩
      rw [← t.len]
      exact l _ _ ρ1 H1 _ w1 g1 o1 (it_revT q t)
    · exact w1.elim
  · cases m
end
end Rf

/-! Part J: list comprehensions; every expression -/
namespace Rf
open PySem PySem.Spec PyProof.Rows L2

section
variable {G : List D} {C : Calls} {GN TN : List Str}
theorem own_snd {N : List Str} (vs : List Nat) : (ownOf N vs).map (·.2) = vs := by
  unfold ownOf
  rw [List.map_map]
  have : ((·.2) : Str × Nat → Nat) ∘ (fun i => (N.getD i "", i)) = id := rfl
  rw [this, List.map_id]
theorem wipe_in {σ : L2.St} {i : Nat} (hl : i < σ.length) : ∀ {vs : List Nat}, i ∈ vs → (L2.wipe σ vs)[i]? = some none
  | [], h => by simp at h
  | v :: vs, h => by
    show ((L2.wipe σ vs).set v none)[i]? = some none
    have l : i < (L2.wipe σ vs).length := by rw [wipe_length]; exact hl
    by_cases hv : v = i
    · subst hv; rw [List.getElem?_set_self l]
    · rw [List.getElem?_set_ne hv]
      refine wipe_in hl ?_
      rcases List.mem_cons.mp h with z | z
      · exact absurd z.symm hv
      · exact z
theorem wipe_idem (σ : L2.St) (vs : List Nat) : L2.wipe (L2.wipe σ vs) vs = L2.wipe σ vs := by
  refine List.ext_getElem? fun i => ?_
  by_cases h : i ∈ vs
  · by_cases hl : i < σ.length
    · rw [wipe_in (by rw [wipe_length]; exact hl) h, wipe_in hl h]
    · rw [List.getElem?_eq_none (by rw [wipe_length, wipe_length]; omega), List.getElem?_eq_none (by rw [wipe_length]; omega)]
  · rw [wipe_out h]
/-- the parts of a comprehension -/
theorem comp_parts {vs : List Nat} {t it ifs elt : IE} (ihi : Snd G C GN TN it) (ihf : Snd G C GN TN ifs) (ihe : Snd G C GN TN elt) {X : Cx} {N : List Str} {sc : Scope} {el : Expr} {gs : List Comprehension} {scope : Scope} {pos : Pos} (g : Gd X N sc) (f : Fx G C GN TN X)
    (m : mtE GN TN N (.comp vs t it ifs elt) sc (.ListComp el gs scope pos) = true) :
    ∃ tg iter fs wi tgo tt te own, gs = [⟨tg, iter, fs, 0⟩] ∧ PI X tg iter wi ∧ BlkOk X.N X.env.scope scope own ∧ (∀ (s : Shared) (H : Hp) (C : Addr) (cl : List (Str × Addr)) (fp : List Addr), PG (X.blk s H scope (compEnvC scope cl C X.env) fp) tg tgo) ∧
      (∀ (s : Shared) (H : Hp) (C : Addr) (cl : List (Str × Addr)) (fp : List Addr), PTs (X.blk s H scope (compEnvC scope cl C X.env) fp) fs tt) ∧ (∀ (s : Shared) (H : Hp) (C : Addr) (cl : List (Str × Addr)) (fp : List Addr), PE (X.blk s H scope (compEnvC scope cl C X.env) fp) el te) ∧
      (∀ x, foldedSetIterable iter X.env x = pure x) ∧ ∀ σ H Q, liftE X.K (wE G C (.comp vs t it ifs elt) X0) σ H Q → tLc wi tgo tt te (own.map (·.2)) σ H Q := by
  unfold mtE at m
  split at m
  case h_2 => cases m
  rename_i e' el tg iter fs scope pos heq
  cases heq
  simp only [Bool.and_eq_true] at m
  obtain ⟨⟨⟨⟨⟨⟨m1, m2⟩, m3⟩, m4⟩, m5⟩, m6⟩, m7⟩ := m
  obtain ⟨ok, gb⟩ := g.blk m1
  refine ⟨tg, iter, fs, _, gOf X.K t, liftF X.K (wIf G C ifs X0), liftE X.K (wE G C elt X0), _, rfl, ihi.it g f m4, ok, fun s H C cl fp => (tgt_ok (gb s H C cl fp) t).1 tg m2,
    fun s H C cl fp => ihf.fi (gb s H C cl fp) (f.blk s H scope _ fp) m6, fun s H C cl fp => (ihe.pe (gb s H C cl fp) (f.blk s H scope _ fp) m7).1, fun x => fold_ok m5 _ x, ?_⟩
  rw [own_snd]
  rintro σ H Q ⟨ρ, env, st, P, en, o, w, l⟩
  refine ⟨ρ, env, st, _, en, o, w, fun J st1 ρ1 H1 Jt ⟨W, w0, wi⟩ g1 o1 hJ => ?_⟩
  intro D hD
  -- the new list
  have oD : Ok X.K (ρ1 ++ [D]) (upd H1 D (.lst [])) (st1 ++ [.lst []]) := o1.new hD .nil
  have gD : Gr ρ1 (ρ1 ++ [D]) H1 (upd H1 D (.lst [])) := gr_new hD
  refine ⟨fun i m H' => ∃ ρ' st', Gr (ρ1 ++ [D]) ρ' (upd H1 D (.lst [])) H' ∧ Ok X.K ρ' H' st' ∧ W i st' ∧ m = J.xs.length - i, ⟨_, _, _, .refl, oD, w0, rfl⟩, ?_⟩
  rintro i m H2 ⟨ρ2, st2, g2, o2, w2, rfl⟩
  obtain ⟨still, hend, hturn⟩ := wi i st2 w2
  obtain ⟨hgo, hstop⟩ := hJ i ρ2 H2 st2 (gD.trans g2) o2 still
  by_cases hi : i < J.xs.length
  · refine .inr ?_
    have hx : J.xs[i]? = some J.xs[i] := List.getElem?_eq_getElem hi
    obtain ⟨go, hy⟩ := hgo _ hx
    refine ⟨go, fun H' => ∃ ρ' st', Gr (ρ1 ++ [D]) ρ' (upd H1 D (.lst [])) H' ∧ Ok X.K ρ' H' st' ∧ W (i + 1) st', fun H' ⟨ρ', st', g', o', w'⟩ => ⟨J.xs.length - (i + 1), by omega, ρ', st', g', o', w', rfl⟩, fun x' H3 yl => ?_⟩
    obtain ⟨g3, o3, r3⟩ := hy x' H3 yl
    have ew := ((en.mono (g1.trans (gD.trans (g2.trans g3)))).wipe vs)
    refine (tgt_go t).1 _ x' _ _ _ _ (hturn _ hx) ew r3 fun env2 σ2 w3 e2 k2 => ⟨(k2 vs m3).trans (wipe_idem σ vs), ?_⟩
    refine ⟨ρ2, env2, st2, _, e2, o3, w3, fun b st4 ρ4 H4 w4 g4 o4 => ?_⟩
    cases b with
    | true =>
      rw [if_pos rfl]
      refine ⟨ρ4, env2, st4, _, e2.mono g4, o4, w4.1 rfl, fun y st5 ρ5 H5 v5 w5 g5 o5 r5 => ?_⟩
      obtain ⟨acc, h1, h2, h3⟩ := w5
      have hix : ρ5[st1.length]? = some D := (g2.trans (g3.trans (g4.trans g5))).ix o1.ref_new
      obtain ⟨ws, e, tt⟩ := o5.lst h1 hix
      obtain ⟨o6, g6⟩ := o5.set h1 hix (tt.append (.cons r5 .nil))
      exact ⟨ws, e, by rw [← tt.len]; exact h2, ρ5, _, (g2.trans (g3.trans (g4.trans (g5.trans g6)))), o6, h3⟩
    | false =>
      rw [if_neg Bool.false_ne_true]
      exact ⟨ρ4, st4, g2.trans (g3.trans g4), o4, w4.2 rfl⟩
  · have hi : J.xs.length ≤ i := Nat.le_of_not_lt hi
    exact .inl ⟨hstop hi, l _ _ ρ2 H2 _ (hend hi) (g1.trans (gD.trans g2)) o2 (.obj (g2.ix o1.ref_new))⟩
theorem snd_comp (vs : List Nat) {t it ifs elt : IE} (ihi : Snd G C GN TN it) (ihf : Snd G C GN TN ifs) (ihe : Snd G C GN TN elt) : Snd G C GN TN (.comp vs t it ifs elt) := by
  refine .ofV (fun {X N sc e} g f m => ?_) (fun _ _ _ => rfl) (fun _ _ _ => rfl) (fun _ _ _ => rfl) (fun _ _ _ _ => rfl)
  cases e with
  | ListComp el gs scope pos =>
    obtain ⟨tg, iter, fs, wi, tgo, tt, te, own, rfl, p1, p2, p3, p4, p5, p6, p7⟩ := comp_parts ihi ihf ihe g f m
    exact ⟨(pe_lc g.calm (by rw [g.n]; exact g.nd) p1 p2 p3 p4 p5 p6).weak p7, fun _ => rfl⟩
  | _ => exact nomatch m
theorem snd_none {e : IE} (h1 : ∀ N sc a, mtE GN TN N e sc a = false) (h2 : ∀ N sc es, mtEs GN TN N e sc es = false) (h3 : ∀ N sc es, mtO GN TN N e sc es = false) (h4 : ∀ N sc es, mtIf GN TN N e sc es = false) (h5 : ∀ N sc tg a, mtI GN TN N e sc tg a = false) : Snd G C GN TN e :=
  .ofE (fun _ _ h => by rw [h1] at h; cases h) h2 h3 h4 h5
theorem snd_all (e : IE) : Snd G C GN TN e := by
  induction e with
  | nil => exact snd_nil
  | cons a r iha ihr => exact snd_cons iha ihr
  | var i => exact snd_var i
  | int i => exact snd_int i
  | str s => exact snd_str s
  | bl b => exact snd_bl b
  | non => exact snd_non
  | glob i => exact snd_glob i
  | tup es ih => exact snd_tup ih
  | lst es ih => exact snd_lst ih
  | bin op a b iha ihb => exact snd_bin op iha ihb
  | neg a ih => exact snd_neg ih
  | cmp op a b iha ihb => exact snd_cmp op iha ihb
  | chain op op' a b c iha ihb ihc => exact snd_chain op op' iha ihb ihc
  | and es ih => exact snd_and ih
  | or es ih => exact snd_or ih
  | not a ih => exact snd_not ih
  | ife c a b ihc iha ihb => exact snd_ife ihc iha ihb
  | sub a i iha ihi => exact snd_sub iha ihi
  | slc a lo hi iha ihl ihh => exact snd_slc iha ihl ihh
  | call f es ih => exact snd_call f ih
  | bi b es ih => exact snd_bi b ih
  | isi e t ih => exact snd_isi t ih
  | meth m o es iho ihe => exact snd_meth m iho ihe
  | dnew t => exact snd_dnew t
  | trv tp a ih => exact snd_trv tp ih
  | rl1 tp a ih => exact snd_rl1 tp ih
  | rl2 tp a b iha ihb => exact snd_rl2 tp iha ihb
  | rev a ih => exact snd_rev ih
  | comp vs t it ifs elt _ ihi ihf ihe => exact snd_comp vs ihi ihf ihe
  | gc e ih => exact snd_gc ih
  | tn i => exact snd_none (fun _ _ _ => rfl) (fun _ _ _ => rfl) (fun _ _ _ => rfl) (fun _ _ _ => rfl) (fun _ _ _ _ => rfl)
  | tt ts _ => exact snd_none (fun _ _ _ => rfl) (fun _ _ _ => rfl) (fun _ _ _ => rfl) (fun _ _ _ => rfl) (fun _ _ _ _ => rfl)
  | iv e ih => exact snd_iv ih
  | ir1 a ih => exact snd_ir1 ih
  | ir2 a b iha ihb => exact snd_ir2 iha ihb
  | ir3 a b c iha ihb ihc => exact snd_ir3 iha ihb ihc
  | ien e ih => exact snd_ien ih
  | izip a b iha ihb => exact snd_izip iha ihb
  | irev e ih => exact snd_irev ih
end
end Rf

/-! Part K: statements -/
namespace Rf
open PySem PySem.Spec PyProof.Rows L2

structure LiftN (K : PySem.W.Frag) (ρ : List Addr) (H : Hp) (Kn : En) (D : Ends) : Prop where
  nx : ∀ env' st' ρ' σ' H', Kn.nx env' st' → Gr ρ ρ' H H' → EnvOk K ρ' H' env' σ' → Ok K ρ' H' st' → D.nx σ' H'
  bk : ∀ env' st' ρ' σ' H', Kn.bk env' st' → Gr ρ ρ' H H' → EnvOk K ρ' H' env' σ' → Ok K ρ' H' st' → D.bk σ' H'
  ct : ∀ env' st' ρ' σ' H', Kn.ct env' st' → Gr ρ ρ' H H' → EnvOk K ρ' H' env' σ' → Ok K ρ' H' st' → D.ct σ' H'
  rt : Lift K ρ H Kn.rt D.rt
theorem LiftN.up {K : PySem.W.Frag} {ρ ρ' : List Addr} {H H' : Hp} {Kn : En} {D : Ends} (l : LiftN K ρ H Kn D) (g : Gr ρ ρ' H H') : LiftN K ρ' H' Kn D :=
  ⟨fun e s r σ h k g' => l.nx e s r σ h k (g.trans g'), fun e s r σ h k g' => l.bk e s r σ h k (g.trans g'), fun e s r σ h k g' => l.ct e s r σ h k (g.trans g'), l.rt.up g⟩
def liftS (K : PySem.W.Frag) (ws : Env → Sto → En → Prop) : TS := fun D σ H => ∃ ρ env st Kn, EnvOk K ρ H env σ ∧ Ok K ρ H st ∧ ws env st Kn ∧ Kn.ex = X0 ∧ LiftN K ρ H Kn D
theorem _root_.L2.PS.weak {X : Cx} {e : Stmt} {t t' : TS} (h : PS X e t) (w : ∀ D σ H, t' D σ H → t D σ H) : PS X e t' := ⟨fun pins s σ H D I q => h.run pins s σ H D I (w D σ H q)⟩
theorem _root_.L2.PSs.weak {X : Cx} {e : List Stmt} {t t' : TS} (h : PSs X e t) (w : ∀ D σ H, t' D σ H → t D σ H) : PSs X e t' := ⟨fun pins s σ H D I q => h.run pins s σ H D I (w D σ H q)⟩

theorem sw_no {e : Expr} (h : notComp e = true) (t : Option Expr) (l : Nat) (env : PySem.Env) : swapsWith e t l env = pure false := by
  cases e <;> first | rfl | (exact absurd h (by simp [notComp]))
theorem sws_no {e tg : Expr} (h : notComp e = true) (l : Nat) (env : PySem.Env) : swapsWithSole [tg] e l env = pure false := sw_no h _ _ _
theorem store_no {tg e : Expr} (h : notTup tg = true ∨ notTup e = true) (hl : ∀ es p, tg ≠ .List es p) (env : PySem.Env) : swappedStores [tg] e env = pure none := by
  unfold swappedStores
  cases tg with
  | Tuple ts k p =>
    cases e with
    | Tuple vs k2 p2 => rcases h with h | h <;> exact absurd h (by simp [notTup])
    | _ => rfl
  | List ts p => exact absurd rfl (hl ts p)
  | _ => rfl
theorem store_fold {tg e : Expr} (h : foldT e = true) (hl : ∀ es p, tg ≠ .List es p) (env : PySem.Env) : swappedStores [tg] e env = pure none := by
  cases e with
  | Tuple vs k2 p2 =>
    have h : vs.all (foldedForSure 8) = true := h
    unfold swappedStores
    cases tg with
    | Tuple ts k p =>
      simp only [h]
      split
      · rfl
      · split
        · rfl
        · split
          · rfl
          · rfl
    | List ts p => exact absurd rfl (hl ts p)
    | _ => rfl
  | _ => exact nomatch h
theorem asg1 {tg : Expr} (h : notStar tg = true) (env : PySem.Env) : (assignEach [tg] env).map (·.2) = [assign tg env] := by
  cases tg <;> first | rfl | (exact absurd h (by simp [notStar]))
theorem mtT_nl {N : List Str} {sc : Scope} {t : IE} {tg : Expr} (h : mtT N t sc tg = true) : ∀ es p, tg ≠ .List es p := by
  intro es p e
  subst e
  cases t <;> first | exact nomatch h

section
variable {G : List D} {C : Calls} {GN TN : List Str}
structure SnS (G : List D) (C : Calls) (GN TN : List Str) (s : IS) : Prop where
  one : ∀ {X : Cx} {N : List Str} {sc : Scope} {a : Stmt}, Gd X N sc → Fx G C GN TN X → X.xe = (fun _ _ => False) → mtS GN TN N s sc a = true → PS X a (liftS X.K (wS G C s))
  all : ∀ {X : Cx} {N : List Str} {sc : Scope} {a : List Stmt}, Gd X N sc → Fx G C GN TN X → X.xe = (fun _ _ => False) → mtSs GN TN N s sc a = true → PSs X a (liftS X.K (wS G C s))

theorem lk_local {X : Cx} {N : List Str} {sc : Scope} {x : Str} (g : Gd X N sc) (h : sc.names.lookup x = some .local) : X.env.scope.names.lookup x = some .local := by
  rcases g.lk _ _ h with q | ⟨q, _⟩
  · exact q
  · cases q
theorem swap2 {env : PySem.Env} {x y : Str} {px py pt pt2 : Pos} {k k2 : Nat} {a b : Expr} (hk : env.scope.kind = .function) (hx : env.scope.names.lookup x = some .local) (hy : env.scope.names.lookup y = some .local)
    (ha : notStar a = true) (hb : notStar b = true) (hl : (py.line == px.line) = true) (hf : [a, b].all (foldedForSure 8) = false) (hc : [a, b].all (constantsAlone 8) = false) (ne : x ≠ y) : swappedStores [.Tuple [.Name x px, .Name y py] k pt] (.Tuple [a, b] k2 pt2) env = pure (some [x, y]) := by
  have kx : env.kindOf x = some .local := hx
  have ky : env.kindOf y = some .local := hy
  have hbk : env.blockKind = .function := by unfold Env.blockKind; rw [hk]; rfl
  have hl' : py.line = px.line := by simpa using hl
  have hd : [x, y].eraseDups.length = 2 := by
    have : (y == x) = false := beq_eq_false_iff_ne.mpr fun z => ne z.symm
    simp [List.eraseDups_cons, this]
  unfold swappedStores
  simp only [hbk]
  split
  · rename_i h; simp at h
  · split
    · rename_i h
      exfalso
      rw [List.any_cons, List.any_cons, List.any_nil, Bool.or_false, Bool.or_eq_true] at h
      rcases h with h | h
      · cases a <;> first | exact Bool.noConfusion h | exact Bool.noConfusion ha
      · cases b <;> first | exact Bool.noConfusion h | exact Bool.noConfusion hb
    · simp only [hf, hc]
      simp [kx, ky, hd, hl', Expr.pos]
theorem swap3 {env : PySem.Env} {x y z : Str} {px py pz pt pt2 : Pos} {k k2 : Nat} {a b c : Expr} (hk : env.scope.kind = .function) (hx : env.scope.names.lookup x = some .local) (hy : env.scope.names.lookup y = some .local) (hz : env.scope.names.lookup z = some .local)
    (ha : notStar a = true) (hb : notStar b = true) (hcc : notStar c = true) (hl : (py.line == px.line) = true) (hl2 : (pz.line == px.line) = true) (hf : [a, b, c].all (foldedForSure 8) = false) (hc : [a, b, c].all (constantsAlone 8) = false) (ne : x ≠ y) (ne2 : x ≠ z) (ne3 : y ≠ z) :
    swappedStores [.Tuple [.Name x px, .Name y py, .Name z pz] k pt] (.Tuple [a, b, c] k2 pt2) env = pure (some [x, y, z]) := by
  have kx : env.kindOf x = some .local := hx
  have ky : env.kindOf y = some .local := hy
  have kz : env.kindOf z = some .local := hz
  have hbk : env.blockKind = .function := by unfold Env.blockKind; rw [hk]; rfl
  have hl' : py.line = px.line := by simpa using hl
  have hl2' : pz.line = px.line := by simpa using hl2
  have hd : [x, y, z].eraseDups.length = 3 := by
    have h1 : (y == x) = false := beq_eq_false_iff_ne.mpr fun q => ne q.symm
    have h2 : (z == x) = false := beq_eq_false_iff_ne.mpr fun q => ne2 q.symm
    have h3 : (z == y) = false := beq_eq_false_iff_ne.mpr fun q => ne3 q.symm
    simp [List.eraseDups_cons, h1, h2, h3]
  unfold swappedStores
  simp only [hbk]
  split
  · rename_i h; simp at h
  · split
    · rename_i h
      exfalso
      rw [List.any_cons, List.any_cons, List.any_cons, List.any_nil, Bool.or_false, Bool.or_eq_true, Bool.or_eq_true] at h
      rcases h with h | h | h
      · cases a <;> first | exact Bool.noConfusion h | exact Bool.noConfusion ha
      · cases b <;> first | exact Bool.noConfusion h | exact Bool.noConfusion hb
      · cases c <;> first | exact Bool.noConfusion h | exact Bool.noConfusion hcc
    · simp only [hf, hc]
      simp [kx, ky, kz, hd, hl', hl2', Expr.pos]
end
end Rf

/-! Part L: every statement -/
namespace Rf
open PySem PySem.Spec PyProof.Rows L2

section
variable {G : List D} {C : Calls} {GN TN : List Str}
theorem SnS.of1 {s : IS} (h : ∀ {X : Cx} {N : List Str} {sc : Scope} {a : Stmt}, Gd X N sc → Fx G C GN TN X → X.xe = (fun _ _ => False) → mtS GN TN N s sc a = true → PS X a (liftS X.K (wS G C s)))
    (h2 : ∀ N sc ss, mtSs GN TN N s sc ss = false) : SnS G C GN TN s := ⟨h, fun _ _ _ m => by rw [h2] at m; cases m⟩
theorem isLc_inv {N : List Str} {sc : Scope} {tg e : Expr} {l : Nat} (h : isLc N sc tg e l = true) : ∃ y py el gs scope pos, tg = .Name y py ∧ e = .ListComp el gs scope pos ∧ sc.names.lookup y = some .local ∧ (py.line == pos.line) = true ∧
    (scope.names.any fun (n, k) => n == y && (k == .local || k == .cell)) = false := by
  unfold isLc at h
  split at h
  · rename_i y py el gs scope pos
    simp only [Bool.and_eq_true, decide_eq_true_eq] at h
    exact ⟨y, py, el, gs, scope, pos, rfl, rfl, h.1.1, h.1.2, by simpa using h.2⟩
  · cases h
theorem isCc_inv {sc : Scope} {tg : Expr} (h : isCc sc tg = true) : ∃ y py, tg = .Name y py ∧ sc.names.lookup y = some .cell := by
  unfold isCc at h
  split at h
  · exact ⟨_, _, rfl, of_decide_eq_true h⟩
  · cases h
theorem sw_cell {X : Cx} {N : List Str} {sc : Scope} {y : Str} {py : Pos} {e : Expr} {l : Nat} (g : Gd X N sc) (h : sc.names.lookup y = some .cell) : swapsWithSole [.Name y py] e l X.env = pure false := by
  have hl : X.env.scope.names.lookup y = some .cell := by
    rcases g.lk _ _ h with q | ⟨q, _⟩
    · exact q
    · cases q
  have ky : X.env.kindOf y = some .cell := hl
  show swapsWith e (some (.Name y py)) l X.env = pure false
  unfold swapsWith
  have hc : (some NameKind.cell == some NameKind.local) = false := rfl
  cases e <;> first | rfl | (simp only [ky, hc, Bool.and_false, Bool.false_and])
theorem sns_asg (t a : IE) : SnS G C GN TN (.asg t a) := by
  refine .of1 (fun {X N sc s} g f hx m => ?_) fun _ _ _ => rfl
  unfold mtS at m
  split at m
  · rename_i tg e pos
    simp only [Bool.and_eq_true] at m
    obtain ⟨⟨⟨m1, m2⟩, m3⟩, m4⟩ := m
    have he := ((snd_all (G := G) (C := C) (GN := GN) (TN := TN) a).pe g f m2).1
    have hg := (tgt_ok g t).1 tg m1
    have key : ∀ te, (∀ σ H Q, liftE X.K (wE G C a X0) σ H Q → te σ H Q) → ∀ D σ H, liftS X.K (wS G C (.asg t a)) D σ H → tAsg te (gOf X.K t) D σ H := by
      intro te hte D σ H ⟨ρ, env, st, Kn, en, o, w, hX, l⟩
      refine hte _ _ _ ⟨ρ, env, st, _, en, o, by rw [← hX]; exact w, fun d st1 ρ1 H1 v1 w1 g1 o1 r1 => ?_⟩
      exact (tgt_go t).1 d v1 env σ _ _ w1 (en.mono g1) r1 fun env' σ' w' e' _ => l.nx env' st1 ρ1 σ' H1 w' g1 e' o1
    rw [Bool.or_eq_true] at m3
    rcases m3 with m3 | m3
    · rw [Bool.and_eq_true, Bool.or_eq_true, Bool.or_eq_true] at m3
      have hsw : swappedStores [tg] e X.env = pure none := by
        rcases m3.2 with z | z
        · exact store_no z (mtT_nl m1) _
        · exact store_fold z (mtT_nl m1) _
      exact (ps_asg he hg (sws_no m3.1 _ _) hsw (asg1 m4 _)).weak (key _ fun _ _ _ h => h)
    · rw [Bool.and_eq_true, Bool.or_eq_true] at m3
      rcases m3.2 with m32 | m32
      rotate_left
      · obtain ⟨y, py, rfl, q1⟩ := isCc_inv m32
        exact (ps_asg he hg (sw_cell g q1) (store_no (.inl rfl) (mtT_nl m1) _) (asg1 m4 _)).weak (key _ fun _ _ _ h => h)
      obtain ⟨y, py, el, gs, scope, lpos, rfl, rfl, q1, q2, q3⟩ := isLc_inv m32
      cases a with
      | comp vs t' it ifs elt =>
        obtain ⟨tg, iter, fs, wi, tgo, tt, te, own, rfl, p1, p2, p3, p4, p5, p6, p7⟩ := comp_parts (snd_all it) (snd_all ifs) (snd_all elt) g f m2
        cases t with
        | tn i =>
          have m1 : (locB sc y && decide (N[i]? = some y)) = true := m1
          rw [Bool.and_eq_true, decide_eq_true_eq] at m1
          have hl := lk_local g q1
          exact (ps_setLc g.calm (by rw [g.n]; exact g.nd) (by rw [g.n]; exact m1.2) hl (sw_true g.kind hl q2 q3) p1 p2 p3 p4 p5 p6).weak (key _ p7)
        | _ => exact nomatch m1
      | _ => exact nomatch m3.1
  · cases m
theorem assign_each2 (es : List Expr) (k : Nat) (p : Pos) (env : PySem.Env) : (assignEach [.Tuple es k p] env).map (·.2) = [assign (.Tuple es k p) env] := rfl
theorem sns_asl (ts a : IE) : SnS G C GN TN (.asl ts a) := by
  refine .of1 (fun {X N sc s} g f hx m => ?_) fun _ _ _ => rfl
  unfold mtS at m
  split at m
  · rename_i es k tpos e pos
    simp only [Bool.and_eq_true] at m
    obtain ⟨⟨⟨m1, m2⟩, m3⟩, m4⟩ := m
    have he := ((snd_all (G := G) (C := C) (GN := GN) (TN := TN) a).pe g f m2).1
    have hs := mtTs_star m1
    have hg := pg_unl (k := k) (pos := tpos) (n := es.length) g.calm ((tgt_ok g ts).2 _ m1) (assignEach_len _ _) (assignEach_star _ _ hs)
    refine (ps_asg he hg (sws_no m3 _ _) (store_no (.inr m4) (by intro _ _ z; cases z) _) (assign_each2 _ _ _ _)).weak fun D σ H ⟨ρ, env, st, Kn, en, o, w, hX, l⟩ => ?_
    refine ⟨ρ, env, st, _, en, o, by rw [← hX]; exact w, fun d st1 ρ1 H1 v1 w1 g1 o1 r1 => ?_⟩
    obtain ⟨xs, h1, h2, h3⟩ := w1
    have fin : ∀ (a : Addr) (vs : List V), SqL X.K H1 a vs → Rels X.K ρ1 H1 xs vs → gUnl X.K es.length (gsOf X.K ts) (.ref a) σ H1 _ := fun a vs hq t => by
      obtain ⟨q1, q2⟩ := (tgt_go ts).2 xs vs env σ _ _ h3 (en.mono g1) t fun env' σ' w' e' _ => l.nx env' st1 ρ1 σ' H1 w' g1 e' o1
      exact ⟨a, vs, rfl, hq, q2.trans (mtTs_len m1).symm, q1⟩
    cases d with
    | tup ys => exact absurd rfl (h2 ys)
    | fro ys =>
      obtain ⟨a, vs, rfl, q, t⟩ := r1.fro_inv
      cases h1
      exact fin a vs q.seq t
    | obj n =>
      obtain ⟨a, rfl, ha⟩ := r1.obj_inv
      obtain ⟨vs, e1, t⟩ := o1.lst h1 ha
      exact fin a vs (.of e1) t
    | non => exact h1.elim
    | bl _ => exact h1.elim
    | int _ => exact h1.elim
    | str _ => exact h1.elim
  · cases m
theorem sns_par2 (i j : Nat) (a b : IE) : SnS G C GN TN (.par2 i j a b) := by
  refine .of1 (fun {X N sc s} g f hx m => ?_) fun _ _ _ => rfl
  unfold mtS at m
  split at m
  · rename_i x px y py _ _ e1 e2 _ _ _
    simp only [Bool.and_eq_true, decide_eq_true_eq, Bool.not_eq_true'] at m
    obtain ⟨⟨⟨⟨⟨⟨⟨⟨⟨⟨⟨⟨m1, m2⟩, m3⟩, m4⟩, m5⟩, m6⟩, m7⟩, m8⟩, m9⟩, m10⟩, m11⟩, m12⟩, m13⟩ := m
    have h1 := ((snd_all (G := G) (C := C) (GN := GN) (TN := TN) a).pe g f m12).1
    have h2 := ((snd_all (G := G) (C := C) (GN := GN) (TN := TN) b).pe g f m13).1
    refine (ps_par g.calm (by rw [g.n]; exact g.nd) (by rw [g.n]; exact m1) (by rw [g.n]; exact m2) m3 (lk_local g m5) (lk_local g m6) (pa_cons h1 (pa_cons h2 pa_nil (starEach_cons _ m11)) (starEach_cons _ m10))
      (swap2 g.kind (lk_local g m5) (lk_local g m6) m10 m11 m7 m8 m9 m4)).weak fun D σ H ⟨ρ, env, st, Kn, en, o, w, hX, l⟩ => ?_
    refine ⟨ρ, env, st, _, en, o, by rw [← hX]; exact w, fun d st1 ρ1 H1 v1 w1 g1 o1 r1 => ⟨ρ1, env, st1, _, en.mono g1, o1, by rw [← hX]; exact w1, fun d2 st2 ρ2 H2 v2 w2 g2 o2 r2 => ?_⟩⟩
    exact ⟨v1, v2, rfl, l.nx _ st2 ρ2 _ H2 w2 (g1.trans g2) (((en.mono (g1.trans g2)).set (r1.mono g2) i).set r2 j) o2⟩
  · cases m
theorem sns_par3 (i j k : Nat) (a b c : IE) : SnS G C GN TN (.par3 i j k a b c) := by
  refine .of1 (fun {X N sc s} g f hx m => ?_) fun _ _ _ => rfl
  unfold mtS at m
  split at m
  · simp only [Bool.and_eq_true, decide_eq_true_eq, Bool.not_eq_true'] at m
    obtain ⟨⟨⟨⟨⟨⟨⟨⟨⟨⟨⟨⟨⟨⟨⟨⟨⟨⟨⟨⟨⟨m1, m2⟩, m3⟩, m4⟩, m5⟩, m6⟩, m7⟩, m8⟩, m9⟩, m10⟩, m11⟩, m12⟩, m13⟩, m14⟩, m15⟩, m16⟩, m17⟩, m18⟩, m19⟩, m20⟩, m21⟩, m22⟩ := m
    have h1 := ((snd_all (G := G) (C := C) (GN := GN) (TN := TN) a).pe g f m20).1
    have h2 := ((snd_all (G := G) (C := C) (GN := GN) (TN := TN) b).pe g f m21).1
    have h3 := ((snd_all (G := G) (C := C) (GN := GN) (TN := TN) c).pe g f m22).1
    refine (ps_par3 g.calm (by rw [g.n]; exact g.nd) (by rw [g.n]; exact m1) (by rw [g.n]; exact m2) (by rw [g.n]; exact m3) m4 m5 m6 (lk_local g m10) (lk_local g m11) (lk_local g m12)
      (pa_cons h1 (pa_cons h2 (pa_cons h3 pa_nil (starEach_cons _ m19)) (starEach_cons _ m18)) (starEach_cons _ m17))
      (swap3 g.kind (lk_local g m10) (lk_local g m11) (lk_local g m12) m17 m18 m19 m13 m14 m15 m16 m7 m8 m9)).weak fun D σ H ⟨ρ, env, st, Kn, en, o, w, hX, l⟩ => ?_
    refine ⟨ρ, env, st, _, en, o, by rw [← hX]; exact w, fun d st1 ρ1 H1 v1 w1 g1 o1 r1 => ⟨ρ1, env, st1, _, en.mono g1, o1, by rw [← hX]; exact w1, fun d2 st2 ρ2 H2 v2 w2 g2 o2 r2 =>
      ⟨ρ2, env, st2, _, en.mono (g1.trans g2), o2, by rw [← hX]; exact w2, fun d3 st3 ρ3 H3 v3 w3 g3 o3 r3 => ?_⟩⟩⟩
    exact ⟨v1, v2, v3, rfl, l.nx _ st3 ρ3 _ H3 w3 (g1.trans (g2.trans g3)) ((((en.mono (g1.trans (g2.trans g3))).set (r1.mono (g2.trans g3)) i).set (r2.mono g3) j).set r3 k) o3⟩
  · cases m
theorem sns_sto (ob i a : IE) : SnS G C GN TN (.sto ob i a) := by
  refine .of1 (fun {X N sc s} g f hx m => ?_) fun _ _ _ => rfl
  unfold mtS at m
  split at m
  · rename_i x y sp e pos
    rw [Bool.and_eq_true, Bool.and_eq_true, Bool.and_eq_true] at m
    obtain ⟨⟨⟨m1, m2⟩, m3⟩, m4⟩ := m
    have h1 := ((snd_all (G := G) (C := C) (GN := GN) (TN := TN) ob).pe g f m1).1
    have h2 := ((snd_all (G := G) (C := C) (GN := GN) (TN := TN) i).pe g f m2).1
    have h3 := ((snd_all (G := G) (C := C) (GN := GN) (TN := TN) a).pe g f m3).1
    have hsw : swapsWithSole [.Subscript x y sp] e pos.line X.env = pure false := by cases e <;> rfl
    refine (ps_asg h3 (pg_sub h1 h2 (opSet_ok f.hu) (fun v => by cases y <;> first | rfl | exact nomatch m4)) hsw rfl rfl).weak fun D σ H ⟨ρ, env, st, Kn, en, o, w, hX, l⟩ => ?_
    refine ⟨ρ, env, st, _, en, o, by rw [← hX]; exact w, fun d st1 ρ1 H1 v1 w1 g1 o1 r1 => ⟨ρ1, env, st1, _, en.mono g1, o1, by rw [← hX]; exact w1, fun d2 st2 ρ2 H2 v2 w2 g2 o2 r2 =>
      ⟨ρ2, env, st2, _, en.mono (g1.trans g2), o2, by rw [← hX]; exact w2, fun d3 st3 ρ3 H3 v3 w3 g3 o3 r3 => ?_⟩⟩⟩
    exact ⟨ρ3, st3, _, _, _, _, o3, r2.mono g3, r3, r1.mono (g2.trans g3), w3, fun st4 ρ4 H4 w4 g4 o4 => l.nx env st4 ρ4 σ H4 w4 (g1.trans (g2.trans (g3.trans g4))) (en.mono (g1.trans (g2.trans (g3.trans g4)))) o4⟩
  · cases m
theorem sns_expr (a : IE) : SnS G C GN TN (.expr a) := by
  refine .of1 (fun {X N sc s} g f hx m => ?_) fun _ _ _ => rfl
  unfold mtS at m
  split at m
  · rw [Bool.and_eq_true] at m
    have h1 := ((snd_all (G := G) (C := C) (GN := GN) (TN := TN) a).pe g f m.1).1
    refine (ps_expr h1 (sw_no m.2 _ _ _)).weak fun D σ H ⟨ρ, env, st, Kn, en, o, w, hX, l⟩ => ?_
    exact ⟨ρ, env, st, _, en, o, by rw [← hX]; exact w, fun d st1 ρ1 H1 v1 w1 g1 o1 r1 => l.nx env st1 ρ1 σ H1 w1 g1 (en.mono g1) o1⟩
  · cases m
theorem sns_ret (a : IE) : SnS G C GN TN (.ret a) := by
  refine .of1 (fun {X N sc s} g f hx m => ?_) fun _ _ _ => rfl
  unfold mtS at m
  split at m
  · have h1 := ((snd_all (G := G) (C := C) (GN := GN) (TN := TN) a).pe g f m).1
    refine (ps_ret h1).weak fun D σ H ⟨ρ, env, st, Kn, en, o, w, hX, l⟩ => ?_
    exact ⟨ρ, env, st, _, en, o, by rw [← hX]; exact w, l.rt⟩
  · cases m
theorem sns_retn : SnS G C GN TN .retn := by
  refine .of1 (fun {X N sc s} g f hx m => ?_) fun _ _ _ => rfl
  unfold mtS at m
  split at m
  · exact ps_retN.weak fun D σ H ⟨ρ, env, st, Kn, en, o, w, hX, l⟩ => l.rt.same o .non w
  · cases m
theorem sns_brk : SnS G C GN TN .brk := by
  refine .of1 (fun {X N sc s} g f hx m => ?_) fun _ _ _ => rfl
  unfold mtS at m
  split at m
  · exact ps_break.weak fun D σ H ⟨ρ, env, st, Kn, en, o, w, hX, l⟩ => l.bk env st ρ σ H w .refl en o
  · cases m
theorem sns_cont : SnS G C GN TN .cont := by
  refine .of1 (fun {X N sc s} g f hx m => ?_) fun _ _ _ => rfl
  unfold mtS at m
  split at m
  · exact ps_continue.weak fun D σ H ⟨ρ, env, st, Kn, en, o, w, hX, l⟩ => l.ct env st ρ σ H w .refl en o
  · cases m
theorem sns_skip : SnS G C GN TN .skip := by
  refine ⟨fun {X N sc s} g f hx m => ?_, fun {X N sc ss} g f hx m => ?_⟩
  · unfold mtS at m
    split at m
    · exact ps_pass.weak fun D σ H ⟨ρ, env, st, Kn, en, o, w, hX, l⟩ => l.nx env st ρ σ H w .refl en o
    · cases m
  · have m : ss.isEmpty = true := m
    rw [List.isEmpty_iff.mp m]
    exact pss_nil.weak fun D σ H ⟨ρ, env, st, Kn, en, o, w, hX, l⟩ => l.nx env st ρ σ H w .refl en o
theorem sns_seq {a r : IS} (iha : SnS G C GN TN a) (ihr : SnS G C GN TN r) : SnS G C GN TN (.seq a r) := by
  refine ⟨fun _ _ _ m => (nomatch m), fun {X N sc ss} g f hx m => ?_⟩
  cases ss with
  | nil => exact nomatch m
  | cons s ss =>
    have m : (mtS GN TN N a sc s && mtSs GN TN N r sc ss) = true := m
    rw [Bool.and_eq_true] at m
    refine (pss_cons (iha.one g f hx m.1) (ihr.all g f hx m.2)).weak fun D σ H ⟨ρ, env, st, Kn, en, o, w, hX, l⟩ => ?_
    refine ⟨ρ, env, st, _, en, o, w, hX, ⟨fun env' st' ρ' σ' H' w' g' e' o' => ?_, l.bk, l.ct, l.rt⟩⟩
    exact ⟨ρ', env', st', Kn, e', o', w', hX, l.up g'⟩
theorem sns_ite (c : IE) {a b : IS} (iha : SnS G C GN TN a) (ihb : SnS G C GN TN b) : SnS G C GN TN (.ite c a b) := by
  refine .of1 (fun {X N sc s} g f hx m => ?_) fun _ _ _ => rfl
  unfold mtS at m
  split at m
  · rw [Bool.and_eq_true, Bool.and_eq_true] at m
    obtain ⟨⟨m1, m2⟩, m3⟩ := m
    have h1 := ((snd_all (G := G) (C := C) (GN := GN) (TN := TN) c).pe g f m1).2
    refine (ps_if h1 (iha.all g f hx m2) (ihb.all g f hx m3)).weak fun D σ H ⟨ρ, env, st, Kn, en, o, w, hX, l⟩ => ?_
    refine ⟨ρ, env, st, _, en, o, by rw [← hX]; exact w, fun d st1 w1 => ?_⟩
    obtain ⟨k, rfl, k1, k2⟩ := w1
    refine ⟨k, rfl, fun ρ1 H1 g1 o1 => ?_⟩
    cases k with
    | true => rw [if_pos rfl]; exact ⟨ρ1, env, st1, Kn, en.mono g1, o1, k1 rfl, hX, l.up g1⟩
    | false => rw [if_neg Bool.false_ne_true]; exact ⟨ρ1, env, st1, Kn, en.mono g1, o1, k2 rfl, hX, l.up g1⟩
  · cases m
theorem never_of {X : Cx} (hx : X.xe = (fun _ _ => False)) : PassesOwn (model X.prog X.w) X.A X.env X.xe := by rw [hx]; exact PassesOwn.never
theorem sns_for (t it : IE) {b : IS} (ih : SnS G C GN TN b) : SnS G C GN TN (.forr t it b) := by
  refine .of1 (fun {X N sc s} g f hx m => ?_) fun _ _ _ => rfl
  unfold mtS at m
  split at m
  · simp only [Bool.and_eq_true] at m
    obtain ⟨⟨⟨m1, m2⟩, m3⟩, m4⟩ := m
    have hi := (snd_all (G := G) (C := C) (GN := GN) (TN := TN) it).it g f m2
    refine (ps_for (never_of hx) g.calm hi ((tgt_ok g t).1 _ m1) (ih.all g f hx m4) (fun x => fold_ok m3 _ x)).weak fun D σ H ⟨ρ, env, st, Kn, en, o, w, hX, l⟩ => ?_
    change wI G C it Kn.ex env st _ at w
    rw [hX] at w
    refine ⟨ρ, env, st, _, en, o, w, fun J st1 ρ1 H1 Jt ⟨W, w0, wi⟩ g1 o1 hJ => ?_⟩
    refine ⟨fun i m σ' H' => ∃ ρ' env' st', Gr ρ1 ρ' H1 H' ∧ EnvOk X.K ρ' H' env' σ' ∧ Ok X.K ρ' H' st' ∧ W i env' st' ∧ m = J.xs.length - i, ⟨_, ρ1, env, st1, .refl, en.mono g1, o1, w0, rfl⟩, ?_⟩
    rintro i m σ2 H2 ⟨ρ2, env2, st2, g2, e2, o2, w2, rfl⟩
    obtain ⟨still, hend, hturn⟩ := wi i env2 st2 w2
    obtain ⟨hgo, hstop⟩ := hJ i ρ2 H2 st2 g2 o2 still
    by_cases hi : i < J.xs.length
    · refine .inr ?_
      have hx' : J.xs[i]? = some J.xs[i] := List.getElem?_eq_getElem hi
      obtain ⟨go, hy⟩ := hgo _ hx'
      refine ⟨go, fun σ' H' => ∃ ρ' env' st', Gr ρ1 ρ' H1 H' ∧ EnvOk X.K ρ' H' env' σ' ∧ Ok X.K ρ' H' st' ∧ W (i + 1) env' st', fun σ' H' ⟨ρ', env', st', g', e', o', w'⟩ => ⟨J.xs.length - (i + 1), by omega, ρ', env', st', g', e', o', w', rfl⟩, fun x' H3 yl => ?_⟩
      obtain ⟨g3, o3, r3⟩ := hy x' H3 yl
      refine (tgt_go t).1 _ x' _ _ _ _ (hturn _ hx') (e2.mono g3) r3 fun env3 σ3 w3 e3 _ => ?_
      have gg := g2.trans g3
      refine ⟨ρ2, env3, st2, _, e3, o3, w3, rfl, ⟨fun env4 st4 ρ4 σ4 H4 w4 g4 e4 o4 => ?_, fun env4 st4 ρ4 σ4 H4 w4 g4 e4 o4 => ?_, fun env4 st4 ρ4 σ4 H4 w4 g4 e4 o4 => ?_, l.rt.up (g1.trans gg)⟩⟩
      · exact ⟨ρ4, env4, st4, gg.trans g4, e4, o4, w4⟩
      · exact l.nx env4 st4 ρ4 σ4 H4 w4 (g1.trans (gg.trans g4)) e4 o4
      · exact ⟨ρ4, env4, st4, gg.trans g4, e4, o4, w4⟩
    · have hi : J.xs.length ≤ i := Nat.le_of_not_lt hi
      exact .inl ⟨hstop hi, l.nx env2 st2 ρ2 σ2 H2 (hend hi) (g1.trans g2) e2 o2⟩
  · cases m
theorem sns_whl (c : IE) {b : IS} (ih : SnS G C GN TN b) : SnS G C GN TN (.whl c b) := by
  refine .of1 (fun {X N sc s} g f hx m => ?_) fun _ _ _ => rfl
  unfold mtS at m
  split at m
  · rw [Bool.and_eq_true] at m
    have h1 := ((snd_all (G := G) (C := C) (GN := GN) (TN := TN) c).pe g f m.1).2
    refine (ps_while (never_of hx) h1 (ih.all g f hx m.2)).weak fun D σ H ⟨ρ, env, st, Kn, en, o, w, hX, l⟩ => ?_
    obtain ⟨W, ⟨m0, w0⟩, wi⟩ := w
    refine ⟨fun m σ' H' => ∃ ρ' env' st', Gr ρ ρ' H H' ∧ EnvOk X.K ρ' H' env' σ' ∧ Ok X.K ρ' H' st' ∧ W m env' st', ⟨m0, ρ, env, st, .refl, en, o, w0⟩, ?_⟩
    rintro m σ1 H1 ⟨ρ1, env1, st1, g1, e1, o1, w1⟩
    refine ⟨ρ1, env1, st1, _, e1, o1, by rw [← hX]; exact wi m env1 st1 w1, fun d st2 w2 => ?_⟩
    obtain ⟨k, rfl, k1, k2⟩ := w2
    refine ⟨k, rfl, fun ρ2 H2 g2 o2 => ?_⟩
    cases k with
    | true =>
      rw [if_pos rfl]
      obtain ⟨Nn, hN, w3⟩ := k1 rfl
      refine ⟨fun σ' H' => ∃ ρ' env' st', Gr ρ ρ' H H' ∧ EnvOk X.K ρ' H' env' σ' ∧ Ok X.K ρ' H' st' ∧ Nn env' st', fun σ' H' ⟨ρ', env', st', g', e', o', n'⟩ => ?_, ?_⟩
      · obtain ⟨m', hm, w'⟩ := hN env' st' n'
        exact ⟨m', hm, ρ', env', st', g', e', o', w'⟩
      · have gg := g1.trans g2
        refine ⟨ρ2, env1, st2, _, e1.mono g2, o2, w3, hX, ⟨fun env4 st4 ρ4 σ4 H4 w4 g4 e4 o4 => ?_, fun env4 st4 ρ4 σ4 H4 w4 g4 e4 o4 => ?_, fun env4 st4 ρ4 σ4 H4 w4 g4 e4 o4 => ?_, l.rt.up gg⟩⟩
        · exact ⟨ρ4, env4, st4, gg.trans g4, e4, o4, w4⟩
        · exact l.nx env4 st4 ρ4 σ4 H4 w4 (gg.trans g4) e4 o4
        · exact ⟨ρ4, env4, st4, gg.trans g4, e4, o4, w4⟩
    | false =>
      rw [if_neg Bool.false_ne_true]
      exact l.nx env1 st2 ρ2 σ1 H2 (k2 rfl) (g1.trans g2) (e1.mono g2) o2
  · cases m
theorem sns_all (s : IS) : SnS G C GN TN s := by
  induction s with
  | skip => exact sns_skip
  | seq a r iha ihr => exact sns_seq iha ihr
  | asg t e => exact sns_asg t e
  | asl ts e => exact sns_asl ts e
  | par2 i j a b => exact sns_par2 i j a b
  | par3 i j l a b c => exact sns_par3 i j l a b c
  | sto o i e => exact sns_sto o i e
  | expr e => exact sns_expr e
  | ret e => exact sns_ret e
  | retn => exact sns_retn
  | ite c a b iha ihb => exact sns_ite c iha ihb
  | forr t it b ih => exact sns_for t it ih
  | whl c b ih => exact sns_whl c ih
  | brk => exact sns_brk
  | cont => exact sns_cont
end
end Rf

/-! Part M: defs, the program, the law's end -/
namespace Rf
open PySem PySem.Spec PyProof.Rows L2

/-- a def of the text fits its small form -/
def okFn (GN TN : List Str) (st : Stmt) (fn : Fn) : Bool :=
  (match (defScope st).kind with | .function => true | _ => false) && !(defScope st).isCoroutine && !(defScope st).isGenerator && decide fn.N.Nodup && decide (fn.np ≤ fn.N.length) &&
    ((fn.N.take fn.np).all fun x => locB (defScope st) x) && ((defScope st).names.all fun y => match y.2 with | .free => false | _ => true) && mtSs GN TN fn.N fn.body (defScope st) (defBody st)
theorem okFn_sc {GN TN : List Str} {st : Stmt} {fn : Fn} (h : okFn GN TN st fn = true) : FnScope fn.N (fn.N.take fn.np) (defScope st) ∧ fn.np ≤ fn.N.length ∧ mtSs GN TN fn.N fn.body (defScope st) (defBody st) = true := by
  unfold okFn at h
  simp only [Bool.and_eq_true, decide_eq_true_eq, Bool.not_eq_true', List.all_eq_true] at h
  obtain ⟨⟨⟨⟨⟨⟨⟨h1, h2⟩, h3⟩, h4⟩, h5⟩, h6⟩, h7⟩, h8⟩ := h
  refine ⟨⟨?_, h2, h3, h4, ?_, fun x hx => ?_, fun y hy e => ?_⟩, h5, h8⟩
  · split at h1
    · assumption
    · cases h1
  · rw [List.length_take, Nat.min_eq_left h5]
  · have := h6 x hx
    unfold locB at this
    split at this
    · rename_i e; exact .inl e
    · rename_i e; exact .inr e
    · cases this
  · have := h7 y hy
    rw [e] at this
    cases this

section
variable (K : PySem.W.Frag) (mg : Str → Option Value) (GN TN : List Str) (top : Nat → Stmt)
/-- where a def stands behind the top -/
structure FnAt (fn : Fn) : Prop where
  ex : ∃ fa fd, mg fn.name = some (.ref fa) ∧ Fun K fn.name fn.name (top fn.pos) fa fd
  ok : okFn GN TN (top fn.pos) fn = true
  bd : ∀ (kV doc pm : Value) (an : Option Addr) (cdv ct : Value) (us : List Value), us.length = fn.np →
    bindArgs (PySem.W.fnOf fn.name fn.name (defArgs (top fn.pos)) (defBody (top fn.pos)) (defScope (top fn.pos)) .none kV doc pm an cdv ct) ⟨us, []⟩ = pure ((fn.N.take fn.np).zip us)
/-- the module's facts -/
structure Pf (G : List D) (T : List Fn) : Prop where
  names : TN = T.map (·.name)
  at_ : ∀ fn ∈ T, FnAt K mg GN TN top fn
  gl : ∀ (i : Nat) (x : Str) (d : D), GN[i]? = some x → G[i]? = some d → ∃ u v, mg x = some u ∧ RelV v u ∧ ∀ ρ H, Rel K ρ H d v
  bt : ∀ b ∈ bNames, mg b = none
end

/-- the promise of a def: its body, by the small form -/
def spB (K : PySem.W.Frag) (G : List D) (T : List Fn) (k : Nat) (fn : Fn) : Sp := fun vs H Q _ => ∃ ρ st ds P, Ok K ρ H st ∧ Rels K ρ H ds vs ∧ ds.length = fn.np ∧
  wS G (wCall G T k) fn.body (startE fn.N.length ds) st (bodyEn st P X0) ∧ Lift K ρ H P Q

section
variable {P : Program} {w : World} {K : PySem.W.Frag} {mg : Str → Option Value} {base : Heap} {GN TN : List Str} {top : Nat → Stmt} {G : List D} {T : List Fn}
theorem start_ok {ρ : List Addr} {H : Hp} {N : List Str} {ds : List D} {vs : List V} (r : Rels K ρ H ds vs) : EnvOk K ρ H (startE N.length ds) (L2.start N vs) := by
  unfold startE L2.start
  refine ⟨by simp [r.len], fun i d e => ?_⟩
  by_cases h : i < ds.length
  · rw [List.getElem?_append_left (by simpa using h), List.getElem?_map] at e
    cases e1 : ds[i]? with
    | none => rw [e1] at e; cases e
    | some x =>
      rw [e1] at e
      cases e
      obtain ⟨v, e2, q⟩ := r.get e1
      refine ⟨v, ?_, q⟩
      rw [List.getElem?_append_left (by rw [List.length_map, ← r.len]; exact h), List.getElem?_map, e2]; rfl
  · have h' : (ds.map some).length ≤ i := by simpa using h
    rw [List.getElem?_append_right h', List.getElem?_replicate] at e
    split at e <;> cases e
theorem fn_step {k : Nat} (F : Pf K mg GN TN top G T) {fn : Fn} (hf : fn ∈ T) {fa : Addr} {fd : FuncData} (hF : Fun K fn.name fn.name (top fn.pos) fa fd)
    (hc : ∀ (f : Nat) (x : Str), TN[f]? = some x → ∃ fa fd ps j, mg x = some (.ref fa) ∧ PySem.W.keepIn K (.ref fa) = true ∧ j ≤ k ∧ ∀ m : Nat, ∃ dvs ds sp,
      FnG P w K mg base j fa fd ps sp ∧ Binds K fd ps ds ∧ Vals dvs ds ∧
      ∀ ρ H st args vs P Q, args.length = m → Ok K ρ H st → Rels K ρ H args vs → wCall G T k f args st P X0 → Lift K ρ H P Q → sp (vs ++ dvs) H Q E0) :
    FnG P w K mg base (k + 1) fa fd (fn.N.take fn.np) (spB K G T k fn) := by
  obtain ⟨S, hnp, hm⟩ := okFn_sc (F.at_ fn hf).ok
  refine g_def hF S (fun vs H Q E h => ?_) (fun cdv A outer s H vs Q E hr hgd h => ?_)
  · obtain ⟨ρ, st, ds, P, o, r, l, _⟩ := h
    rw [← r.len, l, List.length_take, Nat.min_eq_left hnp]
  · obtain ⟨ρ, st, ds, P', o, r, l, hw, hl⟩ := h
    have g : Gd (cxOf CX0 P w K mg base fn.N fn.name (defScope (top fn.pos)) fa cdv A outer s H E).nox fn.N (defScope (top fn.pos)) := ⟨rfl, S.nd, rfl, S.kind, fun x k e => .inl e, fun _ _ => rfl⟩
    have f : Fx G (wCall G T k) GN TN (cxOf CX0 P w K mg base fn.N fn.name (defScope (top fn.pos)) fa cdv A outer s H E).nox := by
      refine ⟨?_, hgd, F.bt, F.gl, fun f x hx => ?_⟩
      · have := hr.un
        show (A.deeper _).units + 65 < cLine
        omega
      · obtain ⟨fa', fd', ps, j, h1, h2, h3, h4⟩ := hc f x hx
        exact ⟨fa', fd', ps, j, h1, h2, hr.mono h3, h4⟩
    refine ⟨_, (sns_all (G := G) (C := wCall G T k) (GN := GN) (TN := TN) fn.body).all g f rfl hm, ?_⟩
    refine ⟨ρ, _, st, _, start_ok r, o, hw, rfl, ⟨fun env' st' ρ' σ' H' q g' e' o' => ?_, fun _ _ _ _ _ q => q.elim, fun _ _ _ _ _ q => q.elim, fun d st' ρ' H' v q g' o' r' => ?_⟩⟩
    · rcases q with q | q
      · exact hl _ _ ρ' H' _ q g' o' .non
      · obtain ⟨ρ2, st2, g2, o2, r2, q2⟩ := gc_ok o g' o' .non q
        exact hl _ _ ρ2 H' _ q2 g2 o2 r2
    · rcases q with q | q
      · exact hl _ _ ρ' H' _ q g' o' r'
      · obtain ⟨ρ2, st2, g2, o2, r2, q2⟩ := gc_ok o g' o' r' q
        exact hl _ _ ρ2 H' _ q2 g2 o2 r2
theorem sp_none {j : Nat} {fa : Addr} {fd : FuncData} {ps : List Str} : FnG P w K mg base j fa fd ps (fun _ _ _ _ => False) := ⟨fun _ _ _ _ h => h.elim, fun _ _ _ _ _ _ _ _ _ _ _ _ _ _ h => h.elim⟩
theorem name_at (F : Pf K mg GN TN top G T) {f : Nat} {x : Str} (h : TN[f]? = some x) : ∃ fn, T[f]? = some fn ∧ fn.name = x ∧ fn ∈ T := by
  rw [F.names, List.getElem?_map] at h
  cases e : T[f]? with
  | none => rw [e] at h; cases h
  | some fn => rw [e] at h; cases h; exact ⟨fn, rfl, rfl, List.mem_of_getElem? e⟩
theorem fn_ok (F : Pf K mg GN TN top G T) (hd : ∀ fn ∈ T, fn.dfl = []) : ∀ (k : Nat) (fn : Fn), fn ∈ T → ∀ fa fd, Fun K fn.name fn.name (top fn.pos) fa fd → FnG P w K mg base (k + 1) fa fd (fn.N.take fn.np) (spB K G T k fn) := by
  intro k
  induction k with
  | zero =>
    intro fn hf fa fd hF
    refine fn_step F hf hF fun f x hx => ?_
    obtain ⟨g, _, hn, hg⟩ := name_at F hx
    obtain ⟨fa', fd', h1, h2⟩ := (F.at_ g hg).ex
    have hb := h2.binds (ps := g.N.take g.np) fun kV doc pm an cdv ct us hl => (F.at_ g hg).bd kV doc pm an cdv ct us (by
      obtain ⟨_, hnp, _⟩ := okFn_sc (F.at_ g hg).ok
      rw [hl, List.length_take, Nat.min_eq_left hnp])
    exact ⟨fa', fd', g.N.take g.np, 0, by rw [← hn]; exact h1, h2.kp, Nat.le_refl _, fun m => ⟨[], [], fun _ _ _ _ => False, sp_none, hb, .nil, fun _ _ _ _ _ _ _ _ _ _ q => q.elim⟩⟩
  | succ k ih =>
    intro fn hf fa fd hF
    refine fn_step F hf hF fun f x hx => ?_
    obtain ⟨g, hg0, hn, hg⟩ := name_at F hx
    obtain ⟨fa', fd', h1, h2⟩ := (F.at_ g hg).ex
    have hb := h2.binds (ps := g.N.take g.np) fun kV doc pm an cdv ct us hl => (F.at_ g hg).bd kV doc pm an cdv ct us (by
      obtain ⟨_, hnp, _⟩ := okFn_sc (F.at_ g hg).ok
      rw [hl, List.length_take, Nat.min_eq_left hnp])
    refine ⟨fa', fd', g.N.take g.np, k + 1, by rw [← hn]; exact h1, h2.kp, Nat.le_refl _, fun m => ⟨[], [], _, ih g hg fa' fd' h2, hb, .nil, fun ρ H st args vs P Q _ o r q l => ?_⟩⟩
    obtain ⟨g', e1, e2, e3, e4⟩ := q
    rw [hg0] at e1; cases e1
    rw [hd g hg] at e3 e4
    rw [List.drop_nil, List.append_nil] at e3 e4
    rw [List.append_nil]
    exact ⟨ρ, st, args, P, o, r, e3, e4, l⟩

/-- the law's promise: it gives True -/
def spL (K : PySem.W.Frag) : Sp := fun vs H Q _ => ∃ (a : Addr) (ns : List Int), vs = [.ref a] ∧ SqL K H a (ns.map V.int) ∧ Only H ∧ ns.length ≤ 63 ∧ ∀ H', Q (.bl true) H'
theorem law_ok (F : Pf K mg GN TN top G T) (hd : ∀ fn ∈ T, fn.dfl = []) {k i : Nat} {fn : Fn} (hi : T[i]? = some fn) (hps : fn.N.take fn.np = ([("script" : Str)] : List Str)) {fa : Addr} {fd : FuncData} (hF : Fun K fn.name fn.name (top fn.pos) fa fd)
    (law : ∀ ns : List Int, ns.length ≤ 63 → wCall G T (k + 1) i [.fro (ns.map D.int)] [] (fun d _ => d = .bl true) X0) : FnG P w K mg base (k + 1) fa fd ["script"] (spL K) := by
  have h := fn_ok (P := P) (w := w) (base := base) F hd k fn (List.mem_of_getElem? hi) fa fd hF
  rw [hps] at h
  refine h.imp fun vs H Q E ⟨a, ns, e, hs, ho, hl, q⟩ => ?_
  subst e
  obtain ⟨g', e1, e2, e3, e4⟩ := law ns hl
  rw [hi] at e1; cases e1
  rw [hd fn (List.mem_of_getElem? hi)] at e3 e4
  rw [List.drop_nil, List.append_nil] at e3 e4
  have hf : FrL K H a (ns.map V.int) := by
    rcases hs with (hs | hs) | hs
    · rcases ho a with z | ⟨o, xs, z⟩
      · rw [hs] at z; cases z
      · rw [hs] at z; cases z
    · exact .inl hs
    · exact .inr hs
  refine ⟨[], [], _, _, ⟨rfl, List.nodup_nil, fun n o a e => by simp at e⟩, .cons ?_ .nil, e3, e4, fun d st' ρ' H' v p _ _ r => ?_⟩
  · have t := Rels.of_ints (K := K) (ρ := []) (H := H) ns
    exact .fro hf t.len t.at_
  · subst p
    cases r
    exact q H'
end
/-- the row's claim, from the law's run in the small language -/
theorem walk_ev {l : PySem.W.OpenLaw} {q : Program} {loose : List Str} {XP : (Str → Option Value) → Heap → Prop} {YP : World → Heap → Prop} {d : DefRec} {K : Params → PySem.W.Frag} {k : Nat} (hn : l.most = some 63) (hdf : d.params.defaults = []) (hr : Room (k + 1) callerA)
    (hY : ∀ (w : World) (h : Heap), YP w h → (K w.params).In h)
    (F : ∀ (w : World) (mg : Str → Option Value) (fa : Addr) (h : Heap), (K w.params).In h → h.Ns mainGlobals mg → mg d.name = some (.ref fa) →
      ∃ fd : FuncData, (∀ (s : Shared) (u : Value), BindsTo s fd ⟨[u], []⟩ [("script", u)]) ∧ ∀ base : Heap, (K w.params).In base → base.Ns mainGlobals mg → FnG l.prog w (K w.params) mg base (k + 1) fa fd ["script"] (spL (K w.params))) :
    PySem.W.WalkO q loose XP YP l.row.toRowW d [] (fun f vs => PySem.call f vs) :=
  g_walk (n := 63) (k := k + 1) (x := "script") (sp := fun K => spL K) hn (by decide) hdf hr hY F (fun _ _ a ns hl ho hS => ⟨a, ns, rfl, hS, ho, hl, fun _ => rfl⟩)
/-! ### constants of the module that are flat tuples -/
def dV : D → V
  | .int i => .int i
  | .str s => .str ⟨s.toArray⟩
  | .bl b => .bl b
  | _ => .non
def flatD : D → Bool
  | .int _ => true
  | .str _ => true
  | .bl _ => true
  | .non => true
  | _ => false
theorem gl_tup {K : PySem.W.Frag} {mg : Str → Option Value} {x : Str} {t : Addr} {o : Obj} {xs : List D} (hs : xs.all flatD = true) (e : mg x = some (.ref t)) (l : K.lookup t = some o)
    (h : TupO o ∧ ∃ (its : Array Value) (n : Nat), o.data = .seq its n ∧ its.size ≤ sizeLine ∧ Vals (xs.map dV) its.toList) : ∃ u v, mg x = some u ∧ RelV v u ∧ ∀ ρ H, Rel K ρ H (.tup xs) v := by
  obtain ⟨h1, its, n, h2, h3, h4⟩ := h
  refine ⟨.ref t, .ref t, e, rfl, fun ρ H => .tup (vs := xs.map dV) (.inr ⟨o, its, n, l, h1, h2, h3, h4⟩) (by simp) fun i d v e1 e2 => ?_⟩
  rw [List.getElem?_map, e1] at e2
  cases e2
  have := List.all_eq_true.mp hs d (List.mem_of_getElem? e1)
  cases d with
  | int i => exact .int i
  | str s => exact .str s
  | bl b => exact .bl b
  | non => exact .non
  | tup _ => cases this
  | fro _ => cases this
  | obj _ => cases this
end Rf

/-! Part P: words for proofs in the small language -/
namespace Rf
open PySem

theorem wCall_in {G : List D} {T : List Fn} {k f : Nat} {args : List D} {st : Sto} {Q : KD} {E : XD} {fn : Fn} (h : T[f]? = some fn) (hd : fn.dfl = []) (hl : args.length = fn.np)
    (w : wS G (wCall G T k) fn.body (startE fn.N.length args) st (bodyEn st Q E)) : wCall G T (k + 1) f args st Q E := by
  refine ⟨fn, h, Nat.le_of_eq hl, ?_, ?_⟩
  · rw [hd, List.drop_nil, List.append_nil]; exact hl
  · rw [hd, List.drop_nil, List.append_nil]; exact w

theorem atD_nat {α : Type} (xs : List α) (n : Nat) : atD xs (n : Int) = xs[n]? := by
  unfold atD ixD
  rw [if_pos (Int.natCast_nonneg n)]
  by_cases h : n < xs.length
  · rw [if_pos (by exact_mod_cast h)]; rfl
  · rw [if_neg (by exact_mod_cast h), List.getElem?_eq_none (Nat.le_of_not_lt h)]; rfl
theorem atD_int {α : Type} (xs : List α) {i : Int} (h : 0 ≤ i) : atD xs i = xs[i.toNat]? := by
  have := atD_nat xs i.toNat
  rw [Int.toNat_of_nonneg h] at this; exact this
theorem atD0 {α : Type} (xs : List α) : atD xs 0 = xs[0]? := atD_nat xs 0
theorem atD1 {α : Type} (xs : List α) : atD xs 1 = xs[1]? := atD_nat xs 1
theorem atD2 {α : Type} (xs : List α) : atD xs 2 = xs[2]? := atD_nat xs 2
theorem atD3 {α : Type} (xs : List α) : atD xs 3 = xs[3]? := atD_nat xs 3
theorem atD4 {α : Type} (xs : List α) : atD xs 4 = xs[4]? := atD_nat xs 4
theorem atD5 {α : Type} (xs : List α) : atD xs 5 = xs[5]? := atD_nat xs 5
theorem ixD_nat {n j : Nat} (h : j < n) : ixD n (j : Int) = some j := by
  unfold ixD
  rw [if_pos (Int.natCast_nonneg j), if_pos (by exact_mod_cast h)]; rfl
theorem ixD0 {n : Nat} (h : 0 < n) : ixD n 0 = some 0 := ixD_nat h
theorem ixD1 {n : Nat} (h : 1 < n) : ixD n 1 = some 1 := ixD_nat h
theorem ixD2 {n : Nat} (h : 2 < n) : ixD n 2 = some 2 := ixD_nat h
theorem ixD3 {n : Nat} (h : 3 < n) : ixD n 3 = some 3 := ixD_nat h
theorem ixD4 {n : Nat} (h : 4 < n) : ixD n 4 = some 4 := ixD_nat h
theorem ixD5 {n : Nat} (h : 5 < n) : ixD n 5 = some 5 := ixD_nat h
theorem ixD_int {n : Nat} {i : Int} (h0 : 0 ≤ i) (h : i < n) : ixD n i = some i.toNat := by
  unfold ixD
  rw [if_pos h0, if_pos h]


theorem wT_tn (i : Nat) (d : D) (env : Env) (K : Env → Prop) : wT (.tn i) d env K = K (env.set i (some d)) := rfl
theorem wT_tt (ts : IE) (xs : List D) (env : Env) (K : Env → Prop) : wT (.tt ts) (.tup xs) env K = wT.wTs ts xs env K := by
  apply propext
  constructor
  · rintro ⟨ys, e, h⟩; cases e; exact h
  · intro h; exact ⟨xs, rfl, h⟩
theorem wTs_nil (env : Env) (K : Env → Prop) : wT.wTs .nil [] env K = K env := by
  apply propext
  constructor
  · rintro ⟨_, h⟩; exact h
  · intro h; exact ⟨rfl, h⟩
theorem wTs_cons (t r : IE) (x : D) (xs : List D) (env : Env) (K : Env → Prop) : wT.wTs (.cons t r) (x :: xs) env K = wT t x env fun env' => wT.wTs r xs env' K := by
  apply propext
  constructor
  · rintro ⟨y, ys, e, h⟩; cases e; exact h
  · intro h; exact ⟨x, xs, rfl, h⟩
/-! ### the operations, each at its own kinds -/
section
variable {st : Sto} {K : KD}
theorem b_add (i j : Int) : opB .add (.int i) (.int j) st K = K (.int (i + j)) st := rfl
theorem b_sub (i j : Int) : opB .sub (.int i) (.int j) st K = K (.int (i - j)) st := rfl
theorem b_mul (i j : Int) : opB .mul (.int i) (.int j) st K = (CMulD i j ∧ K (.int (i * j)) st) := rfl
theorem b_fdiv (i j : Int) : opB .fdiv (.int i) (.int j) st K = ((0 < j ∧ j < 1073741824) ∧ K (.int (i / j)) st) := rfl
theorem b_mod (i j : Int) : opB .mod (.int i) (.int j) st K = (0 < j ∧ K (.int (i % j)) st) := rfl
theorem b_adds (a b : List Nat) : opB .add (.str a) (.str b) st K = (a.length + b.length ≤ 16777216 ∧ K (.str (a ++ b)) st) := rfl
theorem b_addt (a b : List D) : opB .add (.tup a) (.tup b) st K = (a.length + b.length ≤ 16777216 ∧ K (.tup (a ++ b)) st) := rfl
theorem b_addo (n m : Nat) : opB .add (.obj n) (.obj m) st K = (∃ xs ys, st[n]? = some (.lst xs) ∧ st[m]? = some (.lst ys) ∧ xs.length + ys.length ≤ 16777216 ∧ K (.obj st.length) (st ++ [.lst (xs ++ ys)])) := rfl
theorem b_muls (a : List Nat) (k : Int) : opB .mul (.str a) (.int k) st K = (-(2 ^ 63) ≤ k ∧ k < 2 ^ 63 ∧ a.length * k.toNat ≤ 16777216 ∧ K (.str (repD k.toNat a)) st) := rfl
theorem b_mulo (n : Nat) (k : Int) : opB .mul (.obj n) (.int k) st K = (∃ xs, st[n]? = some (.lst xs) ∧ -(2 ^ 63) ≤ k ∧ k < 2 ^ 63 ∧ xs.length * k.toNat ≤ 16777216 ∧ K (.obj st.length) (st ++ [.lst (repD k.toNat xs)])) := rfl
theorem c_eq (i j : Int) : opC .eq (.int i) (.int j) st K = K (.bl (decide (i = j))) st := rfl
theorem c_ne (i j : Int) : opC .ne (.int i) (.int j) st K = K (.bl (!decide (i = j))) st := rfl
theorem c_lt (i j : Int) : opC .lt (.int i) (.int j) st K = K (.bl (decide (i < j))) st := rfl
theorem c_le (i j : Int) : opC .le (.int i) (.int j) st K = K (.bl (decide (i ≤ j))) st := rfl
theorem c_gt (i j : Int) : opC .gt (.int i) (.int j) st K = K (.bl (decide (j < i))) st := rfl
theorem c_ge (i j : Int) : opC .ge (.int i) (.int j) st K = K (.bl (decide (j ≤ i))) st := rfl
theorem c_eqs (a b : List Nat) : opC .eq (.str a) (.str b) st K = K (.bl (decide (a = b))) st := rfl
theorem c_nes (a b : List Nat) : opC .ne (.str a) (.str b) st K = K (.bl (!decide (a = b))) st := rfl
theorem c_eqb (a b : Bool) : opC .eq (.bl a) (.bl b) st K = K (.bl (decide (a = b))) st := rfl
theorem c_neb (a b : Bool) : opC .ne (.bl a) (.bl b) st K = K (.bl (!decide (a = b))) st := rfl
theorem c_in1 (c : Nat) (z : List Nat) : opC .inn (.str [c]) (.str z) st K = K (.bl (decide (c ∈ z))) st := rfl
theorem c_nin1 (c : Nat) (z : List Nat) : opC .nin (.str [c]) (.str z) st K = K (.bl (!decide (c ∈ z))) st := rfl
theorem c_init (i : Int) (xs : List D) : opC .inn (.int i) (.tup xs) st K = (∃ ns : List Int, xs = ns.map D.int ∧ K (.bl (decide (i ∈ ns))) st) := by
  show (∃ ns : List Int, (ns.map D.int) = xs ∧ K (.bl (decide (i ∈ ns))) st) = _
  exact propext ⟨fun ⟨ns, h, k⟩ => ⟨ns, h.symm, k⟩, fun ⟨ns, h, k⟩ => ⟨ns, h.symm, k⟩⟩
theorem c_ninit (i : Int) (xs : List D) : opC .nin (.int i) (.tup xs) st K = (∃ ns : List Int, xs = ns.map D.int ∧ K (.bl (!decide (i ∈ ns))) st) := by
  show (∃ ns : List Int, (ns.map D.int) = xs ∧ K (.bl (!decide (i ∈ ns))) st) = _
  exact propext ⟨fun ⟨ns, h, k⟩ => ⟨ns, h.symm, k⟩, fun ⟨ns, h, k⟩ => ⟨ns, h.symm, k⟩⟩
theorem inO_int (neg : Bool) (i : Int) (n : Nat) : inO neg (.int i) n st K = ((∃ ns : List Int, st[n]? = some (.lst (ns.map D.int)) ∧ K (.bl (if neg then !decide (i ∈ ns) else decide (i ∈ ns))) st) ∨ ∃ t kvs, st[n]? = some (.dic t kvs) ∧ dOk t (.int i) ∧ K (.bl (if neg then !(dGet kvs (.int i)).isSome else (dGet kvs (.int i)).isSome)) st) := by
  unfold inO
  apply propext
  constructor
  · rintro (⟨ns, j, e, h⟩ | ⟨ss, j, e, _⟩ | ⟨xs, p, ps, e, _⟩ | h)
    · cases e; exact .inl ⟨ns, h⟩
    · cases e
    · cases e
    · exact .inr h
  · rintro (⟨ns, h⟩ | h)
    · exact .inl ⟨ns, i, rfl, h⟩
    · exact .inr (.inr (.inr h))
theorem inO_str (neg : Bool) (s : List Nat) (n : Nat) : inO neg (.str s) n st K = ((∃ ss : List (List Nat), st[n]? = some (.lst (ss.map D.str)) ∧ K (.bl (if neg then !decide (s ∈ ss) else decide (s ∈ ss))) st) ∨ ∃ t kvs, st[n]? = some (.dic t kvs) ∧ dOk t (.str s) ∧ K (.bl (if neg then !(dGet kvs (.str s)).isSome else (dGet kvs (.str s)).isSome)) st) := by
  unfold inO
  apply propext
  constructor
  · rintro (⟨ns, j, e, h⟩ | ⟨ss, j, e, h⟩ | ⟨xs, p, ps, e, _⟩ | h)
    · cases e
    · cases e; exact .inl ⟨ss, h⟩
    · cases e
    · exact .inr h
  · rintro (⟨ss, h⟩ | h)
    · exact .inr (.inl ⟨ss, s, rfl, h⟩)
    · exact .inr (.inr (.inr h))
theorem c_inio (i : Int) (n : Nat) : opC .inn (.int i) (.obj n) st K = ((∃ ns : List Int, st[n]? = some (.lst (ns.map D.int)) ∧ K (.bl (decide (i ∈ ns))) st) ∨ ∃ t kvs, st[n]? = some (.dic t kvs) ∧ dOk t (.int i) ∧ K (.bl (dGet kvs (.int i)).isSome) st) := inO_int false i n
theorem c_ninio (i : Int) (n : Nat) : opC .nin (.int i) (.obj n) st K = ((∃ ns : List Int, st[n]? = some (.lst (ns.map D.int)) ∧ K (.bl (!decide (i ∈ ns))) st) ∨ ∃ t kvs, st[n]? = some (.dic t kvs) ∧ dOk t (.int i) ∧ K (.bl (!(dGet kvs (.int i)).isSome)) st) := inO_int true i n
theorem c_inso (s : List Nat) (n : Nat) : opC .inn (.str s) (.obj n) st K = ((∃ ss : List (List Nat), st[n]? = some (.lst (ss.map D.str)) ∧ K (.bl (decide (s ∈ ss))) st) ∨ ∃ t kvs, st[n]? = some (.dic t kvs) ∧ dOk t (.str s) ∧ K (.bl (dGet kvs (.str s)).isSome) st) := by
  have h : opC .inn (.str s) (.obj n) st K = inO false (.str s) n st K := by unfold opC; split <;> first | rfl | (simp_all; done)
  exact h.trans (inO_str false s n)
theorem c_inst (s : List Nat) (xs : List D) : opC .inn (.str s) (.tup xs) st K = ∃ ss : List (List Nat), ss.map D.str = xs ∧ K (.bl (decide (s ∈ ss))) st := by
  unfold opC; split <;> first | rfl | (simp_all; done) | (simp_all; exact Iff.rfl)
theorem c_ninso (s : List Nat) (n : Nat) : opC .nin (.str s) (.obj n) st K = ((∃ ss : List (List Nat), st[n]? = some (.lst (ss.map D.str)) ∧ K (.bl (!decide (s ∈ ss))) st) ∨ ∃ t kvs, st[n]? = some (.dic t kvs) ∧ dOk t (.str s) ∧ K (.bl (!(dGet kvs (.str s)).isSome)) st) := by
  have h : opC .nin (.str s) (.obj n) st K = inO true (.str s) n st K := by unfold opC; split <;> first | rfl | (simp_all; done)
  exact h.trans (inO_str true s n)
theorem c_ninst (s : List Nat) (xs : List D) : opC .nin (.str s) (.tup xs) st K = ∃ ss : List (List Nat), ss.map D.str = xs ∧ K (.bl (!decide (s ∈ ss))) st := by
  unfold opC; split <;> first | rfl | (simp_all; done) | (simp_all; exact Iff.rfl)
theorem c_isn (x : D) : opC .is x .non st K = K (.bl x.isN) st := by cases x <;> rfl
theorem c_isntn (x : D) : opC .isnt x .non st K = K (.bl (!x.isN)) st := by cases x <;> rfl
theorem c_isb (a b : Bool) : opC .is (.bl a) (.bl b) st K = K (.bl (decide (a = b))) st := rfl
theorem c_isntb (a b : Bool) : opC .isnt (.bl a) (.bl b) st K = K (.bl (!decide (a = b))) st := rfl
theorem isN_non : D.isN .non = true := rfl
theorem isN_int (i : Int) : D.isN (.int i) = false := rfl
theorem isN_str (i : List Nat) : D.isN (.str i) = false := rfl
theorem isN_tup (i : List D) : D.isN (.tup i) = false := rfl
theorem isN_bl (i : Bool) : D.isN (.bl i) = false := rfl
theorem isN_obj (i : Nat) : D.isN (.obj i) = false := rfl
theorem sq_tup (ys xs : List D) : seqD st (.tup ys) xs = (xs = ys) := rfl
theorem sq_fro (ys xs : List D) : seqD st (.fro ys) xs = (xs = ys) := rfl
theorem sq_obj (n : Nat) (xs : List D) : seqD st (.obj n) xs = (st[n]? = some (.lst xs)) := rfl
theorem i_str (s : List Nat) (i : Int) : opIx (.str s) (.int i) st K = (s.length ≤ 16777216 ∧ ∃ c, atD s i = some c ∧ K (.str [c]) st) := rfl
theorem ixO_int (n : Nat) (i : Int) : ixO n (.int i) st K = ((∃ xs v, st[n]? = some (.lst xs) ∧ atD xs i = some v ∧ K v st) ∨ ∃ t kvs v, st[n]? = some (.dic t kvs) ∧ dOk t (.int i) ∧ dGet kvs (.int i) = some v ∧ K v st) := by
  unfold ixO
  apply propext
  constructor
  · rintro (⟨xs, v, j, e, h⟩ | h)
    · cases e; exact .inl ⟨xs, v, h⟩
    · exact .inr h
  · rintro (⟨xs, v, h⟩ | h)
    · exact .inl ⟨xs, v, i, rfl, h⟩
    · exact .inr h
theorem i_obj (n : Nat) (i : Int) : opIx (.obj n) (.int i) st K = ((∃ xs v, st[n]? = some (.lst xs) ∧ atD xs i = some v ∧ K v st) ∨ ∃ t kvs v, st[n]? = some (.dic t kvs) ∧ dOk t (.int i) ∧ dGet kvs (.int i) = some v ∧ K v st) := ixO_int n i
theorem i_objs (n : Nat) (s : List Nat) : opIx (.obj n) (.str s) st K = ∃ t kvs v, st[n]? = some (.dic t kvs) ∧ dOk t (.str s) ∧ dGet kvs (.str s) = some v ∧ K v st := by
  show ixO n (.str s) st K = _
  unfold ixO
  exact propext ⟨fun h => h.elim (fun ⟨xs, v, j, e, _⟩ => nomatch e) id, .inr⟩
theorem dOk_int (t : Bool) (i : Int) : dOk t (.int i) = (t = false) := propext ⟨fun h => h.1, fun h => ⟨h, rfl⟩⟩
theorem dOk_str (t : Bool) (s : List Nat) : dOk t (.str s) = (t = false) := propext ⟨fun h => h.1, fun h => ⟨h, rfl⟩⟩
theorem i_tup (ys : List D) (i : Int) : opIx (.tup ys) (.int i) st K = ∃ v, atD ys i = some v ∧ K v st := by
  show (∃ xs v, xs = ys ∧ atD xs i = some v ∧ K v st) = _
  simp
theorem i_fro (ys : List D) (i : Int) : opIx (.fro ys) (.int i) st K = ∃ v, atD ys i = some v ∧ K v st := by
  show (∃ xs v, xs = ys ∧ atD xs i = some v ∧ K v st) = _
  simp
theorem s_str (s : List Nat) (lo hi : Option Int) : opSl (.str s) lo hi st K = (s.length ≤ 16777216 ∧ K (.str (cutD s lo hi)) st) := rfl
theorem s_tup (s : List D) (lo hi : Option Int) : opSl (.tup s) lo hi st K = K (.tup (cutD s lo hi)) st := rfl
theorem s_fro (s : List D) (lo hi : Option Int) : opSl (.fro s) lo hi st K = K (.obj st.length) (st ++ [.lst (cutD s lo hi)]) := rfl
theorem s_obj (n : Nat) (lo hi : Option Int) : opSl (.obj n) lo hi st K = (∃ xs, st[n]? = some (.lst xs) ∧ K (.obj st.length) (st ++ [.lst (cutD xs lo hi)])) := rfl
theorem f_lens (s : List Nat) : opBi .len [.str s] st K = (s.length ≤ 16777216 ∧ K (.int s.length) st) := rfl
theorem f_lent (s : List D) : opBi .len [.tup s] st K = K (.int s.length) st :=
  propext ⟨fun h => h.elim (fun ⟨ys, e, k⟩ => by cases e; exact k) (fun ⟨n, t, kvs, e, _⟩ => nomatch e), fun k => .inl ⟨s, rfl, k⟩⟩
theorem f_lenf (s : List D) : opBi .len [.fro s] st K = K (.int s.length) st :=
  propext ⟨fun h => h.elim (fun ⟨ys, e, k⟩ => by cases e; exact k) (fun ⟨n, t, kvs, e, _⟩ => nomatch e), fun k => .inl ⟨s, rfl, k⟩⟩
theorem f_leno (n : Nat) : opBi .len [.obj n] st K = ((∃ ys, st[n]? = some (.lst ys) ∧ K (.int (List.length ys)) st) ∨ ∃ t kvs, st[n]? = some (.dic t kvs) ∧ K (.int (List.length kvs)) st) := by
  show ((∃ ys, seqD st (.obj n) ys ∧ K (.int (List.length ys)) st) ∨ ∃ m t kvs, D.obj n = .obj m ∧ st[m]? = some (.dic t kvs) ∧ K (.int (List.length kvs)) st) = _
  apply propext
  constructor
  · rintro (h | ⟨m, t, kvs, e, h⟩)
    · exact .inl h
    · cases e; exact .inr ⟨t, kvs, h⟩
  · rintro (h | ⟨t, kvs, h⟩)
    · exact .inl h
    · exact .inr ⟨n, t, kvs, rfl, h⟩
theorem f_inti (i : Int) : opBi .intT [.int i] st K = K (.int i) st := rfl
theorem f_intb (b : Bool) : opBi .intT [.bl b] st K = K (.int (if b then 1 else 0)) st := rfl
theorem f_boolb (b : Bool) : opBi .boolT [.bl b] st K = K (.bl b) st := rfl
theorem f_sum (n : Nat) : opBi .sum [.obj n] st K = ∃ ns : List Int, st[n]? = some (.lst (ns.map D.int)) ∧ K (.int ns.sum) st := rfl
theorem f_all (n : Nat) : opBi .all [.obj n] st K = ∃ bs : List Bool, st[n]? = some (.lst (bs.map D.bl)) ∧ K (.bl (bs.all id)) st := rfl
theorem f_any (n : Nat) : opBi .any [.obj n] st K = ∃ bs : List Bool, st[n]? = some (.lst (bs.map D.bl)) ∧ K (.bl (bs.any id)) st := rfl
theorem f_tupt (xs : List D) : opBi .tupleT [.tup xs] st K = K (.tup xs) st := rfl
theorem f_tups (s : List Nat) : opBi .tupleT [.str s] st K = (s.length ≤ 16777216 ∧ K (.tup (s.map fun c => .str [c])) st) := rfl
theorem t_idxt (xs : List D) : tyM .index (.tup xs) st = True := rfl
theorem f_tupo (n : Nat) : opBi .tupleT [.obj n] st K = ∃ xs, st[n]? = some (.lst xs) ∧ K (.tup xs) st := rfl
theorem f_lstt (xs : List D) : opBi .listT [.tup xs] st K = K (.obj st.length) (st ++ [.lst xs]) := by
  show (∃ ys, ys = xs ∧ K (.obj st.length) (st ++ [.lst ys])) = _
  simp
theorem f_lsto (n : Nat) : opBi .listT [.obj n] st K = ∃ ys, st[n]? = some (.lst ys) ∧ K (.obj st.length) (st ++ [.lst ys]) := rfl
theorem f_min (i j : Int) : opBi .min2 [.int i, .int j] st K = K (.int (if j < i then j else i)) st := rfl
theorem f_max (i j : Int) : opBi .max2 [.int i, .int j] st K = K (.int (if j > i then j else i)) st := rfl
theorem f_abs (i : Int) : opBi .abs [.int i] st K = K (.int (if i < 0 then -i else i)) st := rfl
theorem f_stri (i : Int) : opBi .strT [.int i] st K = (i.natAbs.log2 < 1920 ∧ K (.str (strI i)) st) := rfl
theorem m_popi (n : Nat) (i : Int) : opMe .pop (.obj n) [.int i] st K = (∃ xs k y, st[n]? = some (.lst xs) ∧ -(2 ^ 63) ≤ i ∧ i < 2 ^ 63 ∧ ixD xs.length i = some k ∧ xs[k]? = some y ∧ K y (st.set n (.lst (xs.eraseIdx k)))) := rfl
theorem m_ins (n : Nat) (i : Int) (y : D) : opMe .insert (.obj n) [.int i, y] st K = (∃ xs, st[n]? = some (.lst xs) ∧ xs.length < 16777216 ∧ 0 ≤ i ∧ i < 2 ^ 63 ∧ K .non (st.set n (.lst (xs.take i.toNat ++ [y] ++ xs.drop i.toNat)))) := rfl
theorem m_idxi (x : D) (i : Int) : opMe .index x [.int i] st K = ∃ ns : List Int, seqD st x (ns.map D.int) ∧ i ∈ ns ∧ K (.int (ns.idxOf i : Nat)) st := by cases x <;> rfl
theorem m_idxs (x : D) (s : List Nat) : opMe .index x [.str s] st K = ∃ ss : List (List Nat), seqD st x (ss.map D.str) ∧ s ∈ ss ∧ K (.int (ss.idxOf s : Nat)) st := by cases x <;> rfl
theorem m_split (a b : List Nat) : opMe .split (.str a) [.str b] st K = (b ≠ [] ∧ a.length + 2 ≤ 16777216 ∧ K (.obj st.length) (st ++ [.lst ((PySem.Txt.split ⟨a.toArray⟩ ⟨b.toArray⟩).map fun z => D.str z.cps.toList)])) := rfl
theorem m_words (a : List Nat) : opMe .split (.str a) [] st K = (a.length + 2 ≤ 16777216 ∧ K (.obj st.length) (st ++ [.lst ((PySem.Txt.words ⟨a.toArray⟩).map fun z => D.str z.cps.toList)])) := rfl
theorem t_ins (n : Nat) : tyM .insert (.obj n) st = ∃ xs, st[n]? = some (.lst xs) := rfl
theorem t_idx (n : Nat) : tyM .index (.obj n) st = ∃ xs, st[n]? = some (.lst xs) := rfl
theorem t_idxf (xs : List D) : tyM .index (.fro xs) st = True := rfl
theorem t_split (a : List Nat) : tyM .split (.str a) st = True := rfl
theorem m_app (n : Nat) (y : D) : opMe .append (.obj n) [y] st K = (∃ xs, st[n]? = some (.lst xs) ∧ xs.length < 16777216 ∧ K .non (st.set n (.lst (xs ++ [y])))) := rfl
theorem m_ext (n m : Nat) : opMe .extend (.obj n) [.obj m] st K = (∃ xs ys, st[n]? = some (.lst xs) ∧ st[m]? = some (.lst ys) ∧ xs.length + ys.length ≤ 16777216 ∧ K .non (st.set n (.lst (xs ++ ys)))) := rfl
theorem m_pop (n : Nat) : opMe .pop (.obj n) [] st K = (∃ xs y, st[n]? = some (.lst xs) ∧ xs[xs.length - 1]? = some y ∧ K y (st.set n (.lst xs.dropLast))) := rfl
theorem m_join (a : List Nat) (x : D) : opMe .join (.str a) [x] st K = ∃ ys : List (List Nat), seqD st x (ys.map D.str) ∧ (ys.map List.length).sum + ys.length * a.length ≤ 16777216 ∧ K (.str (joinD a ys)) st := by cases x <;> rfl
theorem t_app (n : Nat) : tyM .append (.obj n) st = ∃ xs, st[n]? = some (.lst xs) := rfl
theorem t_ext (n : Nat) : tyM .extend (.obj n) st = ∃ xs, st[n]? = some (.lst xs) := rfl
theorem t_pop (n : Nat) : tyM .pop (.obj n) st = ∃ xs, st[n]? = some (.lst xs) := rfl
theorem t_join (a : List Nat) : tyM .join (.str a) st = True := rfl
theorem o_set (n : Nat) (k : Int) (v : D) (K : Sto → Prop) : opSet (.obj n) (.int k) v st K = ((∃ xs j, st[n]? = some (.lst xs) ∧ ixD xs.length k = some j ∧ K (st.set n (.lst (xs.set j v)))) ∨ ∃ t kvs, st[n]? = some (.dic t kvs) ∧ dOk t (.int k) ∧ kvs.length < 16777216 ∧ K (st.set n (.dic t (dPut kvs (.int k) v)))) := by
  apply propext
  constructor
  · rintro (⟨xs, j, i, e, h⟩ | h)
    · cases e; exact .inl ⟨xs, j, h⟩
    · exact .inr h
  · rintro (⟨xs, j, h⟩ | h)
    · exact .inl ⟨xs, j, k, rfl, h⟩
    · exact .inr h
theorem o_sets (n : Nat) (s : List Nat) (v : D) (K : Sto → Prop) : opSet (.obj n) (.str s) v st K = ∃ t kvs, st[n]? = some (.dic t kvs) ∧ dOk t (.str s) ∧ kvs.length < 16777216 ∧ K (st.set n (.dic t (dPut kvs (.str s) v))) :=
  propext ⟨fun h => h.elim (fun ⟨xs, j, i, e, _⟩ => nomatch e) id, .inr⟩
theorem m_get1 (n : Nat) (k : D) : opMe .get (.obj n) [k] st K = ∃ t kvs, st[n]? = some (.dic t kvs) ∧ dOk t k ∧ K ((dGet kvs k).getD .non) st := rfl
theorem m_get2 (n : Nat) (k x : D) : opMe .get (.obj n) [k, x] st K = ∃ t kvs, st[n]? = some (.dic t kvs) ∧ dOk t k ∧ K ((dGet kvs k).getD x) st := rfl
theorem m_setd (n : Nat) (k x : D) : opMe .setdefault (.obj n) [k, x] st K = ∃ t kvs, st[n]? = some (.dic t kvs) ∧ dOk t k ∧ kvs.length < 16777216 ∧ (∀ v, dGet kvs k = some v → K v st) ∧ (dGet kvs k = none → K x (st.set n (.dic t (dPut kvs k x)))) := rfl
theorem t_get (n : Nat) : tyM .get (.obj n) st = ∃ t kvs, st[n]? = some (.dic t kvs) := rfl
theorem t_setd (n : Nat) : tyM .setdefault (.obj n) st = ∃ t kvs, st[n]? = some (.dic t kvs) := rfl
def tyB : Ty → Ty → Bool
  | .int, .int => true | .int, .bool => true | .bool, .bool => true | .str, .str => true | .tuple, .tuple => true | .list, .list => true
  | _, _ => false
theorem y_non (t : Ty) : opIs t .non st K = K (.bl false) st := by cases t <;> rfl
theorem y_int (t : Ty) (i : Int) : opIs t (.int i) st K = K (.bl (tyB t .int)) st := by cases t <;> rfl
theorem y_bl (t : Ty) (i : Bool) : opIs t (.bl i) st K = K (.bl (tyB t .bool)) st := by cases t <;> rfl
theorem y_str (t : Ty) (i : List Nat) : opIs t (.str i) st K = K (.bl (tyB t .str)) st := by cases t <;> rfl
theorem y_tup (t : Ty) (i : List D) : opIs t (.tup i) st K = K (.bl (tyB t .tuple)) st := by cases t <;> rfl
theorem y_fro (t : Ty) (i : List D) : opIs t (.fro i) st K = K (.bl (tyB t .list)) st := by cases t <;> rfl
theorem y_obj (t : Ty) (n : Nat) : opIs t (.obj n) st K = ∃ xs, st[n]? = some (.lst xs) ∧ K (.bl (tyB t .list)) st := by cases t <;> rfl
end
/-! data of one kind, compared: no truth values, no lists -/
mutual
def D.nice : D → Bool
  | .non => true
  | .int _ => true
  | .str s => s.all fun c => decide (c < 0x110000)
  | .tup xs => D.niceL xs
  | _ => false
def D.niceL : List D → Bool
  | [] => true
  | x :: xs => D.nice x && D.niceL xs
end
mutual
def D.py : D → PyData
  | .int i => .int i
  | .str s => .str ⟨s.toArray⟩
  | .tup xs => .tuple (D.pyL xs)
  | _ => .none
def D.pyL : List D → List PyData
  | [] => []
  | x :: xs => D.py x :: D.pyL xs
end
mutual
def D.deep : D → Nat
  | .tup xs => D.deepL xs + 1
  | _ => 0
def D.deepL : List D → Nat
  | [] => 0
  | x :: xs => max (D.deep x) (D.deepL xs)
end
theorem niceL_iff : ∀ {xs : List D}, D.niceL xs = true ↔ ∀ x ∈ xs, x.nice = true
  | [] => by simp [D.niceL]
  | x :: xs => by simp [D.niceL, niceL_iff (xs := xs)]
theorem deepL_le {m : Nat} : ∀ {xs : List D}, (∀ x ∈ xs, x.deep ≤ m) → D.deepL xs ≤ m
  | [], _ => Nat.zero_le _
  | x :: xs, h => Nat.max_le.mpr ⟨h x (List.mem_cons_self ..), deepL_le fun y hy => h y (List.mem_cons_of_mem _ hy)⟩
theorem pyL_map : ∀ xs : List D, D.pyL xs = xs.map D.py
  | [] => rfl
  | x :: xs => by rw [D.pyL, List.map_cons, pyL_map xs]
mutual
theorem dat_py (st : Sto) : ∀ d : D, d.nice = true → Dat st d d.py
  | .non, _ => .non
  | .int i, _ => .int i
  | .str s, _ => .str s
  | .tup xs, h => by
    rw [D.py, pyL_map]
    refine .tup (by simp) fun i x p e1 e2 => ?_
    have hx := dat_pyL st xs h x (List.mem_of_getElem? e1)
    rw [List.getElem?_map, e1] at e2
    cases e2
    exact hx
  | .bl _, h => by cases h
  | .fro _, h => by cases h
  | .obj _, h => by cases h
theorem dat_pyL (st : Sto) : ∀ xs : List D, D.niceL xs = true → ∀ x ∈ xs, Dat st x x.py
  | [], _, x, hx => by simp at hx
  | y :: ys, h, x, hx => by
    have h' : (y.nice && D.niceL ys) = true := h
    rw [Bool.and_eq_true] at h'
    rcases List.mem_cons.mp hx with e | e
    · rw [e]; exact dat_py st y h'.1
    · exact dat_pyL st ys h'.2 x e
end
mutual
theorem lay_py : ∀ d : D, d.nice = true → PyData.canLay0 d.py = true ∧ PyData.depth d.py = d.deep
  | .non, _ => ⟨rfl, rfl⟩
  | .int i, _ => ⟨rfl, rfl⟩
  | .str s, h => by
    have h' : (s.all fun c => decide (c < 0x110000)) = true := h
    refine ⟨?_, rfl⟩
    show PyData.strOk ⟨s.toArray⟩ = true
    unfold PyData.strOk
    simpa using h'
  | .tup xs, h => by
    obtain ⟨h1, h2⟩ := lay_pyL xs h
    refine ⟨by rw [D.py]; exact h1, ?_⟩
    rw [D.py, PyData.depth, h2]; rfl
  | .bl _, h => by cases h
  | .fro _, h => by cases h
  | .obj _, h => by cases h
theorem lay_pyL : ∀ xs : List D, D.niceL xs = true → PyData.canLayAll0 (D.pyL xs) = true ∧ PyData.depthAll (D.pyL xs) = D.deepL xs
  | [], _ => ⟨rfl, rfl⟩
  | y :: ys, h => by
    have h' : (y.nice && D.niceL ys) = true := h
    rw [Bool.and_eq_true] at h'
    obtain ⟨a1, a2⟩ := lay_py y h'.1
    obtain ⟨b1, b2⟩ := lay_pyL ys h'.2
    rw [D.pyL]
    refine ⟨?_, ?_⟩
    · rw [PyData.canLayAll0, a1, b1]; rfl
    · rw [PyData.depthAll, a2, b2]; rfl
end
mutual
theorem eqv_py : ∀ d e : D, d.nice = true → e.nice = true → (PyData.eqv d.py e.py = true ↔ d = e)
  | .non, e, _, h => by
    cases e with
    | non => simp [D.py, PyData.eqv]
    | int _ => simp [D.py, PyData.eqv]
    | str _ => simp [D.py, PyData.eqv]
    | tup _ => simp [D.py, PyData.eqv]
    | _ => cases h
  | .int i, e, _, h => by
    cases e with
    | non => simp [D.py, PyData.eqv]
    | int _ => simp [D.py, PyData.eqv]
    | str _ => simp [D.py, PyData.eqv]
    | tup _ => simp [D.py, PyData.eqv]
    | _ => cases h
  | .str s, e, _, h => by
    cases e with
    | non => simp [D.py, PyData.eqv]
    | int _ => simp [D.py, PyData.eqv]
    | str z =>
      rw [D.py, D.py, PyData.eqv, beq_iff_eq, str_inj]
      simp
    | tup _ => simp [D.py, PyData.eqv]
    | _ => cases h
  | .tup xs, e, hd, h => by
    cases e with
    | non => simp [D.py, PyData.eqv]
    | int _ => simp [D.py, PyData.eqv]
    | str _ => simp [D.py, PyData.eqv]
    | tup ys =>
      rw [D.py, D.py, PyData.eqv, eqv_pyL xs ys hd h]
      simp
    | _ => cases h
  | .bl _, _, h, _ => by cases h
  | .fro _, _, h, _ => by cases h
  | .obj _, _, h, _ => by cases h
theorem eqv_pyL : ∀ xs ys : List D, D.niceL xs = true → D.niceL ys = true → (PyData.eqvAll (D.pyL xs) (D.pyL ys) = true ↔ xs = ys)
  | [], [], _, _ => by simp [D.pyL, PyData.eqvAll]
  | [], y :: ys, _, _ => by simp [D.pyL, PyData.eqvAll]
  | x :: xs, [], _, _ => by simp [D.pyL, PyData.eqvAll]
  | x :: xs, y :: ys, h1, h2 => by
    have h1' : (x.nice && D.niceL xs) = true := h1
    have h2' : (y.nice && D.niceL ys) = true := h2
    rw [Bool.and_eq_true] at h1' h2'
    rw [D.pyL, D.pyL, PyData.eqvAll, Bool.and_eq_true, eqv_py x y h1'.1 h2'.1, eqv_pyL xs ys h1'.2 h2'.2]
    simp
end
theorem shaped_py {d : D} (h : d.nice = true) (hd : d.deep ≤ 60) : SeqAt.shaped d.py = true := by
  obtain ⟨h1, h2⟩ := lay_py d h
  unfold SeqAt.shaped
  rw [h1, Bool.true_and, decide_eq_true_eq, h2]; omega
section
variable {st : Sto} {K : KD}
theorem eqv_dec {d e : D} (h1 : d.nice = true) (h2 : e.nice = true) : (d = e → PyData.eqv d.py e.py = true) ∧ (d ≠ e → PyData.eqv d.py e.py = false) := by
  refine ⟨fun h => (eqv_py d e h1 h2).mpr h, fun h => ?_⟩
  cases q : PyData.eqv d.py e.py with
  | true => exact absurd ((eqv_py d e h1 h2).mp q) h
  | false => rfl
theorem eq_tt {a b : List D} (h1 : D.nice (.tup a) = true) (h2 : D.nice (.tup b) = true) (d1 : D.deep (.tup a) ≤ 60) (d2 : D.deep (.tup b) ≤ 60) (y : a = b → K (.bl true) st) (n : a ≠ b → K (.bl false) st) : opC .eq (.tup a) (.tup b) st K := by
  refine ⟨_, _, dat_py st _ h1, dat_py st _ h2, shaped_py h1 d1, shaped_py h2 d2, ?_⟩
  by_cases e : a = b
  · rw [(eqv_dec h1 h2).1 (by rw [e])]; exact y e
  · rw [(eqv_dec h1 h2).2 (by simpa using e)]; exact n e
theorem any_eqv {xs : List D} {d : D} (h : D.niceL xs = true) (hd : d.nice = true) : (d ∈ xs → ((xs.map D.py).any fun z => PyData.eqv z d.py) = true) ∧ (d ∉ xs → ((xs.map D.py).any fun z => PyData.eqv z d.py) = false) := by
  have hn := niceL_iff.mp h
  constructor
  · intro hm
    rw [List.any_map, List.any_eq_true]
    exact ⟨d, hm, (eqv_dec hd hd).1 rfl⟩
  · intro hm
    rw [List.any_map, List.any_eq_false]
    intro x hx
    have := (eqv_dec (hn x hx) hd).2 fun e => hm (e ▸ hx)
    simp [this]
theorem dat_obj {st : Sto} {n : Nat} {xs : List D} (hn : st[n]? = some (.lst xs)) (h : D.niceL xs = true) : Dat st (.obj n) (.list (xs.map D.py)) := by
  refine .obj hn (by simp) fun i x p e1 e2 => ?_
  rw [List.getElem?_map, e1] at e2
  cases e2
  exact dat_pyL st xs h x (List.mem_of_getElem? e1)
theorem shaped_pyL {xs : List D} (h : D.niceL xs = true) (hd : D.deepL xs + 1 ≤ 60) : SeqAt.shaped (.list (xs.map D.py)) = true := by
  obtain ⟨a, b⟩ := lay_pyL xs h
  rw [← pyL_map]
  have e : PyData.canLay0 (.list (D.pyL xs)) = true := by simpa [PyData.canLay0] using a
  have e2 : PyData.depth (.list (D.pyL xs)) = D.deepL xs + 1 := by simp [PyData.depth, b]
  unfold SeqAt.shaped
  rw [e, e2]
  simp; omega
/-- a tuple in a list of tuples -/
theorem in_to {ys : List D} {n : Nat} {xs : List D} (hn : st[n]? = some (.lst xs)) (hx : D.niceL xs = true) (dx : D.deepL xs + 1 ≤ 60) (hy : D.nice (.tup ys) = true) (dy : D.deep (.tup ys) ≤ 60) (y : D.tup ys ∈ xs → K (.bl true) st) (no : D.tup ys ∉ xs → K (.bl false) st) : opC .inn (.tup ys) (.obj n) st K := by
  refine .inr (.inr (.inl ⟨ys, _, _, rfl, dat_py st _ hy, dat_obj hn hx, shaped_py hy dy, shaped_pyL hx dx, ?_⟩))
  by_cases e : D.tup ys ∈ xs
  · simp only [Bool.false_eq_true, if_false, if_true]; rw [(any_eqv hx hy).1 e]; exact y e
  · simp only [Bool.false_eq_true, if_false, if_true]; rw [(any_eqv hx hy).2 e]; exact no e
theorem nin_to {ys : List D} {n : Nat} {xs : List D} (hn : st[n]? = some (.lst xs)) (hx : D.niceL xs = true) (dx : D.deepL xs + 1 ≤ 60) (hy : D.nice (.tup ys) = true) (dy : D.deep (.tup ys) ≤ 60) (y : D.tup ys ∈ xs → K (.bl false) st) (no : D.tup ys ∉ xs → K (.bl true) st) : opC .nin (.tup ys) (.obj n) st K := by
  refine .inr (.inr (.inl ⟨ys, _, _, rfl, dat_py st _ hy, dat_obj hn hx, shaped_py hy dy, shaped_pyL hx dx, ?_⟩))
  by_cases e : D.tup ys ∈ xs
  · simp only [Bool.false_eq_true, if_false, if_true]; rw [(any_eqv hx hy).1 e]; exact y e
  · simp only [Bool.false_eq_true, if_false, if_true]; rw [(any_eqv hx hy).2 e]; exact no e
theorem ne_tt {a b : List D} (h1 : D.nice (.tup a) = true) (h2 : D.nice (.tup b) = true) (d1 : D.deep (.tup a) ≤ 60) (d2 : D.deep (.tup b) ≤ 60) (y : a = b → K (.bl false) st) (n : a ≠ b → K (.bl true) st) : opC .ne (.tup a) (.tup b) st K := by
  refine ⟨_, _, dat_py st _ h1, dat_py st _ h2, shaped_py h1 d1, shaped_py h2 d2, ?_⟩
  by_cases e : a = b
  · rw [(eqv_dec h1 h2).1 (by rw [e])]; exact y e
  · rw [(eqv_dec h1 h2).2 (by simpa using e)]; exact n e
end
/-- a row of ints -/
def tI (ns : List Int) : D := .tup (ns.map D.int)
theorem niceL_ints (ns : List Int) : D.niceL (ns.map D.int) = true := by
  induction ns with
  | nil => rfl
  | cons n ns ih => exact ih
theorem deepL_ints (ns : List Int) : D.deepL (ns.map D.int) = 0 := by
  induction ns with
  | nil => rfl
  | cons n ns ih => show max 0 _ = 0; rw [ih]; rfl
theorem tI_nice (ns : List Int) : (tI ns).nice = true := niceL_ints ns
theorem tI_deep (ns : List Int) : (tI ns).deep = 1 := by show D.deepL _ + 1 = 1; rw [deepL_ints]
theorem lowL_ints (m : Nat) (ns : List Int) : D.lowL m (ns.map D.int) = true := by
  induction ns with
  | nil => rfl
  | cons n ns ih => exact ih
theorem tI_low (m : Nat) (ns : List Int) : (tI ns).low m = true := lowL_ints m ns
theorem map_int_inj {a b : List Int} : a.map D.int = b.map D.int ↔ a = b := by
  constructor
  · intro h
    have : (a.map D.int).map (fun d => match d with | .int i => i | _ => 0) = (b.map D.int).map (fun d => match d with | .int i => i | _ => 0) := by rw [h]
    simpa [List.map_map, Function.comp_def] using this
  · rintro rfl; rfl
theorem eq_ii {st : Sto} {K : KD} {a b : List Int} (y : a = b → K (.bl true) st) (n : a ≠ b → K (.bl false) st) : opC .eq (.tup (a.map D.int)) (.tup (b.map D.int)) st K :=
  eq_tt (tI_nice a) (tI_nice b) (by show (tI a).deep ≤ 60; rw [tI_deep]; decide) (by show (tI b).deep ≤ 60; rw [tI_deep]; decide) (fun e => y (map_int_inj.mp e)) fun e => n fun z => e (by rw [z])
theorem ne_ii {st : Sto} {K : KD} {a b : List Int} (y : a = b → K (.bl false) st) (n : a ≠ b → K (.bl true) st) : opC .ne (.tup (a.map D.int)) (.tup (b.map D.int)) st K :=
  ne_tt (tI_nice a) (tI_nice b) (by show (tI a).deep ≤ 60; rw [tI_deep]; decide) (by show (tI b).deep ≤ 60; rw [tI_deep]; decide) (fun e => y (map_int_inj.mp e)) fun e => n fun z => e (by rw [z])
section
variable {st : Sto} {K : KD}
theorem s_tI (a : List Int) (lo hi : Option Int) : opSl (tI a) lo hi st K = K (tI (cutD a lo hi)) st := by
  show K (.tup (cutD (a.map D.int) lo hi)) st = K (.tup ((cutD a lo hi).map D.int)) st
  unfold cutD
  rw [List.length_map, List.map_take, List.map_drop]
theorem b_addI (a b : List Int) : opB .add (tI a) (tI b) st K = (a.length + b.length ≤ 16777216 ∧ K (tI (a ++ b)) st) := by
  show ((a.map D.int).length + (b.map D.int).length ≤ 16777216 ∧ K (.tup (a.map D.int ++ b.map D.int)) st) = _
  rw [List.length_map, List.length_map, ← List.map_append]; rfl
theorem f_lenI (a : List Int) : opBi .len [tI a] st K = K (.int a.length) st := by
  show opBi .len [.tup _] st K = _
  rw [f_lent, List.length_map]
theorem f_lstI (a : List Int) : opBi .listT [tI a] st K = K (.obj st.length) (st ++ [.lst (a.map D.int)]) := f_lstt _
theorem f_tupI (a : List Int) : opBi .tupleT [tI a] st K = K (tI a) st := rfl
theorem i_tI (a : List Int) (i : Int) : opIx (tI a) (.int i) st K = ∃ n, atD a i = some n ∧ K (.int n) st := by
  show (∃ xs v, xs = a.map D.int ∧ atD xs i = some v ∧ K v st) = _
  unfold atD
  apply propext
  constructor
  · rintro ⟨xs, v, rfl, h, k⟩
    rw [List.length_map] at h
    cases e : ixD a.length i with
    | none => rw [e] at h; cases h
    | some j =>
      rw [e] at h
      simp only [Option.bind_some, List.getElem?_map] at h ⊢
      cases e2 : a[j]? with
      | none => rw [e2] at h; cases h
      | some n => rw [e2] at h; cases h; exact ⟨n, rfl, k⟩
  · rintro ⟨n, h, k⟩
    refine ⟨_, .int n, rfl, ?_, k⟩
    rw [List.length_map]
    cases e : ixD a.length i with
    | none => rw [e] at h; cases h
    | some j =>
      rw [e] at h
      simp only [Option.bind_some, List.getElem?_map] at h ⊢
      rw [h]; rfl
theorem y_tI (t : Ty) (a : List Int) : opIs t (tI a) st K = K (.bl (tyB t .tuple)) st := by cases t <;> rfl
theorem isN_tI (a : List Int) : D.isN (tI a) = false := rfl
theorem eqI {a b : List Int} (y : a = b → K (.bl true) st) (n : a ≠ b → K (.bl false) st) : opC .eq (tI a) (tI b) st K := eq_ii y n
theorem neI {a b : List Int} (y : a = b → K (.bl false) st) (n : a ≠ b → K (.bl true) st) : opC .ne (tI a) (tI b) st K := ne_ii y n
end
section
variable {st : Sto} {K : Itm → Sto → Prop}
theorem v_tup (xs : List D) : opIt (.tup xs) st K = K ⟨xs, []⟩ st := rfl
theorem v_tI (xs : List Int) : opIt (tI xs) st K = K ⟨xs.map D.int, []⟩ st := rfl
theorem v_fro (xs : List D) : opIt (.fro xs) st K = K ⟨xs, []⟩ st := rfl
theorem v_str (s : List Nat) : opIt (.str s) st K = K ⟨s.map fun c => .str [c], []⟩ st := rfl
theorem v_obj (n : Nat) : opIt (.obj n) st K = ∃ xs, st[n]? = some (.lst xs) ∧ K ⟨xs, [(n, xs)]⟩ st := rfl
theorem en_obj (n : Nat) : opEn (.obj n) st K = ∃ xs, st[n]? = some (.lst xs) ∧ K ⟨xs.zipIdx.map fun p => .tup [.int p.2, p.1], [(n, xs)]⟩ st := rfl
theorem en_tup (xs : List D) : opEn (.tup xs) st K = K ⟨xs.zipIdx.map fun p => .tup [.int p.2, p.1], []⟩ st := rfl
theorem rv_obj (n : Nat) : opRv (.obj n) st K = ∃ xs, st[n]? = some (.lst xs) ∧ K ⟨xs.reverse, [(n, xs)]⟩ st := rfl
theorem rv_tup (xs : List D) : opRv (.tup xs) st K = K ⟨xs.reverse, []⟩ st := rfl
theorem z_tup (xs ys : List D) : opZip (.tup xs) (.tup ys) st K = K ⟨(xs.zip ys).map fun p => .tup [p.1, p.2], []⟩ st := rfl
theorem z_to (xs : List D) (m : Nat) : opZip (.tup xs) (.obj m) st K = ∃ ys, st[m]? = some (.lst ys) ∧ K ⟨(xs.zip ys).map fun p => .tup [p.1, p.2], [(m, ys)]⟩ st := rfl
theorem z_ot (n : Nat) (ys : List D) : opZip (.obj n) (.tup ys) st K = ∃ xs, st[n]? = some (.lst xs) ∧ K ⟨(xs.zip ys).map fun p => .tup [p.1, p.2], [(n, xs)]⟩ st := rfl
theorem z_obj (n m : Nat) : opZip (.obj n) (.obj m) st K = ∃ xs ys, st[n]? = some (.lst xs) ∧ st[m]? = some (.lst ys) ∧ K ⟨(xs.zip ys).map fun p => .tup [p.1, p.2], [(n, xs), (m, ys)]⟩ st := rfl
end
theorem tI_nil : D.tup [] = tI [] := rfl
theorem tI_one (n : Int) : D.tup [.int n] = tI [n] := rfl
theorem sIxD_nat (n d k : Nat) : sIxD n d (some (k : Int)) = min k n := by
  show (if (k : Int) < 0 then ((k : Int) + n).toNat else min (k : Int).toNat n) = min k n
  rw [if_neg (by omega), Int.toNat_natCast]
theorem sIxD_none (n d : Nat) : sIxD n d none = d := rfl
theorem cut_take {α : Type} (xs : List α) (n : Nat) : cutD xs none (some (n : Int)) = xs.take n := by
  unfold cutD
  rw [sIxD_nat, sIxD_none, List.drop_zero, Nat.sub_zero]
  by_cases h : n ≤ xs.length
  · rw [Nat.min_eq_left h]
  · rw [Nat.min_eq_right (by omega), List.take_length, List.take_of_length_le (by omega)]
theorem cut_drop {α : Type} (xs : List α) (n : Nat) : cutD xs (some (n : Int)) none = xs.drop n := by
  unfold cutD
  rw [sIxD_nat, sIxD_none]
  by_cases h : n ≤ xs.length
  · rw [Nat.min_eq_left h, List.take_of_length_le (by simp)]
  · rw [Nat.min_eq_right (by omega), List.drop_length, List.drop_eq_nil_of_le (by omega)]; simp
theorem cut_mid {α : Type} (xs : List α) (a b : Nat) (hab : a ≤ b) : cutD xs (some (a : Int)) (some (b : Int)) = (xs.drop a).take (b - a) := by
  unfold cutD
  rw [sIxD_nat, sIxD_nat]
  by_cases h : a ≤ xs.length
  · rw [Nat.min_eq_left h]
    by_cases h2 : b ≤ xs.length
    · rw [Nat.min_eq_left h2]
    · rw [Nat.min_eq_right (by omega), List.take_of_length_le (by simp), List.take_of_length_le (by simp; omega)]
  · rw [List.drop_eq_nil_of_le (as := xs) (i := min a xs.length) (by omega), List.drop_eq_nil_of_le (by omega)]; simp
theorem cutD_map {α β : Type} (f : α → β) (xs : List α) (lo hi : Option Int) : cutD (xs.map f) lo hi = (cutD xs lo hi).map f := by
  unfold cutD
  rw [List.length_map, List.map_take, List.map_drop]

/-! ### loops -/
theorem still_nil {xs : List D} {st : Sto} : (Itm.still ⟨xs, []⟩ st) = True := by simp [Itm.still]
theorem still_one {xs ys : List D} {n : Nat} {st : Sto} : (Itm.still ⟨xs, [(n, ys)]⟩ st) = (st[n]? = some (.lst ys)) := by simp [Itm.still]
theorem still_two {xs ys zs : List D} {n m : Nat} {st : Sto} : (Itm.still ⟨xs, [(n, ys), (m, zs)]⟩ st) = (st[n]? = some (.lst ys) ∧ st[m]? = some (.lst zs)) := by simp [Itm.still]
/-- the last of the store -/
theorem app_last {α : Type} {st : List α} {o : α} : (st ++ [o])[st.length]? = some o := by simp
theorem app_lt {α : Type} {st g : List α} {i : Nat} (h : i < st.length) : (st ++ g)[i]? = st[i]? := List.getElem?_append_left h
theorem app_set {α : Type} {st : List α} {o o' : α} : (st ++ [o]).set st.length o' = st ++ [o'] := by simp
theorem app_set_lt {α : Type} {st g : List α} {i : Nat} {o : α} (h : i < st.length) : (st ++ g).set i o = st.set i o ++ g := by
  rw [List.set_append_left _ _ h]
theorem rng_at {n i : Nat} {v : D} (h : ((List.range n).map fun k : Nat => D.int k)[i]? = some v) : v = .int i ∧ i < n := by
  have hi : i < n := by
    have := (List.getElem?_eq_some_iff.mp h).1
    simpa using this
  rw [List.getElem?_map, List.getElem?_range hi] at h
  cases h
  exact ⟨rfl, hi⟩
/-- a comprehension by an invariant over what is made and the store ahead of the new list -/
theorem compW_inv {J : Itm} {st1 : Sto} {K : KD} {turn : D → Sto → KD → (Sto → Prop) → Prop} (I : Nat → List D → Sto → Prop) (h0 : I 0 [] st1) (hl : J.xs.length ≤ 16777216) (hn : ∀ i acc st, I i acc st → st.length = st1.length ∧ acc.length ≤ i ∧ J.still (st ++ [.lst acc]))
    (hd : ∀ acc st, I J.xs.length acc st → K (.obj st1.length) (st ++ [.lst acc]))
    (hs : ∀ i acc st x, I i acc st → J.xs[i]? = some x → ∀ (yes : KD) (no : Sto → Prop), (∀ y st', I (i + 1) (acc ++ [y]) st' → yes y (st' ++ [.lst acc])) → (∀ st', I (i + 1) acc st' → no (st' ++ [.lst acc])) → turn x (st ++ [.lst acc]) yes no) : compW J st1 K turn := by
  refine ⟨fun i st2 => i ≤ J.xs.length ∧ ∃ acc st, st2 = st ++ [.lst acc] ∧ I i acc st, ⟨Nat.zero_le _, [], st1, rfl, h0⟩, ?_⟩
  rintro i st2 ⟨hi, acc, st, rfl, hI⟩
  obtain ⟨n1, n2, n3⟩ := hn i acc st hI
  refine ⟨n3, fun h => ?_, fun x hx => ?_⟩
  · have : i = J.xs.length := by omega
    subst this
    exact hd acc st hI
  · have hlt := (List.getElem?_eq_some_iff.mp hx).1
    refine hs i acc st x hI hx _ _ (fun y st' h' => ?_) fun st' h' => ⟨by omega, acc, st', rfl, h'⟩
    obtain ⟨m1, m2, m3⟩ := hn _ _ _ h'
    refine ⟨acc, by rw [← m1]; exact app_last, by omega, by omega, acc ++ [y], st', ?_, h'⟩
    rw [← m1]; exact app_set
/-- a comprehension that changes nothing: the list of the values -/
theorem compW_map {J : Itm} {st1 : Sto} {K : KD} {turn : D → Sto → KD → (Sto → Prop) → Prop} (f : D → D) (hl : J.xs.length ≤ 16777216) (hJ : ∀ acc, J.still (st1 ++ [.lst acc]))
    (hs : ∀ (i : Nat) (x : D) (acc : List D) (yes : KD) (no : Sto → Prop), J.xs[i]? = some x → yes (f x) (st1 ++ [.lst acc]) → turn x (st1 ++ [.lst acc]) yes no)
    (hd : K (.obj st1.length) (st1 ++ [.lst (J.xs.map f)])) : compW J st1 K turn := by
  refine compW_inv (fun i acc st => i ≤ J.xs.length ∧ st = st1 ∧ acc = (J.xs.take i).map f) ⟨Nat.zero_le _, rfl, by simp⟩ hl ?_ ?_ ?_
  · rintro i acc st ⟨h0, rfl, rfl⟩
    exact ⟨rfl, by simp; omega, hJ _⟩
  · rintro acc st ⟨_, rfl, rfl⟩
    rw [List.take_length]; exact hd
  · rintro i acc st x ⟨h0, rfl, rfl⟩ hx yes no hy hn
    refine hs i x _ yes no hx (hy _ _ ⟨(List.getElem?_eq_some_iff.mp hx).1, rfl, ?_⟩)
    have hlt := (List.getElem?_eq_some_iff.mp hx).1
    rw [List.take_succ, hx, List.map_append]; rfl
/-- a comprehension with conditions that changes nothing: the list of what is taken -/
theorem compW_fm {J : Itm} {st1 : Sto} {K : KD} {turn : D → Sto → KD → (Sto → Prop) → Prop} (f : D → Option D) (hl : J.xs.length ≤ 16777216) (hJ : ∀ acc, J.still (st1 ++ [.lst acc]))
    (hs : ∀ (i : Nat) (x : D) (acc : List D) (yes : KD) (no : Sto → Prop), J.xs[i]? = some x → (∀ y, f x = some y → yes y (st1 ++ [.lst acc])) → (f x = none → no (st1 ++ [.lst acc])) → turn x (st1 ++ [.lst acc]) yes no)
    (hd : K (.obj st1.length) (st1 ++ [.lst (J.xs.filterMap f)])) : compW J st1 K turn := by
  refine compW_inv (fun i acc st => i ≤ J.xs.length ∧ st = st1 ∧ acc = (J.xs.take i).filterMap f) ⟨Nat.zero_le _, rfl, by simp⟩ hl ?_ ?_ ?_
  · rintro i acc st ⟨h0, rfl, rfl⟩
    exact ⟨rfl, Nat.le_trans (List.length_filterMap_le _ _) (by simp; omega), hJ _⟩
  · rintro acc st ⟨_, rfl, rfl⟩
    rw [List.take_length]; exact hd
  · rintro i acc st x ⟨h0, rfl, rfl⟩ hx yes no hy hn
    have hlt := (List.getElem?_eq_some_iff.mp hx).1
    refine hs i x _ yes no hx (fun y e => hy _ _ ⟨hlt, rfl, ?_⟩) fun e => hn _ ⟨hlt, rfl, ?_⟩
    · rw [List.take_succ, hx, List.filterMap_append]
      show _ = _ ++ List.filterMap f [x]
      simp [e]
    · rw [List.take_succ, hx, List.filterMap_append]
      show _ = _ ++ List.filterMap f [x]
      simp [e]
/-- a loop by an invariant; the items stand still -/
theorem loopW_inv {J : Itm} {env : Env} {st : Sto} {nx : KE} {turn : D → Env → Sto → KE → Prop} (I : Nat → Env → Sto → Prop) (h0 : I 0 env st) (hst : ∀ i e s, i ≤ J.xs.length → I i e s → J.still s)
    (hd : ∀ e s, I J.xs.length e s → nx e s) (hs : ∀ i e s x, I i e s → J.xs[i]? = some x → ∀ nxt : KE, (∀ e' s', I (i + 1) e' s' → nxt e' s') → turn x e s nxt) : loopW J env st nx turn := by
  refine ⟨fun i e s => i ≤ J.xs.length ∧ I i e s, ⟨Nat.zero_le _, h0⟩, ?_⟩
  rintro i e s ⟨hi, hI⟩
  refine ⟨hst i e s hi hI, fun h => ?_, fun x hx => ?_⟩
  · have : i = J.xs.length := by omega
    subst this
    exact hd e s hI
  · exact hs i e s x hI hx _ fun e' s' h' => ⟨(List.getElem?_eq_some_iff.mp hx).1, h'⟩

/-! ### the cut of the store -/
/-- all is dropped that came behind -/
theorem gc_same {st : Sto} {g : Sto} {d : D} {K : KD} (hd : d.low st.length = true) (h : K d st) : gcTo st d (st ++ g) K := by
  refine ⟨st.length, Nat.le_refl _, by simp, hd, fun i hi => .inl ⟨hi, ?_⟩, ?_⟩
  · exact List.getElem?_append_left hi
  · rw [List.take_left]; exact h
theorem gc_nop {st : Sto} {d : D} {K : KD} (hd : d.low st.length = true) (h : K d st) : gcTo st d st K := by
  have := gc_same (g := []) hd h
  rwa [List.append_nil] at this
/-! ### the law's source of draws -/
/-- at s stands a source: its cells, place, rest, left, state, count -/
structure Src (st : Sto) (s : Nat) : Prop where
  ex : ∃ (c : Nat) (a1 a2 a3 a4 a5 : Int) (cells : List Int), st[s]? = some (.lst [.obj c, .int a1, .int a2, .int a3, .int a4, .int a5]) ∧ st[c]? = some (.lst (cells.map .int)) ∧ c < s ∧ 0 ≤ a1
/-- the source has turned, nothing else -/
def Dr (s : Nat) (st st' : Sto) : Prop := Src st' s ∧ ∃ o, st' = st.set s o ∧ o.low s = true
theorem Src.lt {st : Sto} {s : Nat} (h : Src st s) : s < st.length := by
  obtain ⟨c, a1, a2, a3, a4, a5, cells, h, _⟩ := h.ex
  exact (List.getElem?_eq_some_iff.mp h).1
theorem Dr.refl {st : Sto} {s : Nat} (h : Src st s) : Dr s st st := by
  obtain ⟨c, a1, a2, a3, a4, a5, cells, h1, h2, h3, h4⟩ := h.ex
  obtain ⟨l, e⟩ := List.getElem?_eq_some_iff.mp h1
  exact ⟨h, st[s], (List.set_getElem_self l).symm, by rw [e]; simp [O.low, D.lowL, D.low, h3]⟩
theorem Dr.trans {st st1 st2 : Sto} {s : Nat} (a : Dr s st st1) (b : Dr s st1 st2) : Dr s st st2 := by
  obtain ⟨_, o, rfl, _⟩ := a
  obtain ⟨h, o', rfl, l⟩ := b
  exact ⟨h, o', by rw [List.set_set], l⟩
theorem Dr.len {st st' : Sto} {s : Nat} (a : Dr s st st') : st'.length = st.length := by
  obtain ⟨_, o, rfl, _⟩ := a; simp
theorem Dr.get {st st' : Sto} {s i : Nat} (a : Dr s st st') (h : i ≠ s) : st'[i]? = st[i]? := by
  obtain ⟨_, o, rfl, _⟩ := a
  rw [List.getElem?_set_ne (Ne.symm h)]
/-- a source written anew -/
theorem Src.put {st : Sto} {s c : Nat} {a1 a2 a3 a4 a5 : Int} {cells : List Int} (hs : s < st.length) (hc : st[c]? = some (.lst (cells.map .int))) (h : c < s) (h1 : 0 ≤ a1) :
    Dr s st (st.set s (.lst [.obj c, .int a1, .int a2, .int a3, .int a4, .int a5])) := by
  refine ⟨⟨c, a1, a2, a3, a4, a5, cells, by rw [List.getElem?_set_self hs], by rw [List.getElem?_set_ne (by omega)]; exact hc, h, h1⟩, _, rfl, ?_⟩
  simp [O.low, D.lowL, D.low, h]

theorem Dr.app {st g st' : Sto} {s : Nat} (h : Dr s (st ++ g) st') (hs : s < st.length) : ∃ st2, st' = st2 ++ g ∧ st2.length = st.length ∧ (∃ o, st2 = st.set s o ∧ o.low s = true) := by
  obtain ⟨_, o, rfl, l⟩ := h
  exact ⟨st.set s o, app_set_lt hs, by simp, o, rfl, l⟩
theorem Src.app {st g : Sto} {s : Nat} (h : Src st s) : Src (st ++ g) s := by
  obtain ⟨c, a1, a2, a3, a4, a5, cells, h1, h2, h3, h4⟩ := h.ex
  have hl := (List.getElem?_eq_some_iff.mp h1).1
  exact ⟨c, a1, a2, a3, a4, a5, cells, by rw [app_lt hl]; exact h1, by rw [app_lt (by omega)]; exact h2, h3, h4⟩
theorem Src.of_app {st g : Sto} {s : Nat} (h : Src (st ++ g) s) (hs : s < st.length) : Src st s := by
  obtain ⟨c, a1, a2, a3, a4, a5, cells, h1, h2, h3, h4⟩ := h.ex
  exact ⟨c, a1, a2, a3, a4, a5, cells, by rw [app_lt hs] at h1; exact h1, by rw [app_lt (by omega)] at h2; exact h2, h3, h4⟩
/-- a turn of the source, ahead of a tail -/
theorem Dr.cut {st g st' : Sto} {s : Nat} (h : Dr s (st ++ g) st') (hs : s < st.length) : ∃ st2, st' = st2 ++ g ∧ Dr s st st2 := by
  obtain ⟨st2, rfl, hl, o, e, l⟩ := h.app hs
  exact ⟨st2, rfl, h.1.of_app (by rw [hl]; exact hs), o, e, l⟩
/-- at a def's end: the source has turned, the rest is dropped -/
theorem gc_dr {st st1 g : Sto} {s : Nat} {d : D} {K : KD} (h : Dr s st st1) (hd : d.low st.length = true) (hs : s < st.length) (k : K d st1) : gcTo st d (st1 ++ g) K := by
  have hl := h.len
  refine ⟨st.length, Nat.le_refl _, by simp [hl], hd, fun i hi => ?_, ?_⟩
  · rw [app_lt (by omega)]
    by_cases e : i = s
    · subst e
      obtain ⟨_, o, rfl, l⟩ := h
      exact .inr ⟨o, by rw [List.getElem?_set_self hs], O.low_mono (Nat.le_of_lt hs) l⟩
    · exact .inl ⟨hi, h.get e⟩
  · rw [← hl, List.take_left]; exact k
end Rf
/-! ### repr of data -/
namespace Rf
open PySem
mutual
def D.shw (B : Nat) : D → Bool
  | .int i => decide (i.natAbs.log2 < 1920) && decide ((PyData.shown (.int i)).length ≤ B)
  | .tup xs => D.shwL B xs
  | _ => true
def D.shwL (B : Nat) : List D → Bool
  | [] => true
  | x :: xs => D.shw B x && D.shwL B xs
end
mutual
def D.wt : D → Nat
  | .str s => s.length
  | .int i => if i == 0 then 0 else i.natAbs.log2 + 1
  | .tup xs => D.wtL xs
  | _ => 0
def D.wtL : List D → Nat
  | [] => 0
  | x :: xs => D.wt x + 1 + D.wtL xs
end
mutual
theorem shw_py (B : Nat) : ∀ d : D, d.nice = true → d.shw B = true → d.py.showable = true ∧ d.py.leavesShort B = true ∧ d.py.weight = d.wt
  | .non, _, _ => ⟨rfl, rfl, rfl⟩
  | .int i, _, h => by
    have h' : (decide (i.natAbs.log2 < 1920) && decide ((PyData.shown (.int i)).length ≤ B)) = true := h
    rw [Bool.and_eq_true] at h'
    exact ⟨h'.1, h'.2, rfl⟩
  | .str s, h, _ => by
    have h' : (s.all fun c => decide (c < 0x110000)) = true := h
    refine ⟨rfl, ?_, by simp [D.py, PyData.weight, D.wt]⟩
    show ((⟨s.toArray⟩ : Str).cps.toList.all fun c => decide (c < 16 ^ 8)) = true
    rw [List.all_eq_true] at h' ⊢
    intro c hc
    have := h' c (by simpa using hc)
    rw [decide_eq_true_eq] at this ⊢
    omega
  | .tup xs, h, g => by
    obtain ⟨h1, h2, h3⟩ := shw_pyL B xs h g
    refine ⟨by rw [D.py]; exact h1, by rw [D.py]; exact h2, ?_⟩
    rw [D.py, PyData.weight, h3]; rfl
  | .bl _, h, _ => by cases h
  | .fro _, h, _ => by cases h
  | .obj _, h, _ => by cases h
theorem shw_pyL (B : Nat) : ∀ xs : List D, D.niceL xs = true → D.shwL B xs = true → PyData.showableAll (D.pyL xs) = true ∧ PyData.leavesShortAll B (D.pyL xs) = true ∧ PyData.weightAll (D.pyL xs) = D.wtL xs
  | [], _, _ => ⟨rfl, rfl, rfl⟩
  | y :: ys, h, g => by
    have h' : (y.nice && D.niceL ys) = true := h
    have g' : (D.shw B y && D.shwL B ys) = true := g
    rw [Bool.and_eq_true] at h' g'
    obtain ⟨a1, a2, a3⟩ := shw_py B y h'.1 g'.1
    obtain ⟨b1, b2, b3⟩ := shw_pyL B ys h'.2 g'.2
    rw [D.pyL]
    exact ⟨by rw [PyData.showableAll, a1, b1]; rfl, by rw [PyData.leavesShortAll, a2, b2]; rfl, by rw [PyData.weightAll, a3, b3]; rfl⟩
end
/-- what repr tells of a value -/
def D.told (d : D) : List Nat := d.py.shown.cps.toList
theorem f_repr {st : Sto} {K : KD} {xs : List D} (B : Nat) (h1 : D.nice (.tup xs) = true) (h2 : D.deep (.tup xs) ≤ 60) (h3 : D.shw B (.tup xs) = true) (hB : 8 ≤ B) (h4 : (B + 2) * D.wt (.tup xs) + B ≤ 16777216) (k : K (.str (D.told (.tup xs))) st) :
    opBi .repr [.tup xs] st K := by
  obtain ⟨a1, a2⟩ := lay_py _ h1
  obtain ⟨b1, b2, b3⟩ := shw_py B _ h1 h3
  exact ⟨_, dat_py st _ h1, b1, PyData.hasDict_of_canLay _ a1, by rw [a2]; exact h2, Nat.le_trans (PyData.shown_le B hB _ b2) (by rw [b3]; exact h4), k⟩
/-! ### rows of texts -/
def tS (ns : List (List Nat)) : D := .tup (ns.map D.str)
theorem tS_low (m : Nat) (ns : List (List Nat)) : (tS ns).low m = true := by
  show D.lowL m (ns.map D.str) = true
  induction ns with
  | nil => rfl
  | cons n ns ih => exact ih
theorem tS_nice {ns : List (List Nat)} (h : ∀ s ∈ ns, ∀ c ∈ s, c < 0x110000) : (tS ns).nice = true := by
  show D.niceL (ns.map D.str) = true
  rw [niceL_iff]
  intro x hx
  obtain ⟨s, hs, rfl⟩ := List.mem_map.mp hx
  show (s.all fun c => decide (c < 0x110000)) = true
  rw [List.all_eq_true]
  exact fun c hc => decide_eq_true (h s hs c hc)
theorem tS_deep (ns : List (List Nat)) : (tS ns).deep ≤ 1 := by
  show D.deepL (ns.map D.str) + 1 ≤ 1
  have : D.deepL (ns.map D.str) ≤ 0 := deepL_le fun x hx => by
    obtain ⟨s, hs, rfl⟩ := List.mem_map.mp hx
    exact Nat.le_refl 0
  omega
theorem tS_shw (B : Nat) (ns : List (List Nat)) : (tS ns).shw B = true := by
  show D.shwL B (ns.map D.str) = true
  induction ns with
  | nil => rfl
  | cons n ns ih => exact ih
theorem tS_wt (ns : List (List Nat)) : (tS ns).wt = (ns.map List.length).sum + ns.length := by
  show D.wtL (ns.map D.str) = _
  induction ns with
  | nil => rfl
  | cons n ns ih =>
    show n.length + 1 + D.wtL (ns.map D.str) = _
    rw [ih]
    simp only [List.map_cons, List.sum_cons, List.length_cons]; omega
theorem map_str_inj {a b : List (List Nat)} : a.map D.str = b.map D.str ↔ a = b := by
  constructor
  · intro h
    induction a generalizing b with
    | nil => cases b with
      | nil => rfl
      | cons y ys => cases h
    | cons x xs ih => cases b with
      | nil => cases h
      | cons y ys =>
        rw [List.map_cons, List.map_cons] at h
        injection h with h1 h2
        injection h1 with h1
        rw [h1, ih h2]
  · rintro rfl; rfl
section
variable {st : Sto} {K : KD}
theorem f_lenS (a : List (List Nat)) : opBi .len [tS a] st K = K (.int a.length) st := by
  show opBi .len [.tup _] st K = _
  rw [f_lent, List.length_map]
theorem f_tupS (a : List (List Nat)) : opBi .tupleT [tS a] st K = K (tS a) st := rfl
theorem i_tS (a : List (List Nat)) (i : Int) : opIx (tS a) (.int i) st K = ∃ s, atD a i = some s ∧ K (.str s) st := by
  show opIx (.tup _) _ st K = _
  rw [i_tup]
  have e : atD (a.map D.str) i = (atD a i).map D.str := by
    unfold atD
    rw [List.length_map]
    cases ixD a.length i with
    | none => rfl
    | some j => show (a.map D.str)[j]? = (a[j]?).map D.str; rw [List.getElem?_map]
  rw [e]
  cases atD a i with
  | none => simp
  | some s => simp
theorem v_tS (a : List (List Nat)) : opIt (tS a) st K' = K' ⟨a.map D.str, []⟩ st := rfl
theorem y_tS (t : Ty) (a : List (List Nat)) : opIs t (tS a) st K = K (.bl (tyB t .tuple)) st := by cases t <;> rfl
theorem c_inS (s : List Nat) (a : List (List Nat)) : opC .inn (.str s) (tS a) st K = K (.bl (decide (s ∈ a))) st := by
  show opC .inn (.str s) (.tup _) st K = _
  rw [c_inst]
  apply propext
  constructor
  · rintro ⟨ss, h1, h2⟩
    rw [map_str_inj] at h1
    rw [← h1]; exact h2
  · intro h
    exact ⟨a, rfl, h⟩
theorem c_ninS (s : List Nat) (a : List (List Nat)) : opC .nin (.str s) (tS a) st K = K (.bl (!decide (s ∈ a))) st := by
  show opC .nin (.str s) (.tup _) st K = _
  rw [c_ninst]
  apply propext
  constructor
  · rintro ⟨ss, h1, h2⟩
    rw [map_str_inj] at h1
    rw [← h1]; exact h2
  · intro h
    exact ⟨a, rfl, h⟩
theorem isN_tS (a : List (List Nat)) : D.isN (tS a) = false := rfl
end
/-! ### tables -/
theorem dGet_map {kvs : List (D × D)} {k v j : D} : dGet (kvs.map fun p => if p.1 = k then (p.1, v) else p) j = if j = k then (dGet kvs j).map (fun _ => v) else dGet kvs j := by
  unfold dGet
  induction kvs with
  | nil => split <;> rfl
  | cons p r ih =>
    obtain ⟨a, b⟩ := p
    rw [List.map_cons, List.find?_cons, List.find?_cons]
    by_cases ha : a = k
    · subst ha
      by_cases hj : a = j
      · subst hj
        simp
      · have hj' : ¬ j = a := fun e => hj e.symm
        simp only [if_pos, if_true, hj, decide_false, hj', if_false] at ih ⊢
        exact ih
    · by_cases hj : a = j
      · subst hj
        simp [ha]
      · simp only [if_neg ha, hj, decide_false]
        exact ih
theorem dGet_put (kvs : List (D × D)) (k v j : D) : dGet (dPut kvs k v) j = if j = k then some v else dGet kvs j := by
  unfold dPut
  split
  · rename_i h
    rw [dGet_map]
    split
    · rename_i e
      subst e
      cases hg : dGet kvs j with
      | none => rw [hg] at h; cases h
      | some x => rfl
    · rfl
  · rename_i h
    have h0 : dGet kvs k = none := by
      cases hg : dGet kvs k with
      | none => rfl
      | some x => rw [hg] at h; exact absurd rfl h
    unfold dGet at h0 ⊢
    rw [List.find?_append]
    by_cases e : j = k
    · subst e
      rw [Option.map_eq_none_iff] at h0
      simp [h0]
    · rw [if_neg e]
      have : List.find? (fun p => decide (p.1 = j)) [(k, v)] = none := by
        simp; exact fun z => e z.symm
      rw [this, Option.or_none]
theorem dPut_len (kvs : List (D × D)) (k v : D) : (dPut kvs k v).length ≤ kvs.length + 1 := by
  unfold dPut
  split
  · rw [List.length_map]; omega
  · simp
end Rf

namespace Rf
open PySem
def b_is_word_1 : IS := .seq (.ret (.bl false)) .skip
def b_is_word_2 : IS := .seq (.ret (.gc (.bi .all (.cons (.comp [1] (.tn 1) (.iv (.var 0)) .nil (.or (.cons (.cmp .inn (.var 1) (.glob 0)) (.cons (.cmp .inn (.var 1) (.glob 1)) .nil)))) .nil)))) .skip
def b_is_word_0 : IS := .seq (.ite (.or (.cons (.not (.isi (.var 0) .str)) (.cons (.cmp .eq (.var 0) (.str [])) .nil))) b_is_word_1 .skip) b_is_word_2
def b_is_name_0 : IS := .seq (.ret (.and (.cons (.call 0 (.cons (.var 0) .nil)) (.cons (.cmp .le (.bi .len (.cons (.var 0) .nil)) (.int 12)) (.cons (.cmp .inn (.sub (.var 0) (.int 0)) (.glob 0)) (.cons (.cmp .nin (.var 0) (.glob 2)) .nil)))))) .skip
def b_is_sign_0 : IS := .seq (.ret (.and (.cons (.call 0 (.cons (.var 0) .nil)) (.cons (.cmp .le (.bi .len (.cons (.var 0) .nil)) (.int 6)) (.cons (.cmp .nin (.var 0) (.glob 2)) .nil))))) .skip
def b_is_number_1 : IS := .seq (.ret (.bl false)) .skip
def b_is_number_3 : IS := .seq (.ret (.bl false)) .skip
def b_is_number_4 : IS := .seq (.ret (.or (.cons (.cmp .eq (.var 0) (.str [48])) (.cons (.cmp .ne (.sub (.var 0) (.int 0)) (.str [48])) .nil)))) .skip
def b_is_number_2 : IS := .seq (.ite (.not (.gc (.bi .all (.cons (.comp [1] (.tn 1) (.iv (.var 0)) .nil (.cmp .inn (.var 1) (.glob 1))) .nil)))) b_is_number_3 .skip) b_is_number_4
def b_is_number_0 : IS := .seq (.ite (.or (.cons (.not (.call 0 (.cons (.var 0) .nil))) (.cons (.cmp .gt (.bi .len (.cons (.var 0) .nil)) (.int 3)) .nil))) b_is_number_1 .skip) b_is_number_2
def b__law_source_1 : IS := .seq (.ret (.lst (.cons (.var 1) (.cons (.int 0) (.cons (.int 0) (.cons (.int 0) (.cons (.bin .add (.int 1) (.bin .mod (.bi .intT (.cons (.bi .sum (.cons (.var 1) .nil)) .nil)) (.int 1000003))) (.cons (.int 0) .nil)))))))) .skip
def b__law_source_0 : IS := .seq (.asg (.tn 1) (.comp [2] (.tn 2) (.iv (.slc (.var 0) .nil (.cons (.int 63) .nil))) .nil (.bi .intT (.cons (.var 2) .nil)))) b__law_source_1
def b__law_mixed_2 : IS := .seq (.ret (.bin .mod (.bi .intT (.cons (.bin .fdiv (.sub (.var 0) (.int 4)) (.int 8)) .nil)) (.var 1))) .skip
def b__law_mixed_1 : IS := .seq (.sto (.var 0) (.int 4) (.bin .mod (.bi .intT (.cons (.bin .add (.bin .add (.bin .mul (.sub (.var 0) (.int 4)) (.int 48271)) (.int 12345)) (.bin .mul (.sub (.var 0) (.int 5)) (.int 69621))) .nil)) (.int 2147483647))) b__law_mixed_2
def b__law_mixed_0 : IS := .seq (.sto (.var 0) (.int 5) (.bin .add (.sub (.var 0) (.int 5)) (.int 1))) b__law_mixed_1
def b__law_draw_1 : IS := .seq (.ret (.int 0)) .skip
def b__law_draw_6 : IS := .seq (.ret (.var 3)) .skip
def b__law_draw_5 : IS := .seq (.sto (.var 0) (.int 2) (.bin .fdiv (.sub (.var 0) (.int 2)) (.var 1))) b__law_draw_6
def b__law_draw_4 : IS := .seq (.asg (.tn 3) (.bin .mod (.bi .intT (.cons (.sub (.var 0) (.int 2)) .nil)) (.var 1))) b__law_draw_5
def b__law_draw_9 : IS := .seq (.ret (.call 5 (.cons (.var 0) (.cons (.var 1) .nil)))) .skip
def b__law_draw_8 : IS := .seq (.sto (.var 0) (.int 3) (.bin .sub (.sub (.var 0) (.int 3)) (.int 1))) b__law_draw_9
def b__law_draw_11 : IS := .seq (.ret (.call 5 (.cons (.var 0) (.cons (.var 1) .nil)))) .skip
def b__law_draw_15 : IS := .seq (.sto (.var 0) (.int 2) (.var 4)) .skip
def b__law_draw_17 : IS := .seq (.sto (.var 0) (.int 4) (.bin .mod (.bi .intT (.cons (.bin .add (.bin .add (.bin .mul (.sub (.var 0) (.int 4)) (.int 31)) (.bin .mul (.bin .mod (.bi .intT (.cons (.var 4) .nil)) (.int 2147483647)) (.int 7))) (.int 1)) .nil)) (.int 2147483647))) .skip
def b__law_draw_16 : IS := .seq (.sto (.var 0) (.int 3) (.int 10)) b__law_draw_17
def b__law_draw_14 : IS := .seq (.ite (.cmp .ge (.var 4) (.int 1000000000000000000)) b__law_draw_15 b__law_draw_16) .skip
def b__law_draw_13 : IS := .seq (.sto (.var 0) (.int 1) (.bin .add (.sub (.var 0) (.int 1)) (.int 1))) b__law_draw_14
def b__law_draw_12 : IS := .seq (.asg (.tn 4) (.sub (.sub (.var 0) (.int 0)) (.sub (.var 0) (.int 1)))) b__law_draw_13
def b__law_draw_10 : IS := .seq (.ite (.cmp .ge (.sub (.var 0) (.int 1)) (.bi .len (.cons (.sub (.var 0) (.int 0)) .nil))) b__law_draw_11 .skip) b__law_draw_12
def b__law_draw_7 : IS := .seq (.ite (.cmp .gt (.sub (.var 0) (.int 3)) (.int 0)) b__law_draw_8 .skip) b__law_draw_10
def b__law_draw_3 : IS := .seq (.ite (.cmp .gt (.sub (.var 0) (.int 2)) (.int 0)) b__law_draw_4 .skip) b__law_draw_7
def b__law_draw_18 : IS := .seq (.ret (.call 5 (.cons (.var 0) (.cons (.var 1) .nil)))) .skip
def b__law_draw_2 : IS := .seq (.forr (.tn 2) (.ir1 (.int 64)) b__law_draw_3) b__law_draw_18
def b__law_draw_0 : IS := .seq (.ite (.cmp .le (.var 1) (.int 1)) b__law_draw_1 .skip) b__law_draw_2
def b__law_some_0 : IS := .seq (.ret (.sub (.var 1) (.call 6 (.cons (.var 0) (.cons (.bi .len (.cons (.var 1) .nil)) .nil))))) .skip
def b__law_reserved_2 : IS := .seq (.ret (.meth .split (.bin .add (.var 0) (.str [32, 97, 110, 100, 32, 111, 114, 32, 110, 111, 116])) (.cons (.str [32]) .nil))) .skip
def b__law_reserved_1 : IS := .seq (.asg (.tn 0) (.bin .add (.var 0) (.str [32, 116, 111, 116, 97, 108, 32, 104, 111, 108, 100, 32, 114, 101, 115, 116, 32, 108, 97, 112, 115, 101, 100, 32, 99, 111, 115, 116, 32, 115, 104, 97, 114, 101, 32, 114, 101, 97, 100, 115, 32, 99, 111, 117, 110, 116, 101, 114, 32, 104, 101, 97, 114, 100, 32, 115, 97, 105, 100, 32, 114, 101, 97, 100, 32, 97, 110, 121, 32, 105, 102, 32, 103, 105, 118, 101, 32, 115, 101, 116, 32, 103, 111, 32, 105, 116, 32, 105, 115, 32, 110, 111, 110, 101]))) b__law_reserved_2
def b__law_reserved_0 : IS := .seq (.asg (.tn 0) (.str [108, 105, 110, 101, 32, 109, 97, 99, 104, 105, 110, 101, 32, 115, 105, 103, 110, 115, 32, 115, 116, 97, 114, 116, 32, 97, 116, 32, 115, 116, 111, 112, 32, 108, 111, 115, 101, 32, 116, 117, 114, 110, 32, 105, 110, 116, 111, 32, 100, 111, 117, 98, 108, 101, 32, 97, 100, 100, 32, 98, 101, 102, 111, 114, 101, 32, 98, 101, 104, 105, 110, 100, 32, 108, 97, 112, 115, 101, 32, 109, 111, 115, 116, 32, 103, 105, 118, 101, 115, 32, 117, 110, 116, 105, 108, 32, 97, 112, 97, 114, 116])) b__law_reserved_1
def b__law_numbers_2 : IS := .seq (.sto (.var 0) (.bi .strT (.cons (.var 1) .nil)) (.bl true)) .skip
def b__law_numbers_3 : IS := .seq (.ret (.var 0)) .skip
def b__law_numbers_1 : IS := .seq (.forr (.tn 1) (.ir1 (.int 1000)) b__law_numbers_2) b__law_numbers_3
def b__law_numbers_0 : IS := .seq (.asg (.tn 0) (.dnew false)) b__law_numbers_1
def b__law_spelt_2 : IS := .seq (.asg (.tn 3) (.bin .add (.var 3) (.call 7 (.cons (.var 0) (.cons (.var 2) .nil))))) .skip
def b__law_spelt_3 : IS := .seq (.ret (.var 3)) .skip
def b__law_spelt_1 : IS := .seq (.forr (.tn 4) (.ir1 (.var 1)) b__law_spelt_2) b__law_spelt_3
def b__law_spelt_0 : IS := .seq (.asg (.tn 3) (.str [])) b__law_spelt_1
def b__law_changed_4 : IS := .seq (.ret (.bin .add (.bin .add (.slc (.var 1) .nil (.cons (.var 2) .nil)) (.var 3)) (.slc (.var 1) (.cons (.var 2) .nil) .nil))) .skip
def b__law_changed_6 : IS := .seq (.ret (.bin .add (.slc (.var 1) .nil (.cons (.var 2) .nil)) (.slc (.var 1) (.cons (.bin .add (.var 2) (.int 1)) .nil) .nil))) .skip
def b__law_changed_8 : IS := .seq (.ret (.bin .add (.bin .add (.slc (.var 1) .nil (.cons (.var 2) .nil)) (.var 3)) (.slc (.var 1) (.cons (.bin .add (.var 2) (.int 1)) .nil) .nil))) .skip
def b__law_changed_10 : IS := .seq (.ret (.bin .add (.var 1) (.var 3))) .skip
def b__law_changed_11 : IS := .seq (.ret (.bin .add (.var 1) (.var 1))) .skip
def b__law_changed_9 : IS := .seq (.ite (.cmp .eq (.var 4) (.int 3)) b__law_changed_10 .skip) b__law_changed_11
def b__law_changed_7 : IS := .seq (.ite (.cmp .eq (.var 4) (.int 2)) b__law_changed_8 .skip) b__law_changed_9
def b__law_changed_5 : IS := .seq (.ite (.cmp .eq (.var 4) (.int 1)) b__law_changed_6 .skip) b__law_changed_7
def b__law_changed_3 : IS := .seq (.ite (.cmp .eq (.var 4) (.int 0)) b__law_changed_4 .skip) b__law_changed_5
def b__law_changed_2 : IS := .seq (.asg (.tn 4) (.call 6 (.cons (.var 0) (.cons (.int 5) .nil)))) b__law_changed_3
def b__law_changed_1 : IS := .seq (.asg (.tn 3) (.call 7 (.cons (.var 0) (.cons (.str [97, 98, 99, 100, 101, 102, 103, 104, 105, 106, 107, 108, 109, 110, 111, 112, 113, 114, 115, 116, 117, 118, 119, 120, 121, 122, 48, 49, 50, 51, 52, 53, 54, 55, 56, 57]) .nil)))) b__law_changed_2
def b__law_changed_0 : IS := .seq (.asg (.tn 2) (.call 6 (.cons (.var 0) (.cons (.bi .len (.cons (.var 1) .nil)) .nil)))) b__law_changed_1
def b__law_broken_2 : IS := .seq (.ret (.bin .add (.bin .add (.slc (.var 1) .nil (.cons (.var 3) .nil)) (.call 7 (.cons (.var 0) (.cons (.var 2) .nil)))) (.slc (.var 1) (.cons (.var 3) .nil) .nil))) .skip
def b__law_broken_1 : IS := .seq (.asg (.tn 3) (.call 6 (.cons (.var 0) (.cons (.bin .add (.bi .len (.cons (.var 1) .nil)) (.int 1)) .nil)))) b__law_broken_2
def b__law_broken_0 : IS := .seq (.asg (.tn 2) (.str [32, 10, 33, 34, 35, 36, 38, 39, 40, 41, 42, 43, 44, 45, 46, 47, 58, 59, 60, 61, 62, 63, 64, 65, 66, 67, 68, 69, 70, 71, 72, 73, 74, 75, 76, 77, 78, 79, 80, 81, 82, 83, 84, 85, 86, 87, 88, 89, 90, 91, 92, 93, 94, 95, 96, 123, 124, 125, 126])) b__law_broken_1
def b__law_texts_2 : IS := .seq (.expr (.meth .append (.var 4) (.cons (.call 11 (.cons (.var 0) (.cons (.call 7 (.cons (.var 0) (.cons (.var 1) .nil))) .nil))) .nil))) .skip
def b__law_texts_4 : IS := .seq (.expr (.gc (.meth .extend (.var 4) (.cons (.lst (.cons (.slc (.var 2) .nil (.cons (.var 6) .nil)) (.cons (.slc (.var 2) (.cons (.bin .sub (.int 14) (.var 6)) .nil) .nil) .nil))) .nil)))) .skip
def b__law_texts_6 : IS := .seq (.expr (.gc (.meth .extend (.var 4) (.cons (.lst (.cons (.slc (.var 3) .nil (.cons (.var 6) .nil)) (.cons (.slc (.var 3) (.cons (.bin .sub (.int 5) (.var 6)) .nil) .nil) (.cons (.bin .add (.str [48]) (.slc (.var 3) .nil (.cons (.var 6) .nil))) .nil)))) .nil)))) .skip
def b__law_texts_10 : IS := .seq (.expr (.meth .append (.var 4) (.cons (.gc (.call 12 (.cons (.var 0) (.cons (.slc (.var 2) .nil (.cons (.call 6 (.cons (.var 0) (.cons (.int 7) .nil))) .nil)) .nil)))) .nil))) .skip
def b__law_texts_11 : IS := .seq (.ret (.var 4)) .skip
def b__law_texts_9 : IS := .seq (.forr (.tn 5) (.ir1 (.int 4)) b__law_texts_10) b__law_texts_11
def b__law_texts_8 : IS := .seq (.expr (.meth .append (.var 4) (.cons (.bin .mul (.var 2) (.bin .add (.int 1) (.call 6 (.cons (.var 0) (.cons (.int 50) .nil))))) .nil))) b__law_texts_9
def b__law_texts_7 : IS := .seq (.expr (.meth .append (.var 4) (.cons (.bi .strT (.cons (.call 6 (.cons (.var 0) (.cons (.int 1000) .nil))) .nil)) .nil))) b__law_texts_8
def b__law_texts_5 : IS := .seq (.forr (.tn 6) (.ir2 (.int 1) (.int 6)) b__law_texts_6) b__law_texts_7
def b__law_texts_3 : IS := .seq (.forr (.tn 6) (.ir2 (.int 1) (.int 15)) b__law_texts_4) b__law_texts_5
def b__law_texts_1 : IS := .seq (.forr (.tn 5) (.ir1 (.int 6)) b__law_texts_2) b__law_texts_3
def b__law_texts_0 : IS := .seq (.asg (.tn 4) (.bin .add (.bi .listT (.cons (.var 1) .nil)) (.lst (.cons (.str []) .nil)))) b__law_texts_1
def b__law_values_2 : IS := .seq (.asg (.tn 3) (.tup (.cons (.var 3) .nil))) .skip
def b__law_values_5 : IS := .seq (.ret (.bin .add (.var 6) (.lst (.cons .non (.cons (.var 5) (.cons (.neg (.var 5)) (.cons (.tup .nil) (.cons (.tup (.cons .non .nil)) (.cons (.tup (.cons (.slc (.var 1) .nil (.cons (.int 1) .nil)) (.cons (.tup (.cons (.slc (.var 1) (.cons (.int 1) .nil) (.cons (.int 4) .nil)) (.cons (.var 5) .nil))) .nil))) (.cons (.var 3) .nil)))))))))) .skip
def b__law_values_4 : IS := .seq (.asg (.tn 6) (.lst (.cons (.gc (.bi .tupleT (.cons (.slc (.var 1) .nil (.cons (.bin .add (.int 1) (.call 6 (.cons (.var 0) (.cons (.int 12) .nil)))) .nil)) .nil))) (.cons (.gc (.bi .tupleT (.cons (.slc (.var 2) .nil (.cons (.bin .add (.int 1) (.call 6 (.cons (.var 0) (.cons (.int 3) .nil)))) .nil)) .nil))) .nil)))) b__law_values_5
def b__law_values_3 : IS := .seq (.asg (.tn 5) (.call 6 (.cons (.var 0) (.cons (.int 1000) .nil)))) b__law_values_4
def b__law_values_1 : IS := .seq (.forr (.tn 4) (.ir1 (.bin .add (.int 1) (.call 6 (.cons (.var 0) (.cons (.int 12) .nil))))) b__law_values_2) b__law_values_3
def b__law_values_0 : IS := .seq (.asg (.tn 3) (.slc (.var 1) .nil (.cons (.int 2) .nil))) b__law_values_1
def b__law_right_5 : IS := .seq (.asg (.tn 4) (.tup (.cons (.and (.cons (.var 6) (.cons (.cmp .le (.bi .len (.cons (.var 0) .nil)) (.int 12)) (.cons (.cmp .inn (.sub (.var 0) (.int 0)) (.var 3)) .nil)))) (.cons (.and (.cons (.var 6) (.cons (.cmp .le (.bi .len (.cons (.var 0) .nil)) (.int 6)) .nil))) (.cons (.cmp .inn (.var 0) (.var 2)) .nil))))) .skip
def b__law_right_4 : IS := .seq (.asg (.tn 6) (.and (.cons (.var 5) (.cons (.cmp .nin (.var 0) (.var 1)) .nil)))) b__law_right_5
def b__law_right_3 : IS := .seq (.asg (.tn 5) (.and (.cons (.cmp .ne (.var 0) (.str [])) (.cons (.gc (.bi .all (.cons (.comp [9] (.tn 9) (.iv (.var 0)) .nil (.or (.cons (.cmp .inn (.var 9) (.var 3)) (.cons (.cmp .inn (.var 9) (.str [48, 49, 50, 51, 52, 53, 54, 55, 56, 57])) .nil)))) .nil))) .nil)))) b__law_right_4
def b__law_right_7 : IS := .seq (.ret (.and (.cons (.gc (.bi .all (.cons (.comp [8] (.tn 8) (.iv (.var 7)) .nil (.isi (.var 8) .bool)) .nil))) (.cons (.cmp .eq (.var 7) (.var 4)) .nil)))) .skip
def b__law_right_6 : IS := .seq (.asg (.tn 7) (.tup (.cons (.call 1 (.cons (.var 0) .nil)) (.cons (.call 2 (.cons (.var 0) .nil)) (.cons (.call 3 (.cons (.var 0) .nil)) .nil))))) b__law_right_7
def b__law_right_2 : IS := .seq (.ite (.isi (.var 0) .str) b__law_right_3 .skip) b__law_right_6
def b__law_right_1 : IS := .seq (.asg (.tn 4) (.tup (.cons (.bl false) (.cons (.bl false) (.cons (.bl false) .nil))))) b__law_right_2
def b__law_right_0 : IS := .seq (.asg (.tn 3) (.str [97, 98, 99, 100, 101, 102, 103, 104, 105, 106, 107, 108, 109, 110, 111, 112, 113, 114, 115, 116, 117, 118, 119, 120, 121, 122])) b__law_right_1
def b_law_8 : IS := .seq (.ret (.bl false)) .skip
def b_law_7 : IS := .seq (.ite (.not (.call 15 (.cons (.var 7) (.cons (.var 2) (.cons (.var 3) .nil))))) b_law_8 .skip) .skip
def b_law_9 : IS := .seq (.ret (.bl true)) .skip
def b_law_6 : IS := .seq (.forr (.tn 7) (.iv (.bin .add (.var 6) (.trv false (.var 6)))) b_law_7) b_law_9
def b_law_5 : IS := .seq (.asg (.tn 6) (.bin .add (.call 13 (.cons (.var 1) (.cons (.var 2) (.cons (.var 4) (.cons (.var 5) .nil))))) (.call 14 (.cons (.var 1) (.cons (.var 4) (.cons (.var 5) .nil)))))) b_law_6
def b_law_4 : IS := .seq (.asg (.tn 5) (.call 10 (.cons (.var 1) (.cons (.int 5) (.cons (.str [48, 49, 50, 51, 52, 53, 54, 55, 56, 57]) .nil))))) b_law_5
def b_law_3 : IS := .seq (.asg (.tn 4) (.call 10 (.cons (.var 1) (.cons (.int 14) (.cons (.str [97, 98, 99, 100, 101, 102, 103, 104, 105, 106, 107, 108, 109, 110, 111, 112, 113, 114, 115, 116, 117, 118, 119, 120, 121, 122, 48, 49, 50, 51, 52, 53, 54, 55, 56, 57]) .nil))))) b_law_4
def b_law_2 : IS := .seq (.asg (.tn 3) (.call 9 .nil)) b_law_3
def b_law_1 : IS := .seq (.asg (.tn 2) (.call 8 .nil)) b_law_2
def b_law_0 : IS := .seq (.asg (.tn 1) (.call 4 (.cons (.var 0) .nil))) b_law_1
def f_is_word : Fn := { name := "is_word", pos := 4, N := ["token", "char"], np := 1, dfl := [], body := b_is_word_0 }
def f_is_name : Fn := { name := "is_name", pos := 5, N := ["word"], np := 1, dfl := [], body := b_is_name_0 }
def f_is_sign : Fn := { name := "is_sign", pos := 6, N := ["word"], np := 1, dfl := [], body := b_is_sign_0 }
def f_is_number : Fn := { name := "is_number", pos := 7, N := ["word", "char"], np := 1, dfl := [], body := b_is_number_0 }
def f__law_source : Fn := { name := "_law_source", pos := 9, N := ["script", "cells", "cell"], np := 1, dfl := [], body := b__law_source_0 }
def f__law_mixed : Fn := { name := "_law_mixed", pos := 10, N := ["source", "many"], np := 2, dfl := [], body := b__law_mixed_0 }
def f__law_draw : Fn := { name := "_law_draw", pos := 11, N := ["source", "many", "step", "digit", "cell"], np := 2, dfl := [], body := b__law_draw_0 }
def f__law_some : Fn := { name := "_law_some", pos := 12, N := ["source", "things"], np := 2, dfl := [], body := b__law_some_0 }
def f__law_reserved : Fn := { name := "_law_reserved", pos := 13, N := ["words"], np := 0, dfl := [], body := b__law_reserved_0 }
def f__law_numbers : Fn := { name := "_law_numbers", pos := 14, N := ["found", "number"], np := 0, dfl := [], body := b__law_numbers_0 }
def f__law_spelt : Fn := { name := "_law_spelt", pos := 15, N := ["source", "size", "chars", "word", "k"], np := 3, dfl := [], body := b__law_spelt_0 }
def f__law_changed : Fn := { name := "_law_changed", pos := 16, N := ["source", "word", "at", "char", "way"], np := 2, dfl := [], body := b__law_changed_0 }
def f__law_broken : Fn := { name := "_law_broken", pos := 17, N := ["source", "word", "others", "at"], np := 2, dfl := [], body := b__law_broken_0 }
def f__law_texts : Fn := { name := "_law_texts", pos := 18, N := ["source", "reserved", "word", "digits", "texts", "k", "size"], np := 4, dfl := [], body := b__law_texts_0 }
def f__law_values : Fn := { name := "_law_values", pos := 19, N := ["source", "word", "digits", "deep", "k", "number", "values"], np := 3, dfl := [], body := b__law_values_0 }
def f__law_right : Fn := { name := "_law_right", pos := 20, N := ["value", "reserved", "numbers", "letters", "dues", "plain", "free", "tolds", "told", "char"], np := 3, dfl := [], body := b__law_right_0 }
def f_law : Fn := { name := "law", pos := 21, N := ["script", "source", "reserved", "numbers", "word", "digits", "values", "value"], np := 1, dfl := [], body := b_law_0 }
def TT : List Fn := [f_is_word, f_is_name, f_is_sign, f_is_number, f__law_source, f__law_mixed, f__law_draw, f__law_some, f__law_reserved, f__law_numbers, f__law_spelt, f__law_changed, f__law_broken, f__law_texts, f__law_values, f__law_right, f_law]
def GNs : List Str := ["LETTERS", "DIGITS", "RESERVED"]
def GG : List D := [(.str [97, 98, 99, 100, 101, 102, 103, 104, 105, 106, 107, 108, 109, 110, 111, 112, 113, 114, 115, 116, 117, 118, 119, 120, 121, 122]), (.str [48, 49, 50, 51, 52, 53, 54, 55, 56, 57]), (.tup [(.str [108, 105, 110, 101]), (.str [109, 97, 99, 104, 105, 110, 101]), (.str [115, 105, 103, 110, 115]), (.str [115, 116, 97, 114, 116]), (.str [97, 116]), (.str [115, 116, 111, 112]), (.str [108, 111, 115, 101]), (.str [116, 117, 114, 110]), (.str [105, 110, 116, 111]), (.str [100, 111, 117, 98, 108, 101]), (.str [97, 100, 100]), (.str [98, 101, 102, 111, 114, 101]), (.str [98, 101, 104, 105, 110, 100]), (.str [108, 97, 112, 115, 101]), (.str [109, 111, 115, 116]), (.str [103, 105, 118, 101, 115]), (.str [117, 110, 116, 105, 108]), (.str [97, 112, 97, 114, 116]), (.str [116, 111, 116, 97, 108]), (.str [104, 111, 108, 100]), (.str [114, 101, 115, 116]), (.str [108, 97, 112, 115, 101, 100]), (.str [99, 111, 115, 116]), (.str [115, 104, 97, 114, 101]), (.str [114, 101, 97, 100, 115]), (.str [99, 111, 117, 110, 116, 101, 114]), (.str [104, 101, 97, 114, 100]), (.str [115, 97, 105, 100]), (.str [114, 101, 97, 100]), (.str [97, 110, 121]), (.str [105, 102]), (.str [103, 105, 118, 101]), (.str [115, 101, 116]), (.str [103, 111]), (.str [105, 116]), (.str [105, 115]), (.str [110, 111, 110, 101]), (.str [97, 110, 100]), (.str [111, 114]), (.str [110, 111, 116])])]
def TNs : List Str := ["is_word", "is_name", "is_sign", "is_number", "_law_source", "_law_mixed", "_law_draw", "_law_some", "_law_reserved", "_law_numbers", "_law_spelt", "_law_changed", "_law_broken", "_law_texts", "_law_values", "_law_right", "law"]
end Rf

namespace Rf
open PySem
theorem mixed_ok {k s : Nat} {st : Sto} {m : Int} {Q : KD} {E : XD} (hS : Src st s) (hm : 0 < m) (h : ∀ n st', 0 ≤ n → n < m → Dr s st st' → Q (.int n) st') : wCall GG TT (k + 1) 5 [.obj s, .int m] st Q E := by
  have hl := hS.lt
  obtain ⟨c, a1, a2, a3, a4, a5, cells, h1, h2, h3, h4⟩ := hS.ex
  refine wCall_in (fn := f__law_mixed) rfl rfl rfl ?_
  show wS _ _ b__law_mixed_0 [some (.obj s), some (.int m)] _ _
  simp only [wS, wE, wEs, wT_tn, wT_tt, wTs_nil, wTs_cons, wAnd, wOr, wO, wIf, rdV, argN, tyB, b_add, b_sub, b_mul, b_fdiv, b_mod, b_adds, b_addt, b_addo, b_muls, b_mulo, c_eq, c_ne, c_lt, c_le, c_gt, c_ge, c_eqs, c_nes, c_eqb, c_neb, c_in1, c_nin1, c_init, c_ninit, c_inio, c_ninio, i_objs, dOk_int, dOk_str, o_sets, m_get1, m_get2, m_setd, t_get, t_setd, O.dic.injEq, c_inso, c_inst, c_ninso, c_ninst, f_lenS, f_tupS, i_tS, v_tS, y_tS, c_inS, c_ninS, isN_tS, c_isn, c_isntn, c_isb, c_isntb, isN_non, isN_int, isN_str, isN_tup, isN_bl, isN_obj, sq_tup, sq_fro, sq_obj, i_str, i_obj, i_tup, i_fro, s_str, s_tup, s_fro, s_obj, f_lens, f_lent, f_lenf, f_leno, f_inti, f_intb, f_boolb, f_sum, f_all, f_any, f_tupt, f_tupo, f_lstt, f_lsto, f_min, f_max, f_abs, f_stri, m_app, m_popi, m_ins, m_idxi, m_idxs, m_split, m_words, t_ins, t_idx, t_idxf, t_split,  m_ext, m_pop, m_join, t_app, t_ext, t_pop, t_join, o_set, y_non, y_int, y_bl, y_str, y_tup, y_fro, y_obj, v_tup, v_tI, v_fro, v_str, v_obj, z_tup, z_to, z_ot, z_obj, f_tups, t_idxt, en_obj, en_tup, rv_obj, rv_tup, s_tI, b_addI, f_lenI, f_tupI, f_lstI, i_tI, y_tI, isN_tI, tI_nil, still_nil, still_one, still_two, ixD0, ixD1, ixD2, ixD3, ixD4, ixD5, Nat.reduceAdd, Nat.reduceSub, Nat.reduceLT, Nat.reduceEqDiff, Nat.lt_add_one, Nat.zero_lt_succ, atD0, atD1, atD2, atD3, atD4, atD5, List.getElem?_cons_zero, List.getElem?_cons_succ, List.set_cons_zero, List.set_cons_succ, Option.some.injEq, D.int.injEq, D.bl.injEq, D.obj.injEq, D.str.injEq, D.tup.injEq, O.lst.injEq, List.cons.injEq, List.length_cons, List.length_nil, exists_eq_left', exists_eq_left, exists_eq, exists_eq', exists_and_left, true_and, and_true, and_self, decide_eq_true_eq, decide_eq_false_iff_not, Bool.not_eq_true', Bool.not_eq_false', Bool.not_true, Bool.not_false, forall_const, imp_self, reduceCtorEq, false_and, and_false, exists_false, or_false, false_or, implies_true, false_implies, true_implies, not_true_eq_false, not_false_eq_true, if_true, if_false, b__law_mixed_0, h1]
  simp only [wS, wE, wEs, wT_tn, wT_tt, wTs_nil, wTs_cons, wAnd, wOr, wO, wIf, rdV, argN, tyB, b_add, b_sub, b_mul, b_fdiv, b_mod, b_adds, b_addt, b_addo, b_muls, b_mulo, c_eq, c_ne, c_lt, c_le, c_gt, c_ge, c_eqs, c_nes, c_eqb, c_neb, c_in1, c_nin1, c_init, c_ninit, c_inio, c_ninio, i_objs, dOk_int, dOk_str, o_sets, m_get1, m_get2, m_setd, t_get, t_setd, O.dic.injEq, c_inso, c_inst, c_ninso, c_ninst, f_lenS, f_tupS, i_tS, v_tS, y_tS, c_inS, c_ninS, isN_tS, c_isn, c_isntn, c_isb, c_isntb, isN_non, isN_int, isN_str, isN_tup, isN_bl, isN_obj, sq_tup, sq_fro, sq_obj, i_str, i_obj, i_tup, i_fro, s_str, s_tup, s_fro, s_obj, f_lens, f_lent, f_lenf, f_leno, f_inti, f_intb, f_boolb, f_sum, f_all, f_any, f_tupt, f_tupo, f_lstt, f_lsto, f_min, f_max, f_abs, f_stri, m_app, m_popi, m_ins, m_idxi, m_idxs, m_split, m_words, t_ins, t_idx, t_idxf, t_split,  m_ext, m_pop, m_join, t_app, t_ext, t_pop, t_join, o_set, y_non, y_int, y_bl, y_str, y_tup, y_fro, y_obj, v_tup, v_tI, v_fro, v_str, v_obj, z_tup, z_to, z_ot, z_obj, f_tups, t_idxt, en_obj, en_tup, rv_obj, rv_tup, s_tI, b_addI, f_lenI, f_tupI, f_lstI, i_tI, y_tI, isN_tI, tI_nil, still_nil, still_one, still_two, ixD0, ixD1, ixD2, ixD3, ixD4, ixD5, Nat.reduceAdd, Nat.reduceSub, Nat.reduceLT, Nat.reduceEqDiff, Nat.lt_add_one, Nat.zero_lt_succ, atD0, atD1, atD2, atD3, atD4, atD5, List.getElem?_cons_zero, List.getElem?_cons_succ, List.set_cons_zero, List.set_cons_succ, Option.some.injEq, D.int.injEq, D.bl.injEq, D.obj.injEq, D.str.injEq, D.tup.injEq, O.lst.injEq, List.cons.injEq, List.length_cons, List.length_nil, exists_eq_left', exists_eq_left, exists_eq, exists_eq', exists_and_left, true_and, and_true, and_self, decide_eq_true_eq, decide_eq_false_iff_not, Bool.not_eq_true', Bool.not_eq_false', Bool.not_true, Bool.not_false, forall_const, imp_self, reduceCtorEq, false_and, and_false, exists_false, or_false, false_or, implies_true, false_implies, true_implies, not_true_eq_false, not_false_eq_true, if_true, if_false, b__law_mixed_1, List.getElem?_set_self, hl, List.set_set]
  refine ⟨.inr (by decide), .inr (by decide), by decide, ?_⟩
  simp only [wS, wE, wEs, wT_tn, wT_tt, wTs_nil, wTs_cons, wAnd, wOr, wO, wIf, rdV, argN, tyB, b_add, b_sub, b_mul, b_fdiv, b_mod, b_adds, b_addt, b_addo, b_muls, b_mulo, c_eq, c_ne, c_lt, c_le, c_gt, c_ge, c_eqs, c_nes, c_eqb, c_neb, c_in1, c_nin1, c_init, c_ninit, c_inio, c_ninio, i_objs, dOk_int, dOk_str, o_sets, m_get1, m_get2, m_setd, t_get, t_setd, O.dic.injEq, c_inso, c_inst, c_ninso, c_ninst, f_lenS, f_tupS, i_tS, v_tS, y_tS, c_inS, c_ninS, isN_tS, c_isn, c_isntn, c_isb, c_isntb, isN_non, isN_int, isN_str, isN_tup, isN_bl, isN_obj, sq_tup, sq_fro, sq_obj, i_str, i_obj, i_tup, i_fro, s_str, s_tup, s_fro, s_obj, f_lens, f_lent, f_lenf, f_leno, f_inti, f_intb, f_boolb, f_sum, f_all, f_any, f_tupt, f_tupo, f_lstt, f_lsto, f_min, f_max, f_abs, f_stri, m_app, m_popi, m_ins, m_idxi, m_idxs, m_split, m_words, t_ins, t_idx, t_idxf, t_split,  m_ext, m_pop, m_join, t_app, t_ext, t_pop, t_join, o_set, y_non, y_int, y_bl, y_str, y_tup, y_fro, y_obj, v_tup, v_tI, v_fro, v_str, v_obj, z_tup, z_to, z_ot, z_obj, f_tups, t_idxt, en_obj, en_tup, rv_obj, rv_tup, s_tI, b_addI, f_lenI, f_tupI, f_lstI, i_tI, y_tI, isN_tI, tI_nil, still_nil, still_one, still_two, ixD0, ixD1, ixD2, ixD3, ixD4, ixD5, Nat.reduceAdd, Nat.reduceSub, Nat.reduceLT, Nat.reduceEqDiff, Nat.lt_add_one, Nat.zero_lt_succ, atD0, atD1, atD2, atD3, atD4, atD5, List.getElem?_cons_zero, List.getElem?_cons_succ, List.set_cons_zero, List.set_cons_succ, Option.some.injEq, D.int.injEq, D.bl.injEq, D.obj.injEq, D.str.injEq, D.tup.injEq, O.lst.injEq, List.cons.injEq, List.length_cons, List.length_nil, exists_eq_left', exists_eq_left, exists_eq, exists_eq', exists_and_left, true_and, and_true, and_self, decide_eq_true_eq, decide_eq_false_iff_not, Bool.not_eq_true', Bool.not_eq_false', Bool.not_true, Bool.not_false, forall_const, imp_self, reduceCtorEq, false_and, and_false, exists_false, or_false, false_or, implies_true, false_implies, true_implies, not_true_eq_false, not_false_eq_true, if_true, if_false, b__law_mixed_2, List.getElem?_set_self, hl, List.set_set]
  refine ⟨by decide, hm, ?_⟩
  exact .inl (h _ _ (Int.emod_nonneg _ (by omega)) (Int.emod_lt_of_pos _ hm) (Src.put hl h2 h3 h4))
theorem mixed_nat {k s : Nat} {st : Sto} {m : Int} {Q : KD} {E : XD} (hS : Src st s) (hm : 0 < m) (h : ∀ (n : Nat) st', (n : Int) < m → Dr s st st' → Q (.int n) st') : wCall GG TT (k + 1) 5 [.obj s, .int m] st Q E :=
  mixed_ok hS hm fun n st' a b c => by
    obtain ⟨j, rfl⟩ := Int.eq_ofNat_of_zero_le a
    exact h j st' b c
theorem draw_ok {k s : Nat} {st : Sto} {m : Int} {Q : KD} {E : XD} (hS : Src st s) (hb : m < 1073741824) (h : ∀ (n : Nat) st', ((n : Int) < m ∨ n = 0) → Dr s st st' → Q (.int n) st') : wCall GG TT (k + 2) 6 [.obj s, .int m] st Q E := by
  refine wCall_in (fn := f__law_draw) rfl rfl rfl ?_
  show wS _ _ b__law_draw_0 [some (.obj s), some (.int m), none, none, none] _ _
  simp only [wS, wE, wEs, wT_tn, wT_tt, wTs_nil, wTs_cons, wAnd, wOr, wO, wIf, rdV, argN, tyB, b_add, b_sub, b_mul, b_fdiv, b_mod, b_adds, b_addt, b_addo, b_muls, b_mulo, c_eq, c_ne, c_lt, c_le, c_gt, c_ge, c_eqs, c_nes, c_eqb, c_neb, c_in1, c_nin1, c_init, c_ninit, c_inio, c_ninio, i_objs, dOk_int, dOk_str, o_sets, m_get1, m_get2, m_setd, t_get, t_setd, O.dic.injEq, c_inso, c_inst, c_ninso, c_ninst, f_lenS, f_tupS, i_tS, v_tS, y_tS, c_inS, c_ninS, isN_tS, c_isn, c_isntn, c_isb, c_isntb, isN_non, isN_int, isN_str, isN_tup, isN_bl, isN_obj, sq_tup, sq_fro, sq_obj, i_str, i_obj, i_tup, i_fro, s_str, s_tup, s_fro, s_obj, f_lens, f_lent, f_lenf, f_leno, f_inti, f_intb, f_boolb, f_sum, f_all, f_any, f_tupt, f_tupo, f_lstt, f_lsto, f_min, f_max, f_abs, f_stri, m_app, m_popi, m_ins, m_idxi, m_idxs, m_split, m_words, t_ins, t_idx, t_idxf, t_split,  m_ext, m_pop, m_join, t_app, t_ext, t_pop, t_join, o_set, y_non, y_int, y_bl, y_str, y_tup, y_fro, y_obj, v_tup, v_tI, v_fro, v_str, v_obj, z_tup, z_to, z_ot, z_obj, f_tups, t_idxt, en_obj, en_tup, rv_obj, rv_tup, s_tI, b_addI, f_lenI, f_tupI, f_lstI, i_tI, y_tI, isN_tI, tI_nil, still_nil, still_one, still_two, ixD0, ixD1, ixD2, ixD3, ixD4, ixD5, Nat.reduceAdd, Nat.reduceSub, Nat.reduceLT, Nat.reduceEqDiff, Nat.lt_add_one, Nat.zero_lt_succ, atD0, atD1, atD2, atD3, atD4, atD5, List.getElem?_cons_zero, List.getElem?_cons_succ, List.set_cons_zero, List.set_cons_succ, Option.some.injEq, D.int.injEq, D.bl.injEq, D.obj.injEq, D.str.injEq, D.tup.injEq, O.lst.injEq, List.cons.injEq, List.length_cons, List.length_nil, exists_eq_left', exists_eq_left, exists_eq, exists_eq', exists_and_left, true_and, and_true, and_self, decide_eq_true_eq, decide_eq_false_iff_not, Bool.not_eq_true', Bool.not_eq_false', Bool.not_true, Bool.not_false, forall_const, imp_self, reduceCtorEq, false_and, and_false, exists_false, or_false, false_or, implies_true, false_implies, true_implies, not_true_eq_false, not_false_eq_true, if_true, if_false, b__law_draw_0]
  refine ⟨fun hm => ?_, fun hm => ?_⟩
  · simp only [wS, wE, wEs, wT_tn, wT_tt, wTs_nil, wTs_cons, wAnd, wOr, wO, wIf, rdV, argN, tyB, b_add, b_sub, b_mul, b_fdiv, b_mod, b_adds, b_addt, b_addo, b_muls, b_mulo, c_eq, c_ne, c_lt, c_le, c_gt, c_ge, c_eqs, c_nes, c_eqb, c_neb, c_in1, c_nin1, c_init, c_ninit, c_inio, c_ninio, i_objs, dOk_int, dOk_str, o_sets, m_get1, m_get2, m_setd, t_get, t_setd, O.dic.injEq, c_inso, c_inst, c_ninso, c_ninst, f_lenS, f_tupS, i_tS, v_tS, y_tS, c_inS, c_ninS, isN_tS, c_isn, c_isntn, c_isb, c_isntb, isN_non, isN_int, isN_str, isN_tup, isN_bl, isN_obj, sq_tup, sq_fro, sq_obj, i_str, i_obj, i_tup, i_fro, s_str, s_tup, s_fro, s_obj, f_lens, f_lent, f_lenf, f_leno, f_inti, f_intb, f_boolb, f_sum, f_all, f_any, f_tupt, f_tupo, f_lstt, f_lsto, f_min, f_max, f_abs, f_stri, m_app, m_popi, m_ins, m_idxi, m_idxs, m_split, m_words, t_ins, t_idx, t_idxf, t_split,  m_ext, m_pop, m_join, t_app, t_ext, t_pop, t_join, o_set, y_non, y_int, y_bl, y_str, y_tup, y_fro, y_obj, v_tup, v_tI, v_fro, v_str, v_obj, z_tup, z_to, z_ot, z_obj, f_tups, t_idxt, en_obj, en_tup, rv_obj, rv_tup, s_tI, b_addI, f_lenI, f_tupI, f_lstI, i_tI, y_tI, isN_tI, tI_nil, still_nil, still_one, still_two, ixD0, ixD1, ixD2, ixD3, ixD4, ixD5, Nat.reduceAdd, Nat.reduceSub, Nat.reduceLT, Nat.reduceEqDiff, Nat.lt_add_one, Nat.zero_lt_succ, atD0, atD1, atD2, atD3, atD4, atD5, List.getElem?_cons_zero, List.getElem?_cons_succ, List.set_cons_zero, List.set_cons_succ, Option.some.injEq, D.int.injEq, D.bl.injEq, D.obj.injEq, D.str.injEq, D.tup.injEq, O.lst.injEq, List.cons.injEq, List.length_cons, List.length_nil, exists_eq_left', exists_eq_left, exists_eq, exists_eq', exists_and_left, true_and, and_true, and_self, decide_eq_true_eq, decide_eq_false_iff_not, Bool.not_eq_true', Bool.not_eq_false', Bool.not_true, Bool.not_false, forall_const, imp_self, reduceCtorEq, false_and, and_false, exists_false, or_false, false_or, implies_true, false_implies, true_implies, not_true_eq_false, not_false_eq_true, if_true, if_false, b__law_draw_1]
    exact .inl (h 0 st (.inr rfl) (.refl hS))
  have hm0 : 0 < m := by omega
  simp only [wS, wE, wEs, wT_tn, wT_tt, wTs_nil, wTs_cons, wAnd, wOr, wO, wIf, rdV, argN, tyB, b_add, b_sub, b_mul, b_fdiv, b_mod, b_adds, b_addt, b_addo, b_muls, b_mulo, c_eq, c_ne, c_lt, c_le, c_gt, c_ge, c_eqs, c_nes, c_eqb, c_neb, c_in1, c_nin1, c_init, c_ninit, c_inio, c_ninio, i_objs, dOk_int, dOk_str, o_sets, m_get1, m_get2, m_setd, t_get, t_setd, O.dic.injEq, c_inso, c_inst, c_ninso, c_ninst, f_lenS, f_tupS, i_tS, v_tS, y_tS, c_inS, c_ninS, isN_tS, c_isn, c_isntn, c_isb, c_isntb, isN_non, isN_int, isN_str, isN_tup, isN_bl, isN_obj, sq_tup, sq_fro, sq_obj, i_str, i_obj, i_tup, i_fro, s_str, s_tup, s_fro, s_obj, f_lens, f_lent, f_lenf, f_leno, f_inti, f_intb, f_boolb, f_sum, f_all, f_any, f_tupt, f_tupo, f_lstt, f_lsto, f_min, f_max, f_abs, f_stri, m_app, m_popi, m_ins, m_idxi, m_idxs, m_split, m_words, t_ins, t_idx, t_idxf, t_split,  m_ext, m_pop, m_join, t_app, t_ext, t_pop, t_join, o_set, y_non, y_int, y_bl, y_str, y_tup, y_fro, y_obj, v_tup, v_tI, v_fro, v_str, v_obj, z_tup, z_to, z_ot, z_obj, f_tups, t_idxt, en_obj, en_tup, rv_obj, rv_tup, s_tI, b_addI, f_lenI, f_tupI, f_lstI, i_tI, y_tI, isN_tI, tI_nil, still_nil, still_one, still_two, ixD0, ixD1, ixD2, ixD3, ixD4, ixD5, Nat.reduceAdd, Nat.reduceSub, Nat.reduceLT, Nat.reduceEqDiff, Nat.lt_add_one, Nat.zero_lt_succ, atD0, atD1, atD2, atD3, atD4, atD5, List.getElem?_cons_zero, List.getElem?_cons_succ, List.set_cons_zero, List.set_cons_succ, Option.some.injEq, D.int.injEq, D.bl.injEq, D.obj.injEq, D.str.injEq, D.tup.injEq, O.lst.injEq, List.cons.injEq, List.length_cons, List.length_nil, exists_eq_left', exists_eq_left, exists_eq, exists_eq', exists_and_left, true_and, and_true, and_self, decide_eq_true_eq, decide_eq_false_iff_not, Bool.not_eq_true', Bool.not_eq_false', Bool.not_true, Bool.not_false, forall_const, imp_self, reduceCtorEq, false_and, and_false, exists_false, or_false, false_or, implies_true, false_implies, true_implies, not_true_eq_false, not_false_eq_true, if_true, if_false, b__law_draw_2, wI]
  refine ⟨by decide, loopW_inv (fun i env st' => Dr s st st' ∧ ∃ x y z, env = [some (.obj s), some (.int m), x, y, z]) ⟨.refl hS, _, _, _, rfl⟩ (fun i e s _ _ => by simp only [wS, wE, wEs, wT_tn, wT_tt, wTs_nil, wTs_cons, wAnd, wOr, wO, wIf, rdV, argN, tyB, b_add, b_sub, b_mul, b_fdiv, b_mod, b_adds, b_addt, b_addo, b_muls, b_mulo, c_eq, c_ne, c_lt, c_le, c_gt, c_ge, c_eqs, c_nes, c_eqb, c_neb, c_in1, c_nin1, c_init, c_ninit, c_inio, c_ninio, i_objs, dOk_int, dOk_str, o_sets, m_get1, m_get2, m_setd, t_get, t_setd, O.dic.injEq, c_inso, c_inst, c_ninso, c_ninst, f_lenS, f_tupS, i_tS, v_tS, y_tS, c_inS, c_ninS, isN_tS, c_isn, c_isntn, c_isb, c_isntb, isN_non, isN_int, isN_str, isN_tup, isN_bl, isN_obj, sq_tup, sq_fro, sq_obj, i_str, i_obj, i_tup, i_fro, s_str, s_tup, s_fro, s_obj, f_lens, f_lent, f_lenf, f_leno, f_inti, f_intb, f_boolb, f_sum, f_all, f_any, f_tupt, f_tupo, f_lstt, f_lsto, f_min, f_max, f_abs, f_stri, m_app, m_popi, m_ins, m_idxi, m_idxs, m_split, m_words, t_ins, t_idx, t_idxf, t_split,  m_ext, m_pop, m_join, t_app, t_ext, t_pop, t_join, o_set, y_non, y_int, y_bl, y_str, y_tup, y_fro, y_obj, v_tup, v_tI, v_fro, v_str, v_obj, z_tup, z_to, z_ot, z_obj, f_tups, t_idxt, en_obj, en_tup, rv_obj, rv_tup, s_tI, b_addI, f_lenI, f_tupI, f_lstI, i_tI, y_tI, isN_tI, tI_nil, still_nil, still_one, still_two, ixD0, ixD1, ixD2, ixD3, ixD4, ixD5, Nat.reduceAdd, Nat.reduceSub, Nat.reduceLT, Nat.reduceEqDiff, Nat.lt_add_one, Nat.zero_lt_succ, atD0, atD1, atD2, atD3, atD4, atD5, List.getElem?_cons_zero, List.getElem?_cons_succ, List.set_cons_zero, List.set_cons_succ, Option.some.injEq, D.int.injEq, D.bl.injEq, D.obj.injEq, D.str.injEq, D.tup.injEq, O.lst.injEq, List.cons.injEq, List.length_cons, List.length_nil, exists_eq_left', exists_eq_left, exists_eq, exists_eq', exists_and_left, true_and, and_true, and_self, decide_eq_true_eq, decide_eq_false_iff_not, Bool.not_eq_true', Bool.not_eq_false', Bool.not_true, Bool.not_false, forall_const, imp_self, reduceCtorEq, false_and, and_false, exists_false, or_false, false_or, implies_true, false_implies, true_implies, not_true_eq_false, not_false_eq_true, if_true, if_false]) ?_ ?_⟩
  · rintro env st1 ⟨hD, x, y, z, rfl⟩
    simp only [wS, wE, wEs, wT_tn, wT_tt, wTs_nil, wTs_cons, wAnd, wOr, wO, wIf, rdV, argN, tyB, b_add, b_sub, b_mul, b_fdiv, b_mod, b_adds, b_addt, b_addo, b_muls, b_mulo, c_eq, c_ne, c_lt, c_le, c_gt, c_ge, c_eqs, c_nes, c_eqb, c_neb, c_in1, c_nin1, c_init, c_ninit, c_inio, c_ninio, i_objs, dOk_int, dOk_str, o_sets, m_get1, m_get2, m_setd, t_get, t_setd, O.dic.injEq, c_inso, c_inst, c_ninso, c_ninst, f_lenS, f_tupS, i_tS, v_tS, y_tS, c_inS, c_ninS, isN_tS, c_isn, c_isntn, c_isb, c_isntb, isN_non, isN_int, isN_str, isN_tup, isN_bl, isN_obj, sq_tup, sq_fro, sq_obj, i_str, i_obj, i_tup, i_fro, s_str, s_tup, s_fro, s_obj, f_lens, f_lent, f_lenf, f_leno, f_inti, f_intb, f_boolb, f_sum, f_all, f_any, f_tupt, f_tupo, f_lstt, f_lsto, f_min, f_max, f_abs, f_stri, m_app, m_popi, m_ins, m_idxi, m_idxs, m_split, m_words, t_ins, t_idx, t_idxf, t_split,  m_ext, m_pop, m_join, t_app, t_ext, t_pop, t_join, o_set, y_non, y_int, y_bl, y_str, y_tup, y_fro, y_obj, v_tup, v_tI, v_fro, v_str, v_obj, z_tup, z_to, z_ot, z_obj, f_tups, t_idxt, en_obj, en_tup, rv_obj, rv_tup, s_tI, b_addI, f_lenI, f_tupI, f_lstI, i_tI, y_tI, isN_tI, tI_nil, still_nil, still_one, still_two, ixD0, ixD1, ixD2, ixD3, ixD4, ixD5, Nat.reduceAdd, Nat.reduceSub, Nat.reduceLT, Nat.reduceEqDiff, Nat.lt_add_one, Nat.zero_lt_succ, atD0, atD1, atD2, atD3, atD4, atD5, List.getElem?_cons_zero, List.getElem?_cons_succ, List.set_cons_zero, List.set_cons_succ, Option.some.injEq, D.int.injEq, D.bl.injEq, D.obj.injEq, D.str.injEq, D.tup.injEq, O.lst.injEq, List.cons.injEq, List.length_cons, List.length_nil, exists_eq_left', exists_eq_left, exists_eq, exists_eq', exists_and_left, true_and, and_true, and_self, decide_eq_true_eq, decide_eq_false_iff_not, Bool.not_eq_true', Bool.not_eq_false', Bool.not_true, Bool.not_false, forall_const, imp_self, reduceCtorEq, false_and, and_false, exists_false, or_false, false_or, implies_true, false_implies, true_implies, not_true_eq_false, not_false_eq_true, if_true, if_false, b__law_draw_18]
    exact mixed_nat hD.1 hm0 fun n st' b c => .inl (h n st' (.inl b) (hD.trans c))
  rintro i env st1 v ⟨hD, x, y, z, rfl⟩ hv nxt hn
  have hS1 := hD.1
  have hl := hS1.lt
  obtain ⟨c, a1, a2, a3, a4, a5, cells, h1, h2, h3, h4⟩ := hS1.ex
  simp only [wS, wE, wEs, wT_tn, wT_tt, wTs_nil, wTs_cons, wAnd, wOr, wO, wIf, rdV, argN, tyB, b_add, b_sub, b_mul, b_fdiv, b_mod, b_adds, b_addt, b_addo, b_muls, b_mulo, c_eq, c_ne, c_lt, c_le, c_gt, c_ge, c_eqs, c_nes, c_eqb, c_neb, c_in1, c_nin1, c_init, c_ninit, c_inio, c_ninio, i_objs, dOk_int, dOk_str, o_sets, m_get1, m_get2, m_setd, t_get, t_setd, O.dic.injEq, c_inso, c_inst, c_ninso, c_ninst, f_lenS, f_tupS, i_tS, v_tS, y_tS, c_inS, c_ninS, isN_tS, c_isn, c_isntn, c_isb, c_isntb, isN_non, isN_int, isN_str, isN_tup, isN_bl, isN_obj, sq_tup, sq_fro, sq_obj, i_str, i_obj, i_tup, i_fro, s_str, s_tup, s_fro, s_obj, f_lens, f_lent, f_lenf, f_leno, f_inti, f_intb, f_boolb, f_sum, f_all, f_any, f_tupt, f_tupo, f_lstt, f_lsto, f_min, f_max, f_abs, f_stri, m_app, m_popi, m_ins, m_idxi, m_idxs, m_split, m_words, t_ins, t_idx, t_idxf, t_split,  m_ext, m_pop, m_join, t_app, t_ext, t_pop, t_join, o_set, y_non, y_int, y_bl, y_str, y_tup, y_fro, y_obj, v_tup, v_tI, v_fro, v_str, v_obj, z_tup, z_to, z_ot, z_obj, f_tups, t_idxt, en_obj, en_tup, rv_obj, rv_tup, s_tI, b_addI, f_lenI, f_tupI, f_lstI, i_tI, y_tI, isN_tI, tI_nil, still_nil, still_one, still_two, ixD0, ixD1, ixD2, ixD3, ixD4, ixD5, Nat.reduceAdd, Nat.reduceSub, Nat.reduceLT, Nat.reduceEqDiff, Nat.lt_add_one, Nat.zero_lt_succ, atD0, atD1, atD2, atD3, atD4, atD5, List.getElem?_cons_zero, List.getElem?_cons_succ, List.set_cons_zero, List.set_cons_succ, Option.some.injEq, D.int.injEq, D.bl.injEq, D.obj.injEq, D.str.injEq, D.tup.injEq, O.lst.injEq, List.cons.injEq, List.length_cons, List.length_nil, exists_eq_left', exists_eq_left, exists_eq, exists_eq', exists_and_left, true_and, and_true, and_self, decide_eq_true_eq, decide_eq_false_iff_not, Bool.not_eq_true', Bool.not_eq_false', Bool.not_true, Bool.not_false, forall_const, imp_self, reduceCtorEq, false_and, and_false, exists_false, or_false, false_or, implies_true, false_implies, true_implies, not_true_eq_false, not_false_eq_true, if_true, if_false, b__law_draw_3, h1]
  refine ⟨fun hp => ?_, fun hp => ?_⟩
  · simp only [wS, wE, wEs, wT_tn, wT_tt, wTs_nil, wTs_cons, wAnd, wOr, wO, wIf, rdV, argN, tyB, b_add, b_sub, b_mul, b_fdiv, b_mod, b_adds, b_addt, b_addo, b_muls, b_mulo, c_eq, c_ne, c_lt, c_le, c_gt, c_ge, c_eqs, c_nes, c_eqb, c_neb, c_in1, c_nin1, c_init, c_ninit, c_inio, c_ninio, i_objs, dOk_int, dOk_str, o_sets, m_get1, m_get2, m_setd, t_get, t_setd, O.dic.injEq, c_inso, c_inst, c_ninso, c_ninst, f_lenS, f_tupS, i_tS, v_tS, y_tS, c_inS, c_ninS, isN_tS, c_isn, c_isntn, c_isb, c_isntb, isN_non, isN_int, isN_str, isN_tup, isN_bl, isN_obj, sq_tup, sq_fro, sq_obj, i_str, i_obj, i_tup, i_fro, s_str, s_tup, s_fro, s_obj, f_lens, f_lent, f_lenf, f_leno, f_inti, f_intb, f_boolb, f_sum, f_all, f_any, f_tupt, f_tupo, f_lstt, f_lsto, f_min, f_max, f_abs, f_stri, m_app, m_popi, m_ins, m_idxi, m_idxs, m_split, m_words, t_ins, t_idx, t_idxf, t_split,  m_ext, m_pop, m_join, t_app, t_ext, t_pop, t_join, o_set, y_non, y_int, y_bl, y_str, y_tup, y_fro, y_obj, v_tup, v_tI, v_fro, v_str, v_obj, z_tup, z_to, z_ot, z_obj, f_tups, t_idxt, en_obj, en_tup, rv_obj, rv_tup, s_tI, b_addI, f_lenI, f_tupI, f_lstI, i_tI, y_tI, isN_tI, tI_nil, still_nil, still_one, still_two, ixD0, ixD1, ixD2, ixD3, ixD4, ixD5, Nat.reduceAdd, Nat.reduceSub, Nat.reduceLT, Nat.reduceEqDiff, Nat.lt_add_one, Nat.zero_lt_succ, atD0, atD1, atD2, atD3, atD4, atD5, List.getElem?_cons_zero, List.getElem?_cons_succ, List.set_cons_zero, List.set_cons_succ, Option.some.injEq, D.int.injEq, D.bl.injEq, D.obj.injEq, D.str.injEq, D.tup.injEq, O.lst.injEq, List.cons.injEq, List.length_cons, List.length_nil, exists_eq_left', exists_eq_left, exists_eq, exists_eq', exists_and_left, true_and, and_true, and_self, decide_eq_true_eq, decide_eq_false_iff_not, Bool.not_eq_true', Bool.not_eq_false', Bool.not_true, Bool.not_false, forall_const, imp_self, reduceCtorEq, false_and, and_false, exists_false, or_false, false_or, implies_true, false_implies, true_implies, not_true_eq_false, not_false_eq_true, if_true, if_false, b__law_draw_4, h1]
    refine ⟨hm0, ?_⟩
    simp only [wS, wE, wEs, wT_tn, wT_tt, wTs_nil, wTs_cons, wAnd, wOr, wO, wIf, rdV, argN, tyB, b_add, b_sub, b_mul, b_fdiv, b_mod, b_adds, b_addt, b_addo, b_muls, b_mulo, c_eq, c_ne, c_lt, c_le, c_gt, c_ge, c_eqs, c_nes, c_eqb, c_neb, c_in1, c_nin1, c_init, c_ninit, c_inio, c_ninio, i_objs, dOk_int, dOk_str, o_sets, m_get1, m_get2, m_setd, t_get, t_setd, O.dic.injEq, c_inso, c_inst, c_ninso, c_ninst, f_lenS, f_tupS, i_tS, v_tS, y_tS, c_inS, c_ninS, isN_tS, c_isn, c_isntn, c_isb, c_isntb, isN_non, isN_int, isN_str, isN_tup, isN_bl, isN_obj, sq_tup, sq_fro, sq_obj, i_str, i_obj, i_tup, i_fro, s_str, s_tup, s_fro, s_obj, f_lens, f_lent, f_lenf, f_leno, f_inti, f_intb, f_boolb, f_sum, f_all, f_any, f_tupt, f_tupo, f_lstt, f_lsto, f_min, f_max, f_abs, f_stri, m_app, m_popi, m_ins, m_idxi, m_idxs, m_split, m_words, t_ins, t_idx, t_idxf, t_split,  m_ext, m_pop, m_join, t_app, t_ext, t_pop, t_join, o_set, y_non, y_int, y_bl, y_str, y_tup, y_fro, y_obj, v_tup, v_tI, v_fro, v_str, v_obj, z_tup, z_to, z_ot, z_obj, f_tups, t_idxt, en_obj, en_tup, rv_obj, rv_tup, s_tI, b_addI, f_lenI, f_tupI, f_lstI, i_tI, y_tI, isN_tI, tI_nil, still_nil, still_one, still_two, ixD0, ixD1, ixD2, ixD3, ixD4, ixD5, Nat.reduceAdd, Nat.reduceSub, Nat.reduceLT, Nat.reduceEqDiff, Nat.lt_add_one, Nat.zero_lt_succ, atD0, atD1, atD2, atD3, atD4, atD5, List.getElem?_cons_zero, List.getElem?_cons_succ, List.set_cons_zero, List.set_cons_succ, Option.some.injEq, D.int.injEq, D.bl.injEq, D.obj.injEq, D.str.injEq, D.tup.injEq, O.lst.injEq, List.cons.injEq, List.length_cons, List.length_nil, exists_eq_left', exists_eq_left, exists_eq, exists_eq', exists_and_left, true_and, and_true, and_self, decide_eq_true_eq, decide_eq_false_iff_not, Bool.not_eq_true', Bool.not_eq_false', Bool.not_true, Bool.not_false, forall_const, imp_self, reduceCtorEq, false_and, and_false, exists_false, or_false, false_or, implies_true, false_implies, true_implies, not_true_eq_false, not_false_eq_true, if_true, if_false, b__law_draw_5, h1]
    refine ⟨⟨hm0, hb⟩, ?_⟩
    simp only [wS, wE, wEs, wT_tn, wT_tt, wTs_nil, wTs_cons, wAnd, wOr, wO, wIf, rdV, argN, tyB, b_add, b_sub, b_mul, b_fdiv, b_mod, b_adds, b_addt, b_addo, b_muls, b_mulo, c_eq, c_ne, c_lt, c_le, c_gt, c_ge, c_eqs, c_nes, c_eqb, c_neb, c_in1, c_nin1, c_init, c_ninit, c_inio, c_ninio, i_objs, dOk_int, dOk_str, o_sets, m_get1, m_get2, m_setd, t_get, t_setd, O.dic.injEq, c_inso, c_inst, c_ninso, c_ninst, f_lenS, f_tupS, i_tS, v_tS, y_tS, c_inS, c_ninS, isN_tS, c_isn, c_isntn, c_isb, c_isntb, isN_non, isN_int, isN_str, isN_tup, isN_bl, isN_obj, sq_tup, sq_fro, sq_obj, i_str, i_obj, i_tup, i_fro, s_str, s_tup, s_fro, s_obj, f_lens, f_lent, f_lenf, f_leno, f_inti, f_intb, f_boolb, f_sum, f_all, f_any, f_tupt, f_tupo, f_lstt, f_lsto, f_min, f_max, f_abs, f_stri, m_app, m_popi, m_ins, m_idxi, m_idxs, m_split, m_words, t_ins, t_idx, t_idxf, t_split,  m_ext, m_pop, m_join, t_app, t_ext, t_pop, t_join, o_set, y_non, y_int, y_bl, y_str, y_tup, y_fro, y_obj, v_tup, v_tI, v_fro, v_str, v_obj, z_tup, z_to, z_ot, z_obj, f_tups, t_idxt, en_obj, en_tup, rv_obj, rv_tup, s_tI, b_addI, f_lenI, f_tupI, f_lstI, i_tI, y_tI, isN_tI, tI_nil, still_nil, still_one, still_two, ixD0, ixD1, ixD2, ixD3, ixD4, ixD5, Nat.reduceAdd, Nat.reduceSub, Nat.reduceLT, Nat.reduceEqDiff, Nat.lt_add_one, Nat.zero_lt_succ, atD0, atD1, atD2, atD3, atD4, atD5, List.getElem?_cons_zero, List.getElem?_cons_succ, List.set_cons_zero, List.set_cons_succ, Option.some.injEq, D.int.injEq, D.bl.injEq, D.obj.injEq, D.str.injEq, D.tup.injEq, O.lst.injEq, List.cons.injEq, List.length_cons, List.length_nil, exists_eq_left', exists_eq_left, exists_eq, exists_eq', exists_and_left, true_and, and_true, and_self, decide_eq_true_eq, decide_eq_false_iff_not, Bool.not_eq_true', Bool.not_eq_false', Bool.not_true, Bool.not_false, forall_const, imp_self, reduceCtorEq, false_and, and_false, exists_false, or_false, false_or, implies_true, false_implies, true_implies, not_true_eq_false, not_false_eq_true, if_true, if_false, b__law_draw_6]
    have e0 := Int.emod_nonneg a2 (show m ≠ 0 by omega)
    have e1 := Int.emod_lt_of_pos a2 hm0
    obtain ⟨j, hj⟩ := Int.eq_ofNat_of_zero_le e0
    rw [hj] at e1 ⊢
    exact .inl (h j _ (.inl e1) (hD.trans (Src.put hl h2 h3 h4)))
  simp only [wS, wE, wEs, wT_tn, wT_tt, wTs_nil, wTs_cons, wAnd, wOr, wO, wIf, rdV, argN, tyB, b_add, b_sub, b_mul, b_fdiv, b_mod, b_adds, b_addt, b_addo, b_muls, b_mulo, c_eq, c_ne, c_lt, c_le, c_gt, c_ge, c_eqs, c_nes, c_eqb, c_neb, c_in1, c_nin1, c_init, c_ninit, c_inio, c_ninio, i_objs, dOk_int, dOk_str, o_sets, m_get1, m_get2, m_setd, t_get, t_setd, O.dic.injEq, c_inso, c_inst, c_ninso, c_ninst, f_lenS, f_tupS, i_tS, v_tS, y_tS, c_inS, c_ninS, isN_tS, c_isn, c_isntn, c_isb, c_isntb, isN_non, isN_int, isN_str, isN_tup, isN_bl, isN_obj, sq_tup, sq_fro, sq_obj, i_str, i_obj, i_tup, i_fro, s_str, s_tup, s_fro, s_obj, f_lens, f_lent, f_lenf, f_leno, f_inti, f_intb, f_boolb, f_sum, f_all, f_any, f_tupt, f_tupo, f_lstt, f_lsto, f_min, f_max, f_abs, f_stri, m_app, m_popi, m_ins, m_idxi, m_idxs, m_split, m_words, t_ins, t_idx, t_idxf, t_split,  m_ext, m_pop, m_join, t_app, t_ext, t_pop, t_join, o_set, y_non, y_int, y_bl, y_str, y_tup, y_fro, y_obj, v_tup, v_tI, v_fro, v_str, v_obj, z_tup, z_to, z_ot, z_obj, f_tups, t_idxt, en_obj, en_tup, rv_obj, rv_tup, s_tI, b_addI, f_lenI, f_tupI, f_lstI, i_tI, y_tI, isN_tI, tI_nil, still_nil, still_one, still_two, ixD0, ixD1, ixD2, ixD3, ixD4, ixD5, Nat.reduceAdd, Nat.reduceSub, Nat.reduceLT, Nat.reduceEqDiff, Nat.lt_add_one, Nat.zero_lt_succ, atD0, atD1, atD2, atD3, atD4, atD5, List.getElem?_cons_zero, List.getElem?_cons_succ, List.set_cons_zero, List.set_cons_succ, Option.some.injEq, D.int.injEq, D.bl.injEq, D.obj.injEq, D.str.injEq, D.tup.injEq, O.lst.injEq, List.cons.injEq, List.length_cons, List.length_nil, exists_eq_left', exists_eq_left, exists_eq, exists_eq', exists_and_left, true_and, and_true, and_self, decide_eq_true_eq, decide_eq_false_iff_not, Bool.not_eq_true', Bool.not_eq_false', Bool.not_true, Bool.not_false, forall_const, imp_self, reduceCtorEq, false_and, and_false, exists_false, or_false, false_or, implies_true, false_implies, true_implies, not_true_eq_false, not_false_eq_true, if_true, if_false, b__law_draw_7, h1]
  refine ⟨fun hp => ?_, fun hp => ?_⟩
  · simp only [wS, wE, wEs, wT_tn, wT_tt, wTs_nil, wTs_cons, wAnd, wOr, wO, wIf, rdV, argN, tyB, b_add, b_sub, b_mul, b_fdiv, b_mod, b_adds, b_addt, b_addo, b_muls, b_mulo, c_eq, c_ne, c_lt, c_le, c_gt, c_ge, c_eqs, c_nes, c_eqb, c_neb, c_in1, c_nin1, c_init, c_ninit, c_inio, c_ninio, i_objs, dOk_int, dOk_str, o_sets, m_get1, m_get2, m_setd, t_get, t_setd, O.dic.injEq, c_inso, c_inst, c_ninso, c_ninst, f_lenS, f_tupS, i_tS, v_tS, y_tS, c_inS, c_ninS, isN_tS, c_isn, c_isntn, c_isb, c_isntb, isN_non, isN_int, isN_str, isN_tup, isN_bl, isN_obj, sq_tup, sq_fro, sq_obj, i_str, i_obj, i_tup, i_fro, s_str, s_tup, s_fro, s_obj, f_lens, f_lent, f_lenf, f_leno, f_inti, f_intb, f_boolb, f_sum, f_all, f_any, f_tupt, f_tupo, f_lstt, f_lsto, f_min, f_max, f_abs, f_stri, m_app, m_popi, m_ins, m_idxi, m_idxs, m_split, m_words, t_ins, t_idx, t_idxf, t_split,  m_ext, m_pop, m_join, t_app, t_ext, t_pop, t_join, o_set, y_non, y_int, y_bl, y_str, y_tup, y_fro, y_obj, v_tup, v_tI, v_fro, v_str, v_obj, z_tup, z_to, z_ot, z_obj, f_tups, t_idxt, en_obj, en_tup, rv_obj, rv_tup, s_tI, b_addI, f_lenI, f_tupI, f_lstI, i_tI, y_tI, isN_tI, tI_nil, still_nil, still_one, still_two, ixD0, ixD1, ixD2, ixD3, ixD4, ixD5, Nat.reduceAdd, Nat.reduceSub, Nat.reduceLT, Nat.reduceEqDiff, Nat.lt_add_one, Nat.zero_lt_succ, atD0, atD1, atD2, atD3, atD4, atD5, List.getElem?_cons_zero, List.getElem?_cons_succ, List.set_cons_zero, List.set_cons_succ, Option.some.injEq, D.int.injEq, D.bl.injEq, D.obj.injEq, D.str.injEq, D.tup.injEq, O.lst.injEq, List.cons.injEq, List.length_cons, List.length_nil, exists_eq_left', exists_eq_left, exists_eq, exists_eq', exists_and_left, true_and, and_true, and_self, decide_eq_true_eq, decide_eq_false_iff_not, Bool.not_eq_true', Bool.not_eq_false', Bool.not_true, Bool.not_false, forall_const, imp_self, reduceCtorEq, false_and, and_false, exists_false, or_false, false_or, implies_true, false_implies, true_implies, not_true_eq_false, not_false_eq_true, if_true, if_false, b__law_draw_8, h1]
    simp only [wS, wE, wEs, wT_tn, wT_tt, wTs_nil, wTs_cons, wAnd, wOr, wO, wIf, rdV, argN, tyB, b_add, b_sub, b_mul, b_fdiv, b_mod, b_adds, b_addt, b_addo, b_muls, b_mulo, c_eq, c_ne, c_lt, c_le, c_gt, c_ge, c_eqs, c_nes, c_eqb, c_neb, c_in1, c_nin1, c_init, c_ninit, c_inio, c_ninio, i_objs, dOk_int, dOk_str, o_sets, m_get1, m_get2, m_setd, t_get, t_setd, O.dic.injEq, c_inso, c_inst, c_ninso, c_ninst, f_lenS, f_tupS, i_tS, v_tS, y_tS, c_inS, c_ninS, isN_tS, c_isn, c_isntn, c_isb, c_isntb, isN_non, isN_int, isN_str, isN_tup, isN_bl, isN_obj, sq_tup, sq_fro, sq_obj, i_str, i_obj, i_tup, i_fro, s_str, s_tup, s_fro, s_obj, f_lens, f_lent, f_lenf, f_leno, f_inti, f_intb, f_boolb, f_sum, f_all, f_any, f_tupt, f_tupo, f_lstt, f_lsto, f_min, f_max, f_abs, f_stri, m_app, m_popi, m_ins, m_idxi, m_idxs, m_split, m_words, t_ins, t_idx, t_idxf, t_split,  m_ext, m_pop, m_join, t_app, t_ext, t_pop, t_join, o_set, y_non, y_int, y_bl, y_str, y_tup, y_fro, y_obj, v_tup, v_tI, v_fro, v_str, v_obj, z_tup, z_to, z_ot, z_obj, f_tups, t_idxt, en_obj, en_tup, rv_obj, rv_tup, s_tI, b_addI, f_lenI, f_tupI, f_lstI, i_tI, y_tI, isN_tI, tI_nil, still_nil, still_one, still_two, ixD0, ixD1, ixD2, ixD3, ixD4, ixD5, Nat.reduceAdd, Nat.reduceSub, Nat.reduceLT, Nat.reduceEqDiff, Nat.lt_add_one, Nat.zero_lt_succ, atD0, atD1, atD2, atD3, atD4, atD5, List.getElem?_cons_zero, List.getElem?_cons_succ, List.set_cons_zero, List.set_cons_succ, Option.some.injEq, D.int.injEq, D.bl.injEq, D.obj.injEq, D.str.injEq, D.tup.injEq, O.lst.injEq, List.cons.injEq, List.length_cons, List.length_nil, exists_eq_left', exists_eq_left, exists_eq, exists_eq', exists_and_left, true_and, and_true, and_self, decide_eq_true_eq, decide_eq_false_iff_not, Bool.not_eq_true', Bool.not_eq_false', Bool.not_true, Bool.not_false, forall_const, imp_self, reduceCtorEq, false_and, and_false, exists_false, or_false, false_or, implies_true, false_implies, true_implies, not_true_eq_false, not_false_eq_true, if_true, if_false, b__law_draw_9]
    have hP : Dr s st1 _ := Src.put (a1 := a1) (a2 := a2) (a3 := a3 - 1) (a4 := a4) (a5 := a5) hl h2 h3 h4
    exact mixed_nat hP.1 hm0 fun n st' b c => .inl (h n st' (.inl b) (hD.trans (hP.trans c)))
  simp only [wS, wE, wEs, wT_tn, wT_tt, wTs_nil, wTs_cons, wAnd, wOr, wO, wIf, rdV, argN, tyB, b_add, b_sub, b_mul, b_fdiv, b_mod, b_adds, b_addt, b_addo, b_muls, b_mulo, c_eq, c_ne, c_lt, c_le, c_gt, c_ge, c_eqs, c_nes, c_eqb, c_neb, c_in1, c_nin1, c_init, c_ninit, c_inio, c_ninio, i_objs, dOk_int, dOk_str, o_sets, m_get1, m_get2, m_setd, t_get, t_setd, O.dic.injEq, c_inso, c_inst, c_ninso, c_ninst, f_lenS, f_tupS, i_tS, v_tS, y_tS, c_inS, c_ninS, isN_tS, c_isn, c_isntn, c_isb, c_isntb, isN_non, isN_int, isN_str, isN_tup, isN_bl, isN_obj, sq_tup, sq_fro, sq_obj, i_str, i_obj, i_tup, i_fro, s_str, s_tup, s_fro, s_obj, f_lens, f_lent, f_lenf, f_leno, f_inti, f_intb, f_boolb, f_sum, f_all, f_any, f_tupt, f_tupo, f_lstt, f_lsto, f_min, f_max, f_abs, f_stri, m_app, m_popi, m_ins, m_idxi, m_idxs, m_split, m_words, t_ins, t_idx, t_idxf, t_split,  m_ext, m_pop, m_join, t_app, t_ext, t_pop, t_join, o_set, y_non, y_int, y_bl, y_str, y_tup, y_fro, y_obj, v_tup, v_tI, v_fro, v_str, v_obj, z_tup, z_to, z_ot, z_obj, f_tups, t_idxt, en_obj, en_tup, rv_obj, rv_tup, s_tI, b_addI, f_lenI, f_tupI, f_lstI, i_tI, y_tI, isN_tI, tI_nil, still_nil, still_one, still_two, ixD0, ixD1, ixD2, ixD3, ixD4, ixD5, Nat.reduceAdd, Nat.reduceSub, Nat.reduceLT, Nat.reduceEqDiff, Nat.lt_add_one, Nat.zero_lt_succ, atD0, atD1, atD2, atD3, atD4, atD5, List.getElem?_cons_zero, List.getElem?_cons_succ, List.set_cons_zero, List.set_cons_succ, Option.some.injEq, D.int.injEq, D.bl.injEq, D.obj.injEq, D.str.injEq, D.tup.injEq, O.lst.injEq, List.cons.injEq, List.length_cons, List.length_nil, exists_eq_left', exists_eq_left, exists_eq, exists_eq', exists_and_left, true_and, and_true, and_self, decide_eq_true_eq, decide_eq_false_iff_not, Bool.not_eq_true', Bool.not_eq_false', Bool.not_true, Bool.not_false, forall_const, imp_self, reduceCtorEq, false_and, and_false, exists_false, or_false, false_or, implies_true, false_implies, true_implies, not_true_eq_false, not_false_eq_true, if_true, if_false, b__law_draw_10, h1, h2, List.length_map]
  refine ⟨fun hp => ?_, fun hp => ?_⟩
  · simp only [wS, wE, wEs, wT_tn, wT_tt, wTs_nil, wTs_cons, wAnd, wOr, wO, wIf, rdV, argN, tyB, b_add, b_sub, b_mul, b_fdiv, b_mod, b_adds, b_addt, b_addo, b_muls, b_mulo, c_eq, c_ne, c_lt, c_le, c_gt, c_ge, c_eqs, c_nes, c_eqb, c_neb, c_in1, c_nin1, c_init, c_ninit, c_inio, c_ninio, i_objs, dOk_int, dOk_str, o_sets, m_get1, m_get2, m_setd, t_get, t_setd, O.dic.injEq, c_inso, c_inst, c_ninso, c_ninst, f_lenS, f_tupS, i_tS, v_tS, y_tS, c_inS, c_ninS, isN_tS, c_isn, c_isntn, c_isb, c_isntb, isN_non, isN_int, isN_str, isN_tup, isN_bl, isN_obj, sq_tup, sq_fro, sq_obj, i_str, i_obj, i_tup, i_fro, s_str, s_tup, s_fro, s_obj, f_lens, f_lent, f_lenf, f_leno, f_inti, f_intb, f_boolb, f_sum, f_all, f_any, f_tupt, f_tupo, f_lstt, f_lsto, f_min, f_max, f_abs, f_stri, m_app, m_popi, m_ins, m_idxi, m_idxs, m_split, m_words, t_ins, t_idx, t_idxf, t_split,  m_ext, m_pop, m_join, t_app, t_ext, t_pop, t_join, o_set, y_non, y_int, y_bl, y_str, y_tup, y_fro, y_obj, v_tup, v_tI, v_fro, v_str, v_obj, z_tup, z_to, z_ot, z_obj, f_tups, t_idxt, en_obj, en_tup, rv_obj, rv_tup, s_tI, b_addI, f_lenI, f_tupI, f_lstI, i_tI, y_tI, isN_tI, tI_nil, still_nil, still_one, still_two, ixD0, ixD1, ixD2, ixD3, ixD4, ixD5, Nat.reduceAdd, Nat.reduceSub, Nat.reduceLT, Nat.reduceEqDiff, Nat.lt_add_one, Nat.zero_lt_succ, atD0, atD1, atD2, atD3, atD4, atD5, List.getElem?_cons_zero, List.getElem?_cons_succ, List.set_cons_zero, List.set_cons_succ, Option.some.injEq, D.int.injEq, D.bl.injEq, D.obj.injEq, D.str.injEq, D.tup.injEq, O.lst.injEq, List.cons.injEq, List.length_cons, List.length_nil, exists_eq_left', exists_eq_left, exists_eq, exists_eq', exists_and_left, true_and, and_true, and_self, decide_eq_true_eq, decide_eq_false_iff_not, Bool.not_eq_true', Bool.not_eq_false', Bool.not_true, Bool.not_false, forall_const, imp_self, reduceCtorEq, false_and, and_false, exists_false, or_false, false_or, implies_true, false_implies, true_implies, not_true_eq_false, not_false_eq_true, if_true, if_false, b__law_draw_11]
    exact mixed_nat hS1 hm0 fun n st' b c => .inl (h n st' (.inl b) (hD.trans c))
  simp only [wS, wE, wEs, wT_tn, wT_tt, wTs_nil, wTs_cons, wAnd, wOr, wO, wIf, rdV, argN, tyB, b_add, b_sub, b_mul, b_fdiv, b_mod, b_adds, b_addt, b_addo, b_muls, b_mulo, c_eq, c_ne, c_lt, c_le, c_gt, c_ge, c_eqs, c_nes, c_eqb, c_neb, c_in1, c_nin1, c_init, c_ninit, c_inio, c_ninio, i_objs, dOk_int, dOk_str, o_sets, m_get1, m_get2, m_setd, t_get, t_setd, O.dic.injEq, c_inso, c_inst, c_ninso, c_ninst, f_lenS, f_tupS, i_tS, v_tS, y_tS, c_inS, c_ninS, isN_tS, c_isn, c_isntn, c_isb, c_isntb, isN_non, isN_int, isN_str, isN_tup, isN_bl, isN_obj, sq_tup, sq_fro, sq_obj, i_str, i_obj, i_tup, i_fro, s_str, s_tup, s_fro, s_obj, f_lens, f_lent, f_lenf, f_leno, f_inti, f_intb, f_boolb, f_sum, f_all, f_any, f_tupt, f_tupo, f_lstt, f_lsto, f_min, f_max, f_abs, f_stri, m_app, m_popi, m_ins, m_idxi, m_idxs, m_split, m_words, t_ins, t_idx, t_idxf, t_split,  m_ext, m_pop, m_join, t_app, t_ext, t_pop, t_join, o_set, y_non, y_int, y_bl, y_str, y_tup, y_fro, y_obj, v_tup, v_tI, v_fro, v_str, v_obj, z_tup, z_to, z_ot, z_obj, f_tups, t_idxt, en_obj, en_tup, rv_obj, rv_tup, s_tI, b_addI, f_lenI, f_tupI, f_lstI, i_tI, y_tI, isN_tI, tI_nil, still_nil, still_one, still_two, ixD0, ixD1, ixD2, ixD3, ixD4, ixD5, Nat.reduceAdd, Nat.reduceSub, Nat.reduceLT, Nat.reduceEqDiff, Nat.lt_add_one, Nat.zero_lt_succ, atD0, atD1, atD2, atD3, atD4, atD5, List.getElem?_cons_zero, List.getElem?_cons_succ, List.set_cons_zero, List.set_cons_succ, Option.some.injEq, D.int.injEq, D.bl.injEq, D.obj.injEq, D.str.injEq, D.tup.injEq, O.lst.injEq, List.cons.injEq, List.length_cons, List.length_nil, exists_eq_left', exists_eq_left, exists_eq, exists_eq', exists_and_left, true_and, and_true, and_self, decide_eq_true_eq, decide_eq_false_iff_not, Bool.not_eq_true', Bool.not_eq_false', Bool.not_true, Bool.not_false, forall_const, imp_self, reduceCtorEq, false_and, and_false, exists_false, or_false, false_or, implies_true, false_implies, true_implies, not_true_eq_false, not_false_eq_true, if_true, if_false, b__law_draw_12, h1, h2]
  have hlt : a1.toNat < cells.length := by omega
  refine ⟨.int cells[a1.toNat], ?_, ?_⟩
  · rw [atD_int _ h4, List.getElem?_map, List.getElem?_eq_getElem hlt]; rfl
  simp only [wS, wE, wEs, wT_tn, wT_tt, wTs_nil, wTs_cons, wAnd, wOr, wO, wIf, rdV, argN, tyB, b_add, b_sub, b_mul, b_fdiv, b_mod, b_adds, b_addt, b_addo, b_muls, b_mulo, c_eq, c_ne, c_lt, c_le, c_gt, c_ge, c_eqs, c_nes, c_eqb, c_neb, c_in1, c_nin1, c_init, c_ninit, c_inio, c_ninio, i_objs, dOk_int, dOk_str, o_sets, m_get1, m_get2, m_setd, t_get, t_setd, O.dic.injEq, c_inso, c_inst, c_ninso, c_ninst, f_lenS, f_tupS, i_tS, v_tS, y_tS, c_inS, c_ninS, isN_tS, c_isn, c_isntn, c_isb, c_isntb, isN_non, isN_int, isN_str, isN_tup, isN_bl, isN_obj, sq_tup, sq_fro, sq_obj, i_str, i_obj, i_tup, i_fro, s_str, s_tup, s_fro, s_obj, f_lens, f_lent, f_lenf, f_leno, f_inti, f_intb, f_boolb, f_sum, f_all, f_any, f_tupt, f_tupo, f_lstt, f_lsto, f_min, f_max, f_abs, f_stri, m_app, m_popi, m_ins, m_idxi, m_idxs, m_split, m_words, t_ins, t_idx, t_idxf, t_split,  m_ext, m_pop, m_join, t_app, t_ext, t_pop, t_join, o_set, y_non, y_int, y_bl, y_str, y_tup, y_fro, y_obj, v_tup, v_tI, v_fro, v_str, v_obj, z_tup, z_to, z_ot, z_obj, f_tups, t_idxt, en_obj, en_tup, rv_obj, rv_tup, s_tI, b_addI, f_lenI, f_tupI, f_lstI, i_tI, y_tI, isN_tI, tI_nil, still_nil, still_one, still_two, ixD0, ixD1, ixD2, ixD3, ixD4, ixD5, Nat.reduceAdd, Nat.reduceSub, Nat.reduceLT, Nat.reduceEqDiff, Nat.lt_add_one, Nat.zero_lt_succ, atD0, atD1, atD2, atD3, atD4, atD5, List.getElem?_cons_zero, List.getElem?_cons_succ, List.set_cons_zero, List.set_cons_succ, Option.some.injEq, D.int.injEq, D.bl.injEq, D.obj.injEq, D.str.injEq, D.tup.injEq, O.lst.injEq, List.cons.injEq, List.length_cons, List.length_nil, exists_eq_left', exists_eq_left, exists_eq, exists_eq', exists_and_left, true_and, and_true, and_self, decide_eq_true_eq, decide_eq_false_iff_not, Bool.not_eq_true', Bool.not_eq_false', Bool.not_true, Bool.not_false, forall_const, imp_self, reduceCtorEq, false_and, and_false, exists_false, or_false, false_or, implies_true, false_implies, true_implies, not_true_eq_false, not_false_eq_true, if_true, if_false, b__law_draw_13, h1]
  have q1 := List.getElem?_set_self (a := O.lst [D.obj c, D.int (a1 + 1), D.int a2, D.int a3, D.int a4, D.int a5]) hl
  simp only [wS, wE, wEs, wT_tn, wT_tt, wTs_nil, wTs_cons, wAnd, wOr, wO, wIf, rdV, argN, tyB, b_add, b_sub, b_mul, b_fdiv, b_mod, b_adds, b_addt, b_addo, b_muls, b_mulo, c_eq, c_ne, c_lt, c_le, c_gt, c_ge, c_eqs, c_nes, c_eqb, c_neb, c_in1, c_nin1, c_init, c_ninit, c_inio, c_ninio, i_objs, dOk_int, dOk_str, o_sets, m_get1, m_get2, m_setd, t_get, t_setd, O.dic.injEq, c_inso, c_inst, c_ninso, c_ninst, f_lenS, f_tupS, i_tS, v_tS, y_tS, c_inS, c_ninS, isN_tS, c_isn, c_isntn, c_isb, c_isntb, isN_non, isN_int, isN_str, isN_tup, isN_bl, isN_obj, sq_tup, sq_fro, sq_obj, i_str, i_obj, i_tup, i_fro, s_str, s_tup, s_fro, s_obj, f_lens, f_lent, f_lenf, f_leno, f_inti, f_intb, f_boolb, f_sum, f_all, f_any, f_tupt, f_tupo, f_lstt, f_lsto, f_min, f_max, f_abs, f_stri, m_app, m_popi, m_ins, m_idxi, m_idxs, m_split, m_words, t_ins, t_idx, t_idxf, t_split,  m_ext, m_pop, m_join, t_app, t_ext, t_pop, t_join, o_set, y_non, y_int, y_bl, y_str, y_tup, y_fro, y_obj, v_tup, v_tI, v_fro, v_str, v_obj, z_tup, z_to, z_ot, z_obj, f_tups, t_idxt, en_obj, en_tup, rv_obj, rv_tup, s_tI, b_addI, f_lenI, f_tupI, f_lstI, i_tI, y_tI, isN_tI, tI_nil, still_nil, still_one, still_two, ixD0, ixD1, ixD2, ixD3, ixD4, ixD5, Nat.reduceAdd, Nat.reduceSub, Nat.reduceLT, Nat.reduceEqDiff, Nat.lt_add_one, Nat.zero_lt_succ, atD0, atD1, atD2, atD3, atD4, atD5, List.getElem?_cons_zero, List.getElem?_cons_succ, List.set_cons_zero, List.set_cons_succ, Option.some.injEq, D.int.injEq, D.bl.injEq, D.obj.injEq, D.str.injEq, D.tup.injEq, O.lst.injEq, List.cons.injEq, List.length_cons, List.length_nil, exists_eq_left', exists_eq_left, exists_eq, exists_eq', exists_and_left, true_and, and_true, and_self, decide_eq_true_eq, decide_eq_false_iff_not, Bool.not_eq_true', Bool.not_eq_false', Bool.not_true, Bool.not_false, forall_const, imp_self, reduceCtorEq, false_and, and_false, exists_false, or_false, false_or, implies_true, false_implies, true_implies, not_true_eq_false, not_false_eq_true, if_true, if_false, b__law_draw_14]
  refine ⟨fun hc => ?_, fun hc => ?_⟩
  · simp only [wS, wE, wEs, wT_tn, wT_tt, wTs_nil, wTs_cons, wAnd, wOr, wO, wIf, rdV, argN, tyB, b_add, b_sub, b_mul, b_fdiv, b_mod, b_adds, b_addt, b_addo, b_muls, b_mulo, c_eq, c_ne, c_lt, c_le, c_gt, c_ge, c_eqs, c_nes, c_eqb, c_neb, c_in1, c_nin1, c_init, c_ninit, c_inio, c_ninio, i_objs, dOk_int, dOk_str, o_sets, m_get1, m_get2, m_setd, t_get, t_setd, O.dic.injEq, c_inso, c_inst, c_ninso, c_ninst, f_lenS, f_tupS, i_tS, v_tS, y_tS, c_inS, c_ninS, isN_tS, c_isn, c_isntn, c_isb, c_isntb, isN_non, isN_int, isN_str, isN_tup, isN_bl, isN_obj, sq_tup, sq_fro, sq_obj, i_str, i_obj, i_tup, i_fro, s_str, s_tup, s_fro, s_obj, f_lens, f_lent, f_lenf, f_leno, f_inti, f_intb, f_boolb, f_sum, f_all, f_any, f_tupt, f_tupo, f_lstt, f_lsto, f_min, f_max, f_abs, f_stri, m_app, m_popi, m_ins, m_idxi, m_idxs, m_split, m_words, t_ins, t_idx, t_idxf, t_split,  m_ext, m_pop, m_join, t_app, t_ext, t_pop, t_join, o_set, y_non, y_int, y_bl, y_str, y_tup, y_fro, y_obj, v_tup, v_tI, v_fro, v_str, v_obj, z_tup, z_to, z_ot, z_obj, f_tups, t_idxt, en_obj, en_tup, rv_obj, rv_tup, s_tI, b_addI, f_lenI, f_tupI, f_lstI, i_tI, y_tI, isN_tI, tI_nil, still_nil, still_one, still_two, ixD0, ixD1, ixD2, ixD3, ixD4, ixD5, Nat.reduceAdd, Nat.reduceSub, Nat.reduceLT, Nat.reduceEqDiff, Nat.lt_add_one, Nat.zero_lt_succ, atD0, atD1, atD2, atD3, atD4, atD5, List.getElem?_cons_zero, List.getElem?_cons_succ, List.set_cons_zero, List.set_cons_succ, Option.some.injEq, D.int.injEq, D.bl.injEq, D.obj.injEq, D.str.injEq, D.tup.injEq, O.lst.injEq, List.cons.injEq, List.length_cons, List.length_nil, exists_eq_left', exists_eq_left, exists_eq, exists_eq', exists_and_left, true_and, and_true, and_self, decide_eq_true_eq, decide_eq_false_iff_not, Bool.not_eq_true', Bool.not_eq_false', Bool.not_true, Bool.not_false, forall_const, imp_self, reduceCtorEq, false_and, and_false, exists_false, or_false, false_or, implies_true, false_implies, true_implies, not_true_eq_false, not_false_eq_true, if_true, if_false, b__law_draw_15, q1, List.set_set]
    exact hn _ _ ⟨hD.trans (Src.put hl h2 h3 (by omega)), _, _, _, rfl⟩
  · simp only [wS, wE, wEs, wT_tn, wT_tt, wTs_nil, wTs_cons, wAnd, wOr, wO, wIf, rdV, argN, tyB, b_add, b_sub, b_mul, b_fdiv, b_mod, b_adds, b_addt, b_addo, b_muls, b_mulo, c_eq, c_ne, c_lt, c_le, c_gt, c_ge, c_eqs, c_nes, c_eqb, c_neb, c_in1, c_nin1, c_init, c_ninit, c_inio, c_ninio, i_objs, dOk_int, dOk_str, o_sets, m_get1, m_get2, m_setd, t_get, t_setd, O.dic.injEq, c_inso, c_inst, c_ninso, c_ninst, f_lenS, f_tupS, i_tS, v_tS, y_tS, c_inS, c_ninS, isN_tS, c_isn, c_isntn, c_isb, c_isntb, isN_non, isN_int, isN_str, isN_tup, isN_bl, isN_obj, sq_tup, sq_fro, sq_obj, i_str, i_obj, i_tup, i_fro, s_str, s_tup, s_fro, s_obj, f_lens, f_lent, f_lenf, f_leno, f_inti, f_intb, f_boolb, f_sum, f_all, f_any, f_tupt, f_tupo, f_lstt, f_lsto, f_min, f_max, f_abs, f_stri, m_app, m_popi, m_ins, m_idxi, m_idxs, m_split, m_words, t_ins, t_idx, t_idxf, t_split,  m_ext, m_pop, m_join, t_app, t_ext, t_pop, t_join, o_set, y_non, y_int, y_bl, y_str, y_tup, y_fro, y_obj, v_tup, v_tI, v_fro, v_str, v_obj, z_tup, z_to, z_ot, z_obj, f_tups, t_idxt, en_obj, en_tup, rv_obj, rv_tup, s_tI, b_addI, f_lenI, f_tupI, f_lstI, i_tI, y_tI, isN_tI, tI_nil, still_nil, still_one, still_two, ixD0, ixD1, ixD2, ixD3, ixD4, ixD5, Nat.reduceAdd, Nat.reduceSub, Nat.reduceLT, Nat.reduceEqDiff, Nat.lt_add_one, Nat.zero_lt_succ, atD0, atD1, atD2, atD3, atD4, atD5, List.getElem?_cons_zero, List.getElem?_cons_succ, List.set_cons_zero, List.set_cons_succ, Option.some.injEq, D.int.injEq, D.bl.injEq, D.obj.injEq, D.str.injEq, D.tup.injEq, O.lst.injEq, List.cons.injEq, List.length_cons, List.length_nil, exists_eq_left', exists_eq_left, exists_eq, exists_eq', exists_and_left, true_and, and_true, and_self, decide_eq_true_eq, decide_eq_false_iff_not, Bool.not_eq_true', Bool.not_eq_false', Bool.not_true, Bool.not_false, forall_const, imp_self, reduceCtorEq, false_and, and_false, exists_false, or_false, false_or, implies_true, false_implies, true_implies, not_true_eq_false, not_false_eq_true, if_true, if_false, b__law_draw_16, q1, List.set_set]
    simp only [wS, wE, wEs, wT_tn, wT_tt, wTs_nil, wTs_cons, wAnd, wOr, wO, wIf, rdV, argN, tyB, b_add, b_sub, b_mul, b_fdiv, b_mod, b_adds, b_addt, b_addo, b_muls, b_mulo, c_eq, c_ne, c_lt, c_le, c_gt, c_ge, c_eqs, c_nes, c_eqb, c_neb, c_in1, c_nin1, c_init, c_ninit, c_inio, c_ninio, i_objs, dOk_int, dOk_str, o_sets, m_get1, m_get2, m_setd, t_get, t_setd, O.dic.injEq, c_inso, c_inst, c_ninso, c_ninst, f_lenS, f_tupS, i_tS, v_tS, y_tS, c_inS, c_ninS, isN_tS, c_isn, c_isntn, c_isb, c_isntb, isN_non, isN_int, isN_str, isN_tup, isN_bl, isN_obj, sq_tup, sq_fro, sq_obj, i_str, i_obj, i_tup, i_fro, s_str, s_tup, s_fro, s_obj, f_lens, f_lent, f_lenf, f_leno, f_inti, f_intb, f_boolb, f_sum, f_all, f_any, f_tupt, f_tupo, f_lstt, f_lsto, f_min, f_max, f_abs, f_stri, m_app, m_popi, m_ins, m_idxi, m_idxs, m_split, m_words, t_ins, t_idx, t_idxf, t_split,  m_ext, m_pop, m_join, t_app, t_ext, t_pop, t_join, o_set, y_non, y_int, y_bl, y_str, y_tup, y_fro, y_obj, v_tup, v_tI, v_fro, v_str, v_obj, z_tup, z_to, z_ot, z_obj, f_tups, t_idxt, en_obj, en_tup, rv_obj, rv_tup, s_tI, b_addI, f_lenI, f_tupI, f_lstI, i_tI, y_tI, isN_tI, tI_nil, still_nil, still_one, still_two, ixD0, ixD1, ixD2, ixD3, ixD4, ixD5, Nat.reduceAdd, Nat.reduceSub, Nat.reduceLT, Nat.reduceEqDiff, Nat.lt_add_one, Nat.zero_lt_succ, atD0, atD1, atD2, atD3, atD4, atD5, List.getElem?_cons_zero, List.getElem?_cons_succ, List.set_cons_zero, List.set_cons_succ, Option.some.injEq, D.int.injEq, D.bl.injEq, D.obj.injEq, D.str.injEq, D.tup.injEq, O.lst.injEq, List.cons.injEq, List.length_cons, List.length_nil, exists_eq_left', exists_eq_left, exists_eq, exists_eq', exists_and_left, true_and, and_true, and_self, decide_eq_true_eq, decide_eq_false_iff_not, Bool.not_eq_true', Bool.not_eq_false', Bool.not_true, Bool.not_false, forall_const, imp_self, reduceCtorEq, false_and, and_false, exists_false, or_false, false_or, implies_true, false_implies, true_implies, not_true_eq_false, not_false_eq_true, if_true, if_false, b__law_draw_17, List.getElem?_set_self, hl, List.set_set]
    refine ⟨.inr (by decide), by decide, .inr (by decide), by decide, ?_⟩
    exact hn _ _ ⟨hD.trans (Src.put hl h2 h3 (by omega)), _, _, _, rfl⟩
theorem some_ok {k s : Nat} {st : Sto} {xs : List D} {Q : KD} {E : XD} (hS : Src st s) (hl : 0 < xs.length) (hb : xs.length < 1073741824) (h : ∀ x st', x ∈ xs → Dr s st st' → Q x st') : wCall GG TT (k + 3) 7 [.obj s, .tup xs] st Q E := by
  refine wCall_in (fn := f__law_some) rfl rfl rfl ?_
  show wS _ _ b__law_some_0 [some (.obj s), some (.tup xs)] _ _
  simp only [wS, wE, wEs, wT_tn, wT_tt, wTs_nil, wTs_cons, wAnd, wOr, wO, wIf, rdV, argN, tyB, b_add, b_sub, b_mul, b_fdiv, b_mod, b_adds, b_addt, b_addo, b_muls, b_mulo, c_eq, c_ne, c_lt, c_le, c_gt, c_ge, c_eqs, c_nes, c_eqb, c_neb, c_in1, c_nin1, c_init, c_ninit, c_inio, c_ninio, i_objs, dOk_int, dOk_str, o_sets, m_get1, m_get2, m_setd, t_get, t_setd, O.dic.injEq, c_inso, c_inst, c_ninso, c_ninst, f_lenS, f_tupS, i_tS, v_tS, y_tS, c_inS, c_ninS, isN_tS, c_isn, c_isntn, c_isb, c_isntb, isN_non, isN_int, isN_str, isN_tup, isN_bl, isN_obj, sq_tup, sq_fro, sq_obj, i_str, i_obj, i_tup, i_fro, s_str, s_tup, s_fro, s_obj, f_lens, f_lent, f_lenf, f_leno, f_inti, f_intb, f_boolb, f_sum, f_all, f_any, f_tupt, f_tupo, f_lstt, f_lsto, f_min, f_max, f_abs, f_stri, m_app, m_popi, m_ins, m_idxi, m_idxs, m_split, m_words, t_ins, t_idx, t_idxf, t_split,  m_ext, m_pop, m_join, t_app, t_ext, t_pop, t_join, o_set, y_non, y_int, y_bl, y_str, y_tup, y_fro, y_obj, v_tup, v_tI, v_fro, v_str, v_obj, z_tup, z_to, z_ot, z_obj, f_tups, t_idxt, en_obj, en_tup, rv_obj, rv_tup, s_tI, b_addI, f_lenI, f_tupI, f_lstI, i_tI, y_tI, isN_tI, tI_nil, still_nil, still_one, still_two, ixD0, ixD1, ixD2, ixD3, ixD4, ixD5, Nat.reduceAdd, Nat.reduceSub, Nat.reduceLT, Nat.reduceEqDiff, Nat.lt_add_one, Nat.zero_lt_succ, atD0, atD1, atD2, atD3, atD4, atD5, List.getElem?_cons_zero, List.getElem?_cons_succ, List.set_cons_zero, List.set_cons_succ, Option.some.injEq, D.int.injEq, D.bl.injEq, D.obj.injEq, D.str.injEq, D.tup.injEq, O.lst.injEq, List.cons.injEq, List.length_cons, List.length_nil, exists_eq_left', exists_eq_left, exists_eq, exists_eq', exists_and_left, true_and, and_true, and_self, decide_eq_true_eq, decide_eq_false_iff_not, Bool.not_eq_true', Bool.not_eq_false', Bool.not_true, Bool.not_false, forall_const, imp_self, reduceCtorEq, false_and, and_false, exists_false, or_false, false_or, implies_true, false_implies, true_implies, not_true_eq_false, not_false_eq_true, if_true, if_false, b__law_some_0]
  refine draw_ok hS (by omega) fun n st' b c => ?_
  have hn : n < xs.length := by omega
  simp only [wS, wE, wEs, wT_tn, wT_tt, wTs_nil, wTs_cons, wAnd, wOr, wO, wIf, rdV, argN, tyB, b_add, b_sub, b_mul, b_fdiv, b_mod, b_adds, b_addt, b_addo, b_muls, b_mulo, c_eq, c_ne, c_lt, c_le, c_gt, c_ge, c_eqs, c_nes, c_eqb, c_neb, c_in1, c_nin1, c_init, c_ninit, c_inio, c_ninio, i_objs, dOk_int, dOk_str, o_sets, m_get1, m_get2, m_setd, t_get, t_setd, O.dic.injEq, c_inso, c_inst, c_ninso, c_ninst, f_lenS, f_tupS, i_tS, v_tS, y_tS, c_inS, c_ninS, isN_tS, c_isn, c_isntn, c_isb, c_isntb, isN_non, isN_int, isN_str, isN_tup, isN_bl, isN_obj, sq_tup, sq_fro, sq_obj, i_str, i_obj, i_tup, i_fro, s_str, s_tup, s_fro, s_obj, f_lens, f_lent, f_lenf, f_leno, f_inti, f_intb, f_boolb, f_sum, f_all, f_any, f_tupt, f_tupo, f_lstt, f_lsto, f_min, f_max, f_abs, f_stri, m_app, m_popi, m_ins, m_idxi, m_idxs, m_split, m_words, t_ins, t_idx, t_idxf, t_split,  m_ext, m_pop, m_join, t_app, t_ext, t_pop, t_join, o_set, y_non, y_int, y_bl, y_str, y_tup, y_fro, y_obj, v_tup, v_tI, v_fro, v_str, v_obj, z_tup, z_to, z_ot, z_obj, f_tups, t_idxt, en_obj, en_tup, rv_obj, rv_tup, s_tI, b_addI, f_lenI, f_tupI, f_lstI, i_tI, y_tI, isN_tI, tI_nil, still_nil, still_one, still_two, ixD0, ixD1, ixD2, ixD3, ixD4, ixD5, Nat.reduceAdd, Nat.reduceSub, Nat.reduceLT, Nat.reduceEqDiff, Nat.lt_add_one, Nat.zero_lt_succ, atD0, atD1, atD2, atD3, atD4, atD5, List.getElem?_cons_zero, List.getElem?_cons_succ, List.set_cons_zero, List.set_cons_succ, Option.some.injEq, D.int.injEq, D.bl.injEq, D.obj.injEq, D.str.injEq, D.tup.injEq, O.lst.injEq, List.cons.injEq, List.length_cons, List.length_nil, exists_eq_left', exists_eq_left, exists_eq, exists_eq', exists_and_left, true_and, and_true, and_self, decide_eq_true_eq, decide_eq_false_iff_not, Bool.not_eq_true', Bool.not_eq_false', Bool.not_true, Bool.not_false, forall_const, imp_self, reduceCtorEq, false_and, and_false, exists_false, or_false, false_or, implies_true, false_implies, true_implies, not_true_eq_false, not_false_eq_true, if_true, if_false, atD_nat]
  exact ⟨xs[n], List.getElem?_eq_getElem hn, .inl (h _ _ (List.getElem_mem _) c)⟩
/-- the source is made: behind it the store holds the cut, the cells, the source -/
theorem source_ok {k : Nat} {ns : List Int} {Q : KD} {E : XD} (h : ∀ st', Src st' 2 → st'.length = 3 → Q (.obj 2) st') : wCall GG TT (k + 1) 4 [.fro (ns.map D.int)] [] Q E := by
  refine wCall_in (fn := f__law_source) rfl rfl rfl ?_
  show wS _ _ b__law_source_0 [some (.fro (ns.map D.int)), none, none] _ _
  simp only [wS, wE, wEs, wT_tn, wT_tt, wTs_nil, wTs_cons, wAnd, wOr, wO, wIf, rdV, argN, tyB, b_add, b_sub, b_mul, b_fdiv, b_mod, b_adds, b_addt, b_addo, b_muls, b_mulo, c_eq, c_ne, c_lt, c_le, c_gt, c_ge, c_eqs, c_nes, c_eqb, c_neb, c_in1, c_nin1, c_init, c_ninit, c_inio, c_ninio, i_objs, dOk_int, dOk_str, o_sets, m_get1, m_get2, m_setd, t_get, t_setd, O.dic.injEq, c_inso, c_inst, c_ninso, c_ninst, f_lenS, f_tupS, i_tS, v_tS, y_tS, c_inS, c_ninS, isN_tS, c_isn, c_isntn, c_isb, c_isntb, isN_non, isN_int, isN_str, isN_tup, isN_bl, isN_obj, sq_tup, sq_fro, sq_obj, i_str, i_obj, i_tup, i_fro, s_str, s_tup, s_fro, s_obj, f_lens, f_lent, f_lenf, f_leno, f_inti, f_intb, f_boolb, f_sum, f_all, f_any, f_tupt, f_tupo, f_lstt, f_lsto, f_min, f_max, f_abs, f_stri, m_app, m_popi, m_ins, m_idxi, m_idxs, m_split, m_words, t_ins, t_idx, t_idxf, t_split,  m_ext, m_pop, m_join, t_app, t_ext, t_pop, t_join, o_set, y_non, y_int, y_bl, y_str, y_tup, y_fro, y_obj, v_tup, v_tI, v_fro, v_str, v_obj, z_tup, z_to, z_ot, z_obj, f_tups, t_idxt, en_obj, en_tup, rv_obj, rv_tup, s_tI, b_addI, f_lenI, f_tupI, f_lstI, i_tI, y_tI, isN_tI, tI_nil, still_nil, still_one, still_two, ixD0, ixD1, ixD2, ixD3, ixD4, ixD5, Nat.reduceAdd, Nat.reduceSub, Nat.reduceLT, Nat.reduceEqDiff, Nat.lt_add_one, Nat.zero_lt_succ, atD0, atD1, atD2, atD3, atD4, atD5, List.getElem?_cons_zero, List.getElem?_cons_succ, List.set_cons_zero, List.set_cons_succ, Option.some.injEq, D.int.injEq, D.bl.injEq, D.obj.injEq, D.str.injEq, D.tup.injEq, O.lst.injEq, List.cons.injEq, List.length_cons, List.length_nil, exists_eq_left', exists_eq_left, exists_eq, exists_eq', exists_and_left, true_and, and_true, and_self, decide_eq_true_eq, decide_eq_false_iff_not, Bool.not_eq_true', Bool.not_eq_false', Bool.not_true, Bool.not_false, forall_const, imp_self, reduceCtorEq, false_and, and_false, exists_false, or_false, false_or, implies_true, false_implies, true_implies, not_true_eq_false, not_false_eq_true, if_true, if_false, b__law_source_0, wI, wipeE, List.nil_append]
  have hc : cutD (ns.map D.int) none (some 63) = (cutD ns none (some 63)).map D.int := by simp [cutD]
  rw [hc]
  have hm : (cutD ns none (some 63)).length ≤ 63 := by simp [cutD, sIxD]; omega
  generalize cutD ns none (some 63) = ms at hm
  refine compW_map (fun d => d) ?_ (fun acc => by simp only [wS, wE, wEs, wT_tn, wT_tt, wTs_nil, wTs_cons, wAnd, wOr, wO, wIf, rdV, argN, tyB, b_add, b_sub, b_mul, b_fdiv, b_mod, b_adds, b_addt, b_addo, b_muls, b_mulo, c_eq, c_ne, c_lt, c_le, c_gt, c_ge, c_eqs, c_nes, c_eqb, c_neb, c_in1, c_nin1, c_init, c_ninit, c_inio, c_ninio, i_objs, dOk_int, dOk_str, o_sets, m_get1, m_get2, m_setd, t_get, t_setd, O.dic.injEq, c_inso, c_inst, c_ninso, c_ninst, f_lenS, f_tupS, i_tS, v_tS, y_tS, c_inS, c_ninS, isN_tS, c_isn, c_isntn, c_isb, c_isntb, isN_non, isN_int, isN_str, isN_tup, isN_bl, isN_obj, sq_tup, sq_fro, sq_obj, i_str, i_obj, i_tup, i_fro, s_str, s_tup, s_fro, s_obj, f_lens, f_lent, f_lenf, f_leno, f_inti, f_intb, f_boolb, f_sum, f_all, f_any, f_tupt, f_tupo, f_lstt, f_lsto, f_min, f_max, f_abs, f_stri, m_app, m_popi, m_ins, m_idxi, m_idxs, m_split, m_words, t_ins, t_idx, t_idxf, t_split,  m_ext, m_pop, m_join, t_app, t_ext, t_pop, t_join, o_set, y_non, y_int, y_bl, y_str, y_tup, y_fro, y_obj, v_tup, v_tI, v_fro, v_str, v_obj, z_tup, z_to, z_ot, z_obj, f_tups, t_idxt, en_obj, en_tup, rv_obj, rv_tup, s_tI, b_addI, f_lenI, f_tupI, f_lstI, i_tI, y_tI, isN_tI, tI_nil, still_nil, still_one, still_two, ixD0, ixD1, ixD2, ixD3, ixD4, ixD5, Nat.reduceAdd, Nat.reduceSub, Nat.reduceLT, Nat.reduceEqDiff, Nat.lt_add_one, Nat.zero_lt_succ, atD0, atD1, atD2, atD3, atD4, atD5, List.getElem?_cons_zero, List.getElem?_cons_succ, List.set_cons_zero, List.set_cons_succ, Option.some.injEq, D.int.injEq, D.bl.injEq, D.obj.injEq, D.str.injEq, D.tup.injEq, O.lst.injEq, List.cons.injEq, List.length_cons, List.length_nil, exists_eq_left', exists_eq_left, exists_eq, exists_eq', exists_and_left, true_and, and_true, and_self, decide_eq_true_eq, decide_eq_false_iff_not, Bool.not_eq_true', Bool.not_eq_false', Bool.not_true, Bool.not_false, forall_const, imp_self, reduceCtorEq, false_and, and_false, exists_false, or_false, false_or, implies_true, false_implies, true_implies, not_true_eq_false, not_false_eq_true, if_true, if_false, List.nil_append, List.cons_append]) ?_ ?_
  · show (ms.map D.int).length ≤ _
    rw [List.length_map]; omega
  · rintro i x acc yes no hx hy
    have hx : (ms.map D.int)[i]? = some x := hx
    rw [List.getElem?_map] at hx
    cases e : ms[i]? with
    | none => rw [e] at hx; cases hx
    | some n =>
      rw [e] at hx; cases hx
      simp only [wS, wE, wEs, wT_tn, wT_tt, wTs_nil, wTs_cons, wAnd, wOr, wO, wIf, rdV, argN, tyB, b_add, b_sub, b_mul, b_fdiv, b_mod, b_adds, b_addt, b_addo, b_muls, b_mulo, c_eq, c_ne, c_lt, c_le, c_gt, c_ge, c_eqs, c_nes, c_eqb, c_neb, c_in1, c_nin1, c_init, c_ninit, c_inio, c_ninio, i_objs, dOk_int, dOk_str, o_sets, m_get1, m_get2, m_setd, t_get, t_setd, O.dic.injEq, c_inso, c_inst, c_ninso, c_ninst, f_lenS, f_tupS, i_tS, v_tS, y_tS, c_inS, c_ninS, isN_tS, c_isn, c_isntn, c_isb, c_isntb, isN_non, isN_int, isN_str, isN_tup, isN_bl, isN_obj, sq_tup, sq_fro, sq_obj, i_str, i_obj, i_tup, i_fro, s_str, s_tup, s_fro, s_obj, f_lens, f_lent, f_lenf, f_leno, f_inti, f_intb, f_boolb, f_sum, f_all, f_any, f_tupt, f_tupo, f_lstt, f_lsto, f_min, f_max, f_abs, f_stri, m_app, m_popi, m_ins, m_idxi, m_idxs, m_split, m_words, t_ins, t_idx, t_idxf, t_split,  m_ext, m_pop, m_join, t_app, t_ext, t_pop, t_join, o_set, y_non, y_int, y_bl, y_str, y_tup, y_fro, y_obj, v_tup, v_tI, v_fro, v_str, v_obj, z_tup, z_to, z_ot, z_obj, f_tups, t_idxt, en_obj, en_tup, rv_obj, rv_tup, s_tI, b_addI, f_lenI, f_tupI, f_lstI, i_tI, y_tI, isN_tI, tI_nil, still_nil, still_one, still_two, ixD0, ixD1, ixD2, ixD3, ixD4, ixD5, Nat.reduceAdd, Nat.reduceSub, Nat.reduceLT, Nat.reduceEqDiff, Nat.lt_add_one, Nat.zero_lt_succ, atD0, atD1, atD2, atD3, atD4, atD5, List.getElem?_cons_zero, List.getElem?_cons_succ, List.set_cons_zero, List.set_cons_succ, Option.some.injEq, D.int.injEq, D.bl.injEq, D.obj.injEq, D.str.injEq, D.tup.injEq, O.lst.injEq, List.cons.injEq, List.length_cons, List.length_nil, exists_eq_left', exists_eq_left, exists_eq, exists_eq', exists_and_left, true_and, and_true, and_self, decide_eq_true_eq, decide_eq_false_iff_not, Bool.not_eq_true', Bool.not_eq_false', Bool.not_true, Bool.not_false, forall_const, imp_self, reduceCtorEq, false_and, and_false, exists_false, or_false, false_or, implies_true, false_implies, true_implies, not_true_eq_false, not_false_eq_true, if_true, if_false]
      exact hy
  simp only [wS, wE, wEs, wT_tn, wT_tt, wTs_nil, wTs_cons, wAnd, wOr, wO, wIf, rdV, argN, tyB, b_add, b_sub, b_mul, b_fdiv, b_mod, b_adds, b_addt, b_addo, b_muls, b_mulo, c_eq, c_ne, c_lt, c_le, c_gt, c_ge, c_eqs, c_nes, c_eqb, c_neb, c_in1, c_nin1, c_init, c_ninit, c_inio, c_ninio, i_objs, dOk_int, dOk_str, o_sets, m_get1, m_get2, m_setd, t_get, t_setd, O.dic.injEq, c_inso, c_inst, c_ninso, c_ninst, f_lenS, f_tupS, i_tS, v_tS, y_tS, c_inS, c_ninS, isN_tS, c_isn, c_isntn, c_isb, c_isntb, isN_non, isN_int, isN_str, isN_tup, isN_bl, isN_obj, sq_tup, sq_fro, sq_obj, i_str, i_obj, i_tup, i_fro, s_str, s_tup, s_fro, s_obj, f_lens, f_lent, f_lenf, f_leno, f_inti, f_intb, f_boolb, f_sum, f_all, f_any, f_tupt, f_tupo, f_lstt, f_lsto, f_min, f_max, f_abs, f_stri, m_app, m_popi, m_ins, m_idxi, m_idxs, m_split, m_words, t_ins, t_idx, t_idxf, t_split,  m_ext, m_pop, m_join, t_app, t_ext, t_pop, t_join, o_set, y_non, y_int, y_bl, y_str, y_tup, y_fro, y_obj, v_tup, v_tI, v_fro, v_str, v_obj, z_tup, z_to, z_ot, z_obj, f_tups, t_idxt, en_obj, en_tup, rv_obj, rv_tup, s_tI, b_addI, f_lenI, f_tupI, f_lstI, i_tI, y_tI, isN_tI, tI_nil, still_nil, still_one, still_two, ixD0, ixD1, ixD2, ixD3, ixD4, ixD5, Nat.reduceAdd, Nat.reduceSub, Nat.reduceLT, Nat.reduceEqDiff, Nat.lt_add_one, Nat.zero_lt_succ, atD0, atD1, atD2, atD3, atD4, atD5, List.getElem?_cons_zero, List.getElem?_cons_succ, List.set_cons_zero, List.set_cons_succ, Option.some.injEq, D.int.injEq, D.bl.injEq, D.obj.injEq, D.str.injEq, D.tup.injEq, O.lst.injEq, List.cons.injEq, List.length_cons, List.length_nil, exists_eq_left', exists_eq_left, exists_eq, exists_eq', exists_and_left, true_and, and_true, and_self, decide_eq_true_eq, decide_eq_false_iff_not, Bool.not_eq_true', Bool.not_eq_false', Bool.not_true, Bool.not_false, forall_const, imp_self, reduceCtorEq, false_and, and_false, exists_false, or_false, false_or, implies_true, false_implies, true_implies, not_true_eq_false, not_false_eq_true, if_true, if_false, b__law_source_1, List.map_id', List.cons_append, List.nil_append]
  refine ⟨ms, rfl, by decide, by decide, .inl (h _ ⟨1, 0, 0, 0, _, 0, ms, rfl, rfl, by decide, by decide⟩ rfl)⟩
end Rf

namespace Rf
open PySem
/-! the reserved words; the numbers -/
def LET : List Nat := [97, 98, 99, 100, 101, 102, 103, 104, 105, 106, 107, 108, 109, 110, 111, 112, 113, 114, 115, 116, 117, 118, 119, 120, 121, 122]
def DIG : List Nat := [48, 49, 50, 51, 52, 53, 54, 55, 56, 57]
def strD : D → Option (List Nat)
  | .str s => some s
  | _ => none
def tupD : D → List D
  | .tup xs => xs
  | _ => []
def RES : List (List Nat) := (tupD ((GG[2]?).getD .non)).filterMap strD
theorem gg0 : GG[0]? = some (.str LET) := rfl
theorem gg1 : GG[1]? = some (.str DIG) := rfl
theorem gg2 : GG[2]? = some (.tup (RES.map D.str)) := rfl
theorem res_len : ∀ s ∈ RES, s.length ≤ 7 := by decide +kernel
theorem res_ne : RES.length = 40 := by decide +kernel
theorem reserved_ok {k : Nat} {st : Sto} {Q : KD} {E : XD} (h : Q (.obj st.length) (st ++ [.lst (RES.map D.str)])) : wCall GG TT (k + 1) 8 [] st Q E := by
  refine wCall_in (fn := f__law_reserved) rfl rfl rfl ?_
  show wS _ _ b__law_reserved_0 [none] _ _
  simp only [wS, wE, wEs, wT_tn, wT_tt, wTs_nil, wTs_cons, wAnd, wOr, wO, wIf, rdV, argN, tyB, b_add, b_sub, b_mul, b_fdiv, b_mod, b_adds, b_addt, b_addo, b_muls, b_mulo, c_eq, c_ne, c_lt, c_le, c_gt, c_ge, c_eqs, c_nes, c_eqb, c_neb, c_in1, c_nin1, c_init, c_ninit, c_inio, c_ninio, i_objs, dOk_int, dOk_str, o_sets, m_get1, m_get2, m_setd, t_get, t_setd, O.dic.injEq, c_inso, c_inst, c_ninso, c_ninst, f_lenS, f_tupS, i_tS, v_tS, y_tS, c_inS, c_ninS, isN_tS, c_isn, c_isntn, c_isb, c_isntb, isN_non, isN_int, isN_str, isN_tup, isN_bl, isN_obj, sq_tup, sq_fro, sq_obj, i_str, i_obj, i_tup, i_fro, s_str, s_tup, s_fro, s_obj, f_lens, f_lent, f_lenf, f_leno, f_inti, f_intb, f_boolb, f_sum, f_all, f_any, f_tupt, f_tupo, f_lstt, f_lsto, f_min, f_max, f_abs, f_stri, m_app, m_popi, m_ins, m_idxi, m_idxs, m_split, m_words, t_ins, t_idx, t_idxf, t_split,  m_ext, m_pop, m_join, t_app, t_ext, t_pop, t_join, o_set, y_non, y_int, y_bl, y_str, y_tup, y_fro, y_obj, v_tup, v_tI, v_fro, v_str, v_obj, z_tup, z_to, z_ot, z_obj, f_tups, t_idxt, en_obj, en_tup, rv_obj, rv_tup, s_tI, b_addI, f_lenI, f_tupI, f_lstI, i_tI, y_tI, isN_tI, tI_nil, still_nil, still_one, still_two, ixD0, ixD1, ixD2, ixD3, ixD4, ixD5, Nat.reduceAdd, Nat.reduceSub, Nat.reduceLT, Nat.reduceEqDiff, Nat.lt_add_one, Nat.zero_lt_succ, atD0, atD1, atD2, atD3, atD4, atD5, List.getElem?_cons_zero, List.getElem?_cons_succ, List.set_cons_zero, List.set_cons_succ, Option.some.injEq, D.int.injEq, D.bl.injEq, D.obj.injEq, D.str.injEq, D.tup.injEq, O.lst.injEq, List.cons.injEq, List.length_cons, List.length_nil, exists_eq_left', exists_eq_left, exists_eq, exists_eq', exists_and_left, true_and, and_true, and_self, decide_eq_true_eq, decide_eq_false_iff_not, Bool.not_eq_true', Bool.not_eq_false', Bool.not_true, Bool.not_false, forall_const, imp_self, reduceCtorEq, false_and, and_false, exists_false, or_false, false_or, implies_true, false_implies, true_implies, not_true_eq_false, not_false_eq_true, if_true, if_false, b__law_reserved_0]
  simp only [wS, wE, wEs, wT_tn, wT_tt, wTs_nil, wTs_cons, wAnd, wOr, wO, wIf, rdV, argN, tyB, b_add, b_sub, b_mul, b_fdiv, b_mod, b_adds, b_addt, b_addo, b_muls, b_mulo, c_eq, c_ne, c_lt, c_le, c_gt, c_ge, c_eqs, c_nes, c_eqb, c_neb, c_in1, c_nin1, c_init, c_ninit, c_inio, c_ninio, i_objs, dOk_int, dOk_str, o_sets, m_get1, m_get2, m_setd, t_get, t_setd, O.dic.injEq, c_inso, c_inst, c_ninso, c_ninst, f_lenS, f_tupS, i_tS, v_tS, y_tS, c_inS, c_ninS, isN_tS, c_isn, c_isntn, c_isb, c_isntb, isN_non, isN_int, isN_str, isN_tup, isN_bl, isN_obj, sq_tup, sq_fro, sq_obj, i_str, i_obj, i_tup, i_fro, s_str, s_tup, s_fro, s_obj, f_lens, f_lent, f_lenf, f_leno, f_inti, f_intb, f_boolb, f_sum, f_all, f_any, f_tupt, f_tupo, f_lstt, f_lsto, f_min, f_max, f_abs, f_stri, m_app, m_popi, m_ins, m_idxi, m_idxs, m_split, m_words, t_ins, t_idx, t_idxf, t_split,  m_ext, m_pop, m_join, t_app, t_ext, t_pop, t_join, o_set, y_non, y_int, y_bl, y_str, y_tup, y_fro, y_obj, v_tup, v_tI, v_fro, v_str, v_obj, z_tup, z_to, z_ot, z_obj, f_tups, t_idxt, en_obj, en_tup, rv_obj, rv_tup, s_tI, b_addI, f_lenI, f_tupI, f_lstI, i_tI, y_tI, isN_tI, tI_nil, still_nil, still_one, still_two, ixD0, ixD1, ixD2, ixD3, ixD4, ixD5, Nat.reduceAdd, Nat.reduceSub, Nat.reduceLT, Nat.reduceEqDiff, Nat.lt_add_one, Nat.zero_lt_succ, atD0, atD1, atD2, atD3, atD4, atD5, List.getElem?_cons_zero, List.getElem?_cons_succ, List.set_cons_zero, List.set_cons_succ, Option.some.injEq, D.int.injEq, D.bl.injEq, D.obj.injEq, D.str.injEq, D.tup.injEq, O.lst.injEq, List.cons.injEq, List.length_cons, List.length_nil, exists_eq_left', exists_eq_left, exists_eq, exists_eq', exists_and_left, true_and, and_true, and_self, decide_eq_true_eq, decide_eq_false_iff_not, Bool.not_eq_true', Bool.not_eq_false', Bool.not_true, Bool.not_false, forall_const, imp_self, reduceCtorEq, false_and, and_false, exists_false, or_false, false_or, implies_true, false_implies, true_implies, not_true_eq_false, not_false_eq_true, if_true, if_false, b__law_reserved_1]
  refine ⟨by decide, ?_⟩
  simp only [wS, wE, wEs, wT_tn, wT_tt, wTs_nil, wTs_cons, wAnd, wOr, wO, wIf, rdV, argN, tyB, b_add, b_sub, b_mul, b_fdiv, b_mod, b_adds, b_addt, b_addo, b_muls, b_mulo, c_eq, c_ne, c_lt, c_le, c_gt, c_ge, c_eqs, c_nes, c_eqb, c_neb, c_in1, c_nin1, c_init, c_ninit, c_inio, c_ninio, i_objs, dOk_int, dOk_str, o_sets, m_get1, m_get2, m_setd, t_get, t_setd, O.dic.injEq, c_inso, c_inst, c_ninso, c_ninst, f_lenS, f_tupS, i_tS, v_tS, y_tS, c_inS, c_ninS, isN_tS, c_isn, c_isntn, c_isb, c_isntb, isN_non, isN_int, isN_str, isN_tup, isN_bl, isN_obj, sq_tup, sq_fro, sq_obj, i_str, i_obj, i_tup, i_fro, s_str, s_tup, s_fro, s_obj, f_lens, f_lent, f_lenf, f_leno, f_inti, f_intb, f_boolb, f_sum, f_all, f_any, f_tupt, f_tupo, f_lstt, f_lsto, f_min, f_max, f_abs, f_stri, m_app, m_popi, m_ins, m_idxi, m_idxs, m_split, m_words, t_ins, t_idx, t_idxf, t_split,  m_ext, m_pop, m_join, t_app, t_ext, t_pop, t_join, o_set, y_non, y_int, y_bl, y_str, y_tup, y_fro, y_obj, v_tup, v_tI, v_fro, v_str, v_obj, z_tup, z_to, z_ot, z_obj, f_tups, t_idxt, en_obj, en_tup, rv_obj, rv_tup, s_tI, b_addI, f_lenI, f_tupI, f_lstI, i_tI, y_tI, isN_tI, tI_nil, still_nil, still_one, still_two, ixD0, ixD1, ixD2, ixD3, ixD4, ixD5, Nat.reduceAdd, Nat.reduceSub, Nat.reduceLT, Nat.reduceEqDiff, Nat.lt_add_one, Nat.zero_lt_succ, atD0, atD1, atD2, atD3, atD4, atD5, List.getElem?_cons_zero, List.getElem?_cons_succ, List.set_cons_zero, List.set_cons_succ, Option.some.injEq, D.int.injEq, D.bl.injEq, D.obj.injEq, D.str.injEq, D.tup.injEq, O.lst.injEq, List.cons.injEq, List.length_cons, List.length_nil, exists_eq_left', exists_eq_left, exists_eq, exists_eq', exists_and_left, true_and, and_true, and_self, decide_eq_true_eq, decide_eq_false_iff_not, Bool.not_eq_true', Bool.not_eq_false', Bool.not_true, Bool.not_false, forall_const, imp_self, reduceCtorEq, false_and, and_false, exists_false, or_false, false_or, implies_true, false_implies, true_implies, not_true_eq_false, not_false_eq_true, if_true, if_false, b__law_reserved_2]
  refine ⟨by decide, by decide, by decide, .inl ?_⟩
  have e : ∀ zs : List Str, zs.map (fun z => D.str z.cps.toList) = (zs.map fun z : Str => z.cps.toList).map D.str := fun zs => by rw [List.map_map]; rfl
  rw [e]
  have h' : ∀ ws : List (List Nat), ws = RES → Q (.obj st.length) (st ++ [.lst (ws.map D.str)]) := by rintro _ rfl; exact h
  exact h' _ (by decide +kernel)
def isNum (s : List Nat) : Bool := decide (s ∈ (List.range 1000).map fun n : Nat => strI n)
theorem numbers_ok {k : Nat} {st : Sto} {Q : KD} {E : XD} (h : ∀ kvs, (∀ s, (dGet kvs (.str s)).isSome = isNum s) → Q (.obj st.length) (st ++ [.dic false kvs])) : wCall GG TT (k + 1) 9 [] st Q E := by
  refine wCall_in (fn := f__law_numbers) rfl rfl rfl ?_
  show wS _ _ b__law_numbers_0 [none, none] _ _
  simp only [wS, wE, wEs, wT_tn, wT_tt, wTs_nil, wTs_cons, wAnd, wOr, wO, wIf, rdV, argN, tyB, b_add, b_sub, b_mul, b_fdiv, b_mod, b_adds, b_addt, b_addo, b_muls, b_mulo, c_eq, c_ne, c_lt, c_le, c_gt, c_ge, c_eqs, c_nes, c_eqb, c_neb, c_in1, c_nin1, c_init, c_ninit, c_inio, c_ninio, i_objs, dOk_int, dOk_str, o_sets, m_get1, m_get2, m_setd, t_get, t_setd, O.dic.injEq, c_inso, c_inst, c_ninso, c_ninst, f_lenS, f_tupS, i_tS, v_tS, y_tS, c_inS, c_ninS, isN_tS, c_isn, c_isntn, c_isb, c_isntb, isN_non, isN_int, isN_str, isN_tup, isN_bl, isN_obj, sq_tup, sq_fro, sq_obj, i_str, i_obj, i_tup, i_fro, s_str, s_tup, s_fro, s_obj, f_lens, f_lent, f_lenf, f_leno, f_inti, f_intb, f_boolb, f_sum, f_all, f_any, f_tupt, f_tupo, f_lstt, f_lsto, f_min, f_max, f_abs, f_stri, m_app, m_popi, m_ins, m_idxi, m_idxs, m_split, m_words, t_ins, t_idx, t_idxf, t_split,  m_ext, m_pop, m_join, t_app, t_ext, t_pop, t_join, o_set, y_non, y_int, y_bl, y_str, y_tup, y_fro, y_obj, v_tup, v_tI, v_fro, v_str, v_obj, z_tup, z_to, z_ot, z_obj, f_tups, t_idxt, en_obj, en_tup, rv_obj, rv_tup, s_tI, b_addI, f_lenI, f_tupI, f_lstI, i_tI, y_tI, isN_tI, tI_nil, still_nil, still_one, still_two, ixD0, ixD1, ixD2, ixD3, ixD4, ixD5, Nat.reduceAdd, Nat.reduceSub, Nat.reduceLT, Nat.reduceEqDiff, Nat.lt_add_one, Nat.zero_lt_succ, atD0, atD1, atD2, atD3, atD4, atD5, List.getElem?_cons_zero, List.getElem?_cons_succ, List.set_cons_zero, List.set_cons_succ, Option.some.injEq, D.int.injEq, D.bl.injEq, D.obj.injEq, D.str.injEq, D.tup.injEq, O.lst.injEq, List.cons.injEq, List.length_cons, List.length_nil, exists_eq_left', exists_eq_left, exists_eq, exists_eq', exists_and_left, true_and, and_true, and_self, decide_eq_true_eq, decide_eq_false_iff_not, Bool.not_eq_true', Bool.not_eq_false', Bool.not_true, Bool.not_false, forall_const, imp_self, reduceCtorEq, false_and, and_false, exists_false, or_false, false_or, implies_true, false_implies, true_implies, not_true_eq_false, not_false_eq_true, if_true, if_false, b__law_numbers_0]
  simp only [wS, wE, wEs, wT_tn, wT_tt, wTs_nil, wTs_cons, wAnd, wOr, wO, wIf, rdV, argN, tyB, b_add, b_sub, b_mul, b_fdiv, b_mod, b_adds, b_addt, b_addo, b_muls, b_mulo, c_eq, c_ne, c_lt, c_le, c_gt, c_ge, c_eqs, c_nes, c_eqb, c_neb, c_in1, c_nin1, c_init, c_ninit, c_inio, c_ninio, i_objs, dOk_int, dOk_str, o_sets, m_get1, m_get2, m_setd, t_get, t_setd, O.dic.injEq, c_inso, c_inst, c_ninso, c_ninst, f_lenS, f_tupS, i_tS, v_tS, y_tS, c_inS, c_ninS, isN_tS, c_isn, c_isntn, c_isb, c_isntb, isN_non, isN_int, isN_str, isN_tup, isN_bl, isN_obj, sq_tup, sq_fro, sq_obj, i_str, i_obj, i_tup, i_fro, s_str, s_tup, s_fro, s_obj, f_lens, f_lent, f_lenf, f_leno, f_inti, f_intb, f_boolb, f_sum, f_all, f_any, f_tupt, f_tupo, f_lstt, f_lsto, f_min, f_max, f_abs, f_stri, m_app, m_popi, m_ins, m_idxi, m_idxs, m_split, m_words, t_ins, t_idx, t_idxf, t_split,  m_ext, m_pop, m_join, t_app, t_ext, t_pop, t_join, o_set, y_non, y_int, y_bl, y_str, y_tup, y_fro, y_obj, v_tup, v_tI, v_fro, v_str, v_obj, z_tup, z_to, z_ot, z_obj, f_tups, t_idxt, en_obj, en_tup, rv_obj, rv_tup, s_tI, b_addI, f_lenI, f_tupI, f_lstI, i_tI, y_tI, isN_tI, tI_nil, still_nil, still_one, still_two, ixD0, ixD1, ixD2, ixD3, ixD4, ixD5, Nat.reduceAdd, Nat.reduceSub, Nat.reduceLT, Nat.reduceEqDiff, Nat.lt_add_one, Nat.zero_lt_succ, atD0, atD1, atD2, atD3, atD4, atD5, List.getElem?_cons_zero, List.getElem?_cons_succ, List.set_cons_zero, List.set_cons_succ, Option.some.injEq, D.int.injEq, D.bl.injEq, D.obj.injEq, D.str.injEq, D.tup.injEq, O.lst.injEq, List.cons.injEq, List.length_cons, List.length_nil, exists_eq_left', exists_eq_left, exists_eq, exists_eq', exists_and_left, true_and, and_true, and_self, decide_eq_true_eq, decide_eq_false_iff_not, Bool.not_eq_true', Bool.not_eq_false', Bool.not_true, Bool.not_false, forall_const, imp_self, reduceCtorEq, false_and, and_false, exists_false, or_false, false_or, implies_true, false_implies, true_implies, not_true_eq_false, not_false_eq_true, if_true, if_false, b__law_numbers_1, wI]
  refine ⟨by decide, loopW_inv (fun i env st' => ∃ (kvs : List (D × D)) (a : Option D), env = [some (.obj st.length), a] ∧ st' = st ++ [.dic false kvs] ∧ kvs.length ≤ i ∧ ∀ s, (dGet kvs (.str s)).isSome = decide (s ∈ (List.range i).map fun n : Nat => strI n))
    ⟨[], none, rfl, rfl, Nat.le_refl _, fun s => by simp [dGet]⟩ (fun i e s _ _ => by simp only [wS, wE, wEs, wT_tn, wT_tt, wTs_nil, wTs_cons, wAnd, wOr, wO, wIf, rdV, argN, tyB, b_add, b_sub, b_mul, b_fdiv, b_mod, b_adds, b_addt, b_addo, b_muls, b_mulo, c_eq, c_ne, c_lt, c_le, c_gt, c_ge, c_eqs, c_nes, c_eqb, c_neb, c_in1, c_nin1, c_init, c_ninit, c_inio, c_ninio, i_objs, dOk_int, dOk_str, o_sets, m_get1, m_get2, m_setd, t_get, t_setd, O.dic.injEq, c_inso, c_inst, c_ninso, c_ninst, f_lenS, f_tupS, i_tS, v_tS, y_tS, c_inS, c_ninS, isN_tS, c_isn, c_isntn, c_isb, c_isntb, isN_non, isN_int, isN_str, isN_tup, isN_bl, isN_obj, sq_tup, sq_fro, sq_obj, i_str, i_obj, i_tup, i_fro, s_str, s_tup, s_fro, s_obj, f_lens, f_lent, f_lenf, f_leno, f_inti, f_intb, f_boolb, f_sum, f_all, f_any, f_tupt, f_tupo, f_lstt, f_lsto, f_min, f_max, f_abs, f_stri, m_app, m_popi, m_ins, m_idxi, m_idxs, m_split, m_words, t_ins, t_idx, t_idxf, t_split,  m_ext, m_pop, m_join, t_app, t_ext, t_pop, t_join, o_set, y_non, y_int, y_bl, y_str, y_tup, y_fro, y_obj, v_tup, v_tI, v_fro, v_str, v_obj, z_tup, z_to, z_ot, z_obj, f_tups, t_idxt, en_obj, en_tup, rv_obj, rv_tup, s_tI, b_addI, f_lenI, f_tupI, f_lstI, i_tI, y_tI, isN_tI, tI_nil, still_nil, still_one, still_two, ixD0, ixD1, ixD2, ixD3, ixD4, ixD5, Nat.reduceAdd, Nat.reduceSub, Nat.reduceLT, Nat.reduceEqDiff, Nat.lt_add_one, Nat.zero_lt_succ, atD0, atD1, atD2, atD3, atD4, atD5, List.getElem?_cons_zero, List.getElem?_cons_succ, List.set_cons_zero, List.set_cons_succ, Option.some.injEq, D.int.injEq, D.bl.injEq, D.obj.injEq, D.str.injEq, D.tup.injEq, O.lst.injEq, List.cons.injEq, List.length_cons, List.length_nil, exists_eq_left', exists_eq_left, exists_eq, exists_eq', exists_and_left, true_and, and_true, and_self, decide_eq_true_eq, decide_eq_false_iff_not, Bool.not_eq_true', Bool.not_eq_false', Bool.not_true, Bool.not_false, forall_const, imp_self, reduceCtorEq, false_and, and_false, exists_false, or_false, false_or, implies_true, false_implies, true_implies, not_true_eq_false, not_false_eq_true, if_true, if_false]) ?_ ?_⟩
  · rintro env st' ⟨kvs, a, rfl, rfl, hl, hg⟩
    simp only [wS, wE, wEs, wT_tn, wT_tt, wTs_nil, wTs_cons, wAnd, wOr, wO, wIf, rdV, argN, tyB, b_add, b_sub, b_mul, b_fdiv, b_mod, b_adds, b_addt, b_addo, b_muls, b_mulo, c_eq, c_ne, c_lt, c_le, c_gt, c_ge, c_eqs, c_nes, c_eqb, c_neb, c_in1, c_nin1, c_init, c_ninit, c_inio, c_ninio, i_objs, dOk_int, dOk_str, o_sets, m_get1, m_get2, m_setd, t_get, t_setd, O.dic.injEq, c_inso, c_inst, c_ninso, c_ninst, f_lenS, f_tupS, i_tS, v_tS, y_tS, c_inS, c_ninS, isN_tS, c_isn, c_isntn, c_isb, c_isntb, isN_non, isN_int, isN_str, isN_tup, isN_bl, isN_obj, sq_tup, sq_fro, sq_obj, i_str, i_obj, i_tup, i_fro, s_str, s_tup, s_fro, s_obj, f_lens, f_lent, f_lenf, f_leno, f_inti, f_intb, f_boolb, f_sum, f_all, f_any, f_tupt, f_tupo, f_lstt, f_lsto, f_min, f_max, f_abs, f_stri, m_app, m_popi, m_ins, m_idxi, m_idxs, m_split, m_words, t_ins, t_idx, t_idxf, t_split,  m_ext, m_pop, m_join, t_app, t_ext, t_pop, t_join, o_set, y_non, y_int, y_bl, y_str, y_tup, y_fro, y_obj, v_tup, v_tI, v_fro, v_str, v_obj, z_tup, z_to, z_ot, z_obj, f_tups, t_idxt, en_obj, en_tup, rv_obj, rv_tup, s_tI, b_addI, f_lenI, f_tupI, f_lstI, i_tI, y_tI, isN_tI, tI_nil, still_nil, still_one, still_two, ixD0, ixD1, ixD2, ixD3, ixD4, ixD5, Nat.reduceAdd, Nat.reduceSub, Nat.reduceLT, Nat.reduceEqDiff, Nat.lt_add_one, Nat.zero_lt_succ, atD0, atD1, atD2, atD3, atD4, atD5, List.getElem?_cons_zero, List.getElem?_cons_succ, List.set_cons_zero, List.set_cons_succ, Option.some.injEq, D.int.injEq, D.bl.injEq, D.obj.injEq, D.str.injEq, D.tup.injEq, O.lst.injEq, List.cons.injEq, List.length_cons, List.length_nil, exists_eq_left', exists_eq_left, exists_eq, exists_eq', exists_and_left, true_and, and_true, and_self, decide_eq_true_eq, decide_eq_false_iff_not, Bool.not_eq_true', Bool.not_eq_false', Bool.not_true, Bool.not_false, forall_const, imp_self, reduceCtorEq, false_and, and_false, exists_false, or_false, false_or, implies_true, false_implies, true_implies, not_true_eq_false, not_false_eq_true, if_true, if_false, b__law_numbers_3]
    exact .inl (h kvs hg)
  · rintro i env st' v ⟨kvs, a, rfl, rfl, hl, hg⟩ hv nxt hnx
    obtain ⟨rfl, hi⟩ := rng_at hv
    simp only [wS, wE, wEs, wT_tn, wT_tt, wTs_nil, wTs_cons, wAnd, wOr, wO, wIf, rdV, argN, tyB, b_add, b_sub, b_mul, b_fdiv, b_mod, b_adds, b_addt, b_addo, b_muls, b_mulo, c_eq, c_ne, c_lt, c_le, c_gt, c_ge, c_eqs, c_nes, c_eqb, c_neb, c_in1, c_nin1, c_init, c_ninit, c_inio, c_ninio, i_objs, dOk_int, dOk_str, o_sets, m_get1, m_get2, m_setd, t_get, t_setd, O.dic.injEq, c_inso, c_inst, c_ninso, c_ninst, f_lenS, f_tupS, i_tS, v_tS, y_tS, c_inS, c_ninS, isN_tS, c_isn, c_isntn, c_isb, c_isntb, isN_non, isN_int, isN_str, isN_tup, isN_bl, isN_obj, sq_tup, sq_fro, sq_obj, i_str, i_obj, i_tup, i_fro, s_str, s_tup, s_fro, s_obj, f_lens, f_lent, f_lenf, f_leno, f_inti, f_intb, f_boolb, f_sum, f_all, f_any, f_tupt, f_tupo, f_lstt, f_lsto, f_min, f_max, f_abs, f_stri, m_app, m_popi, m_ins, m_idxi, m_idxs, m_split, m_words, t_ins, t_idx, t_idxf, t_split,  m_ext, m_pop, m_join, t_app, t_ext, t_pop, t_join, o_set, y_non, y_int, y_bl, y_str, y_tup, y_fro, y_obj, v_tup, v_tI, v_fro, v_str, v_obj, z_tup, z_to, z_ot, z_obj, f_tups, t_idxt, en_obj, en_tup, rv_obj, rv_tup, s_tI, b_addI, f_lenI, f_tupI, f_lstI, i_tI, y_tI, isN_tI, tI_nil, still_nil, still_one, still_two, ixD0, ixD1, ixD2, ixD3, ixD4, ixD5, Nat.reduceAdd, Nat.reduceSub, Nat.reduceLT, Nat.reduceEqDiff, Nat.lt_add_one, Nat.zero_lt_succ, atD0, atD1, atD2, atD3, atD4, atD5, List.getElem?_cons_zero, List.getElem?_cons_succ, List.set_cons_zero, List.set_cons_succ, Option.some.injEq, D.int.injEq, D.bl.injEq, D.obj.injEq, D.str.injEq, D.tup.injEq, O.lst.injEq, List.cons.injEq, List.length_cons, List.length_nil, exists_eq_left', exists_eq_left, exists_eq, exists_eq', exists_and_left, true_and, and_true, and_self, decide_eq_true_eq, decide_eq_false_iff_not, Bool.not_eq_true', Bool.not_eq_false', Bool.not_true, Bool.not_false, forall_const, imp_self, reduceCtorEq, false_and, and_false, exists_false, or_false, false_or, implies_true, false_implies, true_implies, not_true_eq_false, not_false_eq_true, if_true, if_false, b__law_numbers_2, app_last, app_set]
    have hi : i < 1000 := hi
    refine ⟨by have : (i : Int).natAbs = i := Int.natAbs_natCast _; rw [this]; have := Nat.log2_le_self i; omega, false, kvs, ⟨rfl, rfl⟩, rfl, by omega, hnx _ _ ⟨_, _, rfl, rfl, Nat.le_trans (dPut_len _ _ _) (by omega), fun s => ?_⟩⟩
    rw [dGet_put, List.range_succ, List.map_append]
    by_cases e : s = strI i
    · subst e
      simp
    · rw [if_neg (by intro z; cases z; exact e rfl), hg]
      simp [e]
end Rf

namespace Rf
open PySem
/-! the pure law of words -/
def isW (s : List Nat) : Bool := decide (s ≠ []) && s.all fun c => decide (c ∈ LET) || decide (c ∈ DIG)
def allDig (s : List Nat) : Bool := s.all fun c => decide (c ∈ DIG)
def isName (s : List Nat) : Bool := isW s && (decide (s.length ≤ 12) && (decide (s.headD 0 ∈ LET) && !decide (s ∈ RES)))
def isSign (s : List Nat) : Bool := isW s && (decide (s.length ≤ 6) && !decide (s ∈ RES))
def isNumP (s : List Nat) : Bool := isW s && (decide (s.length ≤ 3) && (allDig s && (decide (s = [48]) || decide (s.headD 0 ≠ 48))))
theorem num_ok1 : ∀ n : Nat, n < 1000 → isNumP (strI (n : Int)) = true := by decide +kernel
theorem num_1 : ∀ a ∈ DIG, strI ((a - 48 : Nat) : Int) = [a] := by decide +kernel
theorem num_2 : ∀ a ∈ DIG, a ≠ 48 → ∀ b ∈ DIG, strI ((10 * (a - 48) + (b - 48) : Nat) : Int) = [a, b] := by decide +kernel
theorem num_3 : ∀ a ∈ DIG, a ≠ 48 → ∀ b ∈ DIG, ∀ c ∈ DIG, strI ((100 * (a - 48) + (10 * (b - 48) + (c - 48)) : Nat) : Int) = [a, b, c] := by decide +kernel
theorem dig_top : ∀ a ∈ DIG, a - 48 < 10 := by decide
theorem num_same (s : List Nat) : isNum s = isNumP s := by
  rw [Bool.eq_iff_iff]
  unfold isNum
  rw [decide_eq_true_eq, List.mem_map]
  constructor
  · rintro ⟨n, hn, rfl⟩
    exact num_ok1 n (List.mem_range.mp hn)
  · intro h
    unfold isNumP allDig at h
    simp only [Bool.and_eq_true, decide_eq_true_eq, Bool.or_eq_true, List.all_eq_true] at h
    obtain ⟨h1, h2, h3, h4⟩ := h
    match s, h2, h3, h4 with
    | [], _, _, _ => simp [isW] at h1
    | [a], _, h3, _ =>
      have ha := h3 a (by simp)
      exact ⟨a - 48, List.mem_range.mpr (by have := dig_top a ha; omega), num_1 a ha⟩
    | [a, b], _, h3, h4 =>
      have ha := h3 a (by simp)
      have hb := h3 b (by simp)
      have na : a ≠ 48 := by
        rcases h4 with h | h
        · cases h
        · exact h
      exact ⟨10 * (a - 48) + (b - 48), List.mem_range.mpr (by have := dig_top a ha; have := dig_top b hb; omega), num_2 a ha na b hb⟩
    | [a, b, c], _, h3, h4 =>
      have ha := h3 a (by simp)
      have hb := h3 b (by simp)
      have hc := h3 c (by simp)
      have na : a ≠ 48 := by
        rcases h4 with h | h
        · cases h
        · exact h
      exact ⟨100 * (a - 48) + (10 * (b - 48) + (c - 48)), List.mem_range.mpr (by have := dig_top a ha; have := dig_top b hb; have := dig_top c hc; omega), num_3 a ha na b hb c hc⟩
    | a :: b :: c :: d :: r, h2, _, _ => simp at h2
/-! the program's words -/
def chF (p : Nat → Bool) (d : D) : D := match d with
  | .str [c] => .bl (p c)
  | _ => .non
theorem chF_map (p : Nat → Bool) (s : List Nat) : (s.map fun c => D.str [c]).map (chF p) = (s.map p).map D.bl := by rw [List.map_map, List.map_map]; rfl
theorem all_id (p : Nat → Bool) (s : List Nat) : (s.map p).all id = s.all p := by rw [List.all_map]; rfl
theorem num_len : ∀ n : Nat, n < 1000 → (strI (n : Int)).length ≤ 3 := by decide +kernel
theorem repD_len {α : Type} (n : Nat) (s : List α) : (repD n s).length = n * s.length := by
  unfold repD
  rw [List.length_flatten, List.map_replicate, List.sum_replicate_nat]
end Rf

namespace Rf
open PySem
theorem isword_ok {k : Nat} {st : Sto} {s : List Nat} {Q : KD} {E : XD} (hs : s.length ≤ 16777216) (h : Q (.bl (isW s)) st) : wCall GG TT (k + 1) 0 [.str s] st Q E := by
  refine wCall_in (fn := f_is_word) rfl rfl rfl ?_
  show wS _ _ b_is_word_0 [some (.str s), none] _ _
  simp only [wS, wE, wEs, wT_tn, wT_tt, wTs_nil, wTs_cons, wAnd, wOr, wO, wIf, rdV, argN, tyB, b_add, b_sub, b_mul, b_fdiv, b_mod, b_adds, b_addt, b_addo, b_muls, b_mulo, c_eq, c_ne, c_lt, c_le, c_gt, c_ge, c_eqs, c_nes, c_eqb, c_neb, c_in1, c_nin1, c_init, c_ninit, c_inio, c_ninio, i_objs, dOk_int, dOk_str, o_sets, m_get1, m_get2, m_setd, t_get, t_setd, O.dic.injEq, c_inso, c_inst, c_ninso, c_ninst, f_lenS, f_tupS, i_tS, v_tS, y_tS, c_inS, c_ninS, isN_tS, c_isn, c_isntn, c_isb, c_isntb, isN_non, isN_int, isN_str, isN_tup, isN_bl, isN_obj, sq_tup, sq_fro, sq_obj, i_str, i_obj, i_tup, i_fro, s_str, s_tup, s_fro, s_obj, f_lens, f_lent, f_lenf, f_leno, f_inti, f_intb, f_boolb, f_sum, f_all, f_any, f_tupt, f_tupo, f_lstt, f_lsto, f_min, f_max, f_abs, f_stri, m_app, m_popi, m_ins, m_idxi, m_idxs, m_split, m_words, t_ins, t_idx, t_idxf, t_split,  m_ext, m_pop, m_join, t_app, t_ext, t_pop, t_join, o_set, y_non, y_int, y_bl, y_str, y_tup, y_fro, y_obj, v_tup, v_tI, v_fro, v_str, v_obj, z_tup, z_to, z_ot, z_obj, f_tups, t_idxt, en_obj, en_tup, rv_obj, rv_tup, s_tI, b_addI, f_lenI, f_tupI, f_lstI, i_tI, y_tI, isN_tI, tI_nil, still_nil, still_one, still_two, ixD0, ixD1, ixD2, ixD3, ixD4, ixD5, Nat.reduceAdd, Nat.reduceSub, Nat.reduceLT, Nat.reduceEqDiff, Nat.lt_add_one, Nat.zero_lt_succ, atD0, atD1, atD2, atD3, atD4, atD5, List.getElem?_cons_zero, List.getElem?_cons_succ, List.set_cons_zero, List.set_cons_succ, Option.some.injEq, D.int.injEq, D.bl.injEq, D.obj.injEq, D.str.injEq, D.tup.injEq, O.lst.injEq, List.cons.injEq, List.length_cons, List.length_nil, exists_eq_left', exists_eq_left, exists_eq, exists_eq', exists_and_left, true_and, and_true, and_self, decide_eq_true_eq, decide_eq_false_iff_not, Bool.not_eq_true', Bool.not_eq_false', Bool.not_true, Bool.not_false, forall_const, imp_self, reduceCtorEq, false_and, and_false, exists_false, or_false, false_or, implies_true, false_implies, true_implies, not_true_eq_false, not_false_eq_true, if_true, if_false, b_is_word_0]
  refine ⟨fun e => ?_, fun e => ?_⟩
  · subst e
    simp only [wS, wE, wEs, wT_tn, wT_tt, wTs_nil, wTs_cons, wAnd, wOr, wO, wIf, rdV, argN, tyB, b_add, b_sub, b_mul, b_fdiv, b_mod, b_adds, b_addt, b_addo, b_muls, b_mulo, c_eq, c_ne, c_lt, c_le, c_gt, c_ge, c_eqs, c_nes, c_eqb, c_neb, c_in1, c_nin1, c_init, c_ninit, c_inio, c_ninio, i_objs, dOk_int, dOk_str, o_sets, m_get1, m_get2, m_setd, t_get, t_setd, O.dic.injEq, c_inso, c_inst, c_ninso, c_ninst, f_lenS, f_tupS, i_tS, v_tS, y_tS, c_inS, c_ninS, isN_tS, c_isn, c_isntn, c_isb, c_isntb, isN_non, isN_int, isN_str, isN_tup, isN_bl, isN_obj, sq_tup, sq_fro, sq_obj, i_str, i_obj, i_tup, i_fro, s_str, s_tup, s_fro, s_obj, f_lens, f_lent, f_lenf, f_leno, f_inti, f_intb, f_boolb, f_sum, f_all, f_any, f_tupt, f_tupo, f_lstt, f_lsto, f_min, f_max, f_abs, f_stri, m_app, m_popi, m_ins, m_idxi, m_idxs, m_split, m_words, t_ins, t_idx, t_idxf, t_split,  m_ext, m_pop, m_join, t_app, t_ext, t_pop, t_join, o_set, y_non, y_int, y_bl, y_str, y_tup, y_fro, y_obj, v_tup, v_tI, v_fro, v_str, v_obj, z_tup, z_to, z_ot, z_obj, f_tups, t_idxt, en_obj, en_tup, rv_obj, rv_tup, s_tI, b_addI, f_lenI, f_tupI, f_lstI, i_tI, y_tI, isN_tI, tI_nil, still_nil, still_one, still_two, ixD0, ixD1, ixD2, ixD3, ixD4, ixD5, Nat.reduceAdd, Nat.reduceSub, Nat.reduceLT, Nat.reduceEqDiff, Nat.lt_add_one, Nat.zero_lt_succ, atD0, atD1, atD2, atD3, atD4, atD5, List.getElem?_cons_zero, List.getElem?_cons_succ, List.set_cons_zero, List.set_cons_succ, Option.some.injEq, D.int.injEq, D.bl.injEq, D.obj.injEq, D.str.injEq, D.tup.injEq, O.lst.injEq, List.cons.injEq, List.length_cons, List.length_nil, exists_eq_left', exists_eq_left, exists_eq, exists_eq', exists_and_left, true_and, and_true, and_self, decide_eq_true_eq, decide_eq_false_iff_not, Bool.not_eq_true', Bool.not_eq_false', Bool.not_true, Bool.not_false, forall_const, imp_self, reduceCtorEq, false_and, and_false, exists_false, or_false, false_or, implies_true, false_implies, true_implies, not_true_eq_false, not_false_eq_true, if_true, if_false, b_is_word_1]
    exact .inl h
  · simp only [wS, wE, wEs, wT_tn, wT_tt, wTs_nil, wTs_cons, wAnd, wOr, wO, wIf, rdV, argN, tyB, b_add, b_sub, b_mul, b_fdiv, b_mod, b_adds, b_addt, b_addo, b_muls, b_mulo, c_eq, c_ne, c_lt, c_le, c_gt, c_ge, c_eqs, c_nes, c_eqb, c_neb, c_in1, c_nin1, c_init, c_ninit, c_inio, c_ninio, i_objs, dOk_int, dOk_str, o_sets, m_get1, m_get2, m_setd, t_get, t_setd, O.dic.injEq, c_inso, c_inst, c_ninso, c_ninst, f_lenS, f_tupS, i_tS, v_tS, y_tS, c_inS, c_ninS, isN_tS, c_isn, c_isntn, c_isb, c_isntb, isN_non, isN_int, isN_str, isN_tup, isN_bl, isN_obj, sq_tup, sq_fro, sq_obj, i_str, i_obj, i_tup, i_fro, s_str, s_tup, s_fro, s_obj, f_lens, f_lent, f_lenf, f_leno, f_inti, f_intb, f_boolb, f_sum, f_all, f_any, f_tupt, f_tupo, f_lstt, f_lsto, f_min, f_max, f_abs, f_stri, m_app, m_popi, m_ins, m_idxi, m_idxs, m_split, m_words, t_ins, t_idx, t_idxf, t_split,  m_ext, m_pop, m_join, t_app, t_ext, t_pop, t_join, o_set, y_non, y_int, y_bl, y_str, y_tup, y_fro, y_obj, v_tup, v_tI, v_fro, v_str, v_obj, z_tup, z_to, z_ot, z_obj, f_tups, t_idxt, en_obj, en_tup, rv_obj, rv_tup, s_tI, b_addI, f_lenI, f_tupI, f_lstI, i_tI, y_tI, isN_tI, tI_nil, still_nil, still_one, still_two, ixD0, ixD1, ixD2, ixD3, ixD4, ixD5, Nat.reduceAdd, Nat.reduceSub, Nat.reduceLT, Nat.reduceEqDiff, Nat.lt_add_one, Nat.zero_lt_succ, atD0, atD1, atD2, atD3, atD4, atD5, List.getElem?_cons_zero, List.getElem?_cons_succ, List.set_cons_zero, List.set_cons_succ, Option.some.injEq, D.int.injEq, D.bl.injEq, D.obj.injEq, D.str.injEq, D.tup.injEq, O.lst.injEq, List.cons.injEq, List.length_cons, List.length_nil, exists_eq_left', exists_eq_left, exists_eq, exists_eq', exists_and_left, true_and, and_true, and_self, decide_eq_true_eq, decide_eq_false_iff_not, Bool.not_eq_true', Bool.not_eq_false', Bool.not_true, Bool.not_false, forall_const, imp_self, reduceCtorEq, false_and, and_false, exists_false, or_false, false_or, implies_true, false_implies, true_implies, not_true_eq_false, not_false_eq_true, if_true, if_false, b_is_word_2, wI, wipeE]
    refine compW_map (chF fun c => decide (c ∈ LET) || decide (c ∈ DIG)) (by show (s.map _).length ≤ _; rw [List.length_map]; exact hs) (fun acc => by simp only [wS, wE, wEs, wT_tn, wT_tt, wTs_nil, wTs_cons, wAnd, wOr, wO, wIf, rdV, argN, tyB, b_add, b_sub, b_mul, b_fdiv, b_mod, b_adds, b_addt, b_addo, b_muls, b_mulo, c_eq, c_ne, c_lt, c_le, c_gt, c_ge, c_eqs, c_nes, c_eqb, c_neb, c_in1, c_nin1, c_init, c_ninit, c_inio, c_ninio, i_objs, dOk_int, dOk_str, o_sets, m_get1, m_get2, m_setd, t_get, t_setd, O.dic.injEq, c_inso, c_inst, c_ninso, c_ninst, f_lenS, f_tupS, i_tS, v_tS, y_tS, c_inS, c_ninS, isN_tS, c_isn, c_isntn, c_isb, c_isntb, isN_non, isN_int, isN_str, isN_tup, isN_bl, isN_obj, sq_tup, sq_fro, sq_obj, i_str, i_obj, i_tup, i_fro, s_str, s_tup, s_fro, s_obj, f_lens, f_lent, f_lenf, f_leno, f_inti, f_intb, f_boolb, f_sum, f_all, f_any, f_tupt, f_tupo, f_lstt, f_lsto, f_min, f_max, f_abs, f_stri, m_app, m_popi, m_ins, m_idxi, m_idxs, m_split, m_words, t_ins, t_idx, t_idxf, t_split,  m_ext, m_pop, m_join, t_app, t_ext, t_pop, t_join, o_set, y_non, y_int, y_bl, y_str, y_tup, y_fro, y_obj, v_tup, v_tI, v_fro, v_str, v_obj, z_tup, z_to, z_ot, z_obj, f_tups, t_idxt, en_obj, en_tup, rv_obj, rv_tup, s_tI, b_addI, f_lenI, f_tupI, f_lstI, i_tI, y_tI, isN_tI, tI_nil, still_nil, still_one, still_two, ixD0, ixD1, ixD2, ixD3, ixD4, ixD5, Nat.reduceAdd, Nat.reduceSub, Nat.reduceLT, Nat.reduceEqDiff, Nat.lt_add_one, Nat.zero_lt_succ, atD0, atD1, atD2, atD3, atD4, atD5, List.getElem?_cons_zero, List.getElem?_cons_succ, List.set_cons_zero, List.set_cons_succ, Option.some.injEq, D.int.injEq, D.bl.injEq, D.obj.injEq, D.str.injEq, D.tup.injEq, O.lst.injEq, List.cons.injEq, List.length_cons, List.length_nil, exists_eq_left', exists_eq_left, exists_eq, exists_eq', exists_and_left, true_and, and_true, and_self, decide_eq_true_eq, decide_eq_false_iff_not, Bool.not_eq_true', Bool.not_eq_false', Bool.not_true, Bool.not_false, forall_const, imp_self, reduceCtorEq, false_and, and_false, exists_false, or_false, false_or, implies_true, false_implies, true_implies, not_true_eq_false, not_false_eq_true, if_true, if_false]) (fun i x acc yes no hx hy => ?_) ?_
    · have hx : (s.map fun c => D.str [c])[i]? = some x := hx
      rw [List.getElem?_map] at hx
      obtain ⟨c, hc, rfl⟩ := Option.map_eq_some_iff.mp hx
      simp only [wS, wE, wEs, wT_tn, wT_tt, wTs_nil, wTs_cons, wAnd, wOr, wO, wIf, rdV, argN, tyB, b_add, b_sub, b_mul, b_fdiv, b_mod, b_adds, b_addt, b_addo, b_muls, b_mulo, c_eq, c_ne, c_lt, c_le, c_gt, c_ge, c_eqs, c_nes, c_eqb, c_neb, c_in1, c_nin1, c_init, c_ninit, c_inio, c_ninio, i_objs, dOk_int, dOk_str, o_sets, m_get1, m_get2, m_setd, t_get, t_setd, O.dic.injEq, c_inso, c_inst, c_ninso, c_ninst, f_lenS, f_tupS, i_tS, v_tS, y_tS, c_inS, c_ninS, isN_tS, c_isn, c_isntn, c_isb, c_isntb, isN_non, isN_int, isN_str, isN_tup, isN_bl, isN_obj, sq_tup, sq_fro, sq_obj, i_str, i_obj, i_tup, i_fro, s_str, s_tup, s_fro, s_obj, f_lens, f_lent, f_lenf, f_leno, f_inti, f_intb, f_boolb, f_sum, f_all, f_any, f_tupt, f_tupo, f_lstt, f_lsto, f_min, f_max, f_abs, f_stri, m_app, m_popi, m_ins, m_idxi, m_idxs, m_split, m_words, t_ins, t_idx, t_idxf, t_split,  m_ext, m_pop, m_join, t_app, t_ext, t_pop, t_join, o_set, y_non, y_int, y_bl, y_str, y_tup, y_fro, y_obj, v_tup, v_tI, v_fro, v_str, v_obj, z_tup, z_to, z_ot, z_obj, f_tups, t_idxt, en_obj, en_tup, rv_obj, rv_tup, s_tI, b_addI, f_lenI, f_tupI, f_lstI, i_tI, y_tI, isN_tI, tI_nil, still_nil, still_one, still_two, ixD0, ixD1, ixD2, ixD3, ixD4, ixD5, Nat.reduceAdd, Nat.reduceSub, Nat.reduceLT, Nat.reduceEqDiff, Nat.lt_add_one, Nat.zero_lt_succ, atD0, atD1, atD2, atD3, atD4, atD5, List.getElem?_cons_zero, List.getElem?_cons_succ, List.set_cons_zero, List.set_cons_succ, Option.some.injEq, D.int.injEq, D.bl.injEq, D.obj.injEq, D.str.injEq, D.tup.injEq, O.lst.injEq, List.cons.injEq, List.length_cons, List.length_nil, exists_eq_left', exists_eq_left, exists_eq, exists_eq', exists_and_left, true_and, and_true, and_self, decide_eq_true_eq, decide_eq_false_iff_not, Bool.not_eq_true', Bool.not_eq_false', Bool.not_true, Bool.not_false, forall_const, imp_self, reduceCtorEq, false_and, and_false, exists_false, or_false, false_or, implies_true, false_implies, true_implies, not_true_eq_false, not_false_eq_true, if_true, if_false, gg0, gg1]
      by_cases hL : c ∈ LET
      · exact ⟨fun _ => by have : chF (fun c => decide (c ∈ LET) || decide (c ∈ DIG)) (.str [c]) = .bl true := by simp [chF, hL]
                           rw [this] at hy; exact hy, fun z => absurd hL z⟩
      · refine ⟨fun z => absurd z hL, fun _ => ?_⟩
        have : chF (fun c => decide (c ∈ LET) || decide (c ∈ DIG)) (.str [c]) = .bl (decide (c ∈ DIG)) := by simp [chF, hL]
        rw [this] at hy; exact hy
    · simp only [wS, wE, wEs, wT_tn, wT_tt, wTs_nil, wTs_cons, wAnd, wOr, wO, wIf, rdV, argN, tyB, b_add, b_sub, b_mul, b_fdiv, b_mod, b_adds, b_addt, b_addo, b_muls, b_mulo, c_eq, c_ne, c_lt, c_le, c_gt, c_ge, c_eqs, c_nes, c_eqb, c_neb, c_in1, c_nin1, c_init, c_ninit, c_inio, c_ninio, i_objs, dOk_int, dOk_str, o_sets, m_get1, m_get2, m_setd, t_get, t_setd, O.dic.injEq, c_inso, c_inst, c_ninso, c_ninst, f_lenS, f_tupS, i_tS, v_tS, y_tS, c_inS, c_ninS, isN_tS, c_isn, c_isntn, c_isb, c_isntb, isN_non, isN_int, isN_str, isN_tup, isN_bl, isN_obj, sq_tup, sq_fro, sq_obj, i_str, i_obj, i_tup, i_fro, s_str, s_tup, s_fro, s_obj, f_lens, f_lent, f_lenf, f_leno, f_inti, f_intb, f_boolb, f_sum, f_all, f_any, f_tupt, f_tupo, f_lstt, f_lsto, f_min, f_max, f_abs, f_stri, m_app, m_popi, m_ins, m_idxi, m_idxs, m_split, m_words, t_ins, t_idx, t_idxf, t_split,  m_ext, m_pop, m_join, t_app, t_ext, t_pop, t_join, o_set, y_non, y_int, y_bl, y_str, y_tup, y_fro, y_obj, v_tup, v_tI, v_fro, v_str, v_obj, z_tup, z_to, z_ot, z_obj, f_tups, t_idxt, en_obj, en_tup, rv_obj, rv_tup, s_tI, b_addI, f_lenI, f_tupI, f_lstI, i_tI, y_tI, isN_tI, tI_nil, still_nil, still_one, still_two, ixD0, ixD1, ixD2, ixD3, ixD4, ixD5, Nat.reduceAdd, Nat.reduceSub, Nat.reduceLT, Nat.reduceEqDiff, Nat.lt_add_one, Nat.zero_lt_succ, atD0, atD1, atD2, atD3, atD4, atD5, List.getElem?_cons_zero, List.getElem?_cons_succ, List.set_cons_zero, List.set_cons_succ, Option.some.injEq, D.int.injEq, D.bl.injEq, D.obj.injEq, D.str.injEq, D.tup.injEq, O.lst.injEq, List.cons.injEq, List.length_cons, List.length_nil, exists_eq_left', exists_eq_left, exists_eq, exists_eq', exists_and_left, true_and, and_true, and_self, decide_eq_true_eq, decide_eq_false_iff_not, Bool.not_eq_true', Bool.not_eq_false', Bool.not_true, Bool.not_false, forall_const, imp_self, reduceCtorEq, false_and, and_false, exists_false, or_false, false_or, implies_true, false_implies, true_implies, not_true_eq_false, not_false_eq_true, if_true, if_false]
      rw [chF_map]
      refine ⟨_, app_last, gc_same rfl (.inl ?_)⟩
      rw [all_id]
      have e2 : isW s = s.all fun c => decide (c ∈ LET) || decide (c ∈ DIG) := by unfold isW; simp [e]
      rw [← e2]; exact h
theorem isword_no {k : Nat} {st : Sto} {d : D} {Q : KD} {E : XD} (hd : ∀ (st : Sto) (K : KD), opIs .str d st K = K (.bl false) st) (h : Q (.bl false) st) : wCall GG TT (k + 1) 0 [d] st Q E := by
  refine wCall_in (fn := f_is_word) rfl rfl rfl ?_
  show wS _ _ b_is_word_0 [some (d), none] _ _
  simp only [wS, wE, wEs, wT_tn, wT_tt, wTs_nil, wTs_cons, wAnd, wOr, wO, wIf, rdV, argN, tyB, b_add, b_sub, b_mul, b_fdiv, b_mod, b_adds, b_addt, b_addo, b_muls, b_mulo, c_eq, c_ne, c_lt, c_le, c_gt, c_ge, c_eqs, c_nes, c_eqb, c_neb, c_in1, c_nin1, c_init, c_ninit, c_inio, c_ninio, i_objs, dOk_int, dOk_str, o_sets, m_get1, m_get2, m_setd, t_get, t_setd, O.dic.injEq, c_inso, c_inst, c_ninso, c_ninst, f_lenS, f_tupS, i_tS, v_tS, y_tS, c_inS, c_ninS, isN_tS, c_isn, c_isntn, c_isb, c_isntb, isN_non, isN_int, isN_str, isN_tup, isN_bl, isN_obj, sq_tup, sq_fro, sq_obj, i_str, i_obj, i_tup, i_fro, s_str, s_tup, s_fro, s_obj, f_lens, f_lent, f_lenf, f_leno, f_inti, f_intb, f_boolb, f_sum, f_all, f_any, f_tupt, f_tupo, f_lstt, f_lsto, f_min, f_max, f_abs, f_stri, m_app, m_popi, m_ins, m_idxi, m_idxs, m_split, m_words, t_ins, t_idx, t_idxf, t_split,  m_ext, m_pop, m_join, t_app, t_ext, t_pop, t_join, o_set, y_non, y_int, y_bl, y_str, y_tup, y_fro, y_obj, v_tup, v_tI, v_fro, v_str, v_obj, z_tup, z_to, z_ot, z_obj, f_tups, t_idxt, en_obj, en_tup, rv_obj, rv_tup, s_tI, b_addI, f_lenI, f_tupI, f_lstI, i_tI, y_tI, isN_tI, tI_nil, still_nil, still_one, still_two, ixD0, ixD1, ixD2, ixD3, ixD4, ixD5, Nat.reduceAdd, Nat.reduceSub, Nat.reduceLT, Nat.reduceEqDiff, Nat.lt_add_one, Nat.zero_lt_succ, atD0, atD1, atD2, atD3, atD4, atD5, List.getElem?_cons_zero, List.getElem?_cons_succ, List.set_cons_zero, List.set_cons_succ, Option.some.injEq, D.int.injEq, D.bl.injEq, D.obj.injEq, D.str.injEq, D.tup.injEq, O.lst.injEq, List.cons.injEq, List.length_cons, List.length_nil, exists_eq_left', exists_eq_left, exists_eq, exists_eq', exists_and_left, true_and, and_true, and_self, decide_eq_true_eq, decide_eq_false_iff_not, Bool.not_eq_true', Bool.not_eq_false', Bool.not_true, Bool.not_false, forall_const, imp_self, reduceCtorEq, false_and, and_false, exists_false, or_false, false_or, implies_true, false_implies, true_implies, not_true_eq_false, not_false_eq_true, if_true, if_false, b_is_word_0, hd]
  simp only [wS, wE, wEs, wT_tn, wT_tt, wTs_nil, wTs_cons, wAnd, wOr, wO, wIf, rdV, argN, tyB, b_add, b_sub, b_mul, b_fdiv, b_mod, b_adds, b_addt, b_addo, b_muls, b_mulo, c_eq, c_ne, c_lt, c_le, c_gt, c_ge, c_eqs, c_nes, c_eqb, c_neb, c_in1, c_nin1, c_init, c_ninit, c_inio, c_ninio, i_objs, dOk_int, dOk_str, o_sets, m_get1, m_get2, m_setd, t_get, t_setd, O.dic.injEq, c_inso, c_inst, c_ninso, c_ninst, f_lenS, f_tupS, i_tS, v_tS, y_tS, c_inS, c_ninS, isN_tS, c_isn, c_isntn, c_isb, c_isntb, isN_non, isN_int, isN_str, isN_tup, isN_bl, isN_obj, sq_tup, sq_fro, sq_obj, i_str, i_obj, i_tup, i_fro, s_str, s_tup, s_fro, s_obj, f_lens, f_lent, f_lenf, f_leno, f_inti, f_intb, f_boolb, f_sum, f_all, f_any, f_tupt, f_tupo, f_lstt, f_lsto, f_min, f_max, f_abs, f_stri, m_app, m_popi, m_ins, m_idxi, m_idxs, m_split, m_words, t_ins, t_idx, t_idxf, t_split,  m_ext, m_pop, m_join, t_app, t_ext, t_pop, t_join, o_set, y_non, y_int, y_bl, y_str, y_tup, y_fro, y_obj, v_tup, v_tI, v_fro, v_str, v_obj, z_tup, z_to, z_ot, z_obj, f_tups, t_idxt, en_obj, en_tup, rv_obj, rv_tup, s_tI, b_addI, f_lenI, f_tupI, f_lstI, i_tI, y_tI, isN_tI, tI_nil, still_nil, still_one, still_two, ixD0, ixD1, ixD2, ixD3, ixD4, ixD5, Nat.reduceAdd, Nat.reduceSub, Nat.reduceLT, Nat.reduceEqDiff, Nat.lt_add_one, Nat.zero_lt_succ, atD0, atD1, atD2, atD3, atD4, atD5, List.getElem?_cons_zero, List.getElem?_cons_succ, List.set_cons_zero, List.set_cons_succ, Option.some.injEq, D.int.injEq, D.bl.injEq, D.obj.injEq, D.str.injEq, D.tup.injEq, O.lst.injEq, List.cons.injEq, List.length_cons, List.length_nil, exists_eq_left', exists_eq_left, exists_eq, exists_eq', exists_and_left, true_and, and_true, and_self, decide_eq_true_eq, decide_eq_false_iff_not, Bool.not_eq_true', Bool.not_eq_false', Bool.not_true, Bool.not_false, forall_const, imp_self, reduceCtorEq, false_and, and_false, exists_false, or_false, false_or, implies_true, false_implies, true_implies, not_true_eq_false, not_false_eq_true, if_true, if_false, b_is_word_1]
  exact .inl h
theorem isname_ok {k : Nat} {st : Sto} {s : List Nat} {Q : KD} {E : XD} (hs : s.length ≤ 16777216) (h : Q (.bl (isName s)) st) : wCall GG TT (k + 2) 1 [.str s] st Q E := by
  refine wCall_in (fn := f_is_name) rfl rfl rfl ?_
  show wS _ _ b_is_name_0 [some (.str s)] _ _
  simp only [wS, wE, wEs, wT_tn, wT_tt, wTs_nil, wTs_cons, wAnd, wOr, wO, wIf, rdV, argN, tyB, b_add, b_sub, b_mul, b_fdiv, b_mod, b_adds, b_addt, b_addo, b_muls, b_mulo, c_eq, c_ne, c_lt, c_le, c_gt, c_ge, c_eqs, c_nes, c_eqb, c_neb, c_in1, c_nin1, c_init, c_ninit, c_inio, c_ninio, i_objs, dOk_int, dOk_str, o_sets, m_get1, m_get2, m_setd, t_get, t_setd, O.dic.injEq, c_inso, c_inst, c_ninso, c_ninst, f_lenS, f_tupS, i_tS, v_tS, y_tS, c_inS, c_ninS, isN_tS, c_isn, c_isntn, c_isb, c_isntb, isN_non, isN_int, isN_str, isN_tup, isN_bl, isN_obj, sq_tup, sq_fro, sq_obj, i_str, i_obj, i_tup, i_fro, s_str, s_tup, s_fro, s_obj, f_lens, f_lent, f_lenf, f_leno, f_inti, f_intb, f_boolb, f_sum, f_all, f_any, f_tupt, f_tupo, f_lstt, f_lsto, f_min, f_max, f_abs, f_stri, m_app, m_popi, m_ins, m_idxi, m_idxs, m_split, m_words, t_ins, t_idx, t_idxf, t_split,  m_ext, m_pop, m_join, t_app, t_ext, t_pop, t_join, o_set, y_non, y_int, y_bl, y_str, y_tup, y_fro, y_obj, v_tup, v_tI, v_fro, v_str, v_obj, z_tup, z_to, z_ot, z_obj, f_tups, t_idxt, en_obj, en_tup, rv_obj, rv_tup, s_tI, b_addI, f_lenI, f_tupI, f_lstI, i_tI, y_tI, isN_tI, tI_nil, still_nil, still_one, still_two, ixD0, ixD1, ixD2, ixD3, ixD4, ixD5, Nat.reduceAdd, Nat.reduceSub, Nat.reduceLT, Nat.reduceEqDiff, Nat.lt_add_one, Nat.zero_lt_succ, atD0, atD1, atD2, atD3, atD4, atD5, List.getElem?_cons_zero, List.getElem?_cons_succ, List.set_cons_zero, List.set_cons_succ, Option.some.injEq, D.int.injEq, D.bl.injEq, D.obj.injEq, D.str.injEq, D.tup.injEq, O.lst.injEq, List.cons.injEq, List.length_cons, List.length_nil, exists_eq_left', exists_eq_left, exists_eq, exists_eq', exists_and_left, true_and, and_true, and_self, decide_eq_true_eq, decide_eq_false_iff_not, Bool.not_eq_true', Bool.not_eq_false', Bool.not_true, Bool.not_false, forall_const, imp_self, reduceCtorEq, false_and, and_false, exists_false, or_false, false_or, implies_true, false_implies, true_implies, not_true_eq_false, not_false_eq_true, if_true, if_false, b_is_name_0]
  refine isword_ok hs ?_
  simp only [wS, wE, wEs, wT_tn, wT_tt, wTs_nil, wTs_cons, wAnd, wOr, wO, wIf, rdV, argN, tyB, b_add, b_sub, b_mul, b_fdiv, b_mod, b_adds, b_addt, b_addo, b_muls, b_mulo, c_eq, c_ne, c_lt, c_le, c_gt, c_ge, c_eqs, c_nes, c_eqb, c_neb, c_in1, c_nin1, c_init, c_ninit, c_inio, c_ninio, i_objs, dOk_int, dOk_str, o_sets, m_get1, m_get2, m_setd, t_get, t_setd, O.dic.injEq, c_inso, c_inst, c_ninso, c_ninst, f_lenS, f_tupS, i_tS, v_tS, y_tS, c_inS, c_ninS, isN_tS, c_isn, c_isntn, c_isb, c_isntb, isN_non, isN_int, isN_str, isN_tup, isN_bl, isN_obj, sq_tup, sq_fro, sq_obj, i_str, i_obj, i_tup, i_fro, s_str, s_tup, s_fro, s_obj, f_lens, f_lent, f_lenf, f_leno, f_inti, f_intb, f_boolb, f_sum, f_all, f_any, f_tupt, f_tupo, f_lstt, f_lsto, f_min, f_max, f_abs, f_stri, m_app, m_popi, m_ins, m_idxi, m_idxs, m_split, m_words, t_ins, t_idx, t_idxf, t_split,  m_ext, m_pop, m_join, t_app, t_ext, t_pop, t_join, o_set, y_non, y_int, y_bl, y_str, y_tup, y_fro, y_obj, v_tup, v_tI, v_fro, v_str, v_obj, z_tup, z_to, z_ot, z_obj, f_tups, t_idxt, en_obj, en_tup, rv_obj, rv_tup, s_tI, b_addI, f_lenI, f_tupI, f_lstI, i_tI, y_tI, isN_tI, tI_nil, still_nil, still_one, still_two, ixD0, ixD1, ixD2, ixD3, ixD4, ixD5, Nat.reduceAdd, Nat.reduceSub, Nat.reduceLT, Nat.reduceEqDiff, Nat.lt_add_one, Nat.zero_lt_succ, atD0, atD1, atD2, atD3, atD4, atD5, List.getElem?_cons_zero, List.getElem?_cons_succ, List.set_cons_zero, List.set_cons_succ, Option.some.injEq, D.int.injEq, D.bl.injEq, D.obj.injEq, D.str.injEq, D.tup.injEq, O.lst.injEq, List.cons.injEq, List.length_cons, List.length_nil, exists_eq_left', exists_eq_left, exists_eq, exists_eq', exists_and_left, true_and, and_true, and_self, decide_eq_true_eq, decide_eq_false_iff_not, Bool.not_eq_true', Bool.not_eq_false', Bool.not_true, Bool.not_false, forall_const, imp_self, reduceCtorEq, false_and, and_false, exists_false, or_false, false_or, implies_true, false_implies, true_implies, not_true_eq_false, not_false_eq_true, if_true, if_false, gg0, gg2]
  unfold isName at h
  refine ⟨fun h1 => ?_, fun h1 => ?_⟩
  · rw [h1, Bool.true_and] at h
    refine ⟨hs, fun h2 => ?_, fun h2 => ?_⟩
    · cases s with
      | nil => simp [isW] at h1
      | cons c r =>
        refine ⟨hs, c, rfl, fun h3 => ?_, fun h3 => ?_⟩
        · refine ⟨RES, rfl, .inl ?_⟩
          have h2 : (c :: r).length ≤ 12 := by omega
          rw [decide_eq_true h2, Bool.true_and, show (c :: r).headD 0 = c from rfl, decide_eq_true h3, Bool.true_and] at h
          exact h
        · rw [show (c :: r).headD 0 = c from rfl, decide_eq_false h3, Bool.false_and, Bool.and_false] at h
          exact .inl h
    · rw [decide_eq_false (by omega), Bool.false_and] at h
      exact .inl h
  · rw [h1] at h
    exact .inl h
theorem isname_no {k : Nat} {st : Sto} {d : D} {Q : KD} {E : XD} (hd : ∀ (st : Sto) (K : KD), opIs .str d st K = K (.bl false) st) (h : Q (.bl false) st) : wCall GG TT (k + 2) 1 [d] st Q E := by
  refine wCall_in (fn := f_is_name) rfl rfl rfl ?_
  show wS _ _ b_is_name_0 [some (d)] _ _
  simp only [wS, wE, wEs, wT_tn, wT_tt, wTs_nil, wTs_cons, wAnd, wOr, wO, wIf, rdV, argN, tyB, b_add, b_sub, b_mul, b_fdiv, b_mod, b_adds, b_addt, b_addo, b_muls, b_mulo, c_eq, c_ne, c_lt, c_le, c_gt, c_ge, c_eqs, c_nes, c_eqb, c_neb, c_in1, c_nin1, c_init, c_ninit, c_inio, c_ninio, i_objs, dOk_int, dOk_str, o_sets, m_get1, m_get2, m_setd, t_get, t_setd, O.dic.injEq, c_inso, c_inst, c_ninso, c_ninst, f_lenS, f_tupS, i_tS, v_tS, y_tS, c_inS, c_ninS, isN_tS, c_isn, c_isntn, c_isb, c_isntb, isN_non, isN_int, isN_str, isN_tup, isN_bl, isN_obj, sq_tup, sq_fro, sq_obj, i_str, i_obj, i_tup, i_fro, s_str, s_tup, s_fro, s_obj, f_lens, f_lent, f_lenf, f_leno, f_inti, f_intb, f_boolb, f_sum, f_all, f_any, f_tupt, f_tupo, f_lstt, f_lsto, f_min, f_max, f_abs, f_stri, m_app, m_popi, m_ins, m_idxi, m_idxs, m_split, m_words, t_ins, t_idx, t_idxf, t_split,  m_ext, m_pop, m_join, t_app, t_ext, t_pop, t_join, o_set, y_non, y_int, y_bl, y_str, y_tup, y_fro, y_obj, v_tup, v_tI, v_fro, v_str, v_obj, z_tup, z_to, z_ot, z_obj, f_tups, t_idxt, en_obj, en_tup, rv_obj, rv_tup, s_tI, b_addI, f_lenI, f_tupI, f_lstI, i_tI, y_tI, isN_tI, tI_nil, still_nil, still_one, still_two, ixD0, ixD1, ixD2, ixD3, ixD4, ixD5, Nat.reduceAdd, Nat.reduceSub, Nat.reduceLT, Nat.reduceEqDiff, Nat.lt_add_one, Nat.zero_lt_succ, atD0, atD1, atD2, atD3, atD4, atD5, List.getElem?_cons_zero, List.getElem?_cons_succ, List.set_cons_zero, List.set_cons_succ, Option.some.injEq, D.int.injEq, D.bl.injEq, D.obj.injEq, D.str.injEq, D.tup.injEq, O.lst.injEq, List.cons.injEq, List.length_cons, List.length_nil, exists_eq_left', exists_eq_left, exists_eq, exists_eq', exists_and_left, true_and, and_true, and_self, decide_eq_true_eq, decide_eq_false_iff_not, Bool.not_eq_true', Bool.not_eq_false', Bool.not_true, Bool.not_false, forall_const, imp_self, reduceCtorEq, false_and, and_false, exists_false, or_false, false_or, implies_true, false_implies, true_implies, not_true_eq_false, not_false_eq_true, if_true, if_false, b_is_name_0]
  refine isword_no hd ?_
  simp only [wS, wE, wEs, wT_tn, wT_tt, wTs_nil, wTs_cons, wAnd, wOr, wO, wIf, rdV, argN, tyB, b_add, b_sub, b_mul, b_fdiv, b_mod, b_adds, b_addt, b_addo, b_muls, b_mulo, c_eq, c_ne, c_lt, c_le, c_gt, c_ge, c_eqs, c_nes, c_eqb, c_neb, c_in1, c_nin1, c_init, c_ninit, c_inio, c_ninio, i_objs, dOk_int, dOk_str, o_sets, m_get1, m_get2, m_setd, t_get, t_setd, O.dic.injEq, c_inso, c_inst, c_ninso, c_ninst, f_lenS, f_tupS, i_tS, v_tS, y_tS, c_inS, c_ninS, isN_tS, c_isn, c_isntn, c_isb, c_isntb, isN_non, isN_int, isN_str, isN_tup, isN_bl, isN_obj, sq_tup, sq_fro, sq_obj, i_str, i_obj, i_tup, i_fro, s_str, s_tup, s_fro, s_obj, f_lens, f_lent, f_lenf, f_leno, f_inti, f_intb, f_boolb, f_sum, f_all, f_any, f_tupt, f_tupo, f_lstt, f_lsto, f_min, f_max, f_abs, f_stri, m_app, m_popi, m_ins, m_idxi, m_idxs, m_split, m_words, t_ins, t_idx, t_idxf, t_split,  m_ext, m_pop, m_join, t_app, t_ext, t_pop, t_join, o_set, y_non, y_int, y_bl, y_str, y_tup, y_fro, y_obj, v_tup, v_tI, v_fro, v_str, v_obj, z_tup, z_to, z_ot, z_obj, f_tups, t_idxt, en_obj, en_tup, rv_obj, rv_tup, s_tI, b_addI, f_lenI, f_tupI, f_lstI, i_tI, y_tI, isN_tI, tI_nil, still_nil, still_one, still_two, ixD0, ixD1, ixD2, ixD3, ixD4, ixD5, Nat.reduceAdd, Nat.reduceSub, Nat.reduceLT, Nat.reduceEqDiff, Nat.lt_add_one, Nat.zero_lt_succ, atD0, atD1, atD2, atD3, atD4, atD5, List.getElem?_cons_zero, List.getElem?_cons_succ, List.set_cons_zero, List.set_cons_succ, Option.some.injEq, D.int.injEq, D.bl.injEq, D.obj.injEq, D.str.injEq, D.tup.injEq, O.lst.injEq, List.cons.injEq, List.length_cons, List.length_nil, exists_eq_left', exists_eq_left, exists_eq, exists_eq', exists_and_left, true_and, and_true, and_self, decide_eq_true_eq, decide_eq_false_iff_not, Bool.not_eq_true', Bool.not_eq_false', Bool.not_true, Bool.not_false, forall_const, imp_self, reduceCtorEq, false_and, and_false, exists_false, or_false, false_or, implies_true, false_implies, true_implies, not_true_eq_false, not_false_eq_true, if_true, if_false]
  exact .inl h
theorem issign_no {k : Nat} {st : Sto} {d : D} {Q : KD} {E : XD} (hd : ∀ (st : Sto) (K : KD), opIs .str d st K = K (.bl false) st) (h : Q (.bl false) st) : wCall GG TT (k + 2) 2 [d] st Q E := by
  refine wCall_in (fn := f_is_sign) rfl rfl rfl ?_
  show wS _ _ b_is_sign_0 [some (d)] _ _
  simp only [wS, wE, wEs, wT_tn, wT_tt, wTs_nil, wTs_cons, wAnd, wOr, wO, wIf, rdV, argN, tyB, b_add, b_sub, b_mul, b_fdiv, b_mod, b_adds, b_addt, b_addo, b_muls, b_mulo, c_eq, c_ne, c_lt, c_le, c_gt, c_ge, c_eqs, c_nes, c_eqb, c_neb, c_in1, c_nin1, c_init, c_ninit, c_inio, c_ninio, i_objs, dOk_int, dOk_str, o_sets, m_get1, m_get2, m_setd, t_get, t_setd, O.dic.injEq, c_inso, c_inst, c_ninso, c_ninst, f_lenS, f_tupS, i_tS, v_tS, y_tS, c_inS, c_ninS, isN_tS, c_isn, c_isntn, c_isb, c_isntb, isN_non, isN_int, isN_str, isN_tup, isN_bl, isN_obj, sq_tup, sq_fro, sq_obj, i_str, i_obj, i_tup, i_fro, s_str, s_tup, s_fro, s_obj, f_lens, f_lent, f_lenf, f_leno, f_inti, f_intb, f_boolb, f_sum, f_all, f_any, f_tupt, f_tupo, f_lstt, f_lsto, f_min, f_max, f_abs, f_stri, m_app, m_popi, m_ins, m_idxi, m_idxs, m_split, m_words, t_ins, t_idx, t_idxf, t_split,  m_ext, m_pop, m_join, t_app, t_ext, t_pop, t_join, o_set, y_non, y_int, y_bl, y_str, y_tup, y_fro, y_obj, v_tup, v_tI, v_fro, v_str, v_obj, z_tup, z_to, z_ot, z_obj, f_tups, t_idxt, en_obj, en_tup, rv_obj, rv_tup, s_tI, b_addI, f_lenI, f_tupI, f_lstI, i_tI, y_tI, isN_tI, tI_nil, still_nil, still_one, still_two, ixD0, ixD1, ixD2, ixD3, ixD4, ixD5, Nat.reduceAdd, Nat.reduceSub, Nat.reduceLT, Nat.reduceEqDiff, Nat.lt_add_one, Nat.zero_lt_succ, atD0, atD1, atD2, atD3, atD4, atD5, List.getElem?_cons_zero, List.getElem?_cons_succ, List.set_cons_zero, List.set_cons_succ, Option.some.injEq, D.int.injEq, D.bl.injEq, D.obj.injEq, D.str.injEq, D.tup.injEq, O.lst.injEq, List.cons.injEq, List.length_cons, List.length_nil, exists_eq_left', exists_eq_left, exists_eq, exists_eq', exists_and_left, true_and, and_true, and_self, decide_eq_true_eq, decide_eq_false_iff_not, Bool.not_eq_true', Bool.not_eq_false', Bool.not_true, Bool.not_false, forall_const, imp_self, reduceCtorEq, false_and, and_false, exists_false, or_false, false_or, implies_true, false_implies, true_implies, not_true_eq_false, not_false_eq_true, if_true, if_false, b_is_sign_0]
  refine isword_no hd ?_
  simp only [wS, wE, wEs, wT_tn, wT_tt, wTs_nil, wTs_cons, wAnd, wOr, wO, wIf, rdV, argN, tyB, b_add, b_sub, b_mul, b_fdiv, b_mod, b_adds, b_addt, b_addo, b_muls, b_mulo, c_eq, c_ne, c_lt, c_le, c_gt, c_ge, c_eqs, c_nes, c_eqb, c_neb, c_in1, c_nin1, c_init, c_ninit, c_inio, c_ninio, i_objs, dOk_int, dOk_str, o_sets, m_get1, m_get2, m_setd, t_get, t_setd, O.dic.injEq, c_inso, c_inst, c_ninso, c_ninst, f_lenS, f_tupS, i_tS, v_tS, y_tS, c_inS, c_ninS, isN_tS, c_isn, c_isntn, c_isb, c_isntb, isN_non, isN_int, isN_str, isN_tup, isN_bl, isN_obj, sq_tup, sq_fro, sq_obj, i_str, i_obj, i_tup, i_fro, s_str, s_tup, s_fro, s_obj, f_lens, f_lent, f_lenf, f_leno, f_inti, f_intb, f_boolb, f_sum, f_all, f_any, f_tupt, f_tupo, f_lstt, f_lsto, f_min, f_max, f_abs, f_stri, m_app, m_popi, m_ins, m_idxi, m_idxs, m_split, m_words, t_ins, t_idx, t_idxf, t_split,  m_ext, m_pop, m_join, t_app, t_ext, t_pop, t_join, o_set, y_non, y_int, y_bl, y_str, y_tup, y_fro, y_obj, v_tup, v_tI, v_fro, v_str, v_obj, z_tup, z_to, z_ot, z_obj, f_tups, t_idxt, en_obj, en_tup, rv_obj, rv_tup, s_tI, b_addI, f_lenI, f_tupI, f_lstI, i_tI, y_tI, isN_tI, tI_nil, still_nil, still_one, still_two, ixD0, ixD1, ixD2, ixD3, ixD4, ixD5, Nat.reduceAdd, Nat.reduceSub, Nat.reduceLT, Nat.reduceEqDiff, Nat.lt_add_one, Nat.zero_lt_succ, atD0, atD1, atD2, atD3, atD4, atD5, List.getElem?_cons_zero, List.getElem?_cons_succ, List.set_cons_zero, List.set_cons_succ, Option.some.injEq, D.int.injEq, D.bl.injEq, D.obj.injEq, D.str.injEq, D.tup.injEq, O.lst.injEq, List.cons.injEq, List.length_cons, List.length_nil, exists_eq_left', exists_eq_left, exists_eq, exists_eq', exists_and_left, true_and, and_true, and_self, decide_eq_true_eq, decide_eq_false_iff_not, Bool.not_eq_true', Bool.not_eq_false', Bool.not_true, Bool.not_false, forall_const, imp_self, reduceCtorEq, false_and, and_false, exists_false, or_false, false_or, implies_true, false_implies, true_implies, not_true_eq_false, not_false_eq_true, if_true, if_false]
  exact .inl h
theorem issign_ok {k : Nat} {st : Sto} {s : List Nat} {Q : KD} {E : XD} (hs : s.length ≤ 16777216) (h : Q (.bl (isSign s)) st) : wCall GG TT (k + 2) 2 [.str s] st Q E := by
  refine wCall_in (fn := f_is_sign) rfl rfl rfl ?_
  show wS _ _ b_is_sign_0 [some (.str s)] _ _
  simp only [wS, wE, wEs, wT_tn, wT_tt, wTs_nil, wTs_cons, wAnd, wOr, wO, wIf, rdV, argN, tyB, b_add, b_sub, b_mul, b_fdiv, b_mod, b_adds, b_addt, b_addo, b_muls, b_mulo, c_eq, c_ne, c_lt, c_le, c_gt, c_ge, c_eqs, c_nes, c_eqb, c_neb, c_in1, c_nin1, c_init, c_ninit, c_inio, c_ninio, i_objs, dOk_int, dOk_str, o_sets, m_get1, m_get2, m_setd, t_get, t_setd, O.dic.injEq, c_inso, c_inst, c_ninso, c_ninst, f_lenS, f_tupS, i_tS, v_tS, y_tS, c_inS, c_ninS, isN_tS, c_isn, c_isntn, c_isb, c_isntb, isN_non, isN_int, isN_str, isN_tup, isN_bl, isN_obj, sq_tup, sq_fro, sq_obj, i_str, i_obj, i_tup, i_fro, s_str, s_tup, s_fro, s_obj, f_lens, f_lent, f_lenf, f_leno, f_inti, f_intb, f_boolb, f_sum, f_all, f_any, f_tupt, f_tupo, f_lstt, f_lsto, f_min, f_max, f_abs, f_stri, m_app, m_popi, m_ins, m_idxi, m_idxs, m_split, m_words, t_ins, t_idx, t_idxf, t_split,  m_ext, m_pop, m_join, t_app, t_ext, t_pop, t_join, o_set, y_non, y_int, y_bl, y_str, y_tup, y_fro, y_obj, v_tup, v_tI, v_fro, v_str, v_obj, z_tup, z_to, z_ot, z_obj, f_tups, t_idxt, en_obj, en_tup, rv_obj, rv_tup, s_tI, b_addI, f_lenI, f_tupI, f_lstI, i_tI, y_tI, isN_tI, tI_nil, still_nil, still_one, still_two, ixD0, ixD1, ixD2, ixD3, ixD4, ixD5, Nat.reduceAdd, Nat.reduceSub, Nat.reduceLT, Nat.reduceEqDiff, Nat.lt_add_one, Nat.zero_lt_succ, atD0, atD1, atD2, atD3, atD4, atD5, List.getElem?_cons_zero, List.getElem?_cons_succ, List.set_cons_zero, List.set_cons_succ, Option.some.injEq, D.int.injEq, D.bl.injEq, D.obj.injEq, D.str.injEq, D.tup.injEq, O.lst.injEq, List.cons.injEq, List.length_cons, List.length_nil, exists_eq_left', exists_eq_left, exists_eq, exists_eq', exists_and_left, true_and, and_true, and_self, decide_eq_true_eq, decide_eq_false_iff_not, Bool.not_eq_true', Bool.not_eq_false', Bool.not_true, Bool.not_false, forall_const, imp_self, reduceCtorEq, false_and, and_false, exists_false, or_false, false_or, implies_true, false_implies, true_implies, not_true_eq_false, not_false_eq_true, if_true, if_false, b_is_sign_0]
  refine isword_ok hs ?_
  simp only [wS, wE, wEs, wT_tn, wT_tt, wTs_nil, wTs_cons, wAnd, wOr, wO, wIf, rdV, argN, tyB, b_add, b_sub, b_mul, b_fdiv, b_mod, b_adds, b_addt, b_addo, b_muls, b_mulo, c_eq, c_ne, c_lt, c_le, c_gt, c_ge, c_eqs, c_nes, c_eqb, c_neb, c_in1, c_nin1, c_init, c_ninit, c_inio, c_ninio, i_objs, dOk_int, dOk_str, o_sets, m_get1, m_get2, m_setd, t_get, t_setd, O.dic.injEq, c_inso, c_inst, c_ninso, c_ninst, f_lenS, f_tupS, i_tS, v_tS, y_tS, c_inS, c_ninS, isN_tS, c_isn, c_isntn, c_isb, c_isntb, isN_non, isN_int, isN_str, isN_tup, isN_bl, isN_obj, sq_tup, sq_fro, sq_obj, i_str, i_obj, i_tup, i_fro, s_str, s_tup, s_fro, s_obj, f_lens, f_lent, f_lenf, f_leno, f_inti, f_intb, f_boolb, f_sum, f_all, f_any, f_tupt, f_tupo, f_lstt, f_lsto, f_min, f_max, f_abs, f_stri, m_app, m_popi, m_ins, m_idxi, m_idxs, m_split, m_words, t_ins, t_idx, t_idxf, t_split,  m_ext, m_pop, m_join, t_app, t_ext, t_pop, t_join, o_set, y_non, y_int, y_bl, y_str, y_tup, y_fro, y_obj, v_tup, v_tI, v_fro, v_str, v_obj, z_tup, z_to, z_ot, z_obj, f_tups, t_idxt, en_obj, en_tup, rv_obj, rv_tup, s_tI, b_addI, f_lenI, f_tupI, f_lstI, i_tI, y_tI, isN_tI, tI_nil, still_nil, still_one, still_two, ixD0, ixD1, ixD2, ixD3, ixD4, ixD5, Nat.reduceAdd, Nat.reduceSub, Nat.reduceLT, Nat.reduceEqDiff, Nat.lt_add_one, Nat.zero_lt_succ, atD0, atD1, atD2, atD3, atD4, atD5, List.getElem?_cons_zero, List.getElem?_cons_succ, List.set_cons_zero, List.set_cons_succ, Option.some.injEq, D.int.injEq, D.bl.injEq, D.obj.injEq, D.str.injEq, D.tup.injEq, O.lst.injEq, List.cons.injEq, List.length_cons, List.length_nil, exists_eq_left', exists_eq_left, exists_eq, exists_eq', exists_and_left, true_and, and_true, and_self, decide_eq_true_eq, decide_eq_false_iff_not, Bool.not_eq_true', Bool.not_eq_false', Bool.not_true, Bool.not_false, forall_const, imp_self, reduceCtorEq, false_and, and_false, exists_false, or_false, false_or, implies_true, false_implies, true_implies, not_true_eq_false, not_false_eq_true, if_true, if_false, gg0, gg2]
  unfold isSign at h
  refine ⟨fun h1 => ?_, fun h1 => ?_⟩
  · rw [h1, Bool.true_and] at h
    refine ⟨hs, fun h2 => ?_, fun h2 => ?_⟩
    · refine ⟨RES, rfl, .inl ?_⟩
      rw [decide_eq_true (by omega), Bool.true_and] at h
      exact h
    · rw [decide_eq_false (by omega), Bool.false_and] at h
      exact .inl h
  · rw [h1] at h
    exact .inl h
theorem isnumber_no {k : Nat} {st : Sto} {d : D} {Q : KD} {E : XD} (hd : ∀ (st : Sto) (K : KD), opIs .str d st K = K (.bl false) st) (h : Q (.bl false) st) : wCall GG TT (k + 2) 3 [d] st Q E := by
  refine wCall_in (fn := f_is_number) rfl rfl rfl ?_
  show wS _ _ b_is_number_0 [some (d), none] _ _
  simp only [wS, wE, wEs, wT_tn, wT_tt, wTs_nil, wTs_cons, wAnd, wOr, wO, wIf, rdV, argN, tyB, b_add, b_sub, b_mul, b_fdiv, b_mod, b_adds, b_addt, b_addo, b_muls, b_mulo, c_eq, c_ne, c_lt, c_le, c_gt, c_ge, c_eqs, c_nes, c_eqb, c_neb, c_in1, c_nin1, c_init, c_ninit, c_inio, c_ninio, i_objs, dOk_int, dOk_str, o_sets, m_get1, m_get2, m_setd, t_get, t_setd, O.dic.injEq, c_inso, c_inst, c_ninso, c_ninst, f_lenS, f_tupS, i_tS, v_tS, y_tS, c_inS, c_ninS, isN_tS, c_isn, c_isntn, c_isb, c_isntb, isN_non, isN_int, isN_str, isN_tup, isN_bl, isN_obj, sq_tup, sq_fro, sq_obj, i_str, i_obj, i_tup, i_fro, s_str, s_tup, s_fro, s_obj, f_lens, f_lent, f_lenf, f_leno, f_inti, f_intb, f_boolb, f_sum, f_all, f_any, f_tupt, f_tupo, f_lstt, f_lsto, f_min, f_max, f_abs, f_stri, m_app, m_popi, m_ins, m_idxi, m_idxs, m_split, m_words, t_ins, t_idx, t_idxf, t_split,  m_ext, m_pop, m_join, t_app, t_ext, t_pop, t_join, o_set, y_non, y_int, y_bl, y_str, y_tup, y_fro, y_obj, v_tup, v_tI, v_fro, v_str, v_obj, z_tup, z_to, z_ot, z_obj, f_tups, t_idxt, en_obj, en_tup, rv_obj, rv_tup, s_tI, b_addI, f_lenI, f_tupI, f_lstI, i_tI, y_tI, isN_tI, tI_nil, still_nil, still_one, still_two, ixD0, ixD1, ixD2, ixD3, ixD4, ixD5, Nat.reduceAdd, Nat.reduceSub, Nat.reduceLT, Nat.reduceEqDiff, Nat.lt_add_one, Nat.zero_lt_succ, atD0, atD1, atD2, atD3, atD4, atD5, List.getElem?_cons_zero, List.getElem?_cons_succ, List.set_cons_zero, List.set_cons_succ, Option.some.injEq, D.int.injEq, D.bl.injEq, D.obj.injEq, D.str.injEq, D.tup.injEq, O.lst.injEq, List.cons.injEq, List.length_cons, List.length_nil, exists_eq_left', exists_eq_left, exists_eq, exists_eq', exists_and_left, true_and, and_true, and_self, decide_eq_true_eq, decide_eq_false_iff_not, Bool.not_eq_true', Bool.not_eq_false', Bool.not_true, Bool.not_false, forall_const, imp_self, reduceCtorEq, false_and, and_false, exists_false, or_false, false_or, implies_true, false_implies, true_implies, not_true_eq_false, not_false_eq_true, if_true, if_false, b_is_number_0]
  refine isword_no hd ?_
  simp only [wS, wE, wEs, wT_tn, wT_tt, wTs_nil, wTs_cons, wAnd, wOr, wO, wIf, rdV, argN, tyB, b_add, b_sub, b_mul, b_fdiv, b_mod, b_adds, b_addt, b_addo, b_muls, b_mulo, c_eq, c_ne, c_lt, c_le, c_gt, c_ge, c_eqs, c_nes, c_eqb, c_neb, c_in1, c_nin1, c_init, c_ninit, c_inio, c_ninio, i_objs, dOk_int, dOk_str, o_sets, m_get1, m_get2, m_setd, t_get, t_setd, O.dic.injEq, c_inso, c_inst, c_ninso, c_ninst, f_lenS, f_tupS, i_tS, v_tS, y_tS, c_inS, c_ninS, isN_tS, c_isn, c_isntn, c_isb, c_isntb, isN_non, isN_int, isN_str, isN_tup, isN_bl, isN_obj, sq_tup, sq_fro, sq_obj, i_str, i_obj, i_tup, i_fro, s_str, s_tup, s_fro, s_obj, f_lens, f_lent, f_lenf, f_leno, f_inti, f_intb, f_boolb, f_sum, f_all, f_any, f_tupt, f_tupo, f_lstt, f_lsto, f_min, f_max, f_abs, f_stri, m_app, m_popi, m_ins, m_idxi, m_idxs, m_split, m_words, t_ins, t_idx, t_idxf, t_split,  m_ext, m_pop, m_join, t_app, t_ext, t_pop, t_join, o_set, y_non, y_int, y_bl, y_str, y_tup, y_fro, y_obj, v_tup, v_tI, v_fro, v_str, v_obj, z_tup, z_to, z_ot, z_obj, f_tups, t_idxt, en_obj, en_tup, rv_obj, rv_tup, s_tI, b_addI, f_lenI, f_tupI, f_lstI, i_tI, y_tI, isN_tI, tI_nil, still_nil, still_one, still_two, ixD0, ixD1, ixD2, ixD3, ixD4, ixD5, Nat.reduceAdd, Nat.reduceSub, Nat.reduceLT, Nat.reduceEqDiff, Nat.lt_add_one, Nat.zero_lt_succ, atD0, atD1, atD2, atD3, atD4, atD5, List.getElem?_cons_zero, List.getElem?_cons_succ, List.set_cons_zero, List.set_cons_succ, Option.some.injEq, D.int.injEq, D.bl.injEq, D.obj.injEq, D.str.injEq, D.tup.injEq, O.lst.injEq, List.cons.injEq, List.length_cons, List.length_nil, exists_eq_left', exists_eq_left, exists_eq, exists_eq', exists_and_left, true_and, and_true, and_self, decide_eq_true_eq, decide_eq_false_iff_not, Bool.not_eq_true', Bool.not_eq_false', Bool.not_true, Bool.not_false, forall_const, imp_self, reduceCtorEq, false_and, and_false, exists_false, or_false, false_or, implies_true, false_implies, true_implies, not_true_eq_false, not_false_eq_true, if_true, if_false]
  simp only [wS, wE, wEs, wT_tn, wT_tt, wTs_nil, wTs_cons, wAnd, wOr, wO, wIf, rdV, argN, tyB, b_add, b_sub, b_mul, b_fdiv, b_mod, b_adds, b_addt, b_addo, b_muls, b_mulo, c_eq, c_ne, c_lt, c_le, c_gt, c_ge, c_eqs, c_nes, c_eqb, c_neb, c_in1, c_nin1, c_init, c_ninit, c_inio, c_ninio, i_objs, dOk_int, dOk_str, o_sets, m_get1, m_get2, m_setd, t_get, t_setd, O.dic.injEq, c_inso, c_inst, c_ninso, c_ninst, f_lenS, f_tupS, i_tS, v_tS, y_tS, c_inS, c_ninS, isN_tS, c_isn, c_isntn, c_isb, c_isntb, isN_non, isN_int, isN_str, isN_tup, isN_bl, isN_obj, sq_tup, sq_fro, sq_obj, i_str, i_obj, i_tup, i_fro, s_str, s_tup, s_fro, s_obj, f_lens, f_lent, f_lenf, f_leno, f_inti, f_intb, f_boolb, f_sum, f_all, f_any, f_tupt, f_tupo, f_lstt, f_lsto, f_min, f_max, f_abs, f_stri, m_app, m_popi, m_ins, m_idxi, m_idxs, m_split, m_words, t_ins, t_idx, t_idxf, t_split,  m_ext, m_pop, m_join, t_app, t_ext, t_pop, t_join, o_set, y_non, y_int, y_bl, y_str, y_tup, y_fro, y_obj, v_tup, v_tI, v_fro, v_str, v_obj, z_tup, z_to, z_ot, z_obj, f_tups, t_idxt, en_obj, en_tup, rv_obj, rv_tup, s_tI, b_addI, f_lenI, f_tupI, f_lstI, i_tI, y_tI, isN_tI, tI_nil, still_nil, still_one, still_two, ixD0, ixD1, ixD2, ixD3, ixD4, ixD5, Nat.reduceAdd, Nat.reduceSub, Nat.reduceLT, Nat.reduceEqDiff, Nat.lt_add_one, Nat.zero_lt_succ, atD0, atD1, atD2, atD3, atD4, atD5, List.getElem?_cons_zero, List.getElem?_cons_succ, List.set_cons_zero, List.set_cons_succ, Option.some.injEq, D.int.injEq, D.bl.injEq, D.obj.injEq, D.str.injEq, D.tup.injEq, O.lst.injEq, List.cons.injEq, List.length_cons, List.length_nil, exists_eq_left', exists_eq_left, exists_eq, exists_eq', exists_and_left, true_and, and_true, and_self, decide_eq_true_eq, decide_eq_false_iff_not, Bool.not_eq_true', Bool.not_eq_false', Bool.not_true, Bool.not_false, forall_const, imp_self, reduceCtorEq, false_and, and_false, exists_false, or_false, false_or, implies_true, false_implies, true_implies, not_true_eq_false, not_false_eq_true, if_true, if_false, b_is_number_1]
  exact .inl h
theorem isnumber_ok {k : Nat} {st : Sto} {s : List Nat} {Q : KD} {E : XD} (hs : s.length ≤ 16777216) (h : Q (.bl (isNum s)) st) : wCall GG TT (k + 2) 3 [.str s] st Q E := by
  rw [num_same] at h
  refine wCall_in (fn := f_is_number) rfl rfl rfl ?_
  show wS _ _ b_is_number_0 [some (.str s), none] _ _
  simp only [wS, wE, wEs, wT_tn, wT_tt, wTs_nil, wTs_cons, wAnd, wOr, wO, wIf, rdV, argN, tyB, b_add, b_sub, b_mul, b_fdiv, b_mod, b_adds, b_addt, b_addo, b_muls, b_mulo, c_eq, c_ne, c_lt, c_le, c_gt, c_ge, c_eqs, c_nes, c_eqb, c_neb, c_in1, c_nin1, c_init, c_ninit, c_inio, c_ninio, i_objs, dOk_int, dOk_str, o_sets, m_get1, m_get2, m_setd, t_get, t_setd, O.dic.injEq, c_inso, c_inst, c_ninso, c_ninst, f_lenS, f_tupS, i_tS, v_tS, y_tS, c_inS, c_ninS, isN_tS, c_isn, c_isntn, c_isb, c_isntb, isN_non, isN_int, isN_str, isN_tup, isN_bl, isN_obj, sq_tup, sq_fro, sq_obj, i_str, i_obj, i_tup, i_fro, s_str, s_tup, s_fro, s_obj, f_lens, f_lent, f_lenf, f_leno, f_inti, f_intb, f_boolb, f_sum, f_all, f_any, f_tupt, f_tupo, f_lstt, f_lsto, f_min, f_max, f_abs, f_stri, m_app, m_popi, m_ins, m_idxi, m_idxs, m_split, m_words, t_ins, t_idx, t_idxf, t_split,  m_ext, m_pop, m_join, t_app, t_ext, t_pop, t_join, o_set, y_non, y_int, y_bl, y_str, y_tup, y_fro, y_obj, v_tup, v_tI, v_fro, v_str, v_obj, z_tup, z_to, z_ot, z_obj, f_tups, t_idxt, en_obj, en_tup, rv_obj, rv_tup, s_tI, b_addI, f_lenI, f_tupI, f_lstI, i_tI, y_tI, isN_tI, tI_nil, still_nil, still_one, still_two, ixD0, ixD1, ixD2, ixD3, ixD4, ixD5, Nat.reduceAdd, Nat.reduceSub, Nat.reduceLT, Nat.reduceEqDiff, Nat.lt_add_one, Nat.zero_lt_succ, atD0, atD1, atD2, atD3, atD4, atD5, List.getElem?_cons_zero, List.getElem?_cons_succ, List.set_cons_zero, List.set_cons_succ, Option.some.injEq, D.int.injEq, D.bl.injEq, D.obj.injEq, D.str.injEq, D.tup.injEq, O.lst.injEq, List.cons.injEq, List.length_cons, List.length_nil, exists_eq_left', exists_eq_left, exists_eq, exists_eq', exists_and_left, true_and, and_true, and_self, decide_eq_true_eq, decide_eq_false_iff_not, Bool.not_eq_true', Bool.not_eq_false', Bool.not_true, Bool.not_false, forall_const, imp_self, reduceCtorEq, false_and, and_false, exists_false, or_false, false_or, implies_true, false_implies, true_implies, not_true_eq_false, not_false_eq_true, if_true, if_false, b_is_number_0]
  refine isword_ok hs ?_
  simp only [wS, wE, wEs, wT_tn, wT_tt, wTs_nil, wTs_cons, wAnd, wOr, wO, wIf, rdV, argN, tyB, b_add, b_sub, b_mul, b_fdiv, b_mod, b_adds, b_addt, b_addo, b_muls, b_mulo, c_eq, c_ne, c_lt, c_le, c_gt, c_ge, c_eqs, c_nes, c_eqb, c_neb, c_in1, c_nin1, c_init, c_ninit, c_inio, c_ninio, i_objs, dOk_int, dOk_str, o_sets, m_get1, m_get2, m_setd, t_get, t_setd, O.dic.injEq, c_inso, c_inst, c_ninso, c_ninst, f_lenS, f_tupS, i_tS, v_tS, y_tS, c_inS, c_ninS, isN_tS, c_isn, c_isntn, c_isb, c_isntb, isN_non, isN_int, isN_str, isN_tup, isN_bl, isN_obj, sq_tup, sq_fro, sq_obj, i_str, i_obj, i_tup, i_fro, s_str, s_tup, s_fro, s_obj, f_lens, f_lent, f_lenf, f_leno, f_inti, f_intb, f_boolb, f_sum, f_all, f_any, f_tupt, f_tupo, f_lstt, f_lsto, f_min, f_max, f_abs, f_stri, m_app, m_popi, m_ins, m_idxi, m_idxs, m_split, m_words, t_ins, t_idx, t_idxf, t_split,  m_ext, m_pop, m_join, t_app, t_ext, t_pop, t_join, o_set, y_non, y_int, y_bl, y_str, y_tup, y_fro, y_obj, v_tup, v_tI, v_fro, v_str, v_obj, z_tup, z_to, z_ot, z_obj, f_tups, t_idxt, en_obj, en_tup, rv_obj, rv_tup, s_tI, b_addI, f_lenI, f_tupI, f_lstI, i_tI, y_tI, isN_tI, tI_nil, still_nil, still_one, still_two, ixD0, ixD1, ixD2, ixD3, ixD4, ixD5, Nat.reduceAdd, Nat.reduceSub, Nat.reduceLT, Nat.reduceEqDiff, Nat.lt_add_one, Nat.zero_lt_succ, atD0, atD1, atD2, atD3, atD4, atD5, List.getElem?_cons_zero, List.getElem?_cons_succ, List.set_cons_zero, List.set_cons_succ, Option.some.injEq, D.int.injEq, D.bl.injEq, D.obj.injEq, D.str.injEq, D.tup.injEq, O.lst.injEq, List.cons.injEq, List.length_cons, List.length_nil, exists_eq_left', exists_eq_left, exists_eq, exists_eq', exists_and_left, true_and, and_true, and_self, decide_eq_true_eq, decide_eq_false_iff_not, Bool.not_eq_true', Bool.not_eq_false', Bool.not_true, Bool.not_false, forall_const, imp_self, reduceCtorEq, false_and, and_false, exists_false, or_false, false_or, implies_true, false_implies, true_implies, not_true_eq_false, not_false_eq_true, if_true, if_false]
  unfold isNumP at h
  have no : isNumP s = false → wS GG (wCall GG TT (k + 1)) b_is_number_1 [some (.str s), none] st { nx := fun env st_1 => wS GG (wCall GG TT (k + 1)) b_is_number_2 env st_1 (bodyEn st Q E), rt := (bodyEn st Q E).rt, bk := (bodyEn st Q E).bk, ct := (bodyEn st Q E).ct, ex := (bodyEn st Q E).ex } := by
    intro e
    simp only [wS, wE, wEs, wT_tn, wT_tt, wTs_nil, wTs_cons, wAnd, wOr, wO, wIf, rdV, argN, tyB, b_add, b_sub, b_mul, b_fdiv, b_mod, b_adds, b_addt, b_addo, b_muls, b_mulo, c_eq, c_ne, c_lt, c_le, c_gt, c_ge, c_eqs, c_nes, c_eqb, c_neb, c_in1, c_nin1, c_init, c_ninit, c_inio, c_ninio, i_objs, dOk_int, dOk_str, o_sets, m_get1, m_get2, m_setd, t_get, t_setd, O.dic.injEq, c_inso, c_inst, c_ninso, c_ninst, f_lenS, f_tupS, i_tS, v_tS, y_tS, c_inS, c_ninS, isN_tS, c_isn, c_isntn, c_isb, c_isntb, isN_non, isN_int, isN_str, isN_tup, isN_bl, isN_obj, sq_tup, sq_fro, sq_obj, i_str, i_obj, i_tup, i_fro, s_str, s_tup, s_fro, s_obj, f_lens, f_lent, f_lenf, f_leno, f_inti, f_intb, f_boolb, f_sum, f_all, f_any, f_tupt, f_tupo, f_lstt, f_lsto, f_min, f_max, f_abs, f_stri, m_app, m_popi, m_ins, m_idxi, m_idxs, m_split, m_words, t_ins, t_idx, t_idxf, t_split,  m_ext, m_pop, m_join, t_app, t_ext, t_pop, t_join, o_set, y_non, y_int, y_bl, y_str, y_tup, y_fro, y_obj, v_tup, v_tI, v_fro, v_str, v_obj, z_tup, z_to, z_ot, z_obj, f_tups, t_idxt, en_obj, en_tup, rv_obj, rv_tup, s_tI, b_addI, f_lenI, f_tupI, f_lstI, i_tI, y_tI, isN_tI, tI_nil, still_nil, still_one, still_two, ixD0, ixD1, ixD2, ixD3, ixD4, ixD5, Nat.reduceAdd, Nat.reduceSub, Nat.reduceLT, Nat.reduceEqDiff, Nat.lt_add_one, Nat.zero_lt_succ, atD0, atD1, atD2, atD3, atD4, atD5, List.getElem?_cons_zero, List.getElem?_cons_succ, List.set_cons_zero, List.set_cons_succ, Option.some.injEq, D.int.injEq, D.bl.injEq, D.obj.injEq, D.str.injEq, D.tup.injEq, O.lst.injEq, List.cons.injEq, List.length_cons, List.length_nil, exists_eq_left', exists_eq_left, exists_eq, exists_eq', exists_and_left, true_and, and_true, and_self, decide_eq_true_eq, decide_eq_false_iff_not, Bool.not_eq_true', Bool.not_eq_false', Bool.not_true, Bool.not_false, forall_const, imp_self, reduceCtorEq, false_and, and_false, exists_false, or_false, false_or, implies_true, false_implies, true_implies, not_true_eq_false, not_false_eq_true, if_true, if_false, b_is_number_1]
    unfold isNumP at e
    rw [e] at h
    exact .inl h
  unfold isNumP at no
  refine ⟨fun h1 => ?_, fun h1 => ?_⟩
  · exact no (by rw [h1]; rfl)
  · rw [h1, Bool.true_and] at h no
    refine ⟨hs, fun h2 => no (by rw [decide_eq_false (by omega)]; rfl), fun h2 => ?_⟩
    rw [decide_eq_true (by omega), Bool.true_and] at h
    simp only [wS, wE, wEs, wT_tn, wT_tt, wTs_nil, wTs_cons, wAnd, wOr, wO, wIf, rdV, argN, tyB, b_add, b_sub, b_mul, b_fdiv, b_mod, b_adds, b_addt, b_addo, b_muls, b_mulo, c_eq, c_ne, c_lt, c_le, c_gt, c_ge, c_eqs, c_nes, c_eqb, c_neb, c_in1, c_nin1, c_init, c_ninit, c_inio, c_ninio, i_objs, dOk_int, dOk_str, o_sets, m_get1, m_get2, m_setd, t_get, t_setd, O.dic.injEq, c_inso, c_inst, c_ninso, c_ninst, f_lenS, f_tupS, i_tS, v_tS, y_tS, c_inS, c_ninS, isN_tS, c_isn, c_isntn, c_isb, c_isntb, isN_non, isN_int, isN_str, isN_tup, isN_bl, isN_obj, sq_tup, sq_fro, sq_obj, i_str, i_obj, i_tup, i_fro, s_str, s_tup, s_fro, s_obj, f_lens, f_lent, f_lenf, f_leno, f_inti, f_intb, f_boolb, f_sum, f_all, f_any, f_tupt, f_tupo, f_lstt, f_lsto, f_min, f_max, f_abs, f_stri, m_app, m_popi, m_ins, m_idxi, m_idxs, m_split, m_words, t_ins, t_idx, t_idxf, t_split,  m_ext, m_pop, m_join, t_app, t_ext, t_pop, t_join, o_set, y_non, y_int, y_bl, y_str, y_tup, y_fro, y_obj, v_tup, v_tI, v_fro, v_str, v_obj, z_tup, z_to, z_ot, z_obj, f_tups, t_idxt, en_obj, en_tup, rv_obj, rv_tup, s_tI, b_addI, f_lenI, f_tupI, f_lstI, i_tI, y_tI, isN_tI, tI_nil, still_nil, still_one, still_two, ixD0, ixD1, ixD2, ixD3, ixD4, ixD5, Nat.reduceAdd, Nat.reduceSub, Nat.reduceLT, Nat.reduceEqDiff, Nat.lt_add_one, Nat.zero_lt_succ, atD0, atD1, atD2, atD3, atD4, atD5, List.getElem?_cons_zero, List.getElem?_cons_succ, List.set_cons_zero, List.set_cons_succ, Option.some.injEq, D.int.injEq, D.bl.injEq, D.obj.injEq, D.str.injEq, D.tup.injEq, O.lst.injEq, List.cons.injEq, List.length_cons, List.length_nil, exists_eq_left', exists_eq_left, exists_eq, exists_eq', exists_and_left, true_and, and_true, and_self, decide_eq_true_eq, decide_eq_false_iff_not, Bool.not_eq_true', Bool.not_eq_false', Bool.not_true, Bool.not_false, forall_const, imp_self, reduceCtorEq, false_and, and_false, exists_false, or_false, false_or, implies_true, false_implies, true_implies, not_true_eq_false, not_false_eq_true, if_true, if_false, b_is_number_2, wI, wipeE]
    refine compW_map (chF fun c => decide (c ∈ DIG)) (by show (s.map _).length ≤ _; rw [List.length_map]; exact hs) (fun acc => by simp only [wS, wE, wEs, wT_tn, wT_tt, wTs_nil, wTs_cons, wAnd, wOr, wO, wIf, rdV, argN, tyB, b_add, b_sub, b_mul, b_fdiv, b_mod, b_adds, b_addt, b_addo, b_muls, b_mulo, c_eq, c_ne, c_lt, c_le, c_gt, c_ge, c_eqs, c_nes, c_eqb, c_neb, c_in1, c_nin1, c_init, c_ninit, c_inio, c_ninio, i_objs, dOk_int, dOk_str, o_sets, m_get1, m_get2, m_setd, t_get, t_setd, O.dic.injEq, c_inso, c_inst, c_ninso, c_ninst, f_lenS, f_tupS, i_tS, v_tS, y_tS, c_inS, c_ninS, isN_tS, c_isn, c_isntn, c_isb, c_isntb, isN_non, isN_int, isN_str, isN_tup, isN_bl, isN_obj, sq_tup, sq_fro, sq_obj, i_str, i_obj, i_tup, i_fro, s_str, s_tup, s_fro, s_obj, f_lens, f_lent, f_lenf, f_leno, f_inti, f_intb, f_boolb, f_sum, f_all, f_any, f_tupt, f_tupo, f_lstt, f_lsto, f_min, f_max, f_abs, f_stri, m_app, m_popi, m_ins, m_idxi, m_idxs, m_split, m_words, t_ins, t_idx, t_idxf, t_split,  m_ext, m_pop, m_join, t_app, t_ext, t_pop, t_join, o_set, y_non, y_int, y_bl, y_str, y_tup, y_fro, y_obj, v_tup, v_tI, v_fro, v_str, v_obj, z_tup, z_to, z_ot, z_obj, f_tups, t_idxt, en_obj, en_tup, rv_obj, rv_tup, s_tI, b_addI, f_lenI, f_tupI, f_lstI, i_tI, y_tI, isN_tI, tI_nil, still_nil, still_one, still_two, ixD0, ixD1, ixD2, ixD3, ixD4, ixD5, Nat.reduceAdd, Nat.reduceSub, Nat.reduceLT, Nat.reduceEqDiff, Nat.lt_add_one, Nat.zero_lt_succ, atD0, atD1, atD2, atD3, atD4, atD5, List.getElem?_cons_zero, List.getElem?_cons_succ, List.set_cons_zero, List.set_cons_succ, Option.some.injEq, D.int.injEq, D.bl.injEq, D.obj.injEq, D.str.injEq, D.tup.injEq, O.lst.injEq, List.cons.injEq, List.length_cons, List.length_nil, exists_eq_left', exists_eq_left, exists_eq, exists_eq', exists_and_left, true_and, and_true, and_self, decide_eq_true_eq, decide_eq_false_iff_not, Bool.not_eq_true', Bool.not_eq_false', Bool.not_true, Bool.not_false, forall_const, imp_self, reduceCtorEq, false_and, and_false, exists_false, or_false, false_or, implies_true, false_implies, true_implies, not_true_eq_false, not_false_eq_true, if_true, if_false]) (fun i x acc yes no hx hy => ?_) ?_
    · have hx : (s.map fun c => D.str [c])[i]? = some x := hx
      rw [List.getElem?_map] at hx
      obtain ⟨c, hc, rfl⟩ := Option.map_eq_some_iff.mp hx
      simp only [wS, wE, wEs, wT_tn, wT_tt, wTs_nil, wTs_cons, wAnd, wOr, wO, wIf, rdV, argN, tyB, b_add, b_sub, b_mul, b_fdiv, b_mod, b_adds, b_addt, b_addo, b_muls, b_mulo, c_eq, c_ne, c_lt, c_le, c_gt, c_ge, c_eqs, c_nes, c_eqb, c_neb, c_in1, c_nin1, c_init, c_ninit, c_inio, c_ninio, i_objs, dOk_int, dOk_str, o_sets, m_get1, m_get2, m_setd, t_get, t_setd, O.dic.injEq, c_inso, c_inst, c_ninso, c_ninst, f_lenS, f_tupS, i_tS, v_tS, y_tS, c_inS, c_ninS, isN_tS, c_isn, c_isntn, c_isb, c_isntb, isN_non, isN_int, isN_str, isN_tup, isN_bl, isN_obj, sq_tup, sq_fro, sq_obj, i_str, i_obj, i_tup, i_fro, s_str, s_tup, s_fro, s_obj, f_lens, f_lent, f_lenf, f_leno, f_inti, f_intb, f_boolb, f_sum, f_all, f_any, f_tupt, f_tupo, f_lstt, f_lsto, f_min, f_max, f_abs, f_stri, m_app, m_popi, m_ins, m_idxi, m_idxs, m_split, m_words, t_ins, t_idx, t_idxf, t_split,  m_ext, m_pop, m_join, t_app, t_ext, t_pop, t_join, o_set, y_non, y_int, y_bl, y_str, y_tup, y_fro, y_obj, v_tup, v_tI, v_fro, v_str, v_obj, z_tup, z_to, z_ot, z_obj, f_tups, t_idxt, en_obj, en_tup, rv_obj, rv_tup, s_tI, b_addI, f_lenI, f_tupI, f_lstI, i_tI, y_tI, isN_tI, tI_nil, still_nil, still_one, still_two, ixD0, ixD1, ixD2, ixD3, ixD4, ixD5, Nat.reduceAdd, Nat.reduceSub, Nat.reduceLT, Nat.reduceEqDiff, Nat.lt_add_one, Nat.zero_lt_succ, atD0, atD1, atD2, atD3, atD4, atD5, List.getElem?_cons_zero, List.getElem?_cons_succ, List.set_cons_zero, List.set_cons_succ, Option.some.injEq, D.int.injEq, D.bl.injEq, D.obj.injEq, D.str.injEq, D.tup.injEq, O.lst.injEq, List.cons.injEq, List.length_cons, List.length_nil, exists_eq_left', exists_eq_left, exists_eq, exists_eq', exists_and_left, true_and, and_true, and_self, decide_eq_true_eq, decide_eq_false_iff_not, Bool.not_eq_true', Bool.not_eq_false', Bool.not_true, Bool.not_false, forall_const, imp_self, reduceCtorEq, false_and, and_false, exists_false, or_false, false_or, implies_true, false_implies, true_implies, not_true_eq_false, not_false_eq_true, if_true, if_false, gg1]
      exact hy
    · simp only [wS, wE, wEs, wT_tn, wT_tt, wTs_nil, wTs_cons, wAnd, wOr, wO, wIf, rdV, argN, tyB, b_add, b_sub, b_mul, b_fdiv, b_mod, b_adds, b_addt, b_addo, b_muls, b_mulo, c_eq, c_ne, c_lt, c_le, c_gt, c_ge, c_eqs, c_nes, c_eqb, c_neb, c_in1, c_nin1, c_init, c_ninit, c_inio, c_ninio, i_objs, dOk_int, dOk_str, o_sets, m_get1, m_get2, m_setd, t_get, t_setd, O.dic.injEq, c_inso, c_inst, c_ninso, c_ninst, f_lenS, f_tupS, i_tS, v_tS, y_tS, c_inS, c_ninS, isN_tS, c_isn, c_isntn, c_isb, c_isntb, isN_non, isN_int, isN_str, isN_tup, isN_bl, isN_obj, sq_tup, sq_fro, sq_obj, i_str, i_obj, i_tup, i_fro, s_str, s_tup, s_fro, s_obj, f_lens, f_lent, f_lenf, f_leno, f_inti, f_intb, f_boolb, f_sum, f_all, f_any, f_tupt, f_tupo, f_lstt, f_lsto, f_min, f_max, f_abs, f_stri, m_app, m_popi, m_ins, m_idxi, m_idxs, m_split, m_words, t_ins, t_idx, t_idxf, t_split,  m_ext, m_pop, m_join, t_app, t_ext, t_pop, t_join, o_set, y_non, y_int, y_bl, y_str, y_tup, y_fro, y_obj, v_tup, v_tI, v_fro, v_str, v_obj, z_tup, z_to, z_ot, z_obj, f_tups, t_idxt, en_obj, en_tup, rv_obj, rv_tup, s_tI, b_addI, f_lenI, f_tupI, f_lstI, i_tI, y_tI, isN_tI, tI_nil, still_nil, still_one, still_two, ixD0, ixD1, ixD2, ixD3, ixD4, ixD5, Nat.reduceAdd, Nat.reduceSub, Nat.reduceLT, Nat.reduceEqDiff, Nat.lt_add_one, Nat.zero_lt_succ, atD0, atD1, atD2, atD3, atD4, atD5, List.getElem?_cons_zero, List.getElem?_cons_succ, List.set_cons_zero, List.set_cons_succ, Option.some.injEq, D.int.injEq, D.bl.injEq, D.obj.injEq, D.str.injEq, D.tup.injEq, O.lst.injEq, List.cons.injEq, List.length_cons, List.length_nil, exists_eq_left', exists_eq_left, exists_eq, exists_eq', exists_and_left, true_and, and_true, and_self, decide_eq_true_eq, decide_eq_false_iff_not, Bool.not_eq_true', Bool.not_eq_false', Bool.not_true, Bool.not_false, forall_const, imp_self, reduceCtorEq, false_and, and_false, exists_false, or_false, false_or, implies_true, false_implies, true_implies, not_true_eq_false, not_false_eq_true, if_true, if_false]
      rw [chF_map]
      refine ⟨_, app_last, gc_same rfl ?_⟩
      rw [all_id]
      simp only [wS, wE, wEs, wT_tn, wT_tt, wTs_nil, wTs_cons, wAnd, wOr, wO, wIf, rdV, argN, tyB, b_add, b_sub, b_mul, b_fdiv, b_mod, b_adds, b_addt, b_addo, b_muls, b_mulo, c_eq, c_ne, c_lt, c_le, c_gt, c_ge, c_eqs, c_nes, c_eqb, c_neb, c_in1, c_nin1, c_init, c_ninit, c_inio, c_ninio, i_objs, dOk_int, dOk_str, o_sets, m_get1, m_get2, m_setd, t_get, t_setd, O.dic.injEq, c_inso, c_inst, c_ninso, c_ninst, f_lenS, f_tupS, i_tS, v_tS, y_tS, c_inS, c_ninS, isN_tS, c_isn, c_isntn, c_isb, c_isntb, isN_non, isN_int, isN_str, isN_tup, isN_bl, isN_obj, sq_tup, sq_fro, sq_obj, i_str, i_obj, i_tup, i_fro, s_str, s_tup, s_fro, s_obj, f_lens, f_lent, f_lenf, f_leno, f_inti, f_intb, f_boolb, f_sum, f_all, f_any, f_tupt, f_tupo, f_lstt, f_lsto, f_min, f_max, f_abs, f_stri, m_app, m_popi, m_ins, m_idxi, m_idxs, m_split, m_words, t_ins, t_idx, t_idxf, t_split,  m_ext, m_pop, m_join, t_app, t_ext, t_pop, t_join, o_set, y_non, y_int, y_bl, y_str, y_tup, y_fro, y_obj, v_tup, v_tI, v_fro, v_str, v_obj, z_tup, z_to, z_ot, z_obj, f_tups, t_idxt, en_obj, en_tup, rv_obj, rv_tup, s_tI, b_addI, f_lenI, f_tupI, f_lstI, i_tI, y_tI, isN_tI, tI_nil, still_nil, still_one, still_two, ixD0, ixD1, ixD2, ixD3, ixD4, ixD5, Nat.reduceAdd, Nat.reduceSub, Nat.reduceLT, Nat.reduceEqDiff, Nat.lt_add_one, Nat.zero_lt_succ, atD0, atD1, atD2, atD3, atD4, atD5, List.getElem?_cons_zero, List.getElem?_cons_succ, List.set_cons_zero, List.set_cons_succ, Option.some.injEq, D.int.injEq, D.bl.injEq, D.obj.injEq, D.str.injEq, D.tup.injEq, O.lst.injEq, List.cons.injEq, List.length_cons, List.length_nil, exists_eq_left', exists_eq_left, exists_eq, exists_eq', exists_and_left, true_and, and_true, and_self, decide_eq_true_eq, decide_eq_false_iff_not, Bool.not_eq_true', Bool.not_eq_false', Bool.not_true, Bool.not_false, forall_const, imp_self, reduceCtorEq, false_and, and_false, exists_false, or_false, false_or, implies_true, false_implies, true_implies, not_true_eq_false, not_false_eq_true, if_true, if_false]
      refine ⟨fun h3 => ?_, fun h3 => ?_⟩
      · simp only [wS, wE, wEs, wT_tn, wT_tt, wTs_nil, wTs_cons, wAnd, wOr, wO, wIf, rdV, argN, tyB, b_add, b_sub, b_mul, b_fdiv, b_mod, b_adds, b_addt, b_addo, b_muls, b_mulo, c_eq, c_ne, c_lt, c_le, c_gt, c_ge, c_eqs, c_nes, c_eqb, c_neb, c_in1, c_nin1, c_init, c_ninit, c_inio, c_ninio, i_objs, dOk_int, dOk_str, o_sets, m_get1, m_get2, m_setd, t_get, t_setd, O.dic.injEq, c_inso, c_inst, c_ninso, c_ninst, f_lenS, f_tupS, i_tS, v_tS, y_tS, c_inS, c_ninS, isN_tS, c_isn, c_isntn, c_isb, c_isntb, isN_non, isN_int, isN_str, isN_tup, isN_bl, isN_obj, sq_tup, sq_fro, sq_obj, i_str, i_obj, i_tup, i_fro, s_str, s_tup, s_fro, s_obj, f_lens, f_lent, f_lenf, f_leno, f_inti, f_intb, f_boolb, f_sum, f_all, f_any, f_tupt, f_tupo, f_lstt, f_lsto, f_min, f_max, f_abs, f_stri, m_app, m_popi, m_ins, m_idxi, m_idxs, m_split, m_words, t_ins, t_idx, t_idxf, t_split,  m_ext, m_pop, m_join, t_app, t_ext, t_pop, t_join, o_set, y_non, y_int, y_bl, y_str, y_tup, y_fro, y_obj, v_tup, v_tI, v_fro, v_str, v_obj, z_tup, z_to, z_ot, z_obj, f_tups, t_idxt, en_obj, en_tup, rv_obj, rv_tup, s_tI, b_addI, f_lenI, f_tupI, f_lstI, i_tI, y_tI, isN_tI, tI_nil, still_nil, still_one, still_two, ixD0, ixD1, ixD2, ixD3, ixD4, ixD5, Nat.reduceAdd, Nat.reduceSub, Nat.reduceLT, Nat.reduceEqDiff, Nat.lt_add_one, Nat.zero_lt_succ, atD0, atD1, atD2, atD3, atD4, atD5, List.getElem?_cons_zero, List.getElem?_cons_succ, List.set_cons_zero, List.set_cons_succ, Option.some.injEq, D.int.injEq, D.bl.injEq, D.obj.injEq, D.str.injEq, D.tup.injEq, O.lst.injEq, List.cons.injEq, List.length_cons, List.length_nil, exists_eq_left', exists_eq_left, exists_eq, exists_eq', exists_and_left, true_and, and_true, and_self, decide_eq_true_eq, decide_eq_false_iff_not, Bool.not_eq_true', Bool.not_eq_false', Bool.not_true, Bool.not_false, forall_const, imp_self, reduceCtorEq, false_and, and_false, exists_false, or_false, false_or, implies_true, false_implies, true_implies, not_true_eq_false, not_false_eq_true, if_true, if_false, b_is_number_3]
        rw [show allDig s = false from h3] at h
        exact .inl h
      · rw [show allDig s = true from h3, Bool.true_and] at h
        simp only [wS, wE, wEs, wT_tn, wT_tt, wTs_nil, wTs_cons, wAnd, wOr, wO, wIf, rdV, argN, tyB, b_add, b_sub, b_mul, b_fdiv, b_mod, b_adds, b_addt, b_addo, b_muls, b_mulo, c_eq, c_ne, c_lt, c_le, c_gt, c_ge, c_eqs, c_nes, c_eqb, c_neb, c_in1, c_nin1, c_init, c_ninit, c_inio, c_ninio, i_objs, dOk_int, dOk_str, o_sets, m_get1, m_get2, m_setd, t_get, t_setd, O.dic.injEq, c_inso, c_inst, c_ninso, c_ninst, f_lenS, f_tupS, i_tS, v_tS, y_tS, c_inS, c_ninS, isN_tS, c_isn, c_isntn, c_isb, c_isntb, isN_non, isN_int, isN_str, isN_tup, isN_bl, isN_obj, sq_tup, sq_fro, sq_obj, i_str, i_obj, i_tup, i_fro, s_str, s_tup, s_fro, s_obj, f_lens, f_lent, f_lenf, f_leno, f_inti, f_intb, f_boolb, f_sum, f_all, f_any, f_tupt, f_tupo, f_lstt, f_lsto, f_min, f_max, f_abs, f_stri, m_app, m_popi, m_ins, m_idxi, m_idxs, m_split, m_words, t_ins, t_idx, t_idxf, t_split,  m_ext, m_pop, m_join, t_app, t_ext, t_pop, t_join, o_set, y_non, y_int, y_bl, y_str, y_tup, y_fro, y_obj, v_tup, v_tI, v_fro, v_str, v_obj, z_tup, z_to, z_ot, z_obj, f_tups, t_idxt, en_obj, en_tup, rv_obj, rv_tup, s_tI, b_addI, f_lenI, f_tupI, f_lstI, i_tI, y_tI, isN_tI, tI_nil, still_nil, still_one, still_two, ixD0, ixD1, ixD2, ixD3, ixD4, ixD5, Nat.reduceAdd, Nat.reduceSub, Nat.reduceLT, Nat.reduceEqDiff, Nat.lt_add_one, Nat.zero_lt_succ, atD0, atD1, atD2, atD3, atD4, atD5, List.getElem?_cons_zero, List.getElem?_cons_succ, List.set_cons_zero, List.set_cons_succ, Option.some.injEq, D.int.injEq, D.bl.injEq, D.obj.injEq, D.str.injEq, D.tup.injEq, O.lst.injEq, List.cons.injEq, List.length_cons, List.length_nil, exists_eq_left', exists_eq_left, exists_eq, exists_eq', exists_and_left, true_and, and_true, and_self, decide_eq_true_eq, decide_eq_false_iff_not, Bool.not_eq_true', Bool.not_eq_false', Bool.not_true, Bool.not_false, forall_const, imp_self, reduceCtorEq, false_and, and_false, exists_false, or_false, false_or, implies_true, false_implies, true_implies, not_true_eq_false, not_false_eq_true, if_true, if_false, b_is_number_4]
        cases s with
        | nil => simp [isW] at h1
        | cons c r =>
          refine ⟨fun h4 => ?_, fun h4 => ?_⟩
          · rw [decide_eq_true h4, Bool.true_or] at h
            exact .inl h
          · rw [decide_eq_false h4, Bool.false_or] at h
            refine ⟨hs, c, rfl, .inl ?_⟩
            have e : (!decide (c = 48)) = decide (c ≠ 48) := by simp
            rw [e]
            exact h
end Rf

namespace Rf
open PySem
/-! the law's questions -/
def NS (d : D) : Prop := ∀ (st : Sto) (K : KD), opIs .str d st K = K (.bl false) st
def Vd (d : D) : Prop := (∃ s, d = .str s ∧ s.length ≤ 1000) ∨ NS d
theorem dat_bls {st : Sto} (bs : List Bool) : Dat st (.tup (bs.map D.bl)) (.tuple (bs.map PyData.bool)) := by
  refine .tup (by simp) fun i x p h h' => ?_
  rw [List.getElem?_map] at h h'
  cases e : bs[i]? with
  | none => rw [e] at h; cases h
  | some b => rw [e] at h h'; cases h; cases h'; exact .bl b
theorem eq3 {st : Sto} {K : KD} {a b c : Bool} (h : K (.bl true) st) : opC .eq (.tup [.bl a, .bl b, .bl c]) (.tup [.bl a, .bl b, .bl c]) st K := by
  refine ⟨_, _, dat_bls [a, b, c], dat_bls [a, b, c], ?_, ?_, ?_⟩
  · cases a <;> cases b <;> cases c <;> decide +kernel
  · cases a <;> cases b <;> cases c <;> decide +kernel
  · have : PyData.eqv (.tuple ([a, b, c].map PyData.bool)) (.tuple ([a, b, c].map PyData.bool)) = true := by cases a <;> cases b <;> cases c <;> decide +kernel
    rw [this]; exact h
def NM : IE := .and (.cons (.var 6) (.cons (.cmp .le (.bi .len (.cons (.var 0) .nil)) (.int 12)) (.cons (.cmp .inn (.sub (.var 0) (.int 0)) (.var 3)) .nil)))
def SG : IE := .and (.cons (.var 6) (.cons (.cmp .le (.bi .len (.cons (.var 0) .nil)) (.int 6)) .nil))
theorem nm_ok {C : Calls} {E : XD} {s : List Nat} {x1 x2 x4 x5 x7 x8 x9 : Option D} {st : Sto} {K : KD} (hs : s.length ≤ 16777216) (h : K (.bl (isName s)) st) :
    wE GG C NM E [some (.str s), x1, x2, some (.str LET), x4, x5, some (.bl (isW s && !decide (s ∈ RES))), x7, x8, x9] st K := by
  simp only [wS, wE, wEs, wT_tn, wT_tt, wTs_nil, wTs_cons, wAnd, wOr, wO, wIf, rdV, argN, tyB, b_add, b_sub, b_mul, b_fdiv, b_mod, b_adds, b_addt, b_addo, b_muls, b_mulo, c_eq, c_ne, c_lt, c_le, c_gt, c_ge, c_eqs, c_nes, c_eqb, c_neb, c_in1, c_nin1, c_init, c_ninit, c_inio, c_ninio, i_objs, dOk_int, dOk_str, o_sets, m_get1, m_get2, m_setd, t_get, t_setd, O.dic.injEq, c_inso, c_inst, c_ninso, c_ninst, f_lenS, f_tupS, i_tS, v_tS, y_tS, c_inS, c_ninS, isN_tS, c_isn, c_isntn, c_isb, c_isntb, isN_non, isN_int, isN_str, isN_tup, isN_bl, isN_obj, sq_tup, sq_fro, sq_obj, i_str, i_obj, i_tup, i_fro, s_str, s_tup, s_fro, s_obj, f_lens, f_lent, f_lenf, f_leno, f_inti, f_intb, f_boolb, f_sum, f_all, f_any, f_tupt, f_tupo, f_lstt, f_lsto, f_min, f_max, f_abs, f_stri, m_app, m_popi, m_ins, m_idxi, m_idxs, m_split, m_words, t_ins, t_idx, t_idxf, t_split,  m_ext, m_pop, m_join, t_app, t_ext, t_pop, t_join, o_set, y_non, y_int, y_bl, y_str, y_tup, y_fro, y_obj, v_tup, v_tI, v_fro, v_str, v_obj, z_tup, z_to, z_ot, z_obj, f_tups, t_idxt, en_obj, en_tup, rv_obj, rv_tup, s_tI, b_addI, f_lenI, f_tupI, f_lstI, i_tI, y_tI, isN_tI, tI_nil, still_nil, still_one, still_two, ixD0, ixD1, ixD2, ixD3, ixD4, ixD5, Nat.reduceAdd, Nat.reduceSub, Nat.reduceLT, Nat.reduceEqDiff, Nat.lt_add_one, Nat.zero_lt_succ, atD0, atD1, atD2, atD3, atD4, atD5, List.getElem?_cons_zero, List.getElem?_cons_succ, List.set_cons_zero, List.set_cons_succ, Option.some.injEq, D.int.injEq, D.bl.injEq, D.obj.injEq, D.str.injEq, D.tup.injEq, O.lst.injEq, List.cons.injEq, List.length_cons, List.length_nil, exists_eq_left', exists_eq_left, exists_eq, exists_eq', exists_and_left, true_and, and_true, and_self, decide_eq_true_eq, decide_eq_false_iff_not, Bool.not_eq_true', Bool.not_eq_false', Bool.not_true, Bool.not_false, forall_const, imp_self, reduceCtorEq, false_and, and_false, exists_false, or_false, false_or, implies_true, false_implies, true_implies, not_true_eq_false, not_false_eq_true, if_true, if_false, NM]
  unfold isName at h
  refine ⟨fun h1 => ?_, fun h1 => ?_⟩
  · rw [Bool.and_eq_true] at h1
    obtain ⟨h1, h3⟩ := h1
    rw [h1, h3, Bool.true_and, Bool.and_true] at h
    refine ⟨hs, fun h2 => ?_, fun h2 => ?_⟩
    · cases s with
      | nil => simp [isW] at h1
      | cons c r =>
        rw [decide_eq_true (by omega), Bool.true_and] at h
        exact ⟨hs, c, rfl, h⟩
    · rw [decide_eq_false (by omega), Bool.false_and] at h
      exact h
  · have e : (isW s && (decide (s.length ≤ 12) && (decide (s.headD 0 ∈ LET) && !decide (s ∈ RES)))) = false := by
      cases hw : isW s
      · rfl
      · rw [hw, Bool.true_and] at h1
        rw [h1]; simp
    rw [e] at h
    exact h
theorem sg_ok {C : Calls} {E : XD} {s : List Nat} {x1 x2 x3 x4 x5 x7 x8 x9 : Option D} {st : Sto} {K : KD} (hs : s.length ≤ 16777216) (h : K (.bl (isSign s)) st) :
    wE GG C SG E [some (.str s), x1, x2, x3, x4, x5, some (.bl (isW s && !decide (s ∈ RES))), x7, x8, x9] st K := by
  simp only [wS, wE, wEs, wT_tn, wT_tt, wTs_nil, wTs_cons, wAnd, wOr, wO, wIf, rdV, argN, tyB, b_add, b_sub, b_mul, b_fdiv, b_mod, b_adds, b_addt, b_addo, b_muls, b_mulo, c_eq, c_ne, c_lt, c_le, c_gt, c_ge, c_eqs, c_nes, c_eqb, c_neb, c_in1, c_nin1, c_init, c_ninit, c_inio, c_ninio, i_objs, dOk_int, dOk_str, o_sets, m_get1, m_get2, m_setd, t_get, t_setd, O.dic.injEq, c_inso, c_inst, c_ninso, c_ninst, f_lenS, f_tupS, i_tS, v_tS, y_tS, c_inS, c_ninS, isN_tS, c_isn, c_isntn, c_isb, c_isntb, isN_non, isN_int, isN_str, isN_tup, isN_bl, isN_obj, sq_tup, sq_fro, sq_obj, i_str, i_obj, i_tup, i_fro, s_str, s_tup, s_fro, s_obj, f_lens, f_lent, f_lenf, f_leno, f_inti, f_intb, f_boolb, f_sum, f_all, f_any, f_tupt, f_tupo, f_lstt, f_lsto, f_min, f_max, f_abs, f_stri, m_app, m_popi, m_ins, m_idxi, m_idxs, m_split, m_words, t_ins, t_idx, t_idxf, t_split,  m_ext, m_pop, m_join, t_app, t_ext, t_pop, t_join, o_set, y_non, y_int, y_bl, y_str, y_tup, y_fro, y_obj, v_tup, v_tI, v_fro, v_str, v_obj, z_tup, z_to, z_ot, z_obj, f_tups, t_idxt, en_obj, en_tup, rv_obj, rv_tup, s_tI, b_addI, f_lenI, f_tupI, f_lstI, i_tI, y_tI, isN_tI, tI_nil, still_nil, still_one, still_two, ixD0, ixD1, ixD2, ixD3, ixD4, ixD5, Nat.reduceAdd, Nat.reduceSub, Nat.reduceLT, Nat.reduceEqDiff, Nat.lt_add_one, Nat.zero_lt_succ, atD0, atD1, atD2, atD3, atD4, atD5, List.getElem?_cons_zero, List.getElem?_cons_succ, List.set_cons_zero, List.set_cons_succ, Option.some.injEq, D.int.injEq, D.bl.injEq, D.obj.injEq, D.str.injEq, D.tup.injEq, O.lst.injEq, List.cons.injEq, List.length_cons, List.length_nil, exists_eq_left', exists_eq_left, exists_eq, exists_eq', exists_and_left, true_and, and_true, and_self, decide_eq_true_eq, decide_eq_false_iff_not, Bool.not_eq_true', Bool.not_eq_false', Bool.not_true, Bool.not_false, forall_const, imp_self, reduceCtorEq, false_and, and_false, exists_false, or_false, false_or, implies_true, false_implies, true_implies, not_true_eq_false, not_false_eq_true, if_true, if_false, SG]
  unfold isSign at h
  refine ⟨fun h1 => ?_, fun h1 => ?_⟩
  · rw [Bool.and_eq_true] at h1
    obtain ⟨h1, h3⟩ := h1
    rw [h1, h3, Bool.true_and, Bool.and_true] at h
    refine ⟨hs, ?_⟩
    have e : decide ((s.length : Int) ≤ 6) = decide (s.length ≤ 6) := decide_eq_decide.mpr (by omega)
    rw [e]
    exact h
  · have e : (isW s && (decide (s.length ≤ 6) && !decide (s ∈ RES))) = false := by
      cases hw : isW s
      · rfl
      · rw [hw, Bool.true_and] at h1
        rw [h1]; simp
    rw [e] at h
    exact h
theorem right_end {k : Nat} {st : Sto} {d : D} {x1 x2 x3 x5 x6 x7 x8 x9 : Option D} {a b c : Bool} {Q : KD} {E : XD}
    (hN : ∀ K : KD, K (.bl a) st → wCall GG TT (k + 2) 1 [d] st K E) (hS : ∀ K : KD, K (.bl b) st → wCall GG TT (k + 2) 2 [d] st K E) (hD : ∀ K : KD, K (.bl c) st → wCall GG TT (k + 2) 3 [d] st K E)
    (h : Q (.bl true) st) : wS GG (wCall GG TT (k + 2)) b__law_right_6 [some d, x1, x2, x3, some (.tup [.bl a, .bl b, .bl c]), x5, x6, x7, x8, x9] st (bodyEn st Q E) := by
  simp only [wS, wE, wEs, wT_tn, wT_tt, wTs_nil, wTs_cons, wAnd, wOr, wO, wIf, rdV, argN, tyB, b_add, b_sub, b_mul, b_fdiv, b_mod, b_adds, b_addt, b_addo, b_muls, b_mulo, c_eq, c_ne, c_lt, c_le, c_gt, c_ge, c_eqs, c_nes, c_eqb, c_neb, c_in1, c_nin1, c_init, c_ninit, c_inio, c_ninio, i_objs, dOk_int, dOk_str, o_sets, m_get1, m_get2, m_setd, t_get, t_setd, O.dic.injEq, c_inso, c_inst, c_ninso, c_ninst, f_lenS, f_tupS, i_tS, v_tS, y_tS, c_inS, c_ninS, isN_tS, c_isn, c_isntn, c_isb, c_isntb, isN_non, isN_int, isN_str, isN_tup, isN_bl, isN_obj, sq_tup, sq_fro, sq_obj, i_str, i_obj, i_tup, i_fro, s_str, s_tup, s_fro, s_obj, f_lens, f_lent, f_lenf, f_leno, f_inti, f_intb, f_boolb, f_sum, f_all, f_any, f_tupt, f_tupo, f_lstt, f_lsto, f_min, f_max, f_abs, f_stri, m_app, m_popi, m_ins, m_idxi, m_idxs, m_split, m_words, t_ins, t_idx, t_idxf, t_split,  m_ext, m_pop, m_join, t_app, t_ext, t_pop, t_join, o_set, y_non, y_int, y_bl, y_str, y_tup, y_fro, y_obj, v_tup, v_tI, v_fro, v_str, v_obj, z_tup, z_to, z_ot, z_obj, f_tups, t_idxt, en_obj, en_tup, rv_obj, rv_tup, s_tI, b_addI, f_lenI, f_tupI, f_lstI, i_tI, y_tI, isN_tI, tI_nil, still_nil, still_one, still_two, ixD0, ixD1, ixD2, ixD3, ixD4, ixD5, Nat.reduceAdd, Nat.reduceSub, Nat.reduceLT, Nat.reduceEqDiff, Nat.lt_add_one, Nat.zero_lt_succ, atD0, atD1, atD2, atD3, atD4, atD5, List.getElem?_cons_zero, List.getElem?_cons_succ, List.set_cons_zero, List.set_cons_succ, Option.some.injEq, D.int.injEq, D.bl.injEq, D.obj.injEq, D.str.injEq, D.tup.injEq, O.lst.injEq, List.cons.injEq, List.length_cons, List.length_nil, exists_eq_left', exists_eq_left, exists_eq, exists_eq', exists_and_left, true_and, and_true, and_self, decide_eq_true_eq, decide_eq_false_iff_not, Bool.not_eq_true', Bool.not_eq_false', Bool.not_true, Bool.not_false, forall_const, imp_self, reduceCtorEq, false_and, and_false, exists_false, or_false, false_or, implies_true, false_implies, true_implies, not_true_eq_false, not_false_eq_true, if_true, if_false, b__law_right_6]
  refine hN _ ?_
  refine hS _ ?_
  refine hD _ ?_
  simp only [wS, wE, wEs, wT_tn, wT_tt, wTs_nil, wTs_cons, wAnd, wOr, wO, wIf, rdV, argN, tyB, b_add, b_sub, b_mul, b_fdiv, b_mod, b_adds, b_addt, b_addo, b_muls, b_mulo, c_eq, c_ne, c_lt, c_le, c_gt, c_ge, c_eqs, c_nes, c_eqb, c_neb, c_in1, c_nin1, c_init, c_ninit, c_inio, c_ninio, i_objs, dOk_int, dOk_str, o_sets, m_get1, m_get2, m_setd, t_get, t_setd, O.dic.injEq, c_inso, c_inst, c_ninso, c_ninst, f_lenS, f_tupS, i_tS, v_tS, y_tS, c_inS, c_ninS, isN_tS, c_isn, c_isntn, c_isb, c_isntb, isN_non, isN_int, isN_str, isN_tup, isN_bl, isN_obj, sq_tup, sq_fro, sq_obj, i_str, i_obj, i_tup, i_fro, s_str, s_tup, s_fro, s_obj, f_lens, f_lent, f_lenf, f_leno, f_inti, f_intb, f_boolb, f_sum, f_all, f_any, f_tupt, f_tupo, f_lstt, f_lsto, f_min, f_max, f_abs, f_stri, m_app, m_popi, m_ins, m_idxi, m_idxs, m_split, m_words, t_ins, t_idx, t_idxf, t_split,  m_ext, m_pop, m_join, t_app, t_ext, t_pop, t_join, o_set, y_non, y_int, y_bl, y_str, y_tup, y_fro, y_obj, v_tup, v_tI, v_fro, v_str, v_obj, z_tup, z_to, z_ot, z_obj, f_tups, t_idxt, en_obj, en_tup, rv_obj, rv_tup, s_tI, b_addI, f_lenI, f_tupI, f_lstI, i_tI, y_tI, isN_tI, tI_nil, still_nil, still_one, still_two, ixD0, ixD1, ixD2, ixD3, ixD4, ixD5, Nat.reduceAdd, Nat.reduceSub, Nat.reduceLT, Nat.reduceEqDiff, Nat.lt_add_one, Nat.zero_lt_succ, atD0, atD1, atD2, atD3, atD4, atD5, List.getElem?_cons_zero, List.getElem?_cons_succ, List.set_cons_zero, List.set_cons_succ, Option.some.injEq, D.int.injEq, D.bl.injEq, D.obj.injEq, D.str.injEq, D.tup.injEq, O.lst.injEq, List.cons.injEq, List.length_cons, List.length_nil, exists_eq_left', exists_eq_left, exists_eq, exists_eq', exists_and_left, true_and, and_true, and_self, decide_eq_true_eq, decide_eq_false_iff_not, Bool.not_eq_true', Bool.not_eq_false', Bool.not_true, Bool.not_false, forall_const, imp_self, reduceCtorEq, false_and, and_false, exists_false, or_false, false_or, implies_true, false_implies, true_implies, not_true_eq_false, not_false_eq_true, if_true, if_false, b__law_right_7, wI, wipeE]
  refine ⟨by decide, ?_⟩
  refine compW_map (fun _ => .bl true) (by show (3:Nat) ≤ _; omega) (fun acc => by simp only [wS, wE, wEs, wT_tn, wT_tt, wTs_nil, wTs_cons, wAnd, wOr, wO, wIf, rdV, argN, tyB, b_add, b_sub, b_mul, b_fdiv, b_mod, b_adds, b_addt, b_addo, b_muls, b_mulo, c_eq, c_ne, c_lt, c_le, c_gt, c_ge, c_eqs, c_nes, c_eqb, c_neb, c_in1, c_nin1, c_init, c_ninit, c_inio, c_ninio, i_objs, dOk_int, dOk_str, o_sets, m_get1, m_get2, m_setd, t_get, t_setd, O.dic.injEq, c_inso, c_inst, c_ninso, c_ninst, f_lenS, f_tupS, i_tS, v_tS, y_tS, c_inS, c_ninS, isN_tS, c_isn, c_isntn, c_isb, c_isntb, isN_non, isN_int, isN_str, isN_tup, isN_bl, isN_obj, sq_tup, sq_fro, sq_obj, i_str, i_obj, i_tup, i_fro, s_str, s_tup, s_fro, s_obj, f_lens, f_lent, f_lenf, f_leno, f_inti, f_intb, f_boolb, f_sum, f_all, f_any, f_tupt, f_tupo, f_lstt, f_lsto, f_min, f_max, f_abs, f_stri, m_app, m_popi, m_ins, m_idxi, m_idxs, m_split, m_words, t_ins, t_idx, t_idxf, t_split,  m_ext, m_pop, m_join, t_app, t_ext, t_pop, t_join, o_set, y_non, y_int, y_bl, y_str, y_tup, y_fro, y_obj, v_tup, v_tI, v_fro, v_str, v_obj, z_tup, z_to, z_ot, z_obj, f_tups, t_idxt, en_obj, en_tup, rv_obj, rv_tup, s_tI, b_addI, f_lenI, f_tupI, f_lstI, i_tI, y_tI, isN_tI, tI_nil, still_nil, still_one, still_two, ixD0, ixD1, ixD2, ixD3, ixD4, ixD5, Nat.reduceAdd, Nat.reduceSub, Nat.reduceLT, Nat.reduceEqDiff, Nat.lt_add_one, Nat.zero_lt_succ, atD0, atD1, atD2, atD3, atD4, atD5, List.getElem?_cons_zero, List.getElem?_cons_succ, List.set_cons_zero, List.set_cons_succ, Option.some.injEq, D.int.injEq, D.bl.injEq, D.obj.injEq, D.str.injEq, D.tup.injEq, O.lst.injEq, List.cons.injEq, List.length_cons, List.length_nil, exists_eq_left', exists_eq_left, exists_eq, exists_eq', exists_and_left, true_and, and_true, and_self, decide_eq_true_eq, decide_eq_false_iff_not, Bool.not_eq_true', Bool.not_eq_false', Bool.not_true, Bool.not_false, forall_const, imp_self, reduceCtorEq, false_and, and_false, exists_false, or_false, false_or, implies_true, false_implies, true_implies, not_true_eq_false, not_false_eq_true, if_true, if_false]) (fun i x acc yes no hx hy => ?_) ?_
  · have hx : x = .bl a ∨ x = .bl b ∨ x = .bl c := by
      have := List.mem_of_getElem? hx
      simpa using this
    rcases hx with rfl | rfl | rfl
    · simp only [wS, wE, wEs, wT_tn, wT_tt, wTs_nil, wTs_cons, wAnd, wOr, wO, wIf, rdV, argN, tyB, b_add, b_sub, b_mul, b_fdiv, b_mod, b_adds, b_addt, b_addo, b_muls, b_mulo, c_eq, c_ne, c_lt, c_le, c_gt, c_ge, c_eqs, c_nes, c_eqb, c_neb, c_in1, c_nin1, c_init, c_ninit, c_inio, c_ninio, i_objs, dOk_int, dOk_str, o_sets, m_get1, m_get2, m_setd, t_get, t_setd, O.dic.injEq, c_inso, c_inst, c_ninso, c_ninst, f_lenS, f_tupS, i_tS, v_tS, y_tS, c_inS, c_ninS, isN_tS, c_isn, c_isntn, c_isb, c_isntb, isN_non, isN_int, isN_str, isN_tup, isN_bl, isN_obj, sq_tup, sq_fro, sq_obj, i_str, i_obj, i_tup, i_fro, s_str, s_tup, s_fro, s_obj, f_lens, f_lent, f_lenf, f_leno, f_inti, f_intb, f_boolb, f_sum, f_all, f_any, f_tupt, f_tupo, f_lstt, f_lsto, f_min, f_max, f_abs, f_stri, m_app, m_popi, m_ins, m_idxi, m_idxs, m_split, m_words, t_ins, t_idx, t_idxf, t_split,  m_ext, m_pop, m_join, t_app, t_ext, t_pop, t_join, o_set, y_non, y_int, y_bl, y_str, y_tup, y_fro, y_obj, v_tup, v_tI, v_fro, v_str, v_obj, z_tup, z_to, z_ot, z_obj, f_tups, t_idxt, en_obj, en_tup, rv_obj, rv_tup, s_tI, b_addI, f_lenI, f_tupI, f_lstI, i_tI, y_tI, isN_tI, tI_nil, still_nil, still_one, still_two, ixD0, ixD1, ixD2, ixD3, ixD4, ixD5, Nat.reduceAdd, Nat.reduceSub, Nat.reduceLT, Nat.reduceEqDiff, Nat.lt_add_one, Nat.zero_lt_succ, atD0, atD1, atD2, atD3, atD4, atD5, List.getElem?_cons_zero, List.getElem?_cons_succ, List.set_cons_zero, List.set_cons_succ, Option.some.injEq, D.int.injEq, D.bl.injEq, D.obj.injEq, D.str.injEq, D.tup.injEq, O.lst.injEq, List.cons.injEq, List.length_cons, List.length_nil, exists_eq_left', exists_eq_left, exists_eq, exists_eq', exists_and_left, true_and, and_true, and_self, decide_eq_true_eq, decide_eq_false_iff_not, Bool.not_eq_true', Bool.not_eq_false', Bool.not_true, Bool.not_false, forall_const, imp_self, reduceCtorEq, false_and, and_false, exists_false, or_false, false_or, implies_true, false_implies, true_implies, not_true_eq_false, not_false_eq_true, if_true, if_false]; exact hy
    · simp only [wS, wE, wEs, wT_tn, wT_tt, wTs_nil, wTs_cons, wAnd, wOr, wO, wIf, rdV, argN, tyB, b_add, b_sub, b_mul, b_fdiv, b_mod, b_adds, b_addt, b_addo, b_muls, b_mulo, c_eq, c_ne, c_lt, c_le, c_gt, c_ge, c_eqs, c_nes, c_eqb, c_neb, c_in1, c_nin1, c_init, c_ninit, c_inio, c_ninio, i_objs, dOk_int, dOk_str, o_sets, m_get1, m_get2, m_setd, t_get, t_setd, O.dic.injEq, c_inso, c_inst, c_ninso, c_ninst, f_lenS, f_tupS, i_tS, v_tS, y_tS, c_inS, c_ninS, isN_tS, c_isn, c_isntn, c_isb, c_isntb, isN_non, isN_int, isN_str, isN_tup, isN_bl, isN_obj, sq_tup, sq_fro, sq_obj, i_str, i_obj, i_tup, i_fro, s_str, s_tup, s_fro, s_obj, f_lens, f_lent, f_lenf, f_leno, f_inti, f_intb, f_boolb, f_sum, f_all, f_any, f_tupt, f_tupo, f_lstt, f_lsto, f_min, f_max, f_abs, f_stri, m_app, m_popi, m_ins, m_idxi, m_idxs, m_split, m_words, t_ins, t_idx, t_idxf, t_split,  m_ext, m_pop, m_join, t_app, t_ext, t_pop, t_join, o_set, y_non, y_int, y_bl, y_str, y_tup, y_fro, y_obj, v_tup, v_tI, v_fro, v_str, v_obj, z_tup, z_to, z_ot, z_obj, f_tups, t_idxt, en_obj, en_tup, rv_obj, rv_tup, s_tI, b_addI, f_lenI, f_tupI, f_lstI, i_tI, y_tI, isN_tI, tI_nil, still_nil, still_one, still_two, ixD0, ixD1, ixD2, ixD3, ixD4, ixD5, Nat.reduceAdd, Nat.reduceSub, Nat.reduceLT, Nat.reduceEqDiff, Nat.lt_add_one, Nat.zero_lt_succ, atD0, atD1, atD2, atD3, atD4, atD5, List.getElem?_cons_zero, List.getElem?_cons_succ, List.set_cons_zero, List.set_cons_succ, Option.some.injEq, D.int.injEq, D.bl.injEq, D.obj.injEq, D.str.injEq, D.tup.injEq, O.lst.injEq, List.cons.injEq, List.length_cons, List.length_nil, exists_eq_left', exists_eq_left, exists_eq, exists_eq', exists_and_left, true_and, and_true, and_self, decide_eq_true_eq, decide_eq_false_iff_not, Bool.not_eq_true', Bool.not_eq_false', Bool.not_true, Bool.not_false, forall_const, imp_self, reduceCtorEq, false_and, and_false, exists_false, or_false, false_or, implies_true, false_implies, true_implies, not_true_eq_false, not_false_eq_true, if_true, if_false]; exact hy
    · simp only [wS, wE, wEs, wT_tn, wT_tt, wTs_nil, wTs_cons, wAnd, wOr, wO, wIf, rdV, argN, tyB, b_add, b_sub, b_mul, b_fdiv, b_mod, b_adds, b_addt, b_addo, b_muls, b_mulo, c_eq, c_ne, c_lt, c_le, c_gt, c_ge, c_eqs, c_nes, c_eqb, c_neb, c_in1, c_nin1, c_init, c_ninit, c_inio, c_ninio, i_objs, dOk_int, dOk_str, o_sets, m_get1, m_get2, m_setd, t_get, t_setd, O.dic.injEq, c_inso, c_inst, c_ninso, c_ninst, f_lenS, f_tupS, i_tS, v_tS, y_tS, c_inS, c_ninS, isN_tS, c_isn, c_isntn, c_isb, c_isntb, isN_non, isN_int, isN_str, isN_tup, isN_bl, isN_obj, sq_tup, sq_fro, sq_obj, i_str, i_obj, i_tup, i_fro, s_str, s_tup, s_fro, s_obj, f_lens, f_lent, f_lenf, f_leno, f_inti, f_intb, f_boolb, f_sum, f_all, f_any, f_tupt, f_tupo, f_lstt, f_lsto, f_min, f_max, f_abs, f_stri, m_app, m_popi, m_ins, m_idxi, m_idxs, m_split, m_words, t_ins, t_idx, t_idxf, t_split,  m_ext, m_pop, m_join, t_app, t_ext, t_pop, t_join, o_set, y_non, y_int, y_bl, y_str, y_tup, y_fro, y_obj, v_tup, v_tI, v_fro, v_str, v_obj, z_tup, z_to, z_ot, z_obj, f_tups, t_idxt, en_obj, en_tup, rv_obj, rv_tup, s_tI, b_addI, f_lenI, f_tupI, f_lstI, i_tI, y_tI, isN_tI, tI_nil, still_nil, still_one, still_two, ixD0, ixD1, ixD2, ixD3, ixD4, ixD5, Nat.reduceAdd, Nat.reduceSub, Nat.reduceLT, Nat.reduceEqDiff, Nat.lt_add_one, Nat.zero_lt_succ, atD0, atD1, atD2, atD3, atD4, atD5, List.getElem?_cons_zero, List.getElem?_cons_succ, List.set_cons_zero, List.set_cons_succ, Option.some.injEq, D.int.injEq, D.bl.injEq, D.obj.injEq, D.str.injEq, D.tup.injEq, O.lst.injEq, List.cons.injEq, List.length_cons, List.length_nil, exists_eq_left', exists_eq_left, exists_eq, exists_eq', exists_and_left, true_and, and_true, and_self, decide_eq_true_eq, decide_eq_false_iff_not, Bool.not_eq_true', Bool.not_eq_false', Bool.not_true, Bool.not_false, forall_const, imp_self, reduceCtorEq, false_and, and_false, exists_false, or_false, false_or, implies_true, false_implies, true_implies, not_true_eq_false, not_false_eq_true, if_true, if_false]; exact hy
  · simp only [wS, wE, wEs, wT_tn, wT_tt, wTs_nil, wTs_cons, wAnd, wOr, wO, wIf, rdV, argN, tyB, b_add, b_sub, b_mul, b_fdiv, b_mod, b_adds, b_addt, b_addo, b_muls, b_mulo, c_eq, c_ne, c_lt, c_le, c_gt, c_ge, c_eqs, c_nes, c_eqb, c_neb, c_in1, c_nin1, c_init, c_ninit, c_inio, c_ninio, i_objs, dOk_int, dOk_str, o_sets, m_get1, m_get2, m_setd, t_get, t_setd, O.dic.injEq, c_inso, c_inst, c_ninso, c_ninst, f_lenS, f_tupS, i_tS, v_tS, y_tS, c_inS, c_ninS, isN_tS, c_isn, c_isntn, c_isb, c_isntb, isN_non, isN_int, isN_str, isN_tup, isN_bl, isN_obj, sq_tup, sq_fro, sq_obj, i_str, i_obj, i_tup, i_fro, s_str, s_tup, s_fro, s_obj, f_lens, f_lent, f_lenf, f_leno, f_inti, f_intb, f_boolb, f_sum, f_all, f_any, f_tupt, f_tupo, f_lstt, f_lsto, f_min, f_max, f_abs, f_stri, m_app, m_popi, m_ins, m_idxi, m_idxs, m_split, m_words, t_ins, t_idx, t_idxf, t_split,  m_ext, m_pop, m_join, t_app, t_ext, t_pop, t_join, o_set, y_non, y_int, y_bl, y_str, y_tup, y_fro, y_obj, v_tup, v_tI, v_fro, v_str, v_obj, z_tup, z_to, z_ot, z_obj, f_tups, t_idxt, en_obj, en_tup, rv_obj, rv_tup, s_tI, b_addI, f_lenI, f_tupI, f_lstI, i_tI, y_tI, isN_tI, tI_nil, still_nil, still_one, still_two, ixD0, ixD1, ixD2, ixD3, ixD4, ixD5, Nat.reduceAdd, Nat.reduceSub, Nat.reduceLT, Nat.reduceEqDiff, Nat.lt_add_one, Nat.zero_lt_succ, atD0, atD1, atD2, atD3, atD4, atD5, List.getElem?_cons_zero, List.getElem?_cons_succ, List.set_cons_zero, List.set_cons_succ, Option.some.injEq, D.int.injEq, D.bl.injEq, D.obj.injEq, D.str.injEq, D.tup.injEq, O.lst.injEq, List.cons.injEq, List.length_cons, List.length_nil, exists_eq_left', exists_eq_left, exists_eq, exists_eq', exists_and_left, true_and, and_true, and_self, decide_eq_true_eq, decide_eq_false_iff_not, Bool.not_eq_true', Bool.not_eq_false', Bool.not_true, Bool.not_false, forall_const, imp_self, reduceCtorEq, false_and, and_false, exists_false, or_false, false_or, implies_true, false_implies, true_implies, not_true_eq_false, not_false_eq_true, if_true, if_false]
    refine ⟨[true, true, true], app_last, gc_same rfl ?_⟩
    simp only [wS, wE, wEs, wT_tn, wT_tt, wTs_nil, wTs_cons, wAnd, wOr, wO, wIf, rdV, argN, tyB, b_add, b_sub, b_mul, b_fdiv, b_mod, b_adds, b_addt, b_addo, b_muls, b_mulo, c_eq, c_ne, c_lt, c_le, c_gt, c_ge, c_eqs, c_nes, c_eqb, c_neb, c_in1, c_nin1, c_init, c_ninit, c_inio, c_ninio, i_objs, dOk_int, dOk_str, o_sets, m_get1, m_get2, m_setd, t_get, t_setd, O.dic.injEq, c_inso, c_inst, c_ninso, c_ninst, f_lenS, f_tupS, i_tS, v_tS, y_tS, c_inS, c_ninS, isN_tS, c_isn, c_isntn, c_isb, c_isntb, isN_non, isN_int, isN_str, isN_tup, isN_bl, isN_obj, sq_tup, sq_fro, sq_obj, i_str, i_obj, i_tup, i_fro, s_str, s_tup, s_fro, s_obj, f_lens, f_lent, f_lenf, f_leno, f_inti, f_intb, f_boolb, f_sum, f_all, f_any, f_tupt, f_tupo, f_lstt, f_lsto, f_min, f_max, f_abs, f_stri, m_app, m_popi, m_ins, m_idxi, m_idxs, m_split, m_words, t_ins, t_idx, t_idxf, t_split,  m_ext, m_pop, m_join, t_app, t_ext, t_pop, t_join, o_set, y_non, y_int, y_bl, y_str, y_tup, y_fro, y_obj, v_tup, v_tI, v_fro, v_str, v_obj, z_tup, z_to, z_ot, z_obj, f_tups, t_idxt, en_obj, en_tup, rv_obj, rv_tup, s_tI, b_addI, f_lenI, f_tupI, f_lstI, i_tI, y_tI, isN_tI, tI_nil, still_nil, still_one, still_two, ixD0, ixD1, ixD2, ixD3, ixD4, ixD5, Nat.reduceAdd, Nat.reduceSub, Nat.reduceLT, Nat.reduceEqDiff, Nat.lt_add_one, Nat.zero_lt_succ, atD0, atD1, atD2, atD3, atD4, atD5, List.getElem?_cons_zero, List.getElem?_cons_succ, List.set_cons_zero, List.set_cons_succ, Option.some.injEq, D.int.injEq, D.bl.injEq, D.obj.injEq, D.str.injEq, D.tup.injEq, O.lst.injEq, List.cons.injEq, List.length_cons, List.length_nil, exists_eq_left', exists_eq_left, exists_eq, exists_eq', exists_and_left, true_and, and_true, and_self, decide_eq_true_eq, decide_eq_false_iff_not, Bool.not_eq_true', Bool.not_eq_false', Bool.not_true, Bool.not_false, forall_const, imp_self, reduceCtorEq, false_and, and_false, exists_false, or_false, false_or, implies_true, false_implies, true_implies, not_true_eq_false, not_false_eq_true, if_true, if_false]
    exact ⟨fun _ => eq3 (.inl h), fun z => absurd z (by decide)⟩
theorem right_ok {k n m : Nat} {st : Sto} {d : D} {kvs : List (D × D)} {Q : KD} {E : XD} (hd : Vd d) (hn : st[n]? = some (.lst (RES.map D.str))) (hm : st[m]? = some (.dic false kvs)) (hk : ∀ s, (dGet kvs (.str s)).isSome = isNum s)
    (h : Q (.bl true) st) : wCall GG TT (k + 3) 15 [d, .obj n, .obj m] st Q E := by
  refine wCall_in (fn := f__law_right) rfl rfl rfl ?_
  show wS _ _ b__law_right_0 [some (d), some (.obj n), some (.obj m), none, none, none, none, none, none, none] _ _
  simp only [wS, wE, wEs, wT_tn, wT_tt, wTs_nil, wTs_cons, wAnd, wOr, wO, wIf, rdV, argN, tyB, b_add, b_sub, b_mul, b_fdiv, b_mod, b_adds, b_addt, b_addo, b_muls, b_mulo, c_eq, c_ne, c_lt, c_le, c_gt, c_ge, c_eqs, c_nes, c_eqb, c_neb, c_in1, c_nin1, c_init, c_ninit, c_inio, c_ninio, i_objs, dOk_int, dOk_str, o_sets, m_get1, m_get2, m_setd, t_get, t_setd, O.dic.injEq, c_inso, c_inst, c_ninso, c_ninst, f_lenS, f_tupS, i_tS, v_tS, y_tS, c_inS, c_ninS, isN_tS, c_isn, c_isntn, c_isb, c_isntb, isN_non, isN_int, isN_str, isN_tup, isN_bl, isN_obj, sq_tup, sq_fro, sq_obj, i_str, i_obj, i_tup, i_fro, s_str, s_tup, s_fro, s_obj, f_lens, f_lent, f_lenf, f_leno, f_inti, f_intb, f_boolb, f_sum, f_all, f_any, f_tupt, f_tupo, f_lstt, f_lsto, f_min, f_max, f_abs, f_stri, m_app, m_popi, m_ins, m_idxi, m_idxs, m_split, m_words, t_ins, t_idx, t_idxf, t_split,  m_ext, m_pop, m_join, t_app, t_ext, t_pop, t_join, o_set, y_non, y_int, y_bl, y_str, y_tup, y_fro, y_obj, v_tup, v_tI, v_fro, v_str, v_obj, z_tup, z_to, z_ot, z_obj, f_tups, t_idxt, en_obj, en_tup, rv_obj, rv_tup, s_tI, b_addI, f_lenI, f_tupI, f_lstI, i_tI, y_tI, isN_tI, tI_nil, still_nil, still_one, still_two, ixD0, ixD1, ixD2, ixD3, ixD4, ixD5, Nat.reduceAdd, Nat.reduceSub, Nat.reduceLT, Nat.reduceEqDiff, Nat.lt_add_one, Nat.zero_lt_succ, atD0, atD1, atD2, atD3, atD4, atD5, List.getElem?_cons_zero, List.getElem?_cons_succ, List.set_cons_zero, List.set_cons_succ, Option.some.injEq, D.int.injEq, D.bl.injEq, D.obj.injEq, D.str.injEq, D.tup.injEq, O.lst.injEq, List.cons.injEq, List.length_cons, List.length_nil, exists_eq_left', exists_eq_left, exists_eq, exists_eq', exists_and_left, true_and, and_true, and_self, decide_eq_true_eq, decide_eq_false_iff_not, Bool.not_eq_true', Bool.not_eq_false', Bool.not_true, Bool.not_false, forall_const, imp_self, reduceCtorEq, false_and, and_false, exists_false, or_false, false_or, implies_true, false_implies, true_implies, not_true_eq_false, not_false_eq_true, if_true, if_false, b__law_right_0]
  simp only [wS, wE, wEs, wT_tn, wT_tt, wTs_nil, wTs_cons, wAnd, wOr, wO, wIf, rdV, argN, tyB, b_add, b_sub, b_mul, b_fdiv, b_mod, b_adds, b_addt, b_addo, b_muls, b_mulo, c_eq, c_ne, c_lt, c_le, c_gt, c_ge, c_eqs, c_nes, c_eqb, c_neb, c_in1, c_nin1, c_init, c_ninit, c_inio, c_ninio, i_objs, dOk_int, dOk_str, o_sets, m_get1, m_get2, m_setd, t_get, t_setd, O.dic.injEq, c_inso, c_inst, c_ninso, c_ninst, f_lenS, f_tupS, i_tS, v_tS, y_tS, c_inS, c_ninS, isN_tS, c_isn, c_isntn, c_isb, c_isntb, isN_non, isN_int, isN_str, isN_tup, isN_bl, isN_obj, sq_tup, sq_fro, sq_obj, i_str, i_obj, i_tup, i_fro, s_str, s_tup, s_fro, s_obj, f_lens, f_lent, f_lenf, f_leno, f_inti, f_intb, f_boolb, f_sum, f_all, f_any, f_tupt, f_tupo, f_lstt, f_lsto, f_min, f_max, f_abs, f_stri, m_app, m_popi, m_ins, m_idxi, m_idxs, m_split, m_words, t_ins, t_idx, t_idxf, t_split,  m_ext, m_pop, m_join, t_app, t_ext, t_pop, t_join, o_set, y_non, y_int, y_bl, y_str, y_tup, y_fro, y_obj, v_tup, v_tI, v_fro, v_str, v_obj, z_tup, z_to, z_ot, z_obj, f_tups, t_idxt, en_obj, en_tup, rv_obj, rv_tup, s_tI, b_addI, f_lenI, f_tupI, f_lstI, i_tI, y_tI, isN_tI, tI_nil, still_nil, still_one, still_two, ixD0, ixD1, ixD2, ixD3, ixD4, ixD5, Nat.reduceAdd, Nat.reduceSub, Nat.reduceLT, Nat.reduceEqDiff, Nat.lt_add_one, Nat.zero_lt_succ, atD0, atD1, atD2, atD3, atD4, atD5, List.getElem?_cons_zero, List.getElem?_cons_succ, List.set_cons_zero, List.set_cons_succ, Option.some.injEq, D.int.injEq, D.bl.injEq, D.obj.injEq, D.str.injEq, D.tup.injEq, O.lst.injEq, List.cons.injEq, List.length_cons, List.length_nil, exists_eq_left', exists_eq_left, exists_eq, exists_eq', exists_and_left, true_and, and_true, and_self, decide_eq_true_eq, decide_eq_false_iff_not, Bool.not_eq_true', Bool.not_eq_false', Bool.not_true, Bool.not_false, forall_const, imp_self, reduceCtorEq, false_and, and_false, exists_false, or_false, false_or, implies_true, false_implies, true_implies, not_true_eq_false, not_false_eq_true, if_true, if_false, b__law_right_1]
  refine ⟨by decide, ?_⟩
  simp only [wS, wE, wEs, wT_tn, wT_tt, wTs_nil, wTs_cons, wAnd, wOr, wO, wIf, rdV, argN, tyB, b_add, b_sub, b_mul, b_fdiv, b_mod, b_adds, b_addt, b_addo, b_muls, b_mulo, c_eq, c_ne, c_lt, c_le, c_gt, c_ge, c_eqs, c_nes, c_eqb, c_neb, c_in1, c_nin1, c_init, c_ninit, c_inio, c_ninio, i_objs, dOk_int, dOk_str, o_sets, m_get1, m_get2, m_setd, t_get, t_setd, O.dic.injEq, c_inso, c_inst, c_ninso, c_ninst, f_lenS, f_tupS, i_tS, v_tS, y_tS, c_inS, c_ninS, isN_tS, c_isn, c_isntn, c_isb, c_isntb, isN_non, isN_int, isN_str, isN_tup, isN_bl, isN_obj, sq_tup, sq_fro, sq_obj, i_str, i_obj, i_tup, i_fro, s_str, s_tup, s_fro, s_obj, f_lens, f_lent, f_lenf, f_leno, f_inti, f_intb, f_boolb, f_sum, f_all, f_any, f_tupt, f_tupo, f_lstt, f_lsto, f_min, f_max, f_abs, f_stri, m_app, m_popi, m_ins, m_idxi, m_idxs, m_split, m_words, t_ins, t_idx, t_idxf, t_split,  m_ext, m_pop, m_join, t_app, t_ext, t_pop, t_join, o_set, y_non, y_int, y_bl, y_str, y_tup, y_fro, y_obj, v_tup, v_tI, v_fro, v_str, v_obj, z_tup, z_to, z_ot, z_obj, f_tups, t_idxt, en_obj, en_tup, rv_obj, rv_tup, s_tI, b_addI, f_lenI, f_tupI, f_lstI, i_tI, y_tI, isN_tI, tI_nil, still_nil, still_one, still_two, ixD0, ixD1, ixD2, ixD3, ixD4, ixD5, Nat.reduceAdd, Nat.reduceSub, Nat.reduceLT, Nat.reduceEqDiff, Nat.lt_add_one, Nat.zero_lt_succ, atD0, atD1, atD2, atD3, atD4, atD5, List.getElem?_cons_zero, List.getElem?_cons_succ, List.set_cons_zero, List.set_cons_succ, Option.some.injEq, D.int.injEq, D.bl.injEq, D.obj.injEq, D.str.injEq, D.tup.injEq, O.lst.injEq, List.cons.injEq, List.length_cons, List.length_nil, exists_eq_left', exists_eq_left, exists_eq, exists_eq', exists_and_left, true_and, and_true, and_self, decide_eq_true_eq, decide_eq_false_iff_not, Bool.not_eq_true', Bool.not_eq_false', Bool.not_true, Bool.not_false, forall_const, imp_self, reduceCtorEq, false_and, and_false, exists_false, or_false, false_or, implies_true, false_implies, true_implies, not_true_eq_false, not_false_eq_true, if_true, if_false, b__law_right_2]
  rcases hd with ⟨s, rfl, hs⟩ | hd
  · have hz : s.length ≤ 16777216 := by omega
    have fin : ∀ x7 x8 x9, wS GG (wCall GG TT (k + 2)) b__law_right_4 [some (.str s), some (.obj n), some (.obj m), some (.str LET), some (.tup [.bl false, .bl false, .bl false]), some (.bl (isW s)), x7, x8, x9, none] st
      { nx := fun env st_1 => wS GG (wCall GG TT (k + 2)) b__law_right_6 env st_1 (bodyEn st Q E), rt := (bodyEn st Q E).rt, bk := (bodyEn st Q E).bk, ct := (bodyEn st Q E).ct, ex := (bodyEn st Q E).ex } := by
      intro x7 x8 x9
      have go : ∀ f : Bool, f = (isW s && !decide (s ∈ RES)) → wS GG (wCall GG TT (k + 2)) b__law_right_5 [some (.str s), some (.obj n), some (.obj m), some (.str LET), some (.tup [.bl false, .bl false, .bl false]), some (.bl (isW s)), some (.bl f), x8, x9, none] st
        { nx := fun env st_1 => wS GG (wCall GG TT (k + 2)) b__law_right_6 env st_1 (bodyEn st Q E), rt := (bodyEn st Q E).rt, bk := (bodyEn st Q E).bk, ct := (bodyEn st Q E).ct, ex := (bodyEn st Q E).ex } := by
        rintro f rfl
        unfold b__law_right_5
        show wE _ _ NM _ _ _ _
        refine nm_ok hz ?_
        show wE _ _ SG _ _ _ _
        refine sg_ok hz ?_
        simp only [wS, wE, wEs, wT_tn, wT_tt, wTs_nil, wTs_cons, wAnd, wOr, wO, wIf, rdV, argN, tyB, b_add, b_sub, b_mul, b_fdiv, b_mod, b_adds, b_addt, b_addo, b_muls, b_mulo, c_eq, c_ne, c_lt, c_le, c_gt, c_ge, c_eqs, c_nes, c_eqb, c_neb, c_in1, c_nin1, c_init, c_ninit, c_inio, c_ninio, i_objs, dOk_int, dOk_str, o_sets, m_get1, m_get2, m_setd, t_get, t_setd, O.dic.injEq, c_inso, c_inst, c_ninso, c_ninst, f_lenS, f_tupS, i_tS, v_tS, y_tS, c_inS, c_ninS, isN_tS, c_isn, c_isntn, c_isb, c_isntb, isN_non, isN_int, isN_str, isN_tup, isN_bl, isN_obj, sq_tup, sq_fro, sq_obj, i_str, i_obj, i_tup, i_fro, s_str, s_tup, s_fro, s_obj, f_lens, f_lent, f_lenf, f_leno, f_inti, f_intb, f_boolb, f_sum, f_all, f_any, f_tupt, f_tupo, f_lstt, f_lsto, f_min, f_max, f_abs, f_stri, m_app, m_popi, m_ins, m_idxi, m_idxs, m_split, m_words, t_ins, t_idx, t_idxf, t_split,  m_ext, m_pop, m_join, t_app, t_ext, t_pop, t_join, o_set, y_non, y_int, y_bl, y_str, y_tup, y_fro, y_obj, v_tup, v_tI, v_fro, v_str, v_obj, z_tup, z_to, z_ot, z_obj, f_tups, t_idxt, en_obj, en_tup, rv_obj, rv_tup, s_tI, b_addI, f_lenI, f_tupI, f_lstI, i_tI, y_tI, isN_tI, tI_nil, still_nil, still_one, still_two, ixD0, ixD1, ixD2, ixD3, ixD4, ixD5, Nat.reduceAdd, Nat.reduceSub, Nat.reduceLT, Nat.reduceEqDiff, Nat.lt_add_one, Nat.zero_lt_succ, atD0, atD1, atD2, atD3, atD4, atD5, List.getElem?_cons_zero, List.getElem?_cons_succ, List.set_cons_zero, List.set_cons_succ, Option.some.injEq, D.int.injEq, D.bl.injEq, D.obj.injEq, D.str.injEq, D.tup.injEq, O.lst.injEq, List.cons.injEq, List.length_cons, List.length_nil, exists_eq_left', exists_eq_left, exists_eq, exists_eq', exists_and_left, true_and, and_true, and_self, decide_eq_true_eq, decide_eq_false_iff_not, Bool.not_eq_true', Bool.not_eq_false', Bool.not_true, Bool.not_false, forall_const, imp_self, reduceCtorEq, false_and, and_false, exists_false, or_false, false_or, implies_true, false_implies, true_implies, not_true_eq_false, not_false_eq_true, if_true, if_false, hm]
        refine ⟨false, kvs, ⟨rfl, rfl⟩, rfl, by decide, ?_⟩
        rw [hk]
        exact right_end (fun K q => isname_ok hz q) (fun K q => issign_ok hz q) (fun K q => isnumber_ok hz q) h
      simp only [wS, wE, wEs, wT_tn, wT_tt, wTs_nil, wTs_cons, wAnd, wOr, wO, wIf, rdV, argN, tyB, b_add, b_sub, b_mul, b_fdiv, b_mod, b_adds, b_addt, b_addo, b_muls, b_mulo, c_eq, c_ne, c_lt, c_le, c_gt, c_ge, c_eqs, c_nes, c_eqb, c_neb, c_in1, c_nin1, c_init, c_ninit, c_inio, c_ninio, i_objs, dOk_int, dOk_str, o_sets, m_get1, m_get2, m_setd, t_get, t_setd, O.dic.injEq, c_inso, c_inst, c_ninso, c_ninst, f_lenS, f_tupS, i_tS, v_tS, y_tS, c_inS, c_ninS, isN_tS, c_isn, c_isntn, c_isb, c_isntb, isN_non, isN_int, isN_str, isN_tup, isN_bl, isN_obj, sq_tup, sq_fro, sq_obj, i_str, i_obj, i_tup, i_fro, s_str, s_tup, s_fro, s_obj, f_lens, f_lent, f_lenf, f_leno, f_inti, f_intb, f_boolb, f_sum, f_all, f_any, f_tupt, f_tupo, f_lstt, f_lsto, f_min, f_max, f_abs, f_stri, m_app, m_popi, m_ins, m_idxi, m_idxs, m_split, m_words, t_ins, t_idx, t_idxf, t_split,  m_ext, m_pop, m_join, t_app, t_ext, t_pop, t_join, o_set, y_non, y_int, y_bl, y_str, y_tup, y_fro, y_obj, v_tup, v_tI, v_fro, v_str, v_obj, z_tup, z_to, z_ot, z_obj, f_tups, t_idxt, en_obj, en_tup, rv_obj, rv_tup, s_tI, b_addI, f_lenI, f_tupI, f_lstI, i_tI, y_tI, isN_tI, tI_nil, still_nil, still_one, still_two, ixD0, ixD1, ixD2, ixD3, ixD4, ixD5, Nat.reduceAdd, Nat.reduceSub, Nat.reduceLT, Nat.reduceEqDiff, Nat.lt_add_one, Nat.zero_lt_succ, atD0, atD1, atD2, atD3, atD4, atD5, List.getElem?_cons_zero, List.getElem?_cons_succ, List.set_cons_zero, List.set_cons_succ, Option.some.injEq, D.int.injEq, D.bl.injEq, D.obj.injEq, D.str.injEq, D.tup.injEq, O.lst.injEq, List.cons.injEq, List.length_cons, List.length_nil, exists_eq_left', exists_eq_left, exists_eq, exists_eq', exists_and_left, true_and, and_true, and_self, decide_eq_true_eq, decide_eq_false_iff_not, Bool.not_eq_true', Bool.not_eq_false', Bool.not_true, Bool.not_false, forall_const, imp_self, reduceCtorEq, false_and, and_false, exists_false, or_false, false_or, implies_true, false_implies, true_implies, not_true_eq_false, not_false_eq_true, if_true, if_false, b__law_right_4, hn, map_str_inj]
      exact ⟨fun h1 => go _ (by rw [h1]; rfl), fun h1 => go _ (by rw [h1]; rfl)⟩
    have none_ : s = [] → isW s = false := fun e => by unfold isW; simp [e]
    simp only [wS, wE, wEs, wT_tn, wT_tt, wTs_nil, wTs_cons, wAnd, wOr, wO, wIf, rdV, argN, tyB, b_add, b_sub, b_mul, b_fdiv, b_mod, b_adds, b_addt, b_addo, b_muls, b_mulo, c_eq, c_ne, c_lt, c_le, c_gt, c_ge, c_eqs, c_nes, c_eqb, c_neb, c_in1, c_nin1, c_init, c_ninit, c_inio, c_ninio, i_objs, dOk_int, dOk_str, o_sets, m_get1, m_get2, m_setd, t_get, t_setd, O.dic.injEq, c_inso, c_inst, c_ninso, c_ninst, f_lenS, f_tupS, i_tS, v_tS, y_tS, c_inS, c_ninS, isN_tS, c_isn, c_isntn, c_isb, c_isntb, isN_non, isN_int, isN_str, isN_tup, isN_bl, isN_obj, sq_tup, sq_fro, sq_obj, i_str, i_obj, i_tup, i_fro, s_str, s_tup, s_fro, s_obj, f_lens, f_lent, f_lenf, f_leno, f_inti, f_intb, f_boolb, f_sum, f_all, f_any, f_tupt, f_tupo, f_lstt, f_lsto, f_min, f_max, f_abs, f_stri, m_app, m_popi, m_ins, m_idxi, m_idxs, m_split, m_words, t_ins, t_idx, t_idxf, t_split,  m_ext, m_pop, m_join, t_app, t_ext, t_pop, t_join, o_set, y_non, y_int, y_bl, y_str, y_tup, y_fro, y_obj, v_tup, v_tI, v_fro, v_str, v_obj, z_tup, z_to, z_ot, z_obj, f_tups, t_idxt, en_obj, en_tup, rv_obj, rv_tup, s_tI, b_addI, f_lenI, f_tupI, f_lstI, i_tI, y_tI, isN_tI, tI_nil, still_nil, still_one, still_two, ixD0, ixD1, ixD2, ixD3, ixD4, ixD5, Nat.reduceAdd, Nat.reduceSub, Nat.reduceLT, Nat.reduceEqDiff, Nat.lt_add_one, Nat.zero_lt_succ, atD0, atD1, atD2, atD3, atD4, atD5, List.getElem?_cons_zero, List.getElem?_cons_succ, List.set_cons_zero, List.set_cons_succ, Option.some.injEq, D.int.injEq, D.bl.injEq, D.obj.injEq, D.str.injEq, D.tup.injEq, O.lst.injEq, List.cons.injEq, List.length_cons, List.length_nil, exists_eq_left', exists_eq_left, exists_eq, exists_eq', exists_and_left, true_and, and_true, and_self, decide_eq_true_eq, decide_eq_false_iff_not, Bool.not_eq_true', Bool.not_eq_false', Bool.not_true, Bool.not_false, forall_const, imp_self, reduceCtorEq, false_and, and_false, exists_false, or_false, false_or, implies_true, false_implies, true_implies, not_true_eq_false, not_false_eq_true, if_true, if_false, b__law_right_3, wI, wipeE]
    refine ⟨fun e => ?_, fun e => ?_⟩
    · refine compW_map (chF fun c => decide (c ∈ LET) || decide (c ∈ DIG)) (by show (s.map _).length ≤ _; rw [List.length_map]; exact hz) (fun acc => by simp only [wS, wE, wEs, wT_tn, wT_tt, wTs_nil, wTs_cons, wAnd, wOr, wO, wIf, rdV, argN, tyB, b_add, b_sub, b_mul, b_fdiv, b_mod, b_adds, b_addt, b_addo, b_muls, b_mulo, c_eq, c_ne, c_lt, c_le, c_gt, c_ge, c_eqs, c_nes, c_eqb, c_neb, c_in1, c_nin1, c_init, c_ninit, c_inio, c_ninio, i_objs, dOk_int, dOk_str, o_sets, m_get1, m_get2, m_setd, t_get, t_setd, O.dic.injEq, c_inso, c_inst, c_ninso, c_ninst, f_lenS, f_tupS, i_tS, v_tS, y_tS, c_inS, c_ninS, isN_tS, c_isn, c_isntn, c_isb, c_isntb, isN_non, isN_int, isN_str, isN_tup, isN_bl, isN_obj, sq_tup, sq_fro, sq_obj, i_str, i_obj, i_tup, i_fro, s_str, s_tup, s_fro, s_obj, f_lens, f_lent, f_lenf, f_leno, f_inti, f_intb, f_boolb, f_sum, f_all, f_any, f_tupt, f_tupo, f_lstt, f_lsto, f_min, f_max, f_abs, f_stri, m_app, m_popi, m_ins, m_idxi, m_idxs, m_split, m_words, t_ins, t_idx, t_idxf, t_split,  m_ext, m_pop, m_join, t_app, t_ext, t_pop, t_join, o_set, y_non, y_int, y_bl, y_str, y_tup, y_fro, y_obj, v_tup, v_tI, v_fro, v_str, v_obj, z_tup, z_to, z_ot, z_obj, f_tups, t_idxt, en_obj, en_tup, rv_obj, rv_tup, s_tI, b_addI, f_lenI, f_tupI, f_lstI, i_tI, y_tI, isN_tI, tI_nil, still_nil, still_one, still_two, ixD0, ixD1, ixD2, ixD3, ixD4, ixD5, Nat.reduceAdd, Nat.reduceSub, Nat.reduceLT, Nat.reduceEqDiff, Nat.lt_add_one, Nat.zero_lt_succ, atD0, atD1, atD2, atD3, atD4, atD5, List.getElem?_cons_zero, List.getElem?_cons_succ, List.set_cons_zero, List.set_cons_succ, Option.some.injEq, D.int.injEq, D.bl.injEq, D.obj.injEq, D.str.injEq, D.tup.injEq, O.lst.injEq, List.cons.injEq, List.length_cons, List.length_nil, exists_eq_left', exists_eq_left, exists_eq, exists_eq', exists_and_left, true_and, and_true, and_self, decide_eq_true_eq, decide_eq_false_iff_not, Bool.not_eq_true', Bool.not_eq_false', Bool.not_true, Bool.not_false, forall_const, imp_self, reduceCtorEq, false_and, and_false, exists_false, or_false, false_or, implies_true, false_implies, true_implies, not_true_eq_false, not_false_eq_true, if_true, if_false]) (fun i x acc yes no hx hy => ?_) ?_
      · have hx : (s.map fun c => D.str [c])[i]? = some x := hx
        rw [List.getElem?_map] at hx
        obtain ⟨c, hc, rfl⟩ := Option.map_eq_some_iff.mp hx
        simp only [wS, wE, wEs, wT_tn, wT_tt, wTs_nil, wTs_cons, wAnd, wOr, wO, wIf, rdV, argN, tyB, b_add, b_sub, b_mul, b_fdiv, b_mod, b_adds, b_addt, b_addo, b_muls, b_mulo, c_eq, c_ne, c_lt, c_le, c_gt, c_ge, c_eqs, c_nes, c_eqb, c_neb, c_in1, c_nin1, c_init, c_ninit, c_inio, c_ninio, i_objs, dOk_int, dOk_str, o_sets, m_get1, m_get2, m_setd, t_get, t_setd, O.dic.injEq, c_inso, c_inst, c_ninso, c_ninst, f_lenS, f_tupS, i_tS, v_tS, y_tS, c_inS, c_ninS, isN_tS, c_isn, c_isntn, c_isb, c_isntb, isN_non, isN_int, isN_str, isN_tup, isN_bl, isN_obj, sq_tup, sq_fro, sq_obj, i_str, i_obj, i_tup, i_fro, s_str, s_tup, s_fro, s_obj, f_lens, f_lent, f_lenf, f_leno, f_inti, f_intb, f_boolb, f_sum, f_all, f_any, f_tupt, f_tupo, f_lstt, f_lsto, f_min, f_max, f_abs, f_stri, m_app, m_popi, m_ins, m_idxi, m_idxs, m_split, m_words, t_ins, t_idx, t_idxf, t_split,  m_ext, m_pop, m_join, t_app, t_ext, t_pop, t_join, o_set, y_non, y_int, y_bl, y_str, y_tup, y_fro, y_obj, v_tup, v_tI, v_fro, v_str, v_obj, z_tup, z_to, z_ot, z_obj, f_tups, t_idxt, en_obj, en_tup, rv_obj, rv_tup, s_tI, b_addI, f_lenI, f_tupI, f_lstI, i_tI, y_tI, isN_tI, tI_nil, still_nil, still_one, still_two, ixD0, ixD1, ixD2, ixD3, ixD4, ixD5, Nat.reduceAdd, Nat.reduceSub, Nat.reduceLT, Nat.reduceEqDiff, Nat.lt_add_one, Nat.zero_lt_succ, atD0, atD1, atD2, atD3, atD4, atD5, List.getElem?_cons_zero, List.getElem?_cons_succ, List.set_cons_zero, List.set_cons_succ, Option.some.injEq, D.int.injEq, D.bl.injEq, D.obj.injEq, D.str.injEq, D.tup.injEq, O.lst.injEq, List.cons.injEq, List.length_cons, List.length_nil, exists_eq_left', exists_eq_left, exists_eq, exists_eq', exists_and_left, true_and, and_true, and_self, decide_eq_true_eq, decide_eq_false_iff_not, Bool.not_eq_true', Bool.not_eq_false', Bool.not_true, Bool.not_false, forall_const, imp_self, reduceCtorEq, false_and, and_false, exists_false, or_false, false_or, implies_true, false_implies, true_implies, not_true_eq_false, not_false_eq_true, if_true, if_false]
        by_cases hL : c ∈ LET
        · exact ⟨fun _ => by have : chF (fun c => decide (c ∈ LET) || decide (c ∈ DIG)) (.str [c]) = .bl true := by simp [chF, hL]
                             rw [this] at hy; exact hy, fun z => absurd hL z⟩
        · refine ⟨fun z => absurd z hL, fun _ => ?_⟩
          have : chF (fun c => decide (c ∈ LET) || decide (c ∈ DIG)) (.str [c]) = .bl (decide (c ∈ DIG)) := by simp [chF, hL]
          rw [this] at hy; exact hy
      · simp only [wS, wE, wEs, wT_tn, wT_tt, wTs_nil, wTs_cons, wAnd, wOr, wO, wIf, rdV, argN, tyB, b_add, b_sub, b_mul, b_fdiv, b_mod, b_adds, b_addt, b_addo, b_muls, b_mulo, c_eq, c_ne, c_lt, c_le, c_gt, c_ge, c_eqs, c_nes, c_eqb, c_neb, c_in1, c_nin1, c_init, c_ninit, c_inio, c_ninio, i_objs, dOk_int, dOk_str, o_sets, m_get1, m_get2, m_setd, t_get, t_setd, O.dic.injEq, c_inso, c_inst, c_ninso, c_ninst, f_lenS, f_tupS, i_tS, v_tS, y_tS, c_inS, c_ninS, isN_tS, c_isn, c_isntn, c_isb, c_isntb, isN_non, isN_int, isN_str, isN_tup, isN_bl, isN_obj, sq_tup, sq_fro, sq_obj, i_str, i_obj, i_tup, i_fro, s_str, s_tup, s_fro, s_obj, f_lens, f_lent, f_lenf, f_leno, f_inti, f_intb, f_boolb, f_sum, f_all, f_any, f_tupt, f_tupo, f_lstt, f_lsto, f_min, f_max, f_abs, f_stri, m_app, m_popi, m_ins, m_idxi, m_idxs, m_split, m_words, t_ins, t_idx, t_idxf, t_split,  m_ext, m_pop, m_join, t_app, t_ext, t_pop, t_join, o_set, y_non, y_int, y_bl, y_str, y_tup, y_fro, y_obj, v_tup, v_tI, v_fro, v_str, v_obj, z_tup, z_to, z_ot, z_obj, f_tups, t_idxt, en_obj, en_tup, rv_obj, rv_tup, s_tI, b_addI, f_lenI, f_tupI, f_lstI, i_tI, y_tI, isN_tI, tI_nil, still_nil, still_one, still_two, ixD0, ixD1, ixD2, ixD3, ixD4, ixD5, Nat.reduceAdd, Nat.reduceSub, Nat.reduceLT, Nat.reduceEqDiff, Nat.lt_add_one, Nat.zero_lt_succ, atD0, atD1, atD2, atD3, atD4, atD5, List.getElem?_cons_zero, List.getElem?_cons_succ, List.set_cons_zero, List.set_cons_succ, Option.some.injEq, D.int.injEq, D.bl.injEq, D.obj.injEq, D.str.injEq, D.tup.injEq, O.lst.injEq, List.cons.injEq, List.length_cons, List.length_nil, exists_eq_left', exists_eq_left, exists_eq, exists_eq', exists_and_left, true_and, and_true, and_self, decide_eq_true_eq, decide_eq_false_iff_not, Bool.not_eq_true', Bool.not_eq_false', Bool.not_true, Bool.not_false, forall_const, imp_self, reduceCtorEq, false_and, and_false, exists_false, or_false, false_or, implies_true, false_implies, true_implies, not_true_eq_false, not_false_eq_true, if_true, if_false]
        rw [chF_map]
        refine ⟨_, app_last, gc_same rfl ?_⟩
        rw [all_id]
        have e2 : isW s = s.all fun c => decide (c ∈ LET) || decide (c ∈ DIG) := by unfold isW; simp [e]
        rw [← e2]; exact fin _ _ _
    · rw [← none_ e]
      exact fin _ _ _
  · have hd' : ∀ (st : Sto) (K : KD), opIs .str d st K = K (.bl false) st := hd
    simp only [wS, wE, wEs, wT_tn, wT_tt, wTs_nil, wTs_cons, wAnd, wOr, wO, wIf, rdV, argN, tyB, b_add, b_sub, b_mul, b_fdiv, b_mod, b_adds, b_addt, b_addo, b_muls, b_mulo, c_eq, c_ne, c_lt, c_le, c_gt, c_ge, c_eqs, c_nes, c_eqb, c_neb, c_in1, c_nin1, c_init, c_ninit, c_inio, c_ninio, i_objs, dOk_int, dOk_str, o_sets, m_get1, m_get2, m_setd, t_get, t_setd, O.dic.injEq, c_inso, c_inst, c_ninso, c_ninst, f_lenS, f_tupS, i_tS, v_tS, y_tS, c_inS, c_ninS, isN_tS, c_isn, c_isntn, c_isb, c_isntb, isN_non, isN_int, isN_str, isN_tup, isN_bl, isN_obj, sq_tup, sq_fro, sq_obj, i_str, i_obj, i_tup, i_fro, s_str, s_tup, s_fro, s_obj, f_lens, f_lent, f_lenf, f_leno, f_inti, f_intb, f_boolb, f_sum, f_all, f_any, f_tupt, f_tupo, f_lstt, f_lsto, f_min, f_max, f_abs, f_stri, m_app, m_popi, m_ins, m_idxi, m_idxs, m_split, m_words, t_ins, t_idx, t_idxf, t_split,  m_ext, m_pop, m_join, t_app, t_ext, t_pop, t_join, o_set, y_non, y_int, y_bl, y_str, y_tup, y_fro, y_obj, v_tup, v_tI, v_fro, v_str, v_obj, z_tup, z_to, z_ot, z_obj, f_tups, t_idxt, en_obj, en_tup, rv_obj, rv_tup, s_tI, b_addI, f_lenI, f_tupI, f_lstI, i_tI, y_tI, isN_tI, tI_nil, still_nil, still_one, still_two, ixD0, ixD1, ixD2, ixD3, ixD4, ixD5, Nat.reduceAdd, Nat.reduceSub, Nat.reduceLT, Nat.reduceEqDiff, Nat.lt_add_one, Nat.zero_lt_succ, atD0, atD1, atD2, atD3, atD4, atD5, List.getElem?_cons_zero, List.getElem?_cons_succ, List.set_cons_zero, List.set_cons_succ, Option.some.injEq, D.int.injEq, D.bl.injEq, D.obj.injEq, D.str.injEq, D.tup.injEq, O.lst.injEq, List.cons.injEq, List.length_cons, List.length_nil, exists_eq_left', exists_eq_left, exists_eq, exists_eq', exists_and_left, true_and, and_true, and_self, decide_eq_true_eq, decide_eq_false_iff_not, Bool.not_eq_true', Bool.not_eq_false', Bool.not_true, Bool.not_false, forall_const, imp_self, reduceCtorEq, false_and, and_false, exists_false, or_false, false_or, implies_true, false_implies, true_implies, not_true_eq_false, not_false_eq_true, if_true, if_false, hd']
    exact right_end (fun K q => isname_no hd q) (fun K q => issign_no hd q) (fun K q => isnumber_no hd q) h
end Rf

namespace Rf
open PySem
/-! the drawn values -/
theorem some_str {k s : Nat} {st : Sto} {cs : List Nat} {Q : KD} {E : XD} (hS : Src st s) (h0 : cs ≠ []) (hl : cs.length < 100000) (h : ∀ c st', Dr s st st' → Q (.str [c]) st') : wCall GG TT (k + 3) 7 [.obj s, .str cs] st Q E := by
  have h1 : 0 < cs.length := List.length_pos_iff.mpr h0
  refine wCall_in (fn := f__law_some) rfl rfl rfl ?_
  show wS _ _ b__law_some_0 [some (.obj s), some (.str cs)] _ _
  simp only [wS, wE, wEs, wT_tn, wT_tt, wTs_nil, wTs_cons, wAnd, wOr, wO, wIf, rdV, argN, tyB, b_add, b_sub, b_mul, b_fdiv, b_mod, b_adds, b_addt, b_addo, b_muls, b_mulo, c_eq, c_ne, c_lt, c_le, c_gt, c_ge, c_eqs, c_nes, c_eqb, c_neb, c_in1, c_nin1, c_init, c_ninit, c_inio, c_ninio, i_objs, dOk_int, dOk_str, o_sets, m_get1, m_get2, m_setd, t_get, t_setd, O.dic.injEq, c_inso, c_inst, c_ninso, c_ninst, f_lenS, f_tupS, i_tS, v_tS, y_tS, c_inS, c_ninS, isN_tS, c_isn, c_isntn, c_isb, c_isntb, isN_non, isN_int, isN_str, isN_tup, isN_bl, isN_obj, sq_tup, sq_fro, sq_obj, i_str, i_obj, i_tup, i_fro, s_str, s_tup, s_fro, s_obj, f_lens, f_lent, f_lenf, f_leno, f_inti, f_intb, f_boolb, f_sum, f_all, f_any, f_tupt, f_tupo, f_lstt, f_lsto, f_min, f_max, f_abs, f_stri, m_app, m_popi, m_ins, m_idxi, m_idxs, m_split, m_words, t_ins, t_idx, t_idxf, t_split,  m_ext, m_pop, m_join, t_app, t_ext, t_pop, t_join, o_set, y_non, y_int, y_bl, y_str, y_tup, y_fro, y_obj, v_tup, v_tI, v_fro, v_str, v_obj, z_tup, z_to, z_ot, z_obj, f_tups, t_idxt, en_obj, en_tup, rv_obj, rv_tup, s_tI, b_addI, f_lenI, f_tupI, f_lstI, i_tI, y_tI, isN_tI, tI_nil, still_nil, still_one, still_two, ixD0, ixD1, ixD2, ixD3, ixD4, ixD5, Nat.reduceAdd, Nat.reduceSub, Nat.reduceLT, Nat.reduceEqDiff, Nat.lt_add_one, Nat.zero_lt_succ, atD0, atD1, atD2, atD3, atD4, atD5, List.getElem?_cons_zero, List.getElem?_cons_succ, List.set_cons_zero, List.set_cons_succ, Option.some.injEq, D.int.injEq, D.bl.injEq, D.obj.injEq, D.str.injEq, D.tup.injEq, O.lst.injEq, List.cons.injEq, List.length_cons, List.length_nil, exists_eq_left', exists_eq_left, exists_eq, exists_eq', exists_and_left, true_and, and_true, and_self, decide_eq_true_eq, decide_eq_false_iff_not, Bool.not_eq_true', Bool.not_eq_false', Bool.not_true, Bool.not_false, forall_const, imp_self, reduceCtorEq, false_and, and_false, exists_false, or_false, false_or, implies_true, false_implies, true_implies, not_true_eq_false, not_false_eq_true, if_true, if_false, b__law_some_0]
  refine ⟨by omega, draw_ok hS (by omega) fun n st1 hn hd1 => ?_⟩
  have hlt : n < cs.length := by omega
  simp only [wS, wE, wEs, wT_tn, wT_tt, wTs_nil, wTs_cons, wAnd, wOr, wO, wIf, rdV, argN, tyB, b_add, b_sub, b_mul, b_fdiv, b_mod, b_adds, b_addt, b_addo, b_muls, b_mulo, c_eq, c_ne, c_lt, c_le, c_gt, c_ge, c_eqs, c_nes, c_eqb, c_neb, c_in1, c_nin1, c_init, c_ninit, c_inio, c_ninio, i_objs, dOk_int, dOk_str, o_sets, m_get1, m_get2, m_setd, t_get, t_setd, O.dic.injEq, c_inso, c_inst, c_ninso, c_ninst, f_lenS, f_tupS, i_tS, v_tS, y_tS, c_inS, c_ninS, isN_tS, c_isn, c_isntn, c_isb, c_isntb, isN_non, isN_int, isN_str, isN_tup, isN_bl, isN_obj, sq_tup, sq_fro, sq_obj, i_str, i_obj, i_tup, i_fro, s_str, s_tup, s_fro, s_obj, f_lens, f_lent, f_lenf, f_leno, f_inti, f_intb, f_boolb, f_sum, f_all, f_any, f_tupt, f_tupo, f_lstt, f_lsto, f_min, f_max, f_abs, f_stri, m_app, m_popi, m_ins, m_idxi, m_idxs, m_split, m_words, t_ins, t_idx, t_idxf, t_split,  m_ext, m_pop, m_join, t_app, t_ext, t_pop, t_join, o_set, y_non, y_int, y_bl, y_str, y_tup, y_fro, y_obj, v_tup, v_tI, v_fro, v_str, v_obj, z_tup, z_to, z_ot, z_obj, f_tups, t_idxt, en_obj, en_tup, rv_obj, rv_tup, s_tI, b_addI, f_lenI, f_tupI, f_lstI, i_tI, y_tI, isN_tI, tI_nil, still_nil, still_one, still_two, ixD0, ixD1, ixD2, ixD3, ixD4, ixD5, Nat.reduceAdd, Nat.reduceSub, Nat.reduceLT, Nat.reduceEqDiff, Nat.lt_add_one, Nat.zero_lt_succ, atD0, atD1, atD2, atD3, atD4, atD5, List.getElem?_cons_zero, List.getElem?_cons_succ, List.set_cons_zero, List.set_cons_succ, Option.some.injEq, D.int.injEq, D.bl.injEq, D.obj.injEq, D.str.injEq, D.tup.injEq, O.lst.injEq, List.cons.injEq, List.length_cons, List.length_nil, exists_eq_left', exists_eq_left, exists_eq, exists_eq', exists_and_left, true_and, and_true, and_self, decide_eq_true_eq, decide_eq_false_iff_not, Bool.not_eq_true', Bool.not_eq_false', Bool.not_true, Bool.not_false, forall_const, imp_self, reduceCtorEq, false_and, and_false, exists_false, or_false, false_or, implies_true, false_implies, true_implies, not_true_eq_false, not_false_eq_true, if_true, if_false, atD_nat]
  exact ⟨by omega, cs[n], List.getElem?_eq_getElem hlt, .inl (h _ _ hd1)⟩
theorem spelt_ok {k s n : Nat} {st : Sto} {cs : List Nat} {Q : KD} {E : XD} (hS : Src st s) (hn : n ≤ 20) (h0 : cs ≠ []) (hl : cs.length < 100000) (h : ∀ w st', w.length = n → Dr s st st' → Q (.str w) st') : wCall GG TT (k + 4) 10 [.obj s, .int n, .str cs] st Q E := by
  refine wCall_in (fn := f__law_spelt) rfl rfl rfl ?_
  show wS _ _ b__law_spelt_0 [some (.obj s), some (.int n), some (.str cs), none, none] _ _
  simp only [wS, wE, wEs, wT_tn, wT_tt, wTs_nil, wTs_cons, wAnd, wOr, wO, wIf, rdV, argN, tyB, b_add, b_sub, b_mul, b_fdiv, b_mod, b_adds, b_addt, b_addo, b_muls, b_mulo, c_eq, c_ne, c_lt, c_le, c_gt, c_ge, c_eqs, c_nes, c_eqb, c_neb, c_in1, c_nin1, c_init, c_ninit, c_inio, c_ninio, i_objs, dOk_int, dOk_str, o_sets, m_get1, m_get2, m_setd, t_get, t_setd, O.dic.injEq, c_inso, c_inst, c_ninso, c_ninst, f_lenS, f_tupS, i_tS, v_tS, y_tS, c_inS, c_ninS, isN_tS, c_isn, c_isntn, c_isb, c_isntb, isN_non, isN_int, isN_str, isN_tup, isN_bl, isN_obj, sq_tup, sq_fro, sq_obj, i_str, i_obj, i_tup, i_fro, s_str, s_tup, s_fro, s_obj, f_lens, f_lent, f_lenf, f_leno, f_inti, f_intb, f_boolb, f_sum, f_all, f_any, f_tupt, f_tupo, f_lstt, f_lsto, f_min, f_max, f_abs, f_stri, m_app, m_popi, m_ins, m_idxi, m_idxs, m_split, m_words, t_ins, t_idx, t_idxf, t_split,  m_ext, m_pop, m_join, t_app, t_ext, t_pop, t_join, o_set, y_non, y_int, y_bl, y_str, y_tup, y_fro, y_obj, v_tup, v_tI, v_fro, v_str, v_obj, z_tup, z_to, z_ot, z_obj, f_tups, t_idxt, en_obj, en_tup, rv_obj, rv_tup, s_tI, b_addI, f_lenI, f_tupI, f_lstI, i_tI, y_tI, isN_tI, tI_nil, still_nil, still_one, still_two, ixD0, ixD1, ixD2, ixD3, ixD4, ixD5, Nat.reduceAdd, Nat.reduceSub, Nat.reduceLT, Nat.reduceEqDiff, Nat.lt_add_one, Nat.zero_lt_succ, atD0, atD1, atD2, atD3, atD4, atD5, List.getElem?_cons_zero, List.getElem?_cons_succ, List.set_cons_zero, List.set_cons_succ, Option.some.injEq, D.int.injEq, D.bl.injEq, D.obj.injEq, D.str.injEq, D.tup.injEq, O.lst.injEq, List.cons.injEq, List.length_cons, List.length_nil, exists_eq_left', exists_eq_left, exists_eq, exists_eq', exists_and_left, true_and, and_true, and_self, decide_eq_true_eq, decide_eq_false_iff_not, Bool.not_eq_true', Bool.not_eq_false', Bool.not_true, Bool.not_false, forall_const, imp_self, reduceCtorEq, false_and, and_false, exists_false, or_false, false_or, implies_true, false_implies, true_implies, not_true_eq_false, not_false_eq_true, if_true, if_false, b__law_spelt_0]
  simp only [wS, wE, wEs, wT_tn, wT_tt, wTs_nil, wTs_cons, wAnd, wOr, wO, wIf, rdV, argN, tyB, b_add, b_sub, b_mul, b_fdiv, b_mod, b_adds, b_addt, b_addo, b_muls, b_mulo, c_eq, c_ne, c_lt, c_le, c_gt, c_ge, c_eqs, c_nes, c_eqb, c_neb, c_in1, c_nin1, c_init, c_ninit, c_inio, c_ninio, i_objs, dOk_int, dOk_str, o_sets, m_get1, m_get2, m_setd, t_get, t_setd, O.dic.injEq, c_inso, c_inst, c_ninso, c_ninst, f_lenS, f_tupS, i_tS, v_tS, y_tS, c_inS, c_ninS, isN_tS, c_isn, c_isntn, c_isb, c_isntb, isN_non, isN_int, isN_str, isN_tup, isN_bl, isN_obj, sq_tup, sq_fro, sq_obj, i_str, i_obj, i_tup, i_fro, s_str, s_tup, s_fro, s_obj, f_lens, f_lent, f_lenf, f_leno, f_inti, f_intb, f_boolb, f_sum, f_all, f_any, f_tupt, f_tupo, f_lstt, f_lsto, f_min, f_max, f_abs, f_stri, m_app, m_popi, m_ins, m_idxi, m_idxs, m_split, m_words, t_ins, t_idx, t_idxf, t_split,  m_ext, m_pop, m_join, t_app, t_ext, t_pop, t_join, o_set, y_non, y_int, y_bl, y_str, y_tup, y_fro, y_obj, v_tup, v_tI, v_fro, v_str, v_obj, z_tup, z_to, z_ot, z_obj, f_tups, t_idxt, en_obj, en_tup, rv_obj, rv_tup, s_tI, b_addI, f_lenI, f_tupI, f_lstI, i_tI, y_tI, isN_tI, tI_nil, still_nil, still_one, still_two, ixD0, ixD1, ixD2, ixD3, ixD4, ixD5, Nat.reduceAdd, Nat.reduceSub, Nat.reduceLT, Nat.reduceEqDiff, Nat.lt_add_one, Nat.zero_lt_succ, atD0, atD1, atD2, atD3, atD4, atD5, List.getElem?_cons_zero, List.getElem?_cons_succ, List.set_cons_zero, List.set_cons_succ, Option.some.injEq, D.int.injEq, D.bl.injEq, D.obj.injEq, D.str.injEq, D.tup.injEq, O.lst.injEq, List.cons.injEq, List.length_cons, List.length_nil, exists_eq_left', exists_eq_left, exists_eq, exists_eq', exists_and_left, true_and, and_true, and_self, decide_eq_true_eq, decide_eq_false_iff_not, Bool.not_eq_true', Bool.not_eq_false', Bool.not_true, Bool.not_false, forall_const, imp_self, reduceCtorEq, false_and, and_false, exists_false, or_false, false_or, implies_true, false_implies, true_implies, not_true_eq_false, not_false_eq_true, if_true, if_false, b__law_spelt_1, wI]
  refine ⟨by omega, loopW_inv (fun i env st' => ∃ (w : List Nat) (a : Option D), env = [some (.obj s), some (.int n), some (.str cs), some (.str w), a] ∧ Dr s st st' ∧ w.length = i)
    ⟨[], none, rfl, .refl hS, rfl⟩ (fun i e s _ _ => by simp only [wS, wE, wEs, wT_tn, wT_tt, wTs_nil, wTs_cons, wAnd, wOr, wO, wIf, rdV, argN, tyB, b_add, b_sub, b_mul, b_fdiv, b_mod, b_adds, b_addt, b_addo, b_muls, b_mulo, c_eq, c_ne, c_lt, c_le, c_gt, c_ge, c_eqs, c_nes, c_eqb, c_neb, c_in1, c_nin1, c_init, c_ninit, c_inio, c_ninio, i_objs, dOk_int, dOk_str, o_sets, m_get1, m_get2, m_setd, t_get, t_setd, O.dic.injEq, c_inso, c_inst, c_ninso, c_ninst, f_lenS, f_tupS, i_tS, v_tS, y_tS, c_inS, c_ninS, isN_tS, c_isn, c_isntn, c_isb, c_isntb, isN_non, isN_int, isN_str, isN_tup, isN_bl, isN_obj, sq_tup, sq_fro, sq_obj, i_str, i_obj, i_tup, i_fro, s_str, s_tup, s_fro, s_obj, f_lens, f_lent, f_lenf, f_leno, f_inti, f_intb, f_boolb, f_sum, f_all, f_any, f_tupt, f_tupo, f_lstt, f_lsto, f_min, f_max, f_abs, f_stri, m_app, m_popi, m_ins, m_idxi, m_idxs, m_split, m_words, t_ins, t_idx, t_idxf, t_split,  m_ext, m_pop, m_join, t_app, t_ext, t_pop, t_join, o_set, y_non, y_int, y_bl, y_str, y_tup, y_fro, y_obj, v_tup, v_tI, v_fro, v_str, v_obj, z_tup, z_to, z_ot, z_obj, f_tups, t_idxt, en_obj, en_tup, rv_obj, rv_tup, s_tI, b_addI, f_lenI, f_tupI, f_lstI, i_tI, y_tI, isN_tI, tI_nil, still_nil, still_one, still_two, ixD0, ixD1, ixD2, ixD3, ixD4, ixD5, Nat.reduceAdd, Nat.reduceSub, Nat.reduceLT, Nat.reduceEqDiff, Nat.lt_add_one, Nat.zero_lt_succ, atD0, atD1, atD2, atD3, atD4, atD5, List.getElem?_cons_zero, List.getElem?_cons_succ, List.set_cons_zero, List.set_cons_succ, Option.some.injEq, D.int.injEq, D.bl.injEq, D.obj.injEq, D.str.injEq, D.tup.injEq, O.lst.injEq, List.cons.injEq, List.length_cons, List.length_nil, exists_eq_left', exists_eq_left, exists_eq, exists_eq', exists_and_left, true_and, and_true, and_self, decide_eq_true_eq, decide_eq_false_iff_not, Bool.not_eq_true', Bool.not_eq_false', Bool.not_true, Bool.not_false, forall_const, imp_self, reduceCtorEq, false_and, and_false, exists_false, or_false, false_or, implies_true, false_implies, true_implies, not_true_eq_false, not_false_eq_true, if_true, if_false]) ?_ ?_⟩
  · rintro env st' ⟨w, a, rfl, hD, hw⟩
    simp only [List.length_map, List.length_range, Int.toNat_natCast] at hw
    simp only [wS, wE, wEs, wT_tn, wT_tt, wTs_nil, wTs_cons, wAnd, wOr, wO, wIf, rdV, argN, tyB, b_add, b_sub, b_mul, b_fdiv, b_mod, b_adds, b_addt, b_addo, b_muls, b_mulo, c_eq, c_ne, c_lt, c_le, c_gt, c_ge, c_eqs, c_nes, c_eqb, c_neb, c_in1, c_nin1, c_init, c_ninit, c_inio, c_ninio, i_objs, dOk_int, dOk_str, o_sets, m_get1, m_get2, m_setd, t_get, t_setd, O.dic.injEq, c_inso, c_inst, c_ninso, c_ninst, f_lenS, f_tupS, i_tS, v_tS, y_tS, c_inS, c_ninS, isN_tS, c_isn, c_isntn, c_isb, c_isntb, isN_non, isN_int, isN_str, isN_tup, isN_bl, isN_obj, sq_tup, sq_fro, sq_obj, i_str, i_obj, i_tup, i_fro, s_str, s_tup, s_fro, s_obj, f_lens, f_lent, f_lenf, f_leno, f_inti, f_intb, f_boolb, f_sum, f_all, f_any, f_tupt, f_tupo, f_lstt, f_lsto, f_min, f_max, f_abs, f_stri, m_app, m_popi, m_ins, m_idxi, m_idxs, m_split, m_words, t_ins, t_idx, t_idxf, t_split,  m_ext, m_pop, m_join, t_app, t_ext, t_pop, t_join, o_set, y_non, y_int, y_bl, y_str, y_tup, y_fro, y_obj, v_tup, v_tI, v_fro, v_str, v_obj, z_tup, z_to, z_ot, z_obj, f_tups, t_idxt, en_obj, en_tup, rv_obj, rv_tup, s_tI, b_addI, f_lenI, f_tupI, f_lstI, i_tI, y_tI, isN_tI, tI_nil, still_nil, still_one, still_two, ixD0, ixD1, ixD2, ixD3, ixD4, ixD5, Nat.reduceAdd, Nat.reduceSub, Nat.reduceLT, Nat.reduceEqDiff, Nat.lt_add_one, Nat.zero_lt_succ, atD0, atD1, atD2, atD3, atD4, atD5, List.getElem?_cons_zero, List.getElem?_cons_succ, List.set_cons_zero, List.set_cons_succ, Option.some.injEq, D.int.injEq, D.bl.injEq, D.obj.injEq, D.str.injEq, D.tup.injEq, O.lst.injEq, List.cons.injEq, List.length_cons, List.length_nil, exists_eq_left', exists_eq_left, exists_eq, exists_eq', exists_and_left, true_and, and_true, and_self, decide_eq_true_eq, decide_eq_false_iff_not, Bool.not_eq_true', Bool.not_eq_false', Bool.not_true, Bool.not_false, forall_const, imp_self, reduceCtorEq, false_and, and_false, exists_false, or_false, false_or, implies_true, false_implies, true_implies, not_true_eq_false, not_false_eq_true, if_true, if_false, b__law_spelt_3]
    exact .inl (h w st' hw hD)
  · rintro i env st' v ⟨w, a, rfl, hD, hw⟩ hv nxt hnx
    obtain ⟨rfl, hi⟩ := rng_at hv
    rw [Int.toNat_natCast] at hi
    simp only [wS, wE, wEs, wT_tn, wT_tt, wTs_nil, wTs_cons, wAnd, wOr, wO, wIf, rdV, argN, tyB, b_add, b_sub, b_mul, b_fdiv, b_mod, b_adds, b_addt, b_addo, b_muls, b_mulo, c_eq, c_ne, c_lt, c_le, c_gt, c_ge, c_eqs, c_nes, c_eqb, c_neb, c_in1, c_nin1, c_init, c_ninit, c_inio, c_ninio, i_objs, dOk_int, dOk_str, o_sets, m_get1, m_get2, m_setd, t_get, t_setd, O.dic.injEq, c_inso, c_inst, c_ninso, c_ninst, f_lenS, f_tupS, i_tS, v_tS, y_tS, c_inS, c_ninS, isN_tS, c_isn, c_isntn, c_isb, c_isntb, isN_non, isN_int, isN_str, isN_tup, isN_bl, isN_obj, sq_tup, sq_fro, sq_obj, i_str, i_obj, i_tup, i_fro, s_str, s_tup, s_fro, s_obj, f_lens, f_lent, f_lenf, f_leno, f_inti, f_intb, f_boolb, f_sum, f_all, f_any, f_tupt, f_tupo, f_lstt, f_lsto, f_min, f_max, f_abs, f_stri, m_app, m_popi, m_ins, m_idxi, m_idxs, m_split, m_words, t_ins, t_idx, t_idxf, t_split,  m_ext, m_pop, m_join, t_app, t_ext, t_pop, t_join, o_set, y_non, y_int, y_bl, y_str, y_tup, y_fro, y_obj, v_tup, v_tI, v_fro, v_str, v_obj, z_tup, z_to, z_ot, z_obj, f_tups, t_idxt, en_obj, en_tup, rv_obj, rv_tup, s_tI, b_addI, f_lenI, f_tupI, f_lstI, i_tI, y_tI, isN_tI, tI_nil, still_nil, still_one, still_two, ixD0, ixD1, ixD2, ixD3, ixD4, ixD5, Nat.reduceAdd, Nat.reduceSub, Nat.reduceLT, Nat.reduceEqDiff, Nat.lt_add_one, Nat.zero_lt_succ, atD0, atD1, atD2, atD3, atD4, atD5, List.getElem?_cons_zero, List.getElem?_cons_succ, List.set_cons_zero, List.set_cons_succ, Option.some.injEq, D.int.injEq, D.bl.injEq, D.obj.injEq, D.str.injEq, D.tup.injEq, O.lst.injEq, List.cons.injEq, List.length_cons, List.length_nil, exists_eq_left', exists_eq_left, exists_eq, exists_eq', exists_and_left, true_and, and_true, and_self, decide_eq_true_eq, decide_eq_false_iff_not, Bool.not_eq_true', Bool.not_eq_false', Bool.not_true, Bool.not_false, forall_const, imp_self, reduceCtorEq, false_and, and_false, exists_false, or_false, false_or, implies_true, false_implies, true_implies, not_true_eq_false, not_false_eq_true, if_true, if_false, b__law_spelt_2]
    refine some_str hD.1 h0 hl fun c st2 hd2 => ?_
    simp only [wS, wE, wEs, wT_tn, wT_tt, wTs_nil, wTs_cons, wAnd, wOr, wO, wIf, rdV, argN, tyB, b_add, b_sub, b_mul, b_fdiv, b_mod, b_adds, b_addt, b_addo, b_muls, b_mulo, c_eq, c_ne, c_lt, c_le, c_gt, c_ge, c_eqs, c_nes, c_eqb, c_neb, c_in1, c_nin1, c_init, c_ninit, c_inio, c_ninio, i_objs, dOk_int, dOk_str, o_sets, m_get1, m_get2, m_setd, t_get, t_setd, O.dic.injEq, c_inso, c_inst, c_ninso, c_ninst, f_lenS, f_tupS, i_tS, v_tS, y_tS, c_inS, c_ninS, isN_tS, c_isn, c_isntn, c_isb, c_isntb, isN_non, isN_int, isN_str, isN_tup, isN_bl, isN_obj, sq_tup, sq_fro, sq_obj, i_str, i_obj, i_tup, i_fro, s_str, s_tup, s_fro, s_obj, f_lens, f_lent, f_lenf, f_leno, f_inti, f_intb, f_boolb, f_sum, f_all, f_any, f_tupt, f_tupo, f_lstt, f_lsto, f_min, f_max, f_abs, f_stri, m_app, m_popi, m_ins, m_idxi, m_idxs, m_split, m_words, t_ins, t_idx, t_idxf, t_split,  m_ext, m_pop, m_join, t_app, t_ext, t_pop, t_join, o_set, y_non, y_int, y_bl, y_str, y_tup, y_fro, y_obj, v_tup, v_tI, v_fro, v_str, v_obj, z_tup, z_to, z_ot, z_obj, f_tups, t_idxt, en_obj, en_tup, rv_obj, rv_tup, s_tI, b_addI, f_lenI, f_tupI, f_lstI, i_tI, y_tI, isN_tI, tI_nil, still_nil, still_one, still_two, ixD0, ixD1, ixD2, ixD3, ixD4, ixD5, Nat.reduceAdd, Nat.reduceSub, Nat.reduceLT, Nat.reduceEqDiff, Nat.lt_add_one, Nat.zero_lt_succ, atD0, atD1, atD2, atD3, atD4, atD5, List.getElem?_cons_zero, List.getElem?_cons_succ, List.set_cons_zero, List.set_cons_succ, Option.some.injEq, D.int.injEq, D.bl.injEq, D.obj.injEq, D.str.injEq, D.tup.injEq, O.lst.injEq, List.cons.injEq, List.length_cons, List.length_nil, exists_eq_left', exists_eq_left, exists_eq, exists_eq', exists_and_left, true_and, and_true, and_self, decide_eq_true_eq, decide_eq_false_iff_not, Bool.not_eq_true', Bool.not_eq_false', Bool.not_true, Bool.not_false, forall_const, imp_self, reduceCtorEq, false_and, and_false, exists_false, or_false, false_or, implies_true, false_implies, true_implies, not_true_eq_false, not_false_eq_true, if_true, if_false]
    exact ⟨by omega, hnx _ _ ⟨w ++ [c], _, rfl, hD.trans hd2, by simp [hw]⟩⟩
theorem changed_ok {k s : Nat} {st : Sto} {w : List Nat} {Q : KD} {E : XD} (hS : Src st s) (hl : w.length < 1000) (h : ∀ v st', v.length ≤ 2 * w.length + 1 → Dr s st st' → Q (.str v) st') : wCall GG TT (k + 4) 11 [.obj s, .str w] st Q E := by
  refine wCall_in (fn := f__law_changed) rfl rfl rfl ?_
  show wS _ _ b__law_changed_0 [some (.obj s), some (.str w), none, none, none] _ _
  simp only [wS, wE, wEs, wT_tn, wT_tt, wTs_nil, wTs_cons, wAnd, wOr, wO, wIf, rdV, argN, tyB, b_add, b_sub, b_mul, b_fdiv, b_mod, b_adds, b_addt, b_addo, b_muls, b_mulo, c_eq, c_ne, c_lt, c_le, c_gt, c_ge, c_eqs, c_nes, c_eqb, c_neb, c_in1, c_nin1, c_init, c_ninit, c_inio, c_ninio, i_objs, dOk_int, dOk_str, o_sets, m_get1, m_get2, m_setd, t_get, t_setd, O.dic.injEq, c_inso, c_inst, c_ninso, c_ninst, f_lenS, f_tupS, i_tS, v_tS, y_tS, c_inS, c_ninS, isN_tS, c_isn, c_isntn, c_isb, c_isntb, isN_non, isN_int, isN_str, isN_tup, isN_bl, isN_obj, sq_tup, sq_fro, sq_obj, i_str, i_obj, i_tup, i_fro, s_str, s_tup, s_fro, s_obj, f_lens, f_lent, f_lenf, f_leno, f_inti, f_intb, f_boolb, f_sum, f_all, f_any, f_tupt, f_tupo, f_lstt, f_lsto, f_min, f_max, f_abs, f_stri, m_app, m_popi, m_ins, m_idxi, m_idxs, m_split, m_words, t_ins, t_idx, t_idxf, t_split,  m_ext, m_pop, m_join, t_app, t_ext, t_pop, t_join, o_set, y_non, y_int, y_bl, y_str, y_tup, y_fro, y_obj, v_tup, v_tI, v_fro, v_str, v_obj, z_tup, z_to, z_ot, z_obj, f_tups, t_idxt, en_obj, en_tup, rv_obj, rv_tup, s_tI, b_addI, f_lenI, f_tupI, f_lstI, i_tI, y_tI, isN_tI, tI_nil, still_nil, still_one, still_two, ixD0, ixD1, ixD2, ixD3, ixD4, ixD5, Nat.reduceAdd, Nat.reduceSub, Nat.reduceLT, Nat.reduceEqDiff, Nat.lt_add_one, Nat.zero_lt_succ, atD0, atD1, atD2, atD3, atD4, atD5, List.getElem?_cons_zero, List.getElem?_cons_succ, List.set_cons_zero, List.set_cons_succ, Option.some.injEq, D.int.injEq, D.bl.injEq, D.obj.injEq, D.str.injEq, D.tup.injEq, O.lst.injEq, List.cons.injEq, List.length_cons, List.length_nil, exists_eq_left', exists_eq_left, exists_eq, exists_eq', exists_and_left, true_and, and_true, and_self, decide_eq_true_eq, decide_eq_false_iff_not, Bool.not_eq_true', Bool.not_eq_false', Bool.not_true, Bool.not_false, forall_const, imp_self, reduceCtorEq, false_and, and_false, exists_false, or_false, false_or, implies_true, false_implies, true_implies, not_true_eq_false, not_false_eq_true, if_true, if_false, b__law_changed_0]
  refine ⟨by omega, draw_ok hS (by omega) fun n st1 hn hd1 => ?_⟩
  simp only [wS, wE, wEs, wT_tn, wT_tt, wTs_nil, wTs_cons, wAnd, wOr, wO, wIf, rdV, argN, tyB, b_add, b_sub, b_mul, b_fdiv, b_mod, b_adds, b_addt, b_addo, b_muls, b_mulo, c_eq, c_ne, c_lt, c_le, c_gt, c_ge, c_eqs, c_nes, c_eqb, c_neb, c_in1, c_nin1, c_init, c_ninit, c_inio, c_ninio, i_objs, dOk_int, dOk_str, o_sets, m_get1, m_get2, m_setd, t_get, t_setd, O.dic.injEq, c_inso, c_inst, c_ninso, c_ninst, f_lenS, f_tupS, i_tS, v_tS, y_tS, c_inS, c_ninS, isN_tS, c_isn, c_isntn, c_isb, c_isntb, isN_non, isN_int, isN_str, isN_tup, isN_bl, isN_obj, sq_tup, sq_fro, sq_obj, i_str, i_obj, i_tup, i_fro, s_str, s_tup, s_fro, s_obj, f_lens, f_lent, f_lenf, f_leno, f_inti, f_intb, f_boolb, f_sum, f_all, f_any, f_tupt, f_tupo, f_lstt, f_lsto, f_min, f_max, f_abs, f_stri, m_app, m_popi, m_ins, m_idxi, m_idxs, m_split, m_words, t_ins, t_idx, t_idxf, t_split,  m_ext, m_pop, m_join, t_app, t_ext, t_pop, t_join, o_set, y_non, y_int, y_bl, y_str, y_tup, y_fro, y_obj, v_tup, v_tI, v_fro, v_str, v_obj, z_tup, z_to, z_ot, z_obj, f_tups, t_idxt, en_obj, en_tup, rv_obj, rv_tup, s_tI, b_addI, f_lenI, f_tupI, f_lstI, i_tI, y_tI, isN_tI, tI_nil, still_nil, still_one, still_two, ixD0, ixD1, ixD2, ixD3, ixD4, ixD5, Nat.reduceAdd, Nat.reduceSub, Nat.reduceLT, Nat.reduceEqDiff, Nat.lt_add_one, Nat.zero_lt_succ, atD0, atD1, atD2, atD3, atD4, atD5, List.getElem?_cons_zero, List.getElem?_cons_succ, List.set_cons_zero, List.set_cons_succ, Option.some.injEq, D.int.injEq, D.bl.injEq, D.obj.injEq, D.str.injEq, D.tup.injEq, O.lst.injEq, List.cons.injEq, List.length_cons, List.length_nil, exists_eq_left', exists_eq_left, exists_eq, exists_eq', exists_and_left, true_and, and_true, and_self, decide_eq_true_eq, decide_eq_false_iff_not, Bool.not_eq_true', Bool.not_eq_false', Bool.not_true, Bool.not_false, forall_const, imp_self, reduceCtorEq, false_and, and_false, exists_false, or_false, false_or, implies_true, false_implies, true_implies, not_true_eq_false, not_false_eq_true, if_true, if_false, b__law_changed_1]
  refine some_str hd1.1 (by simp) (by decide) fun c st2 hd2 => ?_
  simp only [wS, wE, wEs, wT_tn, wT_tt, wTs_nil, wTs_cons, wAnd, wOr, wO, wIf, rdV, argN, tyB, b_add, b_sub, b_mul, b_fdiv, b_mod, b_adds, b_addt, b_addo, b_muls, b_mulo, c_eq, c_ne, c_lt, c_le, c_gt, c_ge, c_eqs, c_nes, c_eqb, c_neb, c_in1, c_nin1, c_init, c_ninit, c_inio, c_ninio, i_objs, dOk_int, dOk_str, o_sets, m_get1, m_get2, m_setd, t_get, t_setd, O.dic.injEq, c_inso, c_inst, c_ninso, c_ninst, f_lenS, f_tupS, i_tS, v_tS, y_tS, c_inS, c_ninS, isN_tS, c_isn, c_isntn, c_isb, c_isntb, isN_non, isN_int, isN_str, isN_tup, isN_bl, isN_obj, sq_tup, sq_fro, sq_obj, i_str, i_obj, i_tup, i_fro, s_str, s_tup, s_fro, s_obj, f_lens, f_lent, f_lenf, f_leno, f_inti, f_intb, f_boolb, f_sum, f_all, f_any, f_tupt, f_tupo, f_lstt, f_lsto, f_min, f_max, f_abs, f_stri, m_app, m_popi, m_ins, m_idxi, m_idxs, m_split, m_words, t_ins, t_idx, t_idxf, t_split,  m_ext, m_pop, m_join, t_app, t_ext, t_pop, t_join, o_set, y_non, y_int, y_bl, y_str, y_tup, y_fro, y_obj, v_tup, v_tI, v_fro, v_str, v_obj, z_tup, z_to, z_ot, z_obj, f_tups, t_idxt, en_obj, en_tup, rv_obj, rv_tup, s_tI, b_addI, f_lenI, f_tupI, f_lstI, i_tI, y_tI, isN_tI, tI_nil, still_nil, still_one, still_two, ixD0, ixD1, ixD2, ixD3, ixD4, ixD5, Nat.reduceAdd, Nat.reduceSub, Nat.reduceLT, Nat.reduceEqDiff, Nat.lt_add_one, Nat.zero_lt_succ, atD0, atD1, atD2, atD3, atD4, atD5, List.getElem?_cons_zero, List.getElem?_cons_succ, List.set_cons_zero, List.set_cons_succ, Option.some.injEq, D.int.injEq, D.bl.injEq, D.obj.injEq, D.str.injEq, D.tup.injEq, O.lst.injEq, List.cons.injEq, List.length_cons, List.length_nil, exists_eq_left', exists_eq_left, exists_eq, exists_eq', exists_and_left, true_and, and_true, and_self, decide_eq_true_eq, decide_eq_false_iff_not, Bool.not_eq_true', Bool.not_eq_false', Bool.not_true, Bool.not_false, forall_const, imp_self, reduceCtorEq, false_and, and_false, exists_false, or_false, false_or, implies_true, false_implies, true_implies, not_true_eq_false, not_false_eq_true, if_true, if_false, b__law_changed_2]
  refine draw_ok hd2.1 (by decide) fun way st3 hway hd3 => ?_
  have D3 := hd1.trans (hd2.trans hd3)
  have e1 : (n : Int) + 1 = ((n + 1 : Nat) : Int) := rfl
  simp only [wS, wE, wEs, wT_tn, wT_tt, wTs_nil, wTs_cons, wAnd, wOr, wO, wIf, rdV, argN, tyB, b_add, b_sub, b_mul, b_fdiv, b_mod, b_adds, b_addt, b_addo, b_muls, b_mulo, c_eq, c_ne, c_lt, c_le, c_gt, c_ge, c_eqs, c_nes, c_eqb, c_neb, c_in1, c_nin1, c_init, c_ninit, c_inio, c_ninio, i_objs, dOk_int, dOk_str, o_sets, m_get1, m_get2, m_setd, t_get, t_setd, O.dic.injEq, c_inso, c_inst, c_ninso, c_ninst, f_lenS, f_tupS, i_tS, v_tS, y_tS, c_inS, c_ninS, isN_tS, c_isn, c_isntn, c_isb, c_isntb, isN_non, isN_int, isN_str, isN_tup, isN_bl, isN_obj, sq_tup, sq_fro, sq_obj, i_str, i_obj, i_tup, i_fro, s_str, s_tup, s_fro, s_obj, f_lens, f_lent, f_lenf, f_leno, f_inti, f_intb, f_boolb, f_sum, f_all, f_any, f_tupt, f_tupo, f_lstt, f_lsto, f_min, f_max, f_abs, f_stri, m_app, m_popi, m_ins, m_idxi, m_idxs, m_split, m_words, t_ins, t_idx, t_idxf, t_split,  m_ext, m_pop, m_join, t_app, t_ext, t_pop, t_join, o_set, y_non, y_int, y_bl, y_str, y_tup, y_fro, y_obj, v_tup, v_tI, v_fro, v_str, v_obj, z_tup, z_to, z_ot, z_obj, f_tups, t_idxt, en_obj, en_tup, rv_obj, rv_tup, s_tI, b_addI, f_lenI, f_tupI, f_lstI, i_tI, y_tI, isN_tI, tI_nil, still_nil, still_one, still_two, ixD0, ixD1, ixD2, ixD3, ixD4, ixD5, Nat.reduceAdd, Nat.reduceSub, Nat.reduceLT, Nat.reduceEqDiff, Nat.lt_add_one, Nat.zero_lt_succ, atD0, atD1, atD2, atD3, atD4, atD5, List.getElem?_cons_zero, List.getElem?_cons_succ, List.set_cons_zero, List.set_cons_succ, Option.some.injEq, D.int.injEq, D.bl.injEq, D.obj.injEq, D.str.injEq, D.tup.injEq, O.lst.injEq, List.cons.injEq, List.length_cons, List.length_nil, exists_eq_left', exists_eq_left, exists_eq, exists_eq', exists_and_left, true_and, and_true, and_self, decide_eq_true_eq, decide_eq_false_iff_not, Bool.not_eq_true', Bool.not_eq_false', Bool.not_true, Bool.not_false, forall_const, imp_self, reduceCtorEq, false_and, and_false, exists_false, or_false, false_or, implies_true, false_implies, true_implies, not_true_eq_false, not_false_eq_true, if_true, if_false, b__law_changed_3, e1, cut_take, cut_drop]
  have t1 : (w.take n).length ≤ w.length := by rw [List.length_take]; omega
  have t2 : (w.drop n).length ≤ w.length - n := by rw [List.length_drop]; omega
  have t2' : (w.drop (n + 1)).length ≤ w.length := by rw [List.length_drop]; omega
  have t3 : (w.take n ++ [c]).length ≤ w.length + 1 := by rw [List.length_append]; show _ + 1 ≤ _; omega
  refine ⟨fun _ => ?_, fun _ => ?_⟩
  · simp only [wS, wE, wEs, wT_tn, wT_tt, wTs_nil, wTs_cons, wAnd, wOr, wO, wIf, rdV, argN, tyB, b_add, b_sub, b_mul, b_fdiv, b_mod, b_adds, b_addt, b_addo, b_muls, b_mulo, c_eq, c_ne, c_lt, c_le, c_gt, c_ge, c_eqs, c_nes, c_eqb, c_neb, c_in1, c_nin1, c_init, c_ninit, c_inio, c_ninio, i_objs, dOk_int, dOk_str, o_sets, m_get1, m_get2, m_setd, t_get, t_setd, O.dic.injEq, c_inso, c_inst, c_ninso, c_ninst, f_lenS, f_tupS, i_tS, v_tS, y_tS, c_inS, c_ninS, isN_tS, c_isn, c_isntn, c_isb, c_isntb, isN_non, isN_int, isN_str, isN_tup, isN_bl, isN_obj, sq_tup, sq_fro, sq_obj, i_str, i_obj, i_tup, i_fro, s_str, s_tup, s_fro, s_obj, f_lens, f_lent, f_lenf, f_leno, f_inti, f_intb, f_boolb, f_sum, f_all, f_any, f_tupt, f_tupo, f_lstt, f_lsto, f_min, f_max, f_abs, f_stri, m_app, m_popi, m_ins, m_idxi, m_idxs, m_split, m_words, t_ins, t_idx, t_idxf, t_split,  m_ext, m_pop, m_join, t_app, t_ext, t_pop, t_join, o_set, y_non, y_int, y_bl, y_str, y_tup, y_fro, y_obj, v_tup, v_tI, v_fro, v_str, v_obj, z_tup, z_to, z_ot, z_obj, f_tups, t_idxt, en_obj, en_tup, rv_obj, rv_tup, s_tI, b_addI, f_lenI, f_tupI, f_lstI, i_tI, y_tI, isN_tI, tI_nil, still_nil, still_one, still_two, ixD0, ixD1, ixD2, ixD3, ixD4, ixD5, Nat.reduceAdd, Nat.reduceSub, Nat.reduceLT, Nat.reduceEqDiff, Nat.lt_add_one, Nat.zero_lt_succ, atD0, atD1, atD2, atD3, atD4, atD5, List.getElem?_cons_zero, List.getElem?_cons_succ, List.set_cons_zero, List.set_cons_succ, Option.some.injEq, D.int.injEq, D.bl.injEq, D.obj.injEq, D.str.injEq, D.tup.injEq, O.lst.injEq, List.cons.injEq, List.length_cons, List.length_nil, exists_eq_left', exists_eq_left, exists_eq, exists_eq', exists_and_left, true_and, and_true, and_self, decide_eq_true_eq, decide_eq_false_iff_not, Bool.not_eq_true', Bool.not_eq_false', Bool.not_true, Bool.not_false, forall_const, imp_self, reduceCtorEq, false_and, and_false, exists_false, or_false, false_or, implies_true, false_implies, true_implies, not_true_eq_false, not_false_eq_true, if_true, if_false, b__law_changed_4, cut_take, cut_drop]
    refine ⟨by omega, by omega, by omega, by omega, .inl (h _ _ ?_ D3)⟩
    rw [List.length_append]; omega
  simp only [wS, wE, wEs, wT_tn, wT_tt, wTs_nil, wTs_cons, wAnd, wOr, wO, wIf, rdV, argN, tyB, b_add, b_sub, b_mul, b_fdiv, b_mod, b_adds, b_addt, b_addo, b_muls, b_mulo, c_eq, c_ne, c_lt, c_le, c_gt, c_ge, c_eqs, c_nes, c_eqb, c_neb, c_in1, c_nin1, c_init, c_ninit, c_inio, c_ninio, i_objs, dOk_int, dOk_str, o_sets, m_get1, m_get2, m_setd, t_get, t_setd, O.dic.injEq, c_inso, c_inst, c_ninso, c_ninst, f_lenS, f_tupS, i_tS, v_tS, y_tS, c_inS, c_ninS, isN_tS, c_isn, c_isntn, c_isb, c_isntb, isN_non, isN_int, isN_str, isN_tup, isN_bl, isN_obj, sq_tup, sq_fro, sq_obj, i_str, i_obj, i_tup, i_fro, s_str, s_tup, s_fro, s_obj, f_lens, f_lent, f_lenf, f_leno, f_inti, f_intb, f_boolb, f_sum, f_all, f_any, f_tupt, f_tupo, f_lstt, f_lsto, f_min, f_max, f_abs, f_stri, m_app, m_popi, m_ins, m_idxi, m_idxs, m_split, m_words, t_ins, t_idx, t_idxf, t_split,  m_ext, m_pop, m_join, t_app, t_ext, t_pop, t_join, o_set, y_non, y_int, y_bl, y_str, y_tup, y_fro, y_obj, v_tup, v_tI, v_fro, v_str, v_obj, z_tup, z_to, z_ot, z_obj, f_tups, t_idxt, en_obj, en_tup, rv_obj, rv_tup, s_tI, b_addI, f_lenI, f_tupI, f_lstI, i_tI, y_tI, isN_tI, tI_nil, still_nil, still_one, still_two, ixD0, ixD1, ixD2, ixD3, ixD4, ixD5, Nat.reduceAdd, Nat.reduceSub, Nat.reduceLT, Nat.reduceEqDiff, Nat.lt_add_one, Nat.zero_lt_succ, atD0, atD1, atD2, atD3, atD4, atD5, List.getElem?_cons_zero, List.getElem?_cons_succ, List.set_cons_zero, List.set_cons_succ, Option.some.injEq, D.int.injEq, D.bl.injEq, D.obj.injEq, D.str.injEq, D.tup.injEq, O.lst.injEq, List.cons.injEq, List.length_cons, List.length_nil, exists_eq_left', exists_eq_left, exists_eq, exists_eq', exists_and_left, true_and, and_true, and_self, decide_eq_true_eq, decide_eq_false_iff_not, Bool.not_eq_true', Bool.not_eq_false', Bool.not_true, Bool.not_false, forall_const, imp_self, reduceCtorEq, false_and, and_false, exists_false, or_false, false_or, implies_true, false_implies, true_implies, not_true_eq_false, not_false_eq_true, if_true, if_false, b__law_changed_5]
  refine ⟨fun _ => ?_, fun _ => ?_⟩
  · simp only [wS, wE, wEs, wT_tn, wT_tt, wTs_nil, wTs_cons, wAnd, wOr, wO, wIf, rdV, argN, tyB, b_add, b_sub, b_mul, b_fdiv, b_mod, b_adds, b_addt, b_addo, b_muls, b_mulo, c_eq, c_ne, c_lt, c_le, c_gt, c_ge, c_eqs, c_nes, c_eqb, c_neb, c_in1, c_nin1, c_init, c_ninit, c_inio, c_ninio, i_objs, dOk_int, dOk_str, o_sets, m_get1, m_get2, m_setd, t_get, t_setd, O.dic.injEq, c_inso, c_inst, c_ninso, c_ninst, f_lenS, f_tupS, i_tS, v_tS, y_tS, c_inS, c_ninS, isN_tS, c_isn, c_isntn, c_isb, c_isntb, isN_non, isN_int, isN_str, isN_tup, isN_bl, isN_obj, sq_tup, sq_fro, sq_obj, i_str, i_obj, i_tup, i_fro, s_str, s_tup, s_fro, s_obj, f_lens, f_lent, f_lenf, f_leno, f_inti, f_intb, f_boolb, f_sum, f_all, f_any, f_tupt, f_tupo, f_lstt, f_lsto, f_min, f_max, f_abs, f_stri, m_app, m_popi, m_ins, m_idxi, m_idxs, m_split, m_words, t_ins, t_idx, t_idxf, t_split,  m_ext, m_pop, m_join, t_app, t_ext, t_pop, t_join, o_set, y_non, y_int, y_bl, y_str, y_tup, y_fro, y_obj, v_tup, v_tI, v_fro, v_str, v_obj, z_tup, z_to, z_ot, z_obj, f_tups, t_idxt, en_obj, en_tup, rv_obj, rv_tup, s_tI, b_addI, f_lenI, f_tupI, f_lstI, i_tI, y_tI, isN_tI, tI_nil, still_nil, still_one, still_two, ixD0, ixD1, ixD2, ixD3, ixD4, ixD5, Nat.reduceAdd, Nat.reduceSub, Nat.reduceLT, Nat.reduceEqDiff, Nat.lt_add_one, Nat.zero_lt_succ, atD0, atD1, atD2, atD3, atD4, atD5, List.getElem?_cons_zero, List.getElem?_cons_succ, List.set_cons_zero, List.set_cons_succ, Option.some.injEq, D.int.injEq, D.bl.injEq, D.obj.injEq, D.str.injEq, D.tup.injEq, O.lst.injEq, List.cons.injEq, List.length_cons, List.length_nil, exists_eq_left', exists_eq_left, exists_eq, exists_eq', exists_and_left, true_and, and_true, and_self, decide_eq_true_eq, decide_eq_false_iff_not, Bool.not_eq_true', Bool.not_eq_false', Bool.not_true, Bool.not_false, forall_const, imp_self, reduceCtorEq, false_and, and_false, exists_false, or_false, false_or, implies_true, false_implies, true_implies, not_true_eq_false, not_false_eq_true, if_true, if_false, b__law_changed_6, e1, cut_take, cut_drop]
    refine ⟨by omega, by omega, by omega, .inl (h _ _ ?_ D3)⟩
    rw [List.length_append]; omega
  simp only [wS, wE, wEs, wT_tn, wT_tt, wTs_nil, wTs_cons, wAnd, wOr, wO, wIf, rdV, argN, tyB, b_add, b_sub, b_mul, b_fdiv, b_mod, b_adds, b_addt, b_addo, b_muls, b_mulo, c_eq, c_ne, c_lt, c_le, c_gt, c_ge, c_eqs, c_nes, c_eqb, c_neb, c_in1, c_nin1, c_init, c_ninit, c_inio, c_ninio, i_objs, dOk_int, dOk_str, o_sets, m_get1, m_get2, m_setd, t_get, t_setd, O.dic.injEq, c_inso, c_inst, c_ninso, c_ninst, f_lenS, f_tupS, i_tS, v_tS, y_tS, c_inS, c_ninS, isN_tS, c_isn, c_isntn, c_isb, c_isntb, isN_non, isN_int, isN_str, isN_tup, isN_bl, isN_obj, sq_tup, sq_fro, sq_obj, i_str, i_obj, i_tup, i_fro, s_str, s_tup, s_fro, s_obj, f_lens, f_lent, f_lenf, f_leno, f_inti, f_intb, f_boolb, f_sum, f_all, f_any, f_tupt, f_tupo, f_lstt, f_lsto, f_min, f_max, f_abs, f_stri, m_app, m_popi, m_ins, m_idxi, m_idxs, m_split, m_words, t_ins, t_idx, t_idxf, t_split,  m_ext, m_pop, m_join, t_app, t_ext, t_pop, t_join, o_set, y_non, y_int, y_bl, y_str, y_tup, y_fro, y_obj, v_tup, v_tI, v_fro, v_str, v_obj, z_tup, z_to, z_ot, z_obj, f_tups, t_idxt, en_obj, en_tup, rv_obj, rv_tup, s_tI, b_addI, f_lenI, f_tupI, f_lstI, i_tI, y_tI, isN_tI, tI_nil, still_nil, still_one, still_two, ixD0, ixD1, ixD2, ixD3, ixD4, ixD5, Nat.reduceAdd, Nat.reduceSub, Nat.reduceLT, Nat.reduceEqDiff, Nat.lt_add_one, Nat.zero_lt_succ, atD0, atD1, atD2, atD3, atD4, atD5, List.getElem?_cons_zero, List.getElem?_cons_succ, List.set_cons_zero, List.set_cons_succ, Option.some.injEq, D.int.injEq, D.bl.injEq, D.obj.injEq, D.str.injEq, D.tup.injEq, O.lst.injEq, List.cons.injEq, List.length_cons, List.length_nil, exists_eq_left', exists_eq_left, exists_eq, exists_eq', exists_and_left, true_and, and_true, and_self, decide_eq_true_eq, decide_eq_false_iff_not, Bool.not_eq_true', Bool.not_eq_false', Bool.not_true, Bool.not_false, forall_const, imp_self, reduceCtorEq, false_and, and_false, exists_false, or_false, false_or, implies_true, false_implies, true_implies, not_true_eq_false, not_false_eq_true, if_true, if_false, b__law_changed_7]
  refine ⟨fun _ => ?_, fun _ => ?_⟩
  · simp only [wS, wE, wEs, wT_tn, wT_tt, wTs_nil, wTs_cons, wAnd, wOr, wO, wIf, rdV, argN, tyB, b_add, b_sub, b_mul, b_fdiv, b_mod, b_adds, b_addt, b_addo, b_muls, b_mulo, c_eq, c_ne, c_lt, c_le, c_gt, c_ge, c_eqs, c_nes, c_eqb, c_neb, c_in1, c_nin1, c_init, c_ninit, c_inio, c_ninio, i_objs, dOk_int, dOk_str, o_sets, m_get1, m_get2, m_setd, t_get, t_setd, O.dic.injEq, c_inso, c_inst, c_ninso, c_ninst, f_lenS, f_tupS, i_tS, v_tS, y_tS, c_inS, c_ninS, isN_tS, c_isn, c_isntn, c_isb, c_isntb, isN_non, isN_int, isN_str, isN_tup, isN_bl, isN_obj, sq_tup, sq_fro, sq_obj, i_str, i_obj, i_tup, i_fro, s_str, s_tup, s_fro, s_obj, f_lens, f_lent, f_lenf, f_leno, f_inti, f_intb, f_boolb, f_sum, f_all, f_any, f_tupt, f_tupo, f_lstt, f_lsto, f_min, f_max, f_abs, f_stri, m_app, m_popi, m_ins, m_idxi, m_idxs, m_split, m_words, t_ins, t_idx, t_idxf, t_split,  m_ext, m_pop, m_join, t_app, t_ext, t_pop, t_join, o_set, y_non, y_int, y_bl, y_str, y_tup, y_fro, y_obj, v_tup, v_tI, v_fro, v_str, v_obj, z_tup, z_to, z_ot, z_obj, f_tups, t_idxt, en_obj, en_tup, rv_obj, rv_tup, s_tI, b_addI, f_lenI, f_tupI, f_lstI, i_tI, y_tI, isN_tI, tI_nil, still_nil, still_one, still_two, ixD0, ixD1, ixD2, ixD3, ixD4, ixD5, Nat.reduceAdd, Nat.reduceSub, Nat.reduceLT, Nat.reduceEqDiff, Nat.lt_add_one, Nat.zero_lt_succ, atD0, atD1, atD2, atD3, atD4, atD5, List.getElem?_cons_zero, List.getElem?_cons_succ, List.set_cons_zero, List.set_cons_succ, Option.some.injEq, D.int.injEq, D.bl.injEq, D.obj.injEq, D.str.injEq, D.tup.injEq, O.lst.injEq, List.cons.injEq, List.length_cons, List.length_nil, exists_eq_left', exists_eq_left, exists_eq, exists_eq', exists_and_left, true_and, and_true, and_self, decide_eq_true_eq, decide_eq_false_iff_not, Bool.not_eq_true', Bool.not_eq_false', Bool.not_true, Bool.not_false, forall_const, imp_self, reduceCtorEq, false_and, and_false, exists_false, or_false, false_or, implies_true, false_implies, true_implies, not_true_eq_false, not_false_eq_true, if_true, if_false, b__law_changed_8, e1, cut_take, cut_drop]
    refine ⟨by omega, by omega, by omega, by omega, .inl (h _ _ ?_ D3)⟩
    rw [List.length_append]; omega
  simp only [wS, wE, wEs, wT_tn, wT_tt, wTs_nil, wTs_cons, wAnd, wOr, wO, wIf, rdV, argN, tyB, b_add, b_sub, b_mul, b_fdiv, b_mod, b_adds, b_addt, b_addo, b_muls, b_mulo, c_eq, c_ne, c_lt, c_le, c_gt, c_ge, c_eqs, c_nes, c_eqb, c_neb, c_in1, c_nin1, c_init, c_ninit, c_inio, c_ninio, i_objs, dOk_int, dOk_str, o_sets, m_get1, m_get2, m_setd, t_get, t_setd, O.dic.injEq, c_inso, c_inst, c_ninso, c_ninst, f_lenS, f_tupS, i_tS, v_tS, y_tS, c_inS, c_ninS, isN_tS, c_isn, c_isntn, c_isb, c_isntb, isN_non, isN_int, isN_str, isN_tup, isN_bl, isN_obj, sq_tup, sq_fro, sq_obj, i_str, i_obj, i_tup, i_fro, s_str, s_tup, s_fro, s_obj, f_lens, f_lent, f_lenf, f_leno, f_inti, f_intb, f_boolb, f_sum, f_all, f_any, f_tupt, f_tupo, f_lstt, f_lsto, f_min, f_max, f_abs, f_stri, m_app, m_popi, m_ins, m_idxi, m_idxs, m_split, m_words, t_ins, t_idx, t_idxf, t_split,  m_ext, m_pop, m_join, t_app, t_ext, t_pop, t_join, o_set, y_non, y_int, y_bl, y_str, y_tup, y_fro, y_obj, v_tup, v_tI, v_fro, v_str, v_obj, z_tup, z_to, z_ot, z_obj, f_tups, t_idxt, en_obj, en_tup, rv_obj, rv_tup, s_tI, b_addI, f_lenI, f_tupI, f_lstI, i_tI, y_tI, isN_tI, tI_nil, still_nil, still_one, still_two, ixD0, ixD1, ixD2, ixD3, ixD4, ixD5, Nat.reduceAdd, Nat.reduceSub, Nat.reduceLT, Nat.reduceEqDiff, Nat.lt_add_one, Nat.zero_lt_succ, atD0, atD1, atD2, atD3, atD4, atD5, List.getElem?_cons_zero, List.getElem?_cons_succ, List.set_cons_zero, List.set_cons_succ, Option.some.injEq, D.int.injEq, D.bl.injEq, D.obj.injEq, D.str.injEq, D.tup.injEq, O.lst.injEq, List.cons.injEq, List.length_cons, List.length_nil, exists_eq_left', exists_eq_left, exists_eq, exists_eq', exists_and_left, true_and, and_true, and_self, decide_eq_true_eq, decide_eq_false_iff_not, Bool.not_eq_true', Bool.not_eq_false', Bool.not_true, Bool.not_false, forall_const, imp_self, reduceCtorEq, false_and, and_false, exists_false, or_false, false_or, implies_true, false_implies, true_implies, not_true_eq_false, not_false_eq_true, if_true, if_false, b__law_changed_9]
  refine ⟨fun _ => ?_, fun _ => ?_⟩
  · simp only [wS, wE, wEs, wT_tn, wT_tt, wTs_nil, wTs_cons, wAnd, wOr, wO, wIf, rdV, argN, tyB, b_add, b_sub, b_mul, b_fdiv, b_mod, b_adds, b_addt, b_addo, b_muls, b_mulo, c_eq, c_ne, c_lt, c_le, c_gt, c_ge, c_eqs, c_nes, c_eqb, c_neb, c_in1, c_nin1, c_init, c_ninit, c_inio, c_ninio, i_objs, dOk_int, dOk_str, o_sets, m_get1, m_get2, m_setd, t_get, t_setd, O.dic.injEq, c_inso, c_inst, c_ninso, c_ninst, f_lenS, f_tupS, i_tS, v_tS, y_tS, c_inS, c_ninS, isN_tS, c_isn, c_isntn, c_isb, c_isntb, isN_non, isN_int, isN_str, isN_tup, isN_bl, isN_obj, sq_tup, sq_fro, sq_obj, i_str, i_obj, i_tup, i_fro, s_str, s_tup, s_fro, s_obj, f_lens, f_lent, f_lenf, f_leno, f_inti, f_intb, f_boolb, f_sum, f_all, f_any, f_tupt, f_tupo, f_lstt, f_lsto, f_min, f_max, f_abs, f_stri, m_app, m_popi, m_ins, m_idxi, m_idxs, m_split, m_words, t_ins, t_idx, t_idxf, t_split,  m_ext, m_pop, m_join, t_app, t_ext, t_pop, t_join, o_set, y_non, y_int, y_bl, y_str, y_tup, y_fro, y_obj, v_tup, v_tI, v_fro, v_str, v_obj, z_tup, z_to, z_ot, z_obj, f_tups, t_idxt, en_obj, en_tup, rv_obj, rv_tup, s_tI, b_addI, f_lenI, f_tupI, f_lstI, i_tI, y_tI, isN_tI, tI_nil, still_nil, still_one, still_two, ixD0, ixD1, ixD2, ixD3, ixD4, ixD5, Nat.reduceAdd, Nat.reduceSub, Nat.reduceLT, Nat.reduceEqDiff, Nat.lt_add_one, Nat.zero_lt_succ, atD0, atD1, atD2, atD3, atD4, atD5, List.getElem?_cons_zero, List.getElem?_cons_succ, List.set_cons_zero, List.set_cons_succ, Option.some.injEq, D.int.injEq, D.bl.injEq, D.obj.injEq, D.str.injEq, D.tup.injEq, O.lst.injEq, List.cons.injEq, List.length_cons, List.length_nil, exists_eq_left', exists_eq_left, exists_eq, exists_eq', exists_and_left, true_and, and_true, and_self, decide_eq_true_eq, decide_eq_false_iff_not, Bool.not_eq_true', Bool.not_eq_false', Bool.not_true, Bool.not_false, forall_const, imp_self, reduceCtorEq, false_and, and_false, exists_false, or_false, false_or, implies_true, false_implies, true_implies, not_true_eq_false, not_false_eq_true, if_true, if_false, b__law_changed_10]
    refine ⟨by omega, .inl (h _ _ ?_ D3)⟩
    rw [List.length_append]; show _ + 1 ≤ _; omega
  · simp only [wS, wE, wEs, wT_tn, wT_tt, wTs_nil, wTs_cons, wAnd, wOr, wO, wIf, rdV, argN, tyB, b_add, b_sub, b_mul, b_fdiv, b_mod, b_adds, b_addt, b_addo, b_muls, b_mulo, c_eq, c_ne, c_lt, c_le, c_gt, c_ge, c_eqs, c_nes, c_eqb, c_neb, c_in1, c_nin1, c_init, c_ninit, c_inio, c_ninio, i_objs, dOk_int, dOk_str, o_sets, m_get1, m_get2, m_setd, t_get, t_setd, O.dic.injEq, c_inso, c_inst, c_ninso, c_ninst, f_lenS, f_tupS, i_tS, v_tS, y_tS, c_inS, c_ninS, isN_tS, c_isn, c_isntn, c_isb, c_isntb, isN_non, isN_int, isN_str, isN_tup, isN_bl, isN_obj, sq_tup, sq_fro, sq_obj, i_str, i_obj, i_tup, i_fro, s_str, s_tup, s_fro, s_obj, f_lens, f_lent, f_lenf, f_leno, f_inti, f_intb, f_boolb, f_sum, f_all, f_any, f_tupt, f_tupo, f_lstt, f_lsto, f_min, f_max, f_abs, f_stri, m_app, m_popi, m_ins, m_idxi, m_idxs, m_split, m_words, t_ins, t_idx, t_idxf, t_split,  m_ext, m_pop, m_join, t_app, t_ext, t_pop, t_join, o_set, y_non, y_int, y_bl, y_str, y_tup, y_fro, y_obj, v_tup, v_tI, v_fro, v_str, v_obj, z_tup, z_to, z_ot, z_obj, f_tups, t_idxt, en_obj, en_tup, rv_obj, rv_tup, s_tI, b_addI, f_lenI, f_tupI, f_lstI, i_tI, y_tI, isN_tI, tI_nil, still_nil, still_one, still_two, ixD0, ixD1, ixD2, ixD3, ixD4, ixD5, Nat.reduceAdd, Nat.reduceSub, Nat.reduceLT, Nat.reduceEqDiff, Nat.lt_add_one, Nat.zero_lt_succ, atD0, atD1, atD2, atD3, atD4, atD5, List.getElem?_cons_zero, List.getElem?_cons_succ, List.set_cons_zero, List.set_cons_succ, Option.some.injEq, D.int.injEq, D.bl.injEq, D.obj.injEq, D.str.injEq, D.tup.injEq, O.lst.injEq, List.cons.injEq, List.length_cons, List.length_nil, exists_eq_left', exists_eq_left, exists_eq, exists_eq', exists_and_left, true_and, and_true, and_self, decide_eq_true_eq, decide_eq_false_iff_not, Bool.not_eq_true', Bool.not_eq_false', Bool.not_true, Bool.not_false, forall_const, imp_self, reduceCtorEq, false_and, and_false, exists_false, or_false, false_or, implies_true, false_implies, true_implies, not_true_eq_false, not_false_eq_true, if_true, if_false, b__law_changed_11]
    refine ⟨by omega, .inl (h _ _ ?_ D3)⟩
    rw [List.length_append]; omega
theorem broken_ok {k s : Nat} {st : Sto} {w : List Nat} {Q : KD} {E : XD} (hS : Src st s) (hl : w.length < 1000) (h : ∀ v st', v.length ≤ 2 * w.length + 1 → Dr s st st' → Q (.str v) st') : wCall GG TT (k + 4) 12 [.obj s, .str w] st Q E := by
  refine wCall_in (fn := f__law_broken) rfl rfl rfl ?_
  show wS _ _ b__law_broken_0 [some (.obj s), some (.str w), none, none] _ _
  simp only [wS, wE, wEs, wT_tn, wT_tt, wTs_nil, wTs_cons, wAnd, wOr, wO, wIf, rdV, argN, tyB, b_add, b_sub, b_mul, b_fdiv, b_mod, b_adds, b_addt, b_addo, b_muls, b_mulo, c_eq, c_ne, c_lt, c_le, c_gt, c_ge, c_eqs, c_nes, c_eqb, c_neb, c_in1, c_nin1, c_init, c_ninit, c_inio, c_ninio, i_objs, dOk_int, dOk_str, o_sets, m_get1, m_get2, m_setd, t_get, t_setd, O.dic.injEq, c_inso, c_inst, c_ninso, c_ninst, f_lenS, f_tupS, i_tS, v_tS, y_tS, c_inS, c_ninS, isN_tS, c_isn, c_isntn, c_isb, c_isntb, isN_non, isN_int, isN_str, isN_tup, isN_bl, isN_obj, sq_tup, sq_fro, sq_obj, i_str, i_obj, i_tup, i_fro, s_str, s_tup, s_fro, s_obj, f_lens, f_lent, f_lenf, f_leno, f_inti, f_intb, f_boolb, f_sum, f_all, f_any, f_tupt, f_tupo, f_lstt, f_lsto, f_min, f_max, f_abs, f_stri, m_app, m_popi, m_ins, m_idxi, m_idxs, m_split, m_words, t_ins, t_idx, t_idxf, t_split,  m_ext, m_pop, m_join, t_app, t_ext, t_pop, t_join, o_set, y_non, y_int, y_bl, y_str, y_tup, y_fro, y_obj, v_tup, v_tI, v_fro, v_str, v_obj, z_tup, z_to, z_ot, z_obj, f_tups, t_idxt, en_obj, en_tup, rv_obj, rv_tup, s_tI, b_addI, f_lenI, f_tupI, f_lstI, i_tI, y_tI, isN_tI, tI_nil, still_nil, still_one, still_two, ixD0, ixD1, ixD2, ixD3, ixD4, ixD5, Nat.reduceAdd, Nat.reduceSub, Nat.reduceLT, Nat.reduceEqDiff, Nat.lt_add_one, Nat.zero_lt_succ, atD0, atD1, atD2, atD3, atD4, atD5, List.getElem?_cons_zero, List.getElem?_cons_succ, List.set_cons_zero, List.set_cons_succ, Option.some.injEq, D.int.injEq, D.bl.injEq, D.obj.injEq, D.str.injEq, D.tup.injEq, O.lst.injEq, List.cons.injEq, List.length_cons, List.length_nil, exists_eq_left', exists_eq_left, exists_eq, exists_eq', exists_and_left, true_and, and_true, and_self, decide_eq_true_eq, decide_eq_false_iff_not, Bool.not_eq_true', Bool.not_eq_false', Bool.not_true, Bool.not_false, forall_const, imp_self, reduceCtorEq, false_and, and_false, exists_false, or_false, false_or, implies_true, false_implies, true_implies, not_true_eq_false, not_false_eq_true, if_true, if_false, b__law_broken_0]
  simp only [wS, wE, wEs, wT_tn, wT_tt, wTs_nil, wTs_cons, wAnd, wOr, wO, wIf, rdV, argN, tyB, b_add, b_sub, b_mul, b_fdiv, b_mod, b_adds, b_addt, b_addo, b_muls, b_mulo, c_eq, c_ne, c_lt, c_le, c_gt, c_ge, c_eqs, c_nes, c_eqb, c_neb, c_in1, c_nin1, c_init, c_ninit, c_inio, c_ninio, i_objs, dOk_int, dOk_str, o_sets, m_get1, m_get2, m_setd, t_get, t_setd, O.dic.injEq, c_inso, c_inst, c_ninso, c_ninst, f_lenS, f_tupS, i_tS, v_tS, y_tS, c_inS, c_ninS, isN_tS, c_isn, c_isntn, c_isb, c_isntb, isN_non, isN_int, isN_str, isN_tup, isN_bl, isN_obj, sq_tup, sq_fro, sq_obj, i_str, i_obj, i_tup, i_fro, s_str, s_tup, s_fro, s_obj, f_lens, f_lent, f_lenf, f_leno, f_inti, f_intb, f_boolb, f_sum, f_all, f_any, f_tupt, f_tupo, f_lstt, f_lsto, f_min, f_max, f_abs, f_stri, m_app, m_popi, m_ins, m_idxi, m_idxs, m_split, m_words, t_ins, t_idx, t_idxf, t_split,  m_ext, m_pop, m_join, t_app, t_ext, t_pop, t_join, o_set, y_non, y_int, y_bl, y_str, y_tup, y_fro, y_obj, v_tup, v_tI, v_fro, v_str, v_obj, z_tup, z_to, z_ot, z_obj, f_tups, t_idxt, en_obj, en_tup, rv_obj, rv_tup, s_tI, b_addI, f_lenI, f_tupI, f_lstI, i_tI, y_tI, isN_tI, tI_nil, still_nil, still_one, still_two, ixD0, ixD1, ixD2, ixD3, ixD4, ixD5, Nat.reduceAdd, Nat.reduceSub, Nat.reduceLT, Nat.reduceEqDiff, Nat.lt_add_one, Nat.zero_lt_succ, atD0, atD1, atD2, atD3, atD4, atD5, List.getElem?_cons_zero, List.getElem?_cons_succ, List.set_cons_zero, List.set_cons_succ, Option.some.injEq, D.int.injEq, D.bl.injEq, D.obj.injEq, D.str.injEq, D.tup.injEq, O.lst.injEq, List.cons.injEq, List.length_cons, List.length_nil, exists_eq_left', exists_eq_left, exists_eq, exists_eq', exists_and_left, true_and, and_true, and_self, decide_eq_true_eq, decide_eq_false_iff_not, Bool.not_eq_true', Bool.not_eq_false', Bool.not_true, Bool.not_false, forall_const, imp_self, reduceCtorEq, false_and, and_false, exists_false, or_false, false_or, implies_true, false_implies, true_implies, not_true_eq_false, not_false_eq_true, if_true, if_false, b__law_broken_1]
  refine ⟨by omega, draw_ok hS (by omega) fun n st1 hn hd1 => ?_⟩
  simp only [wS, wE, wEs, wT_tn, wT_tt, wTs_nil, wTs_cons, wAnd, wOr, wO, wIf, rdV, argN, tyB, b_add, b_sub, b_mul, b_fdiv, b_mod, b_adds, b_addt, b_addo, b_muls, b_mulo, c_eq, c_ne, c_lt, c_le, c_gt, c_ge, c_eqs, c_nes, c_eqb, c_neb, c_in1, c_nin1, c_init, c_ninit, c_inio, c_ninio, i_objs, dOk_int, dOk_str, o_sets, m_get1, m_get2, m_setd, t_get, t_setd, O.dic.injEq, c_inso, c_inst, c_ninso, c_ninst, f_lenS, f_tupS, i_tS, v_tS, y_tS, c_inS, c_ninS, isN_tS, c_isn, c_isntn, c_isb, c_isntb, isN_non, isN_int, isN_str, isN_tup, isN_bl, isN_obj, sq_tup, sq_fro, sq_obj, i_str, i_obj, i_tup, i_fro, s_str, s_tup, s_fro, s_obj, f_lens, f_lent, f_lenf, f_leno, f_inti, f_intb, f_boolb, f_sum, f_all, f_any, f_tupt, f_tupo, f_lstt, f_lsto, f_min, f_max, f_abs, f_stri, m_app, m_popi, m_ins, m_idxi, m_idxs, m_split, m_words, t_ins, t_idx, t_idxf, t_split,  m_ext, m_pop, m_join, t_app, t_ext, t_pop, t_join, o_set, y_non, y_int, y_bl, y_str, y_tup, y_fro, y_obj, v_tup, v_tI, v_fro, v_str, v_obj, z_tup, z_to, z_ot, z_obj, f_tups, t_idxt, en_obj, en_tup, rv_obj, rv_tup, s_tI, b_addI, f_lenI, f_tupI, f_lstI, i_tI, y_tI, isN_tI, tI_nil, still_nil, still_one, still_two, ixD0, ixD1, ixD2, ixD3, ixD4, ixD5, Nat.reduceAdd, Nat.reduceSub, Nat.reduceLT, Nat.reduceEqDiff, Nat.lt_add_one, Nat.zero_lt_succ, atD0, atD1, atD2, atD3, atD4, atD5, List.getElem?_cons_zero, List.getElem?_cons_succ, List.set_cons_zero, List.set_cons_succ, Option.some.injEq, D.int.injEq, D.bl.injEq, D.obj.injEq, D.str.injEq, D.tup.injEq, O.lst.injEq, List.cons.injEq, List.length_cons, List.length_nil, exists_eq_left', exists_eq_left, exists_eq, exists_eq', exists_and_left, true_and, and_true, and_self, decide_eq_true_eq, decide_eq_false_iff_not, Bool.not_eq_true', Bool.not_eq_false', Bool.not_true, Bool.not_false, forall_const, imp_self, reduceCtorEq, false_and, and_false, exists_false, or_false, false_or, implies_true, false_implies, true_implies, not_true_eq_false, not_false_eq_true, if_true, if_false, b__law_broken_2, cut_take]
  refine ⟨by omega, some_str hd1.1 (by simp) (by decide) fun c st2 hd2 => ?_⟩
  have t1 : (w.take n).length ≤ w.length := by rw [List.length_take]; omega
  have t2 : (w.drop n).length ≤ w.length - n := by rw [List.length_drop]; omega
  have t3 : (w.take n ++ [c]).length ≤ w.length + 1 := by rw [List.length_append]; show _ + 1 ≤ _; omega
  simp only [wS, wE, wEs, wT_tn, wT_tt, wTs_nil, wTs_cons, wAnd, wOr, wO, wIf, rdV, argN, tyB, b_add, b_sub, b_mul, b_fdiv, b_mod, b_adds, b_addt, b_addo, b_muls, b_mulo, c_eq, c_ne, c_lt, c_le, c_gt, c_ge, c_eqs, c_nes, c_eqb, c_neb, c_in1, c_nin1, c_init, c_ninit, c_inio, c_ninio, i_objs, dOk_int, dOk_str, o_sets, m_get1, m_get2, m_setd, t_get, t_setd, O.dic.injEq, c_inso, c_inst, c_ninso, c_ninst, f_lenS, f_tupS, i_tS, v_tS, y_tS, c_inS, c_ninS, isN_tS, c_isn, c_isntn, c_isb, c_isntb, isN_non, isN_int, isN_str, isN_tup, isN_bl, isN_obj, sq_tup, sq_fro, sq_obj, i_str, i_obj, i_tup, i_fro, s_str, s_tup, s_fro, s_obj, f_lens, f_lent, f_lenf, f_leno, f_inti, f_intb, f_boolb, f_sum, f_all, f_any, f_tupt, f_tupo, f_lstt, f_lsto, f_min, f_max, f_abs, f_stri, m_app, m_popi, m_ins, m_idxi, m_idxs, m_split, m_words, t_ins, t_idx, t_idxf, t_split,  m_ext, m_pop, m_join, t_app, t_ext, t_pop, t_join, o_set, y_non, y_int, y_bl, y_str, y_tup, y_fro, y_obj, v_tup, v_tI, v_fro, v_str, v_obj, z_tup, z_to, z_ot, z_obj, f_tups, t_idxt, en_obj, en_tup, rv_obj, rv_tup, s_tI, b_addI, f_lenI, f_tupI, f_lstI, i_tI, y_tI, isN_tI, tI_nil, still_nil, still_one, still_two, ixD0, ixD1, ixD2, ixD3, ixD4, ixD5, Nat.reduceAdd, Nat.reduceSub, Nat.reduceLT, Nat.reduceEqDiff, Nat.lt_add_one, Nat.zero_lt_succ, atD0, atD1, atD2, atD3, atD4, atD5, List.getElem?_cons_zero, List.getElem?_cons_succ, List.set_cons_zero, List.set_cons_succ, Option.some.injEq, D.int.injEq, D.bl.injEq, D.obj.injEq, D.str.injEq, D.tup.injEq, O.lst.injEq, List.cons.injEq, List.length_cons, List.length_nil, exists_eq_left', exists_eq_left, exists_eq, exists_eq', exists_and_left, true_and, and_true, and_self, decide_eq_true_eq, decide_eq_false_iff_not, Bool.not_eq_true', Bool.not_eq_false', Bool.not_true, Bool.not_false, forall_const, imp_self, reduceCtorEq, false_and, and_false, exists_false, or_false, false_or, implies_true, false_implies, true_implies, not_true_eq_false, not_false_eq_true, if_true, if_false, cut_drop]
  refine ⟨by omega, by omega, by omega, .inl (h _ _ ?_ (hd1.trans hd2))⟩
  rw [List.length_append]; omega
end Rf

namespace Rf
open PySem
theorem app_some {st g : Sto} {i : Nat} {o : O} (h : st[i]? = some o) : (st ++ g)[i]? = some o := by
  rw [app_lt (List.getElem?_eq_some_iff.mp h).1]; exact h
/-! the store behind: the source has turned, things of one's own stand behind -/
structure Ext (s : Nat) (st st' : Sto) : Prop where
  src : Src st' s
  lt : s < st.length
  ex : ∃ st3 g, st' = st3 ++ g ∧ Dr s st st3
theorem Ext.refl {s : Nat} {st : Sto} (h : Src st s) : Ext s st st := ⟨h, h.lt, st, [], by simp, .refl h⟩
theorem Ext.len {s : Nat} {st st' : Sto} (h : Ext s st st') : st.length ≤ st'.length := by
  obtain ⟨st3, g, rfl, d⟩ := h.ex
  rw [List.length_append, d.len]; omega
theorem Ext.app {s : Nat} {st st' : Sto} (h : Ext s st st') (g : Sto) : Ext s st (st' ++ g) := by
  obtain ⟨st3, g3, rfl, d⟩ := h.ex
  exact ⟨h.src.app, h.lt, st3, g3 ++ g, by simp, d⟩
theorem Ext.dr {s : Nat} {st st' st'' : Sto} (h : Ext s st st') (k : Dr s st' st'') : Ext s st st'' := by
  obtain ⟨st3, g3, rfl, d⟩ := h.ex
  obtain ⟨st4, rfl, d4⟩ := k.cut (by rw [d.len]; exact h.lt)
  exact ⟨k.1, h.lt, st4, g3, rfl, d.trans d4⟩
theorem Ext.set {s n : Nat} {st st' : Sto} (h : Ext s st st') (hn : st.length ≤ n) (o : O) : Ext s st (st'.set n o) := by
  obtain ⟨st3, g3, rfl, d⟩ := h.ex
  have e : (st3 ++ g3).set n o = st3 ++ g3.set (n - st3.length) o := List.set_append_right _ _ (by rw [d.len]; exact hn)
  rw [e]
  exact ⟨d.1.app, h.lt, st3, _, rfl, d⟩
theorem Ext.gc {s : Nat} {st st' : Sto} {d : D} {K : KD} (h : Ext s st st') (hd : d.low st.length = true) (k : ∀ st3, Dr s st st3 → K d st3) : gcTo st d st' K := by
  obtain ⟨st3, g3, rfl, dd⟩ := h.ex
  exact gc_dr dd hd h.lt (k st3 dd)
theorem Ext.get {s i : Nat} {st st' : Sto} (h : Ext s st st') (hi : i < st.length) (hs : i ≠ s) : st'[i]? = st[i]? := by
  obtain ⟨st3, g3, rfl, d⟩ := h.ex
  rw [List.getElem?_append_left (by rw [d.len]; exact hi), d.get hs]
theorem Ext.at {s i : Nat} {st st' : Sto} {o : O} (h : Ext s st st') (e : st[i]? = some o) (hs : i ≠ s) : st'[i]? = some o := by
  rw [h.get (List.getElem?_eq_some_iff.mp e).1 hs, e]
theorem Ext.trans {s : Nat} {st st' st'' : Sto} (h : Ext s st st') (k : Ext s st' st'') : Ext s st st'' := by
  obtain ⟨st3, g3, rfl, d⟩ := k.ex
  exact (h.dr d).app g3
theorem gc_put {st g : Sto} {p : Nat} {o : O} {d : D} {K : KD} (hp : p < st.length) (ho : o.low st.length = true) (hd : d.low st.length = true) (k : K d (st.set p o)) : gcTo st d ((st ++ g).set p o) K := by
  rw [app_set_lt hp]
  refine ⟨st.length, Nat.le_refl _, by simp, hd, fun i hi => ?_, ?_⟩
  · rw [app_lt (by simpa using hi)]
    by_cases e : i = p
    · subst e
      exact .inr ⟨o, List.getElem?_set_self hp, ho⟩
    · exact .inl ⟨hi, List.getElem?_set_ne (Ne.symm e)⟩
  · have e : (st.set p o).length = st.length := by simp
    rw [← e, List.take_left]; exact k
end Rf

namespace Rf
open PySem
theorem some_obj {k s p : Nat} {st : Sto} {xs : List D} {Q : KD} {E : XD} (hS : Src st s) (hps : p ≠ s) (hp : st[p]? = some (.lst xs)) (hl : 0 < xs.length) (hb : xs.length < 1073741824) (h : ∀ x st', x ∈ xs → Dr s st st' → Q x st') : wCall GG TT (k + 3) 7 [.obj s, .obj p] st Q E := by
  refine wCall_in (fn := f__law_some) rfl rfl rfl ?_
  show wS _ _ b__law_some_0 [some (.obj s), some (.obj p)] _ _
  simp only [wS, wE, wEs, wT_tn, wT_tt, wTs_nil, wTs_cons, wAnd, wOr, wO, wIf, rdV, argN, tyB, b_add, b_sub, b_mul, b_fdiv, b_mod, b_adds, b_addt, b_addo, b_muls, b_mulo, c_eq, c_ne, c_lt, c_le, c_gt, c_ge, c_eqs, c_nes, c_eqb, c_neb, c_in1, c_nin1, c_init, c_ninit, c_inio, c_ninio, i_objs, dOk_int, dOk_str, o_sets, m_get1, m_get2, m_setd, t_get, t_setd, O.dic.injEq, c_inso, c_inst, c_ninso, c_ninst, f_lenS, f_tupS, i_tS, v_tS, y_tS, c_inS, c_ninS, isN_tS, c_isn, c_isntn, c_isb, c_isntb, isN_non, isN_int, isN_str, isN_tup, isN_bl, isN_obj, sq_tup, sq_fro, sq_obj, i_str, i_obj, i_tup, i_fro, s_str, s_tup, s_fro, s_obj, f_lens, f_lent, f_lenf, f_leno, f_inti, f_intb, f_boolb, f_sum, f_all, f_any, f_tupt, f_tupo, f_lstt, f_lsto, f_min, f_max, f_abs, f_stri, m_app, m_popi, m_ins, m_idxi, m_idxs, m_split, m_words, t_ins, t_idx, t_idxf, t_split,  m_ext, m_pop, m_join, t_app, t_ext, t_pop, t_join, o_set, y_non, y_int, y_bl, y_str, y_tup, y_fro, y_obj, v_tup, v_tI, v_fro, v_str, v_obj, z_tup, z_to, z_ot, z_obj, f_tups, t_idxt, en_obj, en_tup, rv_obj, rv_tup, s_tI, b_addI, f_lenI, f_tupI, f_lstI, i_tI, y_tI, isN_tI, tI_nil, still_nil, still_one, still_two, ixD0, ixD1, ixD2, ixD3, ixD4, ixD5, Nat.reduceAdd, Nat.reduceSub, Nat.reduceLT, Nat.reduceEqDiff, Nat.lt_add_one, Nat.zero_lt_succ, atD0, atD1, atD2, atD3, atD4, atD5, List.getElem?_cons_zero, List.getElem?_cons_succ, List.set_cons_zero, List.set_cons_succ, Option.some.injEq, D.int.injEq, D.bl.injEq, D.obj.injEq, D.str.injEq, D.tup.injEq, O.lst.injEq, List.cons.injEq, List.length_cons, List.length_nil, exists_eq_left', exists_eq_left, exists_eq, exists_eq', exists_and_left, true_and, and_true, and_self, decide_eq_true_eq, decide_eq_false_iff_not, Bool.not_eq_true', Bool.not_eq_false', Bool.not_true, Bool.not_false, forall_const, imp_self, reduceCtorEq, false_and, and_false, exists_false, or_false, false_or, implies_true, false_implies, true_implies, not_true_eq_false, not_false_eq_true, if_true, if_false, b__law_some_0, hp]
  refine draw_ok hS (by omega) fun n st' b c => ?_
  have hn : n < xs.length := by omega
  have hp' : st'[p]? = some (.lst xs) := by rw [c.get hps]; exact hp
  simp only [wS, wE, wEs, wT_tn, wT_tt, wTs_nil, wTs_cons, wAnd, wOr, wO, wIf, rdV, argN, tyB, b_add, b_sub, b_mul, b_fdiv, b_mod, b_adds, b_addt, b_addo, b_muls, b_mulo, c_eq, c_ne, c_lt, c_le, c_gt, c_ge, c_eqs, c_nes, c_eqb, c_neb, c_in1, c_nin1, c_init, c_ninit, c_inio, c_ninio, i_objs, dOk_int, dOk_str, o_sets, m_get1, m_get2, m_setd, t_get, t_setd, O.dic.injEq, c_inso, c_inst, c_ninso, c_ninst, f_lenS, f_tupS, i_tS, v_tS, y_tS, c_inS, c_ninS, isN_tS, c_isn, c_isntn, c_isb, c_isntb, isN_non, isN_int, isN_str, isN_tup, isN_bl, isN_obj, sq_tup, sq_fro, sq_obj, i_str, i_obj, i_tup, i_fro, s_str, s_tup, s_fro, s_obj, f_lens, f_lent, f_lenf, f_leno, f_inti, f_intb, f_boolb, f_sum, f_all, f_any, f_tupt, f_tupo, f_lstt, f_lsto, f_min, f_max, f_abs, f_stri, m_app, m_popi, m_ins, m_idxi, m_idxs, m_split, m_words, t_ins, t_idx, t_idxf, t_split,  m_ext, m_pop, m_join, t_app, t_ext, t_pop, t_join, o_set, y_non, y_int, y_bl, y_str, y_tup, y_fro, y_obj, v_tup, v_tI, v_fro, v_str, v_obj, z_tup, z_to, z_ot, z_obj, f_tups, t_idxt, en_obj, en_tup, rv_obj, rv_tup, s_tI, b_addI, f_lenI, f_tupI, f_lstI, i_tI, y_tI, isN_tI, tI_nil, still_nil, still_one, still_two, ixD0, ixD1, ixD2, ixD3, ixD4, ixD5, Nat.reduceAdd, Nat.reduceSub, Nat.reduceLT, Nat.reduceEqDiff, Nat.lt_add_one, Nat.zero_lt_succ, atD0, atD1, atD2, atD3, atD4, atD5, List.getElem?_cons_zero, List.getElem?_cons_succ, List.set_cons_zero, List.set_cons_succ, Option.some.injEq, D.int.injEq, D.bl.injEq, D.obj.injEq, D.str.injEq, D.tup.injEq, O.lst.injEq, List.cons.injEq, List.length_cons, List.length_nil, exists_eq_left', exists_eq_left, exists_eq, exists_eq', exists_and_left, true_and, and_true, and_self, decide_eq_true_eq, decide_eq_false_iff_not, Bool.not_eq_true', Bool.not_eq_false', Bool.not_true, Bool.not_false, forall_const, imp_self, reduceCtorEq, false_and, and_false, exists_false, or_false, false_or, implies_true, false_implies, true_implies, not_true_eq_false, not_false_eq_true, if_true, if_false, atD_nat, hp']
  exact ⟨xs[n], List.getElem?_eq_getElem hn, .inl (h _ _ (List.getElem_mem _) c)⟩
/-- at t stands a row of at most m short texts -/
def Tx (s t : Nat) (st : Sto) (m : Nat) (st' : Sto) : Prop := ∃ ss : List (List Nat), st'[t]? = some (.lst (ss.map D.str)) ∧ Ext s st st' ∧ ss.length ≤ m ∧ ∀ w ∈ ss, w.length ≤ 1000
theorem strs_low (m : Nat) (ss : List (List Nat)) : O.low m (.lst (ss.map D.str)) = true := tS_low m ss
theorem Tx.add {s t m : Nat} {st st' : Sto} {ss ws : List (List Nat)} (X : Ext s st st') (ht : st.length ≤ t) (h1 : t < st'.length) (hl : ss.length + ws.length ≤ m) (hs : ∀ w ∈ ss, w.length ≤ 1000) (hw : ∀ w ∈ ws, w.length ≤ 1000) :
    Tx s t st m (st'.set t (.lst (ss.map D.str ++ ws.map D.str))) :=
  ⟨ss ++ ws, by rw [List.getElem?_set_self h1, List.map_append], X.set ht _, by rw [List.length_append]; exact hl, fun w hm => (List.mem_append.mp hm).elim (hs w) (hw w)⟩
theorem texts_ok {k s n : Nat} {st : Sto} {word digits : List Nat} {Q : KD} {E : XD} (hS : Src st s) (hns : n ≠ s) (hn : st[n]? = some (.lst (RES.map D.str))) (hw : word.length = 14) (hd : digits.length = 5)
    (h : ∀ (t : Nat) (ss : List (List Nat)) (st' : Sto), st.length ≤ t → st'[t]? = some (.lst (ss.map D.str)) → Ext s st st' → ss.length ≤ 200 → (∀ w ∈ ss, w.length ≤ 1000) → Q (.obj t) st') : wCall GG TT (k + 5) 13 [.obj s, .obj n, .str word, .str digits] st Q E := by
  refine wCall_in (fn := f__law_texts) rfl rfl rfl ?_
  show wS _ _ b__law_texts_0 [some (.obj s), some (.obj n), some (.str word), some (.str digits), none, none, none] _ _
  simp only [wS, wE, wEs, wT_tn, wT_tt, wTs_nil, wTs_cons, wAnd, wOr, wO, wIf, rdV, argN, tyB, b_add, b_sub, b_mul, b_fdiv, b_mod, b_adds, b_addt, b_addo, b_muls, b_mulo, c_eq, c_ne, c_lt, c_le, c_gt, c_ge, c_eqs, c_nes, c_eqb, c_neb, c_in1, c_nin1, c_init, c_ninit, c_inio, c_ninio, i_objs, dOk_int, dOk_str, o_sets, m_get1, m_get2, m_setd, t_get, t_setd, O.dic.injEq, c_inso, c_inst, c_ninso, c_ninst, f_lenS, f_tupS, i_tS, v_tS, y_tS, c_inS, c_ninS, isN_tS, c_isn, c_isntn, c_isb, c_isntb, isN_non, isN_int, isN_str, isN_tup, isN_bl, isN_obj, sq_tup, sq_fro, sq_obj, i_str, i_obj, i_tup, i_fro, s_str, s_tup, s_fro, s_obj, f_lens, f_lent, f_lenf, f_leno, f_inti, f_intb, f_boolb, f_sum, f_all, f_any, f_tupt, f_tupo, f_lstt, f_lsto, f_min, f_max, f_abs, f_stri, m_app, m_popi, m_ins, m_idxi, m_idxs, m_split, m_words, t_ins, t_idx, t_idxf, t_split,  m_ext, m_pop, m_join, t_app, t_ext, t_pop, t_join, o_set, y_non, y_int, y_bl, y_str, y_tup, y_fro, y_obj, v_tup, v_tI, v_fro, v_str, v_obj, z_tup, z_to, z_ot, z_obj, f_tups, t_idxt, en_obj, en_tup, rv_obj, rv_tup, s_tI, b_addI, f_lenI, f_tupI, f_lstI, i_tI, y_tI, isN_tI, tI_nil, still_nil, still_one, still_two, ixD0, ixD1, ixD2, ixD3, ixD4, ixD5, Nat.reduceAdd, Nat.reduceSub, Nat.reduceLT, Nat.reduceEqDiff, Nat.lt_add_one, Nat.zero_lt_succ, atD0, atD1, atD2, atD3, atD4, atD5, List.getElem?_cons_zero, List.getElem?_cons_succ, List.set_cons_zero, List.set_cons_succ, Option.some.injEq, D.int.injEq, D.bl.injEq, D.obj.injEq, D.str.injEq, D.tup.injEq, O.lst.injEq, List.cons.injEq, List.length_cons, List.length_nil, exists_eq_left', exists_eq_left, exists_eq, exists_eq', exists_and_left, true_and, and_true, and_self, decide_eq_true_eq, decide_eq_false_iff_not, Bool.not_eq_true', Bool.not_eq_false', Bool.not_true, Bool.not_false, forall_const, imp_self, reduceCtorEq, false_and, and_false, exists_false, or_false, false_or, implies_true, false_implies, true_implies, not_true_eq_false, not_false_eq_true, if_true, if_false, b__law_texts_0, hn]
  refine ⟨by decide, RES.map D.str, by rw [app_lt (by simp), app_last], [.str []], app_last, by decide, ?_⟩
  generalize ht : List.length (st ++ [O.lst (RES.map D.str)] ++ [O.lst [D.str []]]) = t
  have hts : st.length ≤ t := by rw [← ht]; simp
  have hst := hS.lt
  have T0 : Tx s t st 41 (st ++ [O.lst (RES.map D.str)] ++ [O.lst [D.str []]] ++ [O.lst (RES.map D.str ++ [D.str []])]) := by
    refine ⟨RES ++ [[]], by rw [← ht, app_last, List.map_append]; rfl, (((Ext.refl hS).app _).app _).app _, by decide, fun w hm => ?_⟩
    rcases List.mem_append.mp hm with z | z
    · have := res_len w z; omega
    · rw [List.mem_singleton] at z; rw [z]; simp
  revert T0
  generalize (st ++ [O.lst (RES.map D.str)] ++ [O.lst [D.str []]] ++ [O.lst (RES.map D.str ++ [D.str []])]) = st1
  intro T0
  have last : ∀ st' a b, Tx s t st 92 st' → wS GG (wCall GG TT (k + 4)) b__law_texts_9 [some (.obj s), some (.obj n), some (.str word), some (.str digits), some (.obj t), a, b] st' (bodyEn st Q E) := by
    intro st' a b T
    simp only [wS, wE, wEs, wT_tn, wT_tt, wTs_nil, wTs_cons, wAnd, wOr, wO, wIf, rdV, argN, tyB, b_add, b_sub, b_mul, b_fdiv, b_mod, b_adds, b_addt, b_addo, b_muls, b_mulo, c_eq, c_ne, c_lt, c_le, c_gt, c_ge, c_eqs, c_nes, c_eqb, c_neb, c_in1, c_nin1, c_init, c_ninit, c_inio, c_ninio, i_objs, dOk_int, dOk_str, o_sets, m_get1, m_get2, m_setd, t_get, t_setd, O.dic.injEq, c_inso, c_inst, c_ninso, c_ninst, f_lenS, f_tupS, i_tS, v_tS, y_tS, c_inS, c_ninS, isN_tS, c_isn, c_isntn, c_isb, c_isntb, isN_non, isN_int, isN_str, isN_tup, isN_bl, isN_obj, sq_tup, sq_fro, sq_obj, i_str, i_obj, i_tup, i_fro, s_str, s_tup, s_fro, s_obj, f_lens, f_lent, f_lenf, f_leno, f_inti, f_intb, f_boolb, f_sum, f_all, f_any, f_tupt, f_tupo, f_lstt, f_lsto, f_min, f_max, f_abs, f_stri, m_app, m_popi, m_ins, m_idxi, m_idxs, m_split, m_words, t_ins, t_idx, t_idxf, t_split,  m_ext, m_pop, m_join, t_app, t_ext, t_pop, t_join, o_set, y_non, y_int, y_bl, y_str, y_tup, y_fro, y_obj, v_tup, v_tI, v_fro, v_str, v_obj, z_tup, z_to, z_ot, z_obj, f_tups, t_idxt, en_obj, en_tup, rv_obj, rv_tup, s_tI, b_addI, f_lenI, f_tupI, f_lstI, i_tI, y_tI, isN_tI, tI_nil, still_nil, still_one, still_two, ixD0, ixD1, ixD2, ixD3, ixD4, ixD5, Nat.reduceAdd, Nat.reduceSub, Nat.reduceLT, Nat.reduceEqDiff, Nat.lt_add_one, Nat.zero_lt_succ, atD0, atD1, atD2, atD3, atD4, atD5, List.getElem?_cons_zero, List.getElem?_cons_succ, List.set_cons_zero, List.set_cons_succ, Option.some.injEq, D.int.injEq, D.bl.injEq, D.obj.injEq, D.str.injEq, D.tup.injEq, O.lst.injEq, List.cons.injEq, List.length_cons, List.length_nil, exists_eq_left', exists_eq_left, exists_eq, exists_eq', exists_and_left, true_and, and_true, and_self, decide_eq_true_eq, decide_eq_false_iff_not, Bool.not_eq_true', Bool.not_eq_false', Bool.not_true, Bool.not_false, forall_const, imp_self, reduceCtorEq, false_and, and_false, exists_false, or_false, false_or, implies_true, false_implies, true_implies, not_true_eq_false, not_false_eq_true, if_true, if_false, b__law_texts_9, wI]
    refine ⟨by decide, loopW_inv (fun i env st' => ∃ a b, env = [some (.obj s), some (.obj n), some (.str word), some (.str digits), some (.obj t), a, b] ∧ Tx s t st (92 + i) st') ⟨_, _, rfl, T⟩ (fun i e s _ _ => by simp only [wS, wE, wEs, wT_tn, wT_tt, wTs_nil, wTs_cons, wAnd, wOr, wO, wIf, rdV, argN, tyB, b_add, b_sub, b_mul, b_fdiv, b_mod, b_adds, b_addt, b_addo, b_muls, b_mulo, c_eq, c_ne, c_lt, c_le, c_gt, c_ge, c_eqs, c_nes, c_eqb, c_neb, c_in1, c_nin1, c_init, c_ninit, c_inio, c_ninio, i_objs, dOk_int, dOk_str, o_sets, m_get1, m_get2, m_setd, t_get, t_setd, O.dic.injEq, c_inso, c_inst, c_ninso, c_ninst, f_lenS, f_tupS, i_tS, v_tS, y_tS, c_inS, c_ninS, isN_tS, c_isn, c_isntn, c_isb, c_isntb, isN_non, isN_int, isN_str, isN_tup, isN_bl, isN_obj, sq_tup, sq_fro, sq_obj, i_str, i_obj, i_tup, i_fro, s_str, s_tup, s_fro, s_obj, f_lens, f_lent, f_lenf, f_leno, f_inti, f_intb, f_boolb, f_sum, f_all, f_any, f_tupt, f_tupo, f_lstt, f_lsto, f_min, f_max, f_abs, f_stri, m_app, m_popi, m_ins, m_idxi, m_idxs, m_split, m_words, t_ins, t_idx, t_idxf, t_split,  m_ext, m_pop, m_join, t_app, t_ext, t_pop, t_join, o_set, y_non, y_int, y_bl, y_str, y_tup, y_fro, y_obj, v_tup, v_tI, v_fro, v_str, v_obj, z_tup, z_to, z_ot, z_obj, f_tups, t_idxt, en_obj, en_tup, rv_obj, rv_tup, s_tI, b_addI, f_lenI, f_tupI, f_lstI, i_tI, y_tI, isN_tI, tI_nil, still_nil, still_one, still_two, ixD0, ixD1, ixD2, ixD3, ixD4, ixD5, Nat.reduceAdd, Nat.reduceSub, Nat.reduceLT, Nat.reduceEqDiff, Nat.lt_add_one, Nat.zero_lt_succ, atD0, atD1, atD2, atD3, atD4, atD5, List.getElem?_cons_zero, List.getElem?_cons_succ, List.set_cons_zero, List.set_cons_succ, Option.some.injEq, D.int.injEq, D.bl.injEq, D.obj.injEq, D.str.injEq, D.tup.injEq, O.lst.injEq, List.cons.injEq, List.length_cons, List.length_nil, exists_eq_left', exists_eq_left, exists_eq, exists_eq', exists_and_left, true_and, and_true, and_self, decide_eq_true_eq, decide_eq_false_iff_not, Bool.not_eq_true', Bool.not_eq_false', Bool.not_true, Bool.not_false, forall_const, imp_self, reduceCtorEq, false_and, and_false, exists_false, or_false, false_or, implies_true, false_implies, true_implies, not_true_eq_false, not_false_eq_true, if_true, if_false]) ?_ ?_⟩
    · rintro env st' ⟨a, b, rfl, ss, h1, X, h2, h3⟩
      simp only [wS, wE, wEs, wT_tn, wT_tt, wTs_nil, wTs_cons, wAnd, wOr, wO, wIf, rdV, argN, tyB, b_add, b_sub, b_mul, b_fdiv, b_mod, b_adds, b_addt, b_addo, b_muls, b_mulo, c_eq, c_ne, c_lt, c_le, c_gt, c_ge, c_eqs, c_nes, c_eqb, c_neb, c_in1, c_nin1, c_init, c_ninit, c_inio, c_ninio, i_objs, dOk_int, dOk_str, o_sets, m_get1, m_get2, m_setd, t_get, t_setd, O.dic.injEq, c_inso, c_inst, c_ninso, c_ninst, f_lenS, f_tupS, i_tS, v_tS, y_tS, c_inS, c_ninS, isN_tS, c_isn, c_isntn, c_isb, c_isntb, isN_non, isN_int, isN_str, isN_tup, isN_bl, isN_obj, sq_tup, sq_fro, sq_obj, i_str, i_obj, i_tup, i_fro, s_str, s_tup, s_fro, s_obj, f_lens, f_lent, f_lenf, f_leno, f_inti, f_intb, f_boolb, f_sum, f_all, f_any, f_tupt, f_tupo, f_lstt, f_lsto, f_min, f_max, f_abs, f_stri, m_app, m_popi, m_ins, m_idxi, m_idxs, m_split, m_words, t_ins, t_idx, t_idxf, t_split,  m_ext, m_pop, m_join, t_app, t_ext, t_pop, t_join, o_set, y_non, y_int, y_bl, y_str, y_tup, y_fro, y_obj, v_tup, v_tI, v_fro, v_str, v_obj, z_tup, z_to, z_ot, z_obj, f_tups, t_idxt, en_obj, en_tup, rv_obj, rv_tup, s_tI, b_addI, f_lenI, f_tupI, f_lstI, i_tI, y_tI, isN_tI, tI_nil, still_nil, still_one, still_two, ixD0, ixD1, ixD2, ixD3, ixD4, ixD5, Nat.reduceAdd, Nat.reduceSub, Nat.reduceLT, Nat.reduceEqDiff, Nat.lt_add_one, Nat.zero_lt_succ, atD0, atD1, atD2, atD3, atD4, atD5, List.getElem?_cons_zero, List.getElem?_cons_succ, List.set_cons_zero, List.set_cons_succ, Option.some.injEq, D.int.injEq, D.bl.injEq, D.obj.injEq, D.str.injEq, D.tup.injEq, O.lst.injEq, List.cons.injEq, List.length_cons, List.length_nil, exists_eq_left', exists_eq_left, exists_eq, exists_eq', exists_and_left, true_and, and_true, and_self, decide_eq_true_eq, decide_eq_false_iff_not, Bool.not_eq_true', Bool.not_eq_false', Bool.not_true, Bool.not_false, forall_const, imp_self, reduceCtorEq, false_and, and_false, exists_false, or_false, false_or, implies_true, false_implies, true_implies, not_true_eq_false, not_false_eq_true, if_true, if_false, b__law_texts_11]
      exact .inl (h t ss st' hts h1 X (by simp at h2; omega) h3)
    · rintro i env st' v ⟨a, b, rfl, ss, h1, X, h2, h3⟩ hv nxt hnx
      obtain ⟨rfl, hi⟩ := rng_at hv
      simp only [wS, wE, wEs, wT_tn, wT_tt, wTs_nil, wTs_cons, wAnd, wOr, wO, wIf, rdV, argN, tyB, b_add, b_sub, b_mul, b_fdiv, b_mod, b_adds, b_addt, b_addo, b_muls, b_mulo, c_eq, c_ne, c_lt, c_le, c_gt, c_ge, c_eqs, c_nes, c_eqb, c_neb, c_in1, c_nin1, c_init, c_ninit, c_inio, c_ninio, i_objs, dOk_int, dOk_str, o_sets, m_get1, m_get2, m_setd, t_get, t_setd, O.dic.injEq, c_inso, c_inst, c_ninso, c_ninst, f_lenS, f_tupS, i_tS, v_tS, y_tS, c_inS, c_ninS, isN_tS, c_isn, c_isntn, c_isb, c_isntb, isN_non, isN_int, isN_str, isN_tup, isN_bl, isN_obj, sq_tup, sq_fro, sq_obj, i_str, i_obj, i_tup, i_fro, s_str, s_tup, s_fro, s_obj, f_lens, f_lent, f_lenf, f_leno, f_inti, f_intb, f_boolb, f_sum, f_all, f_any, f_tupt, f_tupo, f_lstt, f_lsto, f_min, f_max, f_abs, f_stri, m_app, m_popi, m_ins, m_idxi, m_idxs, m_split, m_words, t_ins, t_idx, t_idxf, t_split,  m_ext, m_pop, m_join, t_app, t_ext, t_pop, t_join, o_set, y_non, y_int, y_bl, y_str, y_tup, y_fro, y_obj, v_tup, v_tI, v_fro, v_str, v_obj, z_tup, z_to, z_ot, z_obj, f_tups, t_idxt, en_obj, en_tup, rv_obj, rv_tup, s_tI, b_addI, f_lenI, f_tupI, f_lstI, i_tI, y_tI, isN_tI, tI_nil, still_nil, still_one, still_two, ixD0, ixD1, ixD2, ixD3, ixD4, ixD5, Nat.reduceAdd, Nat.reduceSub, Nat.reduceLT, Nat.reduceEqDiff, Nat.lt_add_one, Nat.zero_lt_succ, atD0, atD1, atD2, atD3, atD4, atD5, List.getElem?_cons_zero, List.getElem?_cons_succ, List.set_cons_zero, List.set_cons_succ, Option.some.injEq, D.int.injEq, D.bl.injEq, D.obj.injEq, D.str.injEq, D.tup.injEq, O.lst.injEq, List.cons.injEq, List.length_cons, List.length_nil, exists_eq_left', exists_eq_left, exists_eq, exists_eq', exists_and_left, true_and, and_true, and_self, decide_eq_true_eq, decide_eq_false_iff_not, Bool.not_eq_true', Bool.not_eq_false', Bool.not_true, Bool.not_false, forall_const, imp_self, reduceCtorEq, false_and, and_false, exists_false, or_false, false_or, implies_true, false_implies, true_implies, not_true_eq_false, not_false_eq_true, if_true, if_false, b__law_texts_10, h1]
      refine draw_ok X.src (by decide) fun m st2 hm hd2 => ?_
      simp only [wS, wE, wEs, wT_tn, wT_tt, wTs_nil, wTs_cons, wAnd, wOr, wO, wIf, rdV, argN, tyB, b_add, b_sub, b_mul, b_fdiv, b_mod, b_adds, b_addt, b_addo, b_muls, b_mulo, c_eq, c_ne, c_lt, c_le, c_gt, c_ge, c_eqs, c_nes, c_eqb, c_neb, c_in1, c_nin1, c_init, c_ninit, c_inio, c_ninio, i_objs, dOk_int, dOk_str, o_sets, m_get1, m_get2, m_setd, t_get, t_setd, O.dic.injEq, c_inso, c_inst, c_ninso, c_ninst, f_lenS, f_tupS, i_tS, v_tS, y_tS, c_inS, c_ninS, isN_tS, c_isn, c_isntn, c_isb, c_isntb, isN_non, isN_int, isN_str, isN_tup, isN_bl, isN_obj, sq_tup, sq_fro, sq_obj, i_str, i_obj, i_tup, i_fro, s_str, s_tup, s_fro, s_obj, f_lens, f_lent, f_lenf, f_leno, f_inti, f_intb, f_boolb, f_sum, f_all, f_any, f_tupt, f_tupo, f_lstt, f_lsto, f_min, f_max, f_abs, f_stri, m_app, m_popi, m_ins, m_idxi, m_idxs, m_split, m_words, t_ins, t_idx, t_idxf, t_split,  m_ext, m_pop, m_join, t_app, t_ext, t_pop, t_join, o_set, y_non, y_int, y_bl, y_str, y_tup, y_fro, y_obj, v_tup, v_tI, v_fro, v_str, v_obj, z_tup, z_to, z_ot, z_obj, f_tups, t_idxt, en_obj, en_tup, rv_obj, rv_tup, s_tI, b_addI, f_lenI, f_tupI, f_lstI, i_tI, y_tI, isN_tI, tI_nil, still_nil, still_one, still_two, ixD0, ixD1, ixD2, ixD3, ixD4, ixD5, Nat.reduceAdd, Nat.reduceSub, Nat.reduceLT, Nat.reduceEqDiff, Nat.lt_add_one, Nat.zero_lt_succ, atD0, atD1, atD2, atD3, atD4, atD5, List.getElem?_cons_zero, List.getElem?_cons_succ, List.set_cons_zero, List.set_cons_succ, Option.some.injEq, D.int.injEq, D.bl.injEq, D.obj.injEq, D.str.injEq, D.tup.injEq, O.lst.injEq, List.cons.injEq, List.length_cons, List.length_nil, exists_eq_left', exists_eq_left, exists_eq, exists_eq', exists_and_left, true_and, and_true, and_self, decide_eq_true_eq, decide_eq_false_iff_not, Bool.not_eq_true', Bool.not_eq_false', Bool.not_true, Bool.not_false, forall_const, imp_self, reduceCtorEq, false_and, and_false, exists_false, or_false, false_or, implies_true, false_implies, true_implies, not_true_eq_false, not_false_eq_true, if_true, if_false, cut_take]
      refine ⟨by omega, broken_ok hd2.1 (by rw [List.length_take]; omega) fun w st3 hw3 hd3 => ?_⟩
      have hlt : (word.take m).length ≤ 14 := by rw [List.length_take]; omega
      refine ((Ext.refl X.src).dr (hd2.trans hd3)).gc rfl fun st5 hd5 => ?_
      have X3 := X.dr hd5
      have h1' : st5[t]? = some (.lst (ss.map D.str)) := by rw [hd5.get (by omega)]; exact h1
      simp only [wS, wE, wEs, wT_tn, wT_tt, wTs_nil, wTs_cons, wAnd, wOr, wO, wIf, rdV, argN, tyB, b_add, b_sub, b_mul, b_fdiv, b_mod, b_adds, b_addt, b_addo, b_muls, b_mulo, c_eq, c_ne, c_lt, c_le, c_gt, c_ge, c_eqs, c_nes, c_eqb, c_neb, c_in1, c_nin1, c_init, c_ninit, c_inio, c_ninio, i_objs, dOk_int, dOk_str, o_sets, m_get1, m_get2, m_setd, t_get, t_setd, O.dic.injEq, c_inso, c_inst, c_ninso, c_ninst, f_lenS, f_tupS, i_tS, v_tS, y_tS, c_inS, c_ninS, isN_tS, c_isn, c_isntn, c_isb, c_isntb, isN_non, isN_int, isN_str, isN_tup, isN_bl, isN_obj, sq_tup, sq_fro, sq_obj, i_str, i_obj, i_tup, i_fro, s_str, s_tup, s_fro, s_obj, f_lens, f_lent, f_lenf, f_leno, f_inti, f_intb, f_boolb, f_sum, f_all, f_any, f_tupt, f_tupo, f_lstt, f_lsto, f_min, f_max, f_abs, f_stri, m_app, m_popi, m_ins, m_idxi, m_idxs, m_split, m_words, t_ins, t_idx, t_idxf, t_split,  m_ext, m_pop, m_join, t_app, t_ext, t_pop, t_join, o_set, y_non, y_int, y_bl, y_str, y_tup, y_fro, y_obj, v_tup, v_tI, v_fro, v_str, v_obj, z_tup, z_to, z_ot, z_obj, f_tups, t_idxt, en_obj, en_tup, rv_obj, rv_tup, s_tI, b_addI, f_lenI, f_tupI, f_lstI, i_tI, y_tI, isN_tI, tI_nil, still_nil, still_one, still_two, ixD0, ixD1, ixD2, ixD3, ixD4, ixD5, Nat.reduceAdd, Nat.reduceSub, Nat.reduceLT, Nat.reduceEqDiff, Nat.lt_add_one, Nat.zero_lt_succ, atD0, atD1, atD2, atD3, atD4, atD5, List.getElem?_cons_zero, List.getElem?_cons_succ, List.set_cons_zero, List.set_cons_succ, Option.some.injEq, D.int.injEq, D.bl.injEq, D.obj.injEq, D.str.injEq, D.tup.injEq, O.lst.injEq, List.cons.injEq, List.length_cons, List.length_nil, exists_eq_left', exists_eq_left, exists_eq, exists_eq', exists_and_left, true_and, and_true, and_self, decide_eq_true_eq, decide_eq_false_iff_not, Bool.not_eq_true', Bool.not_eq_false', Bool.not_true, Bool.not_false, forall_const, imp_self, reduceCtorEq, false_and, and_false, exists_false, or_false, false_or, implies_true, false_implies, true_implies, not_true_eq_false, not_false_eq_true, if_true, if_false, h1']
      refine ⟨by rw [List.length_map]; omega, hnx _ _ ⟨_, _, rfl, Tx.add (ws := [w]) X3 hts (List.getElem?_eq_some_iff.mp h1').1 (by show _ + 1 ≤ _; omega) h3 fun v hv => ?_⟩⟩
      rw [List.mem_singleton] at hv
      rw [hv]; omega
  have mid : ∀ st' a b, Tx s t st 90 st' → wS GG (wCall GG TT (k + 4)) b__law_texts_7 [some (.obj s), some (.obj n), some (.str word), some (.str digits), some (.obj t), a, b] st' (bodyEn st Q E) := by
    rintro st' a b ⟨ss, h1, X, h2, h3⟩
    simp only [wS, wE, wEs, wT_tn, wT_tt, wTs_nil, wTs_cons, wAnd, wOr, wO, wIf, rdV, argN, tyB, b_add, b_sub, b_mul, b_fdiv, b_mod, b_adds, b_addt, b_addo, b_muls, b_mulo, c_eq, c_ne, c_lt, c_le, c_gt, c_ge, c_eqs, c_nes, c_eqb, c_neb, c_in1, c_nin1, c_init, c_ninit, c_inio, c_ninio, i_objs, dOk_int, dOk_str, o_sets, m_get1, m_get2, m_setd, t_get, t_setd, O.dic.injEq, c_inso, c_inst, c_ninso, c_ninst, f_lenS, f_tupS, i_tS, v_tS, y_tS, c_inS, c_ninS, isN_tS, c_isn, c_isntn, c_isb, c_isntb, isN_non, isN_int, isN_str, isN_tup, isN_bl, isN_obj, sq_tup, sq_fro, sq_obj, i_str, i_obj, i_tup, i_fro, s_str, s_tup, s_fro, s_obj, f_lens, f_lent, f_lenf, f_leno, f_inti, f_intb, f_boolb, f_sum, f_all, f_any, f_tupt, f_tupo, f_lstt, f_lsto, f_min, f_max, f_abs, f_stri, m_app, m_popi, m_ins, m_idxi, m_idxs, m_split, m_words, t_ins, t_idx, t_idxf, t_split,  m_ext, m_pop, m_join, t_app, t_ext, t_pop, t_join, o_set, y_non, y_int, y_bl, y_str, y_tup, y_fro, y_obj, v_tup, v_tI, v_fro, v_str, v_obj, z_tup, z_to, z_ot, z_obj, f_tups, t_idxt, en_obj, en_tup, rv_obj, rv_tup, s_tI, b_addI, f_lenI, f_tupI, f_lstI, i_tI, y_tI, isN_tI, tI_nil, still_nil, still_one, still_two, ixD0, ixD1, ixD2, ixD3, ixD4, ixD5, Nat.reduceAdd, Nat.reduceSub, Nat.reduceLT, Nat.reduceEqDiff, Nat.lt_add_one, Nat.zero_lt_succ, atD0, atD1, atD2, atD3, atD4, atD5, List.getElem?_cons_zero, List.getElem?_cons_succ, List.set_cons_zero, List.set_cons_succ, Option.some.injEq, D.int.injEq, D.bl.injEq, D.obj.injEq, D.str.injEq, D.tup.injEq, O.lst.injEq, List.cons.injEq, List.length_cons, List.length_nil, exists_eq_left', exists_eq_left, exists_eq, exists_eq', exists_and_left, true_and, and_true, and_self, decide_eq_true_eq, decide_eq_false_iff_not, Bool.not_eq_true', Bool.not_eq_false', Bool.not_true, Bool.not_false, forall_const, imp_self, reduceCtorEq, false_and, and_false, exists_false, or_false, false_or, implies_true, false_implies, true_implies, not_true_eq_false, not_false_eq_true, if_true, if_false, b__law_texts_7, h1]
    refine draw_ok X.src (by decide) fun m st2 hm hd2 => ?_
    have X2 := X.dr hd2
    have h1' : st2[t]? = some (.lst (ss.map D.str)) := by rw [hd2.get (by omega)]; exact h1
    have hlt := (List.getElem?_eq_some_iff.mp h1').1
    have e : (m : Int).natAbs = m := Int.natAbs_natCast _
    have e2 := Nat.log2_le_self m
    simp only [wS, wE, wEs, wT_tn, wT_tt, wTs_nil, wTs_cons, wAnd, wOr, wO, wIf, rdV, argN, tyB, b_add, b_sub, b_mul, b_fdiv, b_mod, b_adds, b_addt, b_addo, b_muls, b_mulo, c_eq, c_ne, c_lt, c_le, c_gt, c_ge, c_eqs, c_nes, c_eqb, c_neb, c_in1, c_nin1, c_init, c_ninit, c_inio, c_ninio, i_objs, dOk_int, dOk_str, o_sets, m_get1, m_get2, m_setd, t_get, t_setd, O.dic.injEq, c_inso, c_inst, c_ninso, c_ninst, f_lenS, f_tupS, i_tS, v_tS, y_tS, c_inS, c_ninS, isN_tS, c_isn, c_isntn, c_isb, c_isntb, isN_non, isN_int, isN_str, isN_tup, isN_bl, isN_obj, sq_tup, sq_fro, sq_obj, i_str, i_obj, i_tup, i_fro, s_str, s_tup, s_fro, s_obj, f_lens, f_lent, f_lenf, f_leno, f_inti, f_intb, f_boolb, f_sum, f_all, f_any, f_tupt, f_tupo, f_lstt, f_lsto, f_min, f_max, f_abs, f_stri, m_app, m_popi, m_ins, m_idxi, m_idxs, m_split, m_words, t_ins, t_idx, t_idxf, t_split,  m_ext, m_pop, m_join, t_app, t_ext, t_pop, t_join, o_set, y_non, y_int, y_bl, y_str, y_tup, y_fro, y_obj, v_tup, v_tI, v_fro, v_str, v_obj, z_tup, z_to, z_ot, z_obj, f_tups, t_idxt, en_obj, en_tup, rv_obj, rv_tup, s_tI, b_addI, f_lenI, f_tupI, f_lstI, i_tI, y_tI, isN_tI, tI_nil, still_nil, still_one, still_two, ixD0, ixD1, ixD2, ixD3, ixD4, ixD5, Nat.reduceAdd, Nat.reduceSub, Nat.reduceLT, Nat.reduceEqDiff, Nat.lt_add_one, Nat.zero_lt_succ, atD0, atD1, atD2, atD3, atD4, atD5, List.getElem?_cons_zero, List.getElem?_cons_succ, List.set_cons_zero, List.set_cons_succ, Option.some.injEq, D.int.injEq, D.bl.injEq, D.obj.injEq, D.str.injEq, D.tup.injEq, O.lst.injEq, List.cons.injEq, List.length_cons, List.length_nil, exists_eq_left', exists_eq_left, exists_eq, exists_eq', exists_and_left, true_and, and_true, and_self, decide_eq_true_eq, decide_eq_false_iff_not, Bool.not_eq_true', Bool.not_eq_false', Bool.not_true, Bool.not_false, forall_const, imp_self, reduceCtorEq, false_and, and_false, exists_false, or_false, false_or, implies_true, false_implies, true_implies, not_true_eq_false, not_false_eq_true, if_true, if_false, h1']
    refine ⟨by rw [e]; omega, by rw [List.length_map]; omega, ?_⟩
    have T3 : Tx s t st 91 (st2.set t (.lst (ss.map D.str ++ [.str (strI m)]))) := Tx.add (ws := [strI m]) (m := 91) X2 hts hlt (by show _ + 1 ≤ _; omega) h3 (fun v hv => by
      rw [List.mem_singleton] at hv; rw [hv]
      exact Nat.le_trans (num_len m (by omega)) (by decide))
    revert T3
    generalize st2.set t _ = st3
    rintro ⟨ss3, k1, X3, k2, k3⟩
    simp only [wS, wE, wEs, wT_tn, wT_tt, wTs_nil, wTs_cons, wAnd, wOr, wO, wIf, rdV, argN, tyB, b_add, b_sub, b_mul, b_fdiv, b_mod, b_adds, b_addt, b_addo, b_muls, b_mulo, c_eq, c_ne, c_lt, c_le, c_gt, c_ge, c_eqs, c_nes, c_eqb, c_neb, c_in1, c_nin1, c_init, c_ninit, c_inio, c_ninio, i_objs, dOk_int, dOk_str, o_sets, m_get1, m_get2, m_setd, t_get, t_setd, O.dic.injEq, c_inso, c_inst, c_ninso, c_ninst, f_lenS, f_tupS, i_tS, v_tS, y_tS, c_inS, c_ninS, isN_tS, c_isn, c_isntn, c_isb, c_isntb, isN_non, isN_int, isN_str, isN_tup, isN_bl, isN_obj, sq_tup, sq_fro, sq_obj, i_str, i_obj, i_tup, i_fro, s_str, s_tup, s_fro, s_obj, f_lens, f_lent, f_lenf, f_leno, f_inti, f_intb, f_boolb, f_sum, f_all, f_any, f_tupt, f_tupo, f_lstt, f_lsto, f_min, f_max, f_abs, f_stri, m_app, m_popi, m_ins, m_idxi, m_idxs, m_split, m_words, t_ins, t_idx, t_idxf, t_split,  m_ext, m_pop, m_join, t_app, t_ext, t_pop, t_join, o_set, y_non, y_int, y_bl, y_str, y_tup, y_fro, y_obj, v_tup, v_tI, v_fro, v_str, v_obj, z_tup, z_to, z_ot, z_obj, f_tups, t_idxt, en_obj, en_tup, rv_obj, rv_tup, s_tI, b_addI, f_lenI, f_tupI, f_lstI, i_tI, y_tI, isN_tI, tI_nil, still_nil, still_one, still_two, ixD0, ixD1, ixD2, ixD3, ixD4, ixD5, Nat.reduceAdd, Nat.reduceSub, Nat.reduceLT, Nat.reduceEqDiff, Nat.lt_add_one, Nat.zero_lt_succ, atD0, atD1, atD2, atD3, atD4, atD5, List.getElem?_cons_zero, List.getElem?_cons_succ, List.set_cons_zero, List.set_cons_succ, Option.some.injEq, D.int.injEq, D.bl.injEq, D.obj.injEq, D.str.injEq, D.tup.injEq, O.lst.injEq, List.cons.injEq, List.length_cons, List.length_nil, exists_eq_left', exists_eq_left, exists_eq, exists_eq', exists_and_left, true_and, and_true, and_self, decide_eq_true_eq, decide_eq_false_iff_not, Bool.not_eq_true', Bool.not_eq_false', Bool.not_true, Bool.not_false, forall_const, imp_self, reduceCtorEq, false_and, and_false, exists_false, or_false, false_or, implies_true, false_implies, true_implies, not_true_eq_false, not_false_eq_true, if_true, if_false, b__law_texts_8, k1]
    refine draw_ok X3.src (by decide) fun m2 st4 hm2 hd4 => ?_
    have X4 := X3.dr hd4
    have h4 : st4[t]? = some (.lst (ss3.map D.str)) := by rw [hd4.get (by omega)]; exact k1
    have e4 : (1 + (m2 : Int)).toNat = 1 + m2 := by omega
    simp only [wS, wE, wEs, wT_tn, wT_tt, wTs_nil, wTs_cons, wAnd, wOr, wO, wIf, rdV, argN, tyB, b_add, b_sub, b_mul, b_fdiv, b_mod, b_adds, b_addt, b_addo, b_muls, b_mulo, c_eq, c_ne, c_lt, c_le, c_gt, c_ge, c_eqs, c_nes, c_eqb, c_neb, c_in1, c_nin1, c_init, c_ninit, c_inio, c_ninio, i_objs, dOk_int, dOk_str, o_sets, m_get1, m_get2, m_setd, t_get, t_setd, O.dic.injEq, c_inso, c_inst, c_ninso, c_ninst, f_lenS, f_tupS, i_tS, v_tS, y_tS, c_inS, c_ninS, isN_tS, c_isn, c_isntn, c_isb, c_isntb, isN_non, isN_int, isN_str, isN_tup, isN_bl, isN_obj, sq_tup, sq_fro, sq_obj, i_str, i_obj, i_tup, i_fro, s_str, s_tup, s_fro, s_obj, f_lens, f_lent, f_lenf, f_leno, f_inti, f_intb, f_boolb, f_sum, f_all, f_any, f_tupt, f_tupo, f_lstt, f_lsto, f_min, f_max, f_abs, f_stri, m_app, m_popi, m_ins, m_idxi, m_idxs, m_split, m_words, t_ins, t_idx, t_idxf, t_split,  m_ext, m_pop, m_join, t_app, t_ext, t_pop, t_join, o_set, y_non, y_int, y_bl, y_str, y_tup, y_fro, y_obj, v_tup, v_tI, v_fro, v_str, v_obj, z_tup, z_to, z_ot, z_obj, f_tups, t_idxt, en_obj, en_tup, rv_obj, rv_tup, s_tI, b_addI, f_lenI, f_tupI, f_lstI, i_tI, y_tI, isN_tI, tI_nil, still_nil, still_one, still_two, ixD0, ixD1, ixD2, ixD3, ixD4, ixD5, Nat.reduceAdd, Nat.reduceSub, Nat.reduceLT, Nat.reduceEqDiff, Nat.lt_add_one, Nat.zero_lt_succ, atD0, atD1, atD2, atD3, atD4, atD5, List.getElem?_cons_zero, List.getElem?_cons_succ, List.set_cons_zero, List.set_cons_succ, Option.some.injEq, D.int.injEq, D.bl.injEq, D.obj.injEq, D.str.injEq, D.tup.injEq, O.lst.injEq, List.cons.injEq, List.length_cons, List.length_nil, exists_eq_left', exists_eq_left, exists_eq, exists_eq', exists_and_left, true_and, and_true, and_self, decide_eq_true_eq, decide_eq_false_iff_not, Bool.not_eq_true', Bool.not_eq_false', Bool.not_true, Bool.not_false, forall_const, imp_self, reduceCtorEq, false_and, and_false, exists_false, or_false, false_or, implies_true, false_implies, true_implies, not_true_eq_false, not_false_eq_true, if_true, if_false, h4, e4]
    refine ⟨by omega, by omega, ?_, by rw [List.length_map]; omega, last _ _ _ (Tx.add (ws := [repD (1 + m2) word]) X4 hts (List.getElem?_eq_some_iff.mp h4).1 (by show _ + 1 ≤ _; omega) k3 fun v hv => ?_)⟩
    · rw [hw]
      have : 14 * (1 + m2) ≤ 14 * 51 := Nat.mul_le_mul_left _ (by omega)
      omega
    · rw [List.mem_singleton] at hv; rw [hv, repD_len, hw]
      have : (1 + m2) * 14 ≤ 51 * 14 := Nat.mul_le_mul_right _ (by omega)
      omega
  have dig : ∀ st' a b, Tx s t st 75 st' → wS GG (wCall GG TT (k + 4)) b__law_texts_5 [some (.obj s), some (.obj n), some (.str word), some (.str digits), some (.obj t), a, b] st' (bodyEn st Q E) := by
    intro st' a b T
    simp only [wS, wE, wEs, wT_tn, wT_tt, wTs_nil, wTs_cons, wAnd, wOr, wO, wIf, rdV, argN, tyB, b_add, b_sub, b_mul, b_fdiv, b_mod, b_adds, b_addt, b_addo, b_muls, b_mulo, c_eq, c_ne, c_lt, c_le, c_gt, c_ge, c_eqs, c_nes, c_eqb, c_neb, c_in1, c_nin1, c_init, c_ninit, c_inio, c_ninio, i_objs, dOk_int, dOk_str, o_sets, m_get1, m_get2, m_setd, t_get, t_setd, O.dic.injEq, c_inso, c_inst, c_ninso, c_ninst, f_lenS, f_tupS, i_tS, v_tS, y_tS, c_inS, c_ninS, isN_tS, c_isn, c_isntn, c_isb, c_isntb, isN_non, isN_int, isN_str, isN_tup, isN_bl, isN_obj, sq_tup, sq_fro, sq_obj, i_str, i_obj, i_tup, i_fro, s_str, s_tup, s_fro, s_obj, f_lens, f_lent, f_lenf, f_leno, f_inti, f_intb, f_boolb, f_sum, f_all, f_any, f_tupt, f_tupo, f_lstt, f_lsto, f_min, f_max, f_abs, f_stri, m_app, m_popi, m_ins, m_idxi, m_idxs, m_split, m_words, t_ins, t_idx, t_idxf, t_split,  m_ext, m_pop, m_join, t_app, t_ext, t_pop, t_join, o_set, y_non, y_int, y_bl, y_str, y_tup, y_fro, y_obj, v_tup, v_tI, v_fro, v_str, v_obj, z_tup, z_to, z_ot, z_obj, f_tups, t_idxt, en_obj, en_tup, rv_obj, rv_tup, s_tI, b_addI, f_lenI, f_tupI, f_lstI, i_tI, y_tI, isN_tI, tI_nil, still_nil, still_one, still_two, ixD0, ixD1, ixD2, ixD3, ixD4, ixD5, Nat.reduceAdd, Nat.reduceSub, Nat.reduceLT, Nat.reduceEqDiff, Nat.lt_add_one, Nat.zero_lt_succ, atD0, atD1, atD2, atD3, atD4, atD5, List.getElem?_cons_zero, List.getElem?_cons_succ, List.set_cons_zero, List.set_cons_succ, Option.some.injEq, D.int.injEq, D.bl.injEq, D.obj.injEq, D.str.injEq, D.tup.injEq, O.lst.injEq, List.cons.injEq, List.length_cons, List.length_nil, exists_eq_left', exists_eq_left, exists_eq, exists_eq', exists_and_left, true_and, and_true, and_self, decide_eq_true_eq, decide_eq_false_iff_not, Bool.not_eq_true', Bool.not_eq_false', Bool.not_true, Bool.not_false, forall_const, imp_self, reduceCtorEq, false_and, and_false, exists_false, or_false, false_or, implies_true, false_implies, true_implies, not_true_eq_false, not_false_eq_true, if_true, if_false, b__law_texts_5, wI]
    refine ⟨by decide, loopW_inv (fun i env st' => ∃ a b, env = [some (.obj s), some (.obj n), some (.str word), some (.str digits), some (.obj t), a, b] ∧ Tx s t st (75 + 3 * i) st') ⟨_, _, rfl, T⟩ (fun i e s _ _ => by simp only [wS, wE, wEs, wT_tn, wT_tt, wTs_nil, wTs_cons, wAnd, wOr, wO, wIf, rdV, argN, tyB, b_add, b_sub, b_mul, b_fdiv, b_mod, b_adds, b_addt, b_addo, b_muls, b_mulo, c_eq, c_ne, c_lt, c_le, c_gt, c_ge, c_eqs, c_nes, c_eqb, c_neb, c_in1, c_nin1, c_init, c_ninit, c_inio, c_ninio, i_objs, dOk_int, dOk_str, o_sets, m_get1, m_get2, m_setd, t_get, t_setd, O.dic.injEq, c_inso, c_inst, c_ninso, c_ninst, f_lenS, f_tupS, i_tS, v_tS, y_tS, c_inS, c_ninS, isN_tS, c_isn, c_isntn, c_isb, c_isntb, isN_non, isN_int, isN_str, isN_tup, isN_bl, isN_obj, sq_tup, sq_fro, sq_obj, i_str, i_obj, i_tup, i_fro, s_str, s_tup, s_fro, s_obj, f_lens, f_lent, f_lenf, f_leno, f_inti, f_intb, f_boolb, f_sum, f_all, f_any, f_tupt, f_tupo, f_lstt, f_lsto, f_min, f_max, f_abs, f_stri, m_app, m_popi, m_ins, m_idxi, m_idxs, m_split, m_words, t_ins, t_idx, t_idxf, t_split,  m_ext, m_pop, m_join, t_app, t_ext, t_pop, t_join, o_set, y_non, y_int, y_bl, y_str, y_tup, y_fro, y_obj, v_tup, v_tI, v_fro, v_str, v_obj, z_tup, z_to, z_ot, z_obj, f_tups, t_idxt, en_obj, en_tup, rv_obj, rv_tup, s_tI, b_addI, f_lenI, f_tupI, f_lstI, i_tI, y_tI, isN_tI, tI_nil, still_nil, still_one, still_two, ixD0, ixD1, ixD2, ixD3, ixD4, ixD5, Nat.reduceAdd, Nat.reduceSub, Nat.reduceLT, Nat.reduceEqDiff, Nat.lt_add_one, Nat.zero_lt_succ, atD0, atD1, atD2, atD3, atD4, atD5, List.getElem?_cons_zero, List.getElem?_cons_succ, List.set_cons_zero, List.set_cons_succ, Option.some.injEq, D.int.injEq, D.bl.injEq, D.obj.injEq, D.str.injEq, D.tup.injEq, O.lst.injEq, List.cons.injEq, List.length_cons, List.length_nil, exists_eq_left', exists_eq_left, exists_eq, exists_eq', exists_and_left, true_and, and_true, and_self, decide_eq_true_eq, decide_eq_false_iff_not, Bool.not_eq_true', Bool.not_eq_false', Bool.not_true, Bool.not_false, forall_const, imp_self, reduceCtorEq, false_and, and_false, exists_false, or_false, false_or, implies_true, false_implies, true_implies, not_true_eq_false, not_false_eq_true, if_true, if_false]) ?_ ?_⟩
    · rintro env st' ⟨a, b, rfl, T⟩
      exact mid _ _ _ T
    · rintro i env st' v ⟨a, b, rfl, ss, h1, X, h2, h3⟩ hv nxt hnx
      have hv : ((List.range 5).map fun k : Nat => D.int (1 + k))[i]? = some v := hv
      rw [List.getElem?_map] at hv
      obtain ⟨j, hj, rfl⟩ := Option.map_eq_some_iff.mp hv
      have hj2 := List.mem_of_getElem? hj
      rw [List.mem_range] at hj2
      have hj3 : i < 5 := by have := (List.getElem?_eq_some_iff.mp hj).1; simpa using this
      have hlt := (List.getElem?_eq_some_iff.mp h1).1
      have a1 : (1 : Int) + (j : Int) = ((1 + j : Nat) : Int) := by omega
      have a2 : (5 : Int) - ((1 + j : Nat) : Int) = ((4 - j : Nat) : Int) := by omega
      simp only [wS, wE, wEs, wT_tn, wT_tt, wTs_nil, wTs_cons, wAnd, wOr, wO, wIf, rdV, argN, tyB, b_add, b_sub, b_mul, b_fdiv, b_mod, b_adds, b_addt, b_addo, b_muls, b_mulo, c_eq, c_ne, c_lt, c_le, c_gt, c_ge, c_eqs, c_nes, c_eqb, c_neb, c_in1, c_nin1, c_init, c_ninit, c_inio, c_ninio, i_objs, dOk_int, dOk_str, o_sets, m_get1, m_get2, m_setd, t_get, t_setd, O.dic.injEq, c_inso, c_inst, c_ninso, c_ninst, f_lenS, f_tupS, i_tS, v_tS, y_tS, c_inS, c_ninS, isN_tS, c_isn, c_isntn, c_isb, c_isntb, isN_non, isN_int, isN_str, isN_tup, isN_bl, isN_obj, sq_tup, sq_fro, sq_obj, i_str, i_obj, i_tup, i_fro, s_str, s_tup, s_fro, s_obj, f_lens, f_lent, f_lenf, f_leno, f_inti, f_intb, f_boolb, f_sum, f_all, f_any, f_tupt, f_tupo, f_lstt, f_lsto, f_min, f_max, f_abs, f_stri, m_app, m_popi, m_ins, m_idxi, m_idxs, m_split, m_words, t_ins, t_idx, t_idxf, t_split,  m_ext, m_pop, m_join, t_app, t_ext, t_pop, t_join, o_set, y_non, y_int, y_bl, y_str, y_tup, y_fro, y_obj, v_tup, v_tI, v_fro, v_str, v_obj, z_tup, z_to, z_ot, z_obj, f_tups, t_idxt, en_obj, en_tup, rv_obj, rv_tup, s_tI, b_addI, f_lenI, f_tupI, f_lstI, i_tI, y_tI, isN_tI, tI_nil, still_nil, still_one, still_two, ixD0, ixD1, ixD2, ixD3, ixD4, ixD5, Nat.reduceAdd, Nat.reduceSub, Nat.reduceLT, Nat.reduceEqDiff, Nat.lt_add_one, Nat.zero_lt_succ, atD0, atD1, atD2, atD3, atD4, atD5, List.getElem?_cons_zero, List.getElem?_cons_succ, List.set_cons_zero, List.set_cons_succ, Option.some.injEq, D.int.injEq, D.bl.injEq, D.obj.injEq, D.str.injEq, D.tup.injEq, O.lst.injEq, List.cons.injEq, List.length_cons, List.length_nil, exists_eq_left', exists_eq_left, exists_eq, exists_eq', exists_and_left, true_and, and_true, and_self, decide_eq_true_eq, decide_eq_false_iff_not, Bool.not_eq_true', Bool.not_eq_false', Bool.not_true, Bool.not_false, forall_const, imp_self, reduceCtorEq, false_and, and_false, exists_false, or_false, false_or, implies_true, false_implies, true_implies, not_true_eq_false, not_false_eq_true, if_true, if_false, b__law_texts_6, h1, a1, a2, cut_take, cut_drop]
      have u1 : (digits.take (1 + j)).length ≤ 5 := by rw [List.length_take]; omega
      have u2 : (digits.drop (4 - j)).length ≤ 5 := by rw [List.length_drop]; omega
      refine ⟨by omega, by omega, by omega, by omega, by decide, _, app_some h1, _, app_last, by rw [List.length_map]; show _ + 3 ≤ _; omega, gc_put hlt ?_ rfl ?_⟩
      · have q := strs_low st'.length (ss ++ [digits.take (1 + j), digits.drop (4 - j), [48] ++ digits.take (1 + j)])
        rw [List.map_append] at q
        exact q
      · refine hnx _ _ ⟨_, _, rfl, Tx.add (ws := [digits.take (1 + j), digits.drop (4 - j), [48] ++ digits.take (1 + j)]) X hts hlt (by show _ + 3 ≤ _; omega) h3 fun v hv => ?_⟩
        simp only [List.mem_cons, List.not_mem_nil, or_false] at hv
        rcases hv with rfl | rfl | rfl
        · omega
        · omega
        · rw [List.length_append]; show 1 + _ ≤ _; omega
  have siz : ∀ st' a b, Tx s t st 47 st' → wS GG (wCall GG TT (k + 4)) b__law_texts_3 [some (.obj s), some (.obj n), some (.str word), some (.str digits), some (.obj t), a, b] st' (bodyEn st Q E) := by
    intro st' a b T
    simp only [wS, wE, wEs, wT_tn, wT_tt, wTs_nil, wTs_cons, wAnd, wOr, wO, wIf, rdV, argN, tyB, b_add, b_sub, b_mul, b_fdiv, b_mod, b_adds, b_addt, b_addo, b_muls, b_mulo, c_eq, c_ne, c_lt, c_le, c_gt, c_ge, c_eqs, c_nes, c_eqb, c_neb, c_in1, c_nin1, c_init, c_ninit, c_inio, c_ninio, i_objs, dOk_int, dOk_str, o_sets, m_get1, m_get2, m_setd, t_get, t_setd, O.dic.injEq, c_inso, c_inst, c_ninso, c_ninst, f_lenS, f_tupS, i_tS, v_tS, y_tS, c_inS, c_ninS, isN_tS, c_isn, c_isntn, c_isb, c_isntb, isN_non, isN_int, isN_str, isN_tup, isN_bl, isN_obj, sq_tup, sq_fro, sq_obj, i_str, i_obj, i_tup, i_fro, s_str, s_tup, s_fro, s_obj, f_lens, f_lent, f_lenf, f_leno, f_inti, f_intb, f_boolb, f_sum, f_all, f_any, f_tupt, f_tupo, f_lstt, f_lsto, f_min, f_max, f_abs, f_stri, m_app, m_popi, m_ins, m_idxi, m_idxs, m_split, m_words, t_ins, t_idx, t_idxf, t_split,  m_ext, m_pop, m_join, t_app, t_ext, t_pop, t_join, o_set, y_non, y_int, y_bl, y_str, y_tup, y_fro, y_obj, v_tup, v_tI, v_fro, v_str, v_obj, z_tup, z_to, z_ot, z_obj, f_tups, t_idxt, en_obj, en_tup, rv_obj, rv_tup, s_tI, b_addI, f_lenI, f_tupI, f_lstI, i_tI, y_tI, isN_tI, tI_nil, still_nil, still_one, still_two, ixD0, ixD1, ixD2, ixD3, ixD4, ixD5, Nat.reduceAdd, Nat.reduceSub, Nat.reduceLT, Nat.reduceEqDiff, Nat.lt_add_one, Nat.zero_lt_succ, atD0, atD1, atD2, atD3, atD4, atD5, List.getElem?_cons_zero, List.getElem?_cons_succ, List.set_cons_zero, List.set_cons_succ, Option.some.injEq, D.int.injEq, D.bl.injEq, D.obj.injEq, D.str.injEq, D.tup.injEq, O.lst.injEq, List.cons.injEq, List.length_cons, List.length_nil, exists_eq_left', exists_eq_left, exists_eq, exists_eq', exists_and_left, true_and, and_true, and_self, decide_eq_true_eq, decide_eq_false_iff_not, Bool.not_eq_true', Bool.not_eq_false', Bool.not_true, Bool.not_false, forall_const, imp_self, reduceCtorEq, false_and, and_false, exists_false, or_false, false_or, implies_true, false_implies, true_implies, not_true_eq_false, not_false_eq_true, if_true, if_false, b__law_texts_3, wI]
    refine ⟨by decide, loopW_inv (fun i env st' => ∃ a b, env = [some (.obj s), some (.obj n), some (.str word), some (.str digits), some (.obj t), a, b] ∧ Tx s t st (47 + 2 * i) st') ⟨_, _, rfl, T⟩ (fun i e s _ _ => by simp only [wS, wE, wEs, wT_tn, wT_tt, wTs_nil, wTs_cons, wAnd, wOr, wO, wIf, rdV, argN, tyB, b_add, b_sub, b_mul, b_fdiv, b_mod, b_adds, b_addt, b_addo, b_muls, b_mulo, c_eq, c_ne, c_lt, c_le, c_gt, c_ge, c_eqs, c_nes, c_eqb, c_neb, c_in1, c_nin1, c_init, c_ninit, c_inio, c_ninio, i_objs, dOk_int, dOk_str, o_sets, m_get1, m_get2, m_setd, t_get, t_setd, O.dic.injEq, c_inso, c_inst, c_ninso, c_ninst, f_lenS, f_tupS, i_tS, v_tS, y_tS, c_inS, c_ninS, isN_tS, c_isn, c_isntn, c_isb, c_isntb, isN_non, isN_int, isN_str, isN_tup, isN_bl, isN_obj, sq_tup, sq_fro, sq_obj, i_str, i_obj, i_tup, i_fro, s_str, s_tup, s_fro, s_obj, f_lens, f_lent, f_lenf, f_leno, f_inti, f_intb, f_boolb, f_sum, f_all, f_any, f_tupt, f_tupo, f_lstt, f_lsto, f_min, f_max, f_abs, f_stri, m_app, m_popi, m_ins, m_idxi, m_idxs, m_split, m_words, t_ins, t_idx, t_idxf, t_split,  m_ext, m_pop, m_join, t_app, t_ext, t_pop, t_join, o_set, y_non, y_int, y_bl, y_str, y_tup, y_fro, y_obj, v_tup, v_tI, v_fro, v_str, v_obj, z_tup, z_to, z_ot, z_obj, f_tups, t_idxt, en_obj, en_tup, rv_obj, rv_tup, s_tI, b_addI, f_lenI, f_tupI, f_lstI, i_tI, y_tI, isN_tI, tI_nil, still_nil, still_one, still_two, ixD0, ixD1, ixD2, ixD3, ixD4, ixD5, Nat.reduceAdd, Nat.reduceSub, Nat.reduceLT, Nat.reduceEqDiff, Nat.lt_add_one, Nat.zero_lt_succ, atD0, atD1, atD2, atD3, atD4, atD5, List.getElem?_cons_zero, List.getElem?_cons_succ, List.set_cons_zero, List.set_cons_succ, Option.some.injEq, D.int.injEq, D.bl.injEq, D.obj.injEq, D.str.injEq, D.tup.injEq, O.lst.injEq, List.cons.injEq, List.length_cons, List.length_nil, exists_eq_left', exists_eq_left, exists_eq, exists_eq', exists_and_left, true_and, and_true, and_self, decide_eq_true_eq, decide_eq_false_iff_not, Bool.not_eq_true', Bool.not_eq_false', Bool.not_true, Bool.not_false, forall_const, imp_self, reduceCtorEq, false_and, and_false, exists_false, or_false, false_or, implies_true, false_implies, true_implies, not_true_eq_false, not_false_eq_true, if_true, if_false]) ?_ ?_⟩
    · rintro env st' ⟨a, b, rfl, T⟩
      exact dig _ _ _ T
    · rintro i env st' v ⟨a, b, rfl, ss, h1, X, h2, h3⟩ hv nxt hnx
      have hv : ((List.range 14).map fun k : Nat => D.int (1 + k))[i]? = some v := hv
      rw [List.getElem?_map] at hv
      obtain ⟨j, hj, rfl⟩ := Option.map_eq_some_iff.mp hv
      have hj3 : i < 14 := by have := (List.getElem?_eq_some_iff.mp hj).1; simpa using this
      have hj2 := List.mem_of_getElem? hj
      rw [List.mem_range] at hj2
      have hlt := (List.getElem?_eq_some_iff.mp h1).1
      have a1 : (1 : Int) + (j : Int) = ((1 + j : Nat) : Int) := by omega
      have a2 : (14 : Int) - ((1 + j : Nat) : Int) = ((13 - j : Nat) : Int) := by omega
      have u1 : (word.take (1 + j)).length ≤ 14 := by rw [List.length_take]; omega
      have u2 : (word.drop (13 - j)).length ≤ 14 := by rw [List.length_drop]; omega
      simp only [wS, wE, wEs, wT_tn, wT_tt, wTs_nil, wTs_cons, wAnd, wOr, wO, wIf, rdV, argN, tyB, b_add, b_sub, b_mul, b_fdiv, b_mod, b_adds, b_addt, b_addo, b_muls, b_mulo, c_eq, c_ne, c_lt, c_le, c_gt, c_ge, c_eqs, c_nes, c_eqb, c_neb, c_in1, c_nin1, c_init, c_ninit, c_inio, c_ninio, i_objs, dOk_int, dOk_str, o_sets, m_get1, m_get2, m_setd, t_get, t_setd, O.dic.injEq, c_inso, c_inst, c_ninso, c_ninst, f_lenS, f_tupS, i_tS, v_tS, y_tS, c_inS, c_ninS, isN_tS, c_isn, c_isntn, c_isb, c_isntb, isN_non, isN_int, isN_str, isN_tup, isN_bl, isN_obj, sq_tup, sq_fro, sq_obj, i_str, i_obj, i_tup, i_fro, s_str, s_tup, s_fro, s_obj, f_lens, f_lent, f_lenf, f_leno, f_inti, f_intb, f_boolb, f_sum, f_all, f_any, f_tupt, f_tupo, f_lstt, f_lsto, f_min, f_max, f_abs, f_stri, m_app, m_popi, m_ins, m_idxi, m_idxs, m_split, m_words, t_ins, t_idx, t_idxf, t_split,  m_ext, m_pop, m_join, t_app, t_ext, t_pop, t_join, o_set, y_non, y_int, y_bl, y_str, y_tup, y_fro, y_obj, v_tup, v_tI, v_fro, v_str, v_obj, z_tup, z_to, z_ot, z_obj, f_tups, t_idxt, en_obj, en_tup, rv_obj, rv_tup, s_tI, b_addI, f_lenI, f_tupI, f_lstI, i_tI, y_tI, isN_tI, tI_nil, still_nil, still_one, still_two, ixD0, ixD1, ixD2, ixD3, ixD4, ixD5, Nat.reduceAdd, Nat.reduceSub, Nat.reduceLT, Nat.reduceEqDiff, Nat.lt_add_one, Nat.zero_lt_succ, atD0, atD1, atD2, atD3, atD4, atD5, List.getElem?_cons_zero, List.getElem?_cons_succ, List.set_cons_zero, List.set_cons_succ, Option.some.injEq, D.int.injEq, D.bl.injEq, D.obj.injEq, D.str.injEq, D.tup.injEq, O.lst.injEq, List.cons.injEq, List.length_cons, List.length_nil, exists_eq_left', exists_eq_left, exists_eq, exists_eq', exists_and_left, true_and, and_true, and_self, decide_eq_true_eq, decide_eq_false_iff_not, Bool.not_eq_true', Bool.not_eq_false', Bool.not_true, Bool.not_false, forall_const, imp_self, reduceCtorEq, false_and, and_false, exists_false, or_false, false_or, implies_true, false_implies, true_implies, not_true_eq_false, not_false_eq_true, if_true, if_false, b__law_texts_4, h1, a1, a2, cut_take, cut_drop]
      refine ⟨by omega, by omega, by decide, _, app_some h1, _, app_last, by rw [List.length_map]; show _ + 2 ≤ _; omega, gc_put hlt ?_ rfl ?_⟩
      · have q := strs_low st'.length (ss ++ [word.take (1 + j), word.drop (13 - j)])
        rw [List.map_append] at q
        exact q
      · refine hnx _ _ ⟨_, _, rfl, Tx.add (ws := [word.take (1 + j), word.drop (13 - j)]) X hts hlt (by show _ + 2 ≤ _; omega) h3 fun v hv => ?_⟩
        simp only [List.mem_cons, List.not_mem_nil, or_false] at hv
        rcases hv with rfl | rfl
        · omega
        · omega
  simp only [wS, wE, wEs, wT_tn, wT_tt, wTs_nil, wTs_cons, wAnd, wOr, wO, wIf, rdV, argN, tyB, b_add, b_sub, b_mul, b_fdiv, b_mod, b_adds, b_addt, b_addo, b_muls, b_mulo, c_eq, c_ne, c_lt, c_le, c_gt, c_ge, c_eqs, c_nes, c_eqb, c_neb, c_in1, c_nin1, c_init, c_ninit, c_inio, c_ninio, i_objs, dOk_int, dOk_str, o_sets, m_get1, m_get2, m_setd, t_get, t_setd, O.dic.injEq, c_inso, c_inst, c_ninso, c_ninst, f_lenS, f_tupS, i_tS, v_tS, y_tS, c_inS, c_ninS, isN_tS, c_isn, c_isntn, c_isb, c_isntb, isN_non, isN_int, isN_str, isN_tup, isN_bl, isN_obj, sq_tup, sq_fro, sq_obj, i_str, i_obj, i_tup, i_fro, s_str, s_tup, s_fro, s_obj, f_lens, f_lent, f_lenf, f_leno, f_inti, f_intb, f_boolb, f_sum, f_all, f_any, f_tupt, f_tupo, f_lstt, f_lsto, f_min, f_max, f_abs, f_stri, m_app, m_popi, m_ins, m_idxi, m_idxs, m_split, m_words, t_ins, t_idx, t_idxf, t_split,  m_ext, m_pop, m_join, t_app, t_ext, t_pop, t_join, o_set, y_non, y_int, y_bl, y_str, y_tup, y_fro, y_obj, v_tup, v_tI, v_fro, v_str, v_obj, z_tup, z_to, z_ot, z_obj, f_tups, t_idxt, en_obj, en_tup, rv_obj, rv_tup, s_tI, b_addI, f_lenI, f_tupI, f_lstI, i_tI, y_tI, isN_tI, tI_nil, still_nil, still_one, still_two, ixD0, ixD1, ixD2, ixD3, ixD4, ixD5, Nat.reduceAdd, Nat.reduceSub, Nat.reduceLT, Nat.reduceEqDiff, Nat.lt_add_one, Nat.zero_lt_succ, atD0, atD1, atD2, atD3, atD4, atD5, List.getElem?_cons_zero, List.getElem?_cons_succ, List.set_cons_zero, List.set_cons_succ, Option.some.injEq, D.int.injEq, D.bl.injEq, D.obj.injEq, D.str.injEq, D.tup.injEq, O.lst.injEq, List.cons.injEq, List.length_cons, List.length_nil, exists_eq_left', exists_eq_left, exists_eq, exists_eq', exists_and_left, true_and, and_true, and_self, decide_eq_true_eq, decide_eq_false_iff_not, Bool.not_eq_true', Bool.not_eq_false', Bool.not_true, Bool.not_false, forall_const, imp_self, reduceCtorEq, false_and, and_false, exists_false, or_false, false_or, implies_true, false_implies, true_implies, not_true_eq_false, not_false_eq_true, if_true, if_false, b__law_texts_1, wI]
  refine ⟨by decide, loopW_inv (fun i env st' => ∃ a b, env = [some (.obj s), some (.obj n), some (.str word), some (.str digits), some (.obj t), a, b] ∧ Tx s t st (41 + i) st') ⟨_, _, rfl, T0⟩ (fun i e s _ _ => by simp only [wS, wE, wEs, wT_tn, wT_tt, wTs_nil, wTs_cons, wAnd, wOr, wO, wIf, rdV, argN, tyB, b_add, b_sub, b_mul, b_fdiv, b_mod, b_adds, b_addt, b_addo, b_muls, b_mulo, c_eq, c_ne, c_lt, c_le, c_gt, c_ge, c_eqs, c_nes, c_eqb, c_neb, c_in1, c_nin1, c_init, c_ninit, c_inio, c_ninio, i_objs, dOk_int, dOk_str, o_sets, m_get1, m_get2, m_setd, t_get, t_setd, O.dic.injEq, c_inso, c_inst, c_ninso, c_ninst, f_lenS, f_tupS, i_tS, v_tS, y_tS, c_inS, c_ninS, isN_tS, c_isn, c_isntn, c_isb, c_isntb, isN_non, isN_int, isN_str, isN_tup, isN_bl, isN_obj, sq_tup, sq_fro, sq_obj, i_str, i_obj, i_tup, i_fro, s_str, s_tup, s_fro, s_obj, f_lens, f_lent, f_lenf, f_leno, f_inti, f_intb, f_boolb, f_sum, f_all, f_any, f_tupt, f_tupo, f_lstt, f_lsto, f_min, f_max, f_abs, f_stri, m_app, m_popi, m_ins, m_idxi, m_idxs, m_split, m_words, t_ins, t_idx, t_idxf, t_split,  m_ext, m_pop, m_join, t_app, t_ext, t_pop, t_join, o_set, y_non, y_int, y_bl, y_str, y_tup, y_fro, y_obj, v_tup, v_tI, v_fro, v_str, v_obj, z_tup, z_to, z_ot, z_obj, f_tups, t_idxt, en_obj, en_tup, rv_obj, rv_tup, s_tI, b_addI, f_lenI, f_tupI, f_lstI, i_tI, y_tI, isN_tI, tI_nil, still_nil, still_one, still_two, ixD0, ixD1, ixD2, ixD3, ixD4, ixD5, Nat.reduceAdd, Nat.reduceSub, Nat.reduceLT, Nat.reduceEqDiff, Nat.lt_add_one, Nat.zero_lt_succ, atD0, atD1, atD2, atD3, atD4, atD5, List.getElem?_cons_zero, List.getElem?_cons_succ, List.set_cons_zero, List.set_cons_succ, Option.some.injEq, D.int.injEq, D.bl.injEq, D.obj.injEq, D.str.injEq, D.tup.injEq, O.lst.injEq, List.cons.injEq, List.length_cons, List.length_nil, exists_eq_left', exists_eq_left, exists_eq, exists_eq', exists_and_left, true_and, and_true, and_self, decide_eq_true_eq, decide_eq_false_iff_not, Bool.not_eq_true', Bool.not_eq_false', Bool.not_true, Bool.not_false, forall_const, imp_self, reduceCtorEq, false_and, and_false, exists_false, or_false, false_or, implies_true, false_implies, true_implies, not_true_eq_false, not_false_eq_true, if_true, if_false]) ?_ ?_⟩
  · rintro env st' ⟨a, b, rfl, T⟩
    exact siz _ _ _ T
  · rintro i env st' v ⟨a, b, rfl, ss, h1, X, h2, h3⟩ hv nxt hnx
    obtain ⟨rfl, hi⟩ := rng_at hv
    have hi : i < 6 := hi
    simp only [wS, wE, wEs, wT_tn, wT_tt, wTs_nil, wTs_cons, wAnd, wOr, wO, wIf, rdV, argN, tyB, b_add, b_sub, b_mul, b_fdiv, b_mod, b_adds, b_addt, b_addo, b_muls, b_mulo, c_eq, c_ne, c_lt, c_le, c_gt, c_ge, c_eqs, c_nes, c_eqb, c_neb, c_in1, c_nin1, c_init, c_ninit, c_inio, c_ninio, i_objs, dOk_int, dOk_str, o_sets, m_get1, m_get2, m_setd, t_get, t_setd, O.dic.injEq, c_inso, c_inst, c_ninso, c_ninst, f_lenS, f_tupS, i_tS, v_tS, y_tS, c_inS, c_ninS, isN_tS, c_isn, c_isntn, c_isb, c_isntb, isN_non, isN_int, isN_str, isN_tup, isN_bl, isN_obj, sq_tup, sq_fro, sq_obj, i_str, i_obj, i_tup, i_fro, s_str, s_tup, s_fro, s_obj, f_lens, f_lent, f_lenf, f_leno, f_inti, f_intb, f_boolb, f_sum, f_all, f_any, f_tupt, f_tupo, f_lstt, f_lsto, f_min, f_max, f_abs, f_stri, m_app, m_popi, m_ins, m_idxi, m_idxs, m_split, m_words, t_ins, t_idx, t_idxf, t_split,  m_ext, m_pop, m_join, t_app, t_ext, t_pop, t_join, o_set, y_non, y_int, y_bl, y_str, y_tup, y_fro, y_obj, v_tup, v_tI, v_fro, v_str, v_obj, z_tup, z_to, z_ot, z_obj, f_tups, t_idxt, en_obj, en_tup, rv_obj, rv_tup, s_tI, b_addI, f_lenI, f_tupI, f_lstI, i_tI, y_tI, isN_tI, tI_nil, still_nil, still_one, still_two, ixD0, ixD1, ixD2, ixD3, ixD4, ixD5, Nat.reduceAdd, Nat.reduceSub, Nat.reduceLT, Nat.reduceEqDiff, Nat.lt_add_one, Nat.zero_lt_succ, atD0, atD1, atD2, atD3, atD4, atD5, List.getElem?_cons_zero, List.getElem?_cons_succ, List.set_cons_zero, List.set_cons_succ, Option.some.injEq, D.int.injEq, D.bl.injEq, D.obj.injEq, D.str.injEq, D.tup.injEq, O.lst.injEq, List.cons.injEq, List.length_cons, List.length_nil, exists_eq_left', exists_eq_left, exists_eq, exists_eq', exists_and_left, true_and, and_true, and_self, decide_eq_true_eq, decide_eq_false_iff_not, Bool.not_eq_true', Bool.not_eq_false', Bool.not_true, Bool.not_false, forall_const, imp_self, reduceCtorEq, false_and, and_false, exists_false, or_false, false_or, implies_true, false_implies, true_implies, not_true_eq_false, not_false_eq_true, if_true, if_false, b__law_texts_2, h1]
    refine some_obj X.src hns (X.at hn hns) (by rw [List.length_map, res_ne]; decide) (by rw [List.length_map, res_ne]; decide) fun x st2 hx hd2 => ?_
    obtain ⟨w, hw0, rfl⟩ := List.mem_map.mp hx
    have hw1 := res_len w hw0
    refine changed_ok hd2.1 (by omega) fun v st3 hv3 hd3 => ?_
    have X3 := (X.dr hd2).dr hd3
    have h1' : st3[t]? = some (.lst (ss.map D.str)) := by rw [hd3.get (by omega), hd2.get (by omega)]; exact h1
    simp only [wS, wE, wEs, wT_tn, wT_tt, wTs_nil, wTs_cons, wAnd, wOr, wO, wIf, rdV, argN, tyB, b_add, b_sub, b_mul, b_fdiv, b_mod, b_adds, b_addt, b_addo, b_muls, b_mulo, c_eq, c_ne, c_lt, c_le, c_gt, c_ge, c_eqs, c_nes, c_eqb, c_neb, c_in1, c_nin1, c_init, c_ninit, c_inio, c_ninio, i_objs, dOk_int, dOk_str, o_sets, m_get1, m_get2, m_setd, t_get, t_setd, O.dic.injEq, c_inso, c_inst, c_ninso, c_ninst, f_lenS, f_tupS, i_tS, v_tS, y_tS, c_inS, c_ninS, isN_tS, c_isn, c_isntn, c_isb, c_isntb, isN_non, isN_int, isN_str, isN_tup, isN_bl, isN_obj, sq_tup, sq_fro, sq_obj, i_str, i_obj, i_tup, i_fro, s_str, s_tup, s_fro, s_obj, f_lens, f_lent, f_lenf, f_leno, f_inti, f_intb, f_boolb, f_sum, f_all, f_any, f_tupt, f_tupo, f_lstt, f_lsto, f_min, f_max, f_abs, f_stri, m_app, m_popi, m_ins, m_idxi, m_idxs, m_split, m_words, t_ins, t_idx, t_idxf, t_split,  m_ext, m_pop, m_join, t_app, t_ext, t_pop, t_join, o_set, y_non, y_int, y_bl, y_str, y_tup, y_fro, y_obj, v_tup, v_tI, v_fro, v_str, v_obj, z_tup, z_to, z_ot, z_obj, f_tups, t_idxt, en_obj, en_tup, rv_obj, rv_tup, s_tI, b_addI, f_lenI, f_tupI, f_lstI, i_tI, y_tI, isN_tI, tI_nil, still_nil, still_one, still_two, ixD0, ixD1, ixD2, ixD3, ixD4, ixD5, Nat.reduceAdd, Nat.reduceSub, Nat.reduceLT, Nat.reduceEqDiff, Nat.lt_add_one, Nat.zero_lt_succ, atD0, atD1, atD2, atD3, atD4, atD5, List.getElem?_cons_zero, List.getElem?_cons_succ, List.set_cons_zero, List.set_cons_succ, Option.some.injEq, D.int.injEq, D.bl.injEq, D.obj.injEq, D.str.injEq, D.tup.injEq, O.lst.injEq, List.cons.injEq, List.length_cons, List.length_nil, exists_eq_left', exists_eq_left, exists_eq, exists_eq', exists_and_left, true_and, and_true, and_self, decide_eq_true_eq, decide_eq_false_iff_not, Bool.not_eq_true', Bool.not_eq_false', Bool.not_true, Bool.not_false, forall_const, imp_self, reduceCtorEq, false_and, and_false, exists_false, or_false, false_or, implies_true, false_implies, true_implies, not_true_eq_false, not_false_eq_true, if_true, if_false, h1']
    refine ⟨by rw [List.length_map]; omega, hnx _ _ ⟨_, _, rfl, Tx.add (ws := [v]) X3 hts (List.getElem?_eq_some_iff.mp h1').1 (by show _ + 1 ≤ _; omega) h3 fun u hu => ?_⟩⟩
    rw [List.mem_singleton] at hu
    rw [hu]; omega
end Rf

namespace Rf
open PySem
theorem ns_tup (xs : List D) : NS (.tup xs) := fun _ _ => rfl
theorem ns_int (i : Int) : NS (.int i) := fun _ _ => rfl
theorem ns_non : NS .non := fun _ _ => rfl
theorem values_ok {k s : Nat} {st : Sto} {word digits : List Nat} {Q : KD} {E : XD} (hS : Src st s) (hw : word.length = 14) (hd : digits.length = 5)
    (h : ∀ (t : Nat) (ds : List D) (st' : Sto), st'[t]? = some (.lst ds) → Ext s st st' → ds.length ≤ 200 → (∀ d ∈ ds, Vd d) → Q (.obj t) st') : wCall GG TT (k + 5) 14 [.obj s, .str word, .str digits] st Q E := by
  have hst := hS.lt
  refine wCall_in (fn := f__law_values) rfl rfl rfl ?_
  show wS _ _ b__law_values_0 [some (.obj s), some (.str word), some (.str digits), none, none, none, none] _ _
  simp only [wS, wE, wEs, wT_tn, wT_tt, wTs_nil, wTs_cons, wAnd, wOr, wO, wIf, rdV, argN, tyB, b_add, b_sub, b_mul, b_fdiv, b_mod, b_adds, b_addt, b_addo, b_muls, b_mulo, c_eq, c_ne, c_lt, c_le, c_gt, c_ge, c_eqs, c_nes, c_eqb, c_neb, c_in1, c_nin1, c_init, c_ninit, c_inio, c_ninio, i_objs, dOk_int, dOk_str, o_sets, m_get1, m_get2, m_setd, t_get, t_setd, O.dic.injEq, c_inso, c_inst, c_ninso, c_ninst, f_lenS, f_tupS, i_tS, v_tS, y_tS, c_inS, c_ninS, isN_tS, c_isn, c_isntn, c_isb, c_isntb, isN_non, isN_int, isN_str, isN_tup, isN_bl, isN_obj, sq_tup, sq_fro, sq_obj, i_str, i_obj, i_tup, i_fro, s_str, s_tup, s_fro, s_obj, f_lens, f_lent, f_lenf, f_leno, f_inti, f_intb, f_boolb, f_sum, f_all, f_any, f_tupt, f_tupo, f_lstt, f_lsto, f_min, f_max, f_abs, f_stri, m_app, m_popi, m_ins, m_idxi, m_idxs, m_split, m_words, t_ins, t_idx, t_idxf, t_split,  m_ext, m_pop, m_join, t_app, t_ext, t_pop, t_join, o_set, y_non, y_int, y_bl, y_str, y_tup, y_fro, y_obj, v_tup, v_tI, v_fro, v_str, v_obj, z_tup, z_to, z_ot, z_obj, f_tups, t_idxt, en_obj, en_tup, rv_obj, rv_tup, s_tI, b_addI, f_lenI, f_tupI, f_lstI, i_tI, y_tI, isN_tI, tI_nil, still_nil, still_one, still_two, ixD0, ixD1, ixD2, ixD3, ixD4, ixD5, Nat.reduceAdd, Nat.reduceSub, Nat.reduceLT, Nat.reduceEqDiff, Nat.lt_add_one, Nat.zero_lt_succ, atD0, atD1, atD2, atD3, atD4, atD5, List.getElem?_cons_zero, List.getElem?_cons_succ, List.set_cons_zero, List.set_cons_succ, Option.some.injEq, D.int.injEq, D.bl.injEq, D.obj.injEq, D.str.injEq, D.tup.injEq, O.lst.injEq, List.cons.injEq, List.length_cons, List.length_nil, exists_eq_left', exists_eq_left, exists_eq, exists_eq', exists_and_left, true_and, and_true, and_self, decide_eq_true_eq, decide_eq_false_iff_not, Bool.not_eq_true', Bool.not_eq_false', Bool.not_true, Bool.not_false, forall_const, imp_self, reduceCtorEq, false_and, and_false, exists_false, or_false, false_or, implies_true, false_implies, true_implies, not_true_eq_false, not_false_eq_true, if_true, if_false, b__law_values_0, cut_take]
  refine ⟨by omega, ?_⟩
  simp only [wS, wE, wEs, wT_tn, wT_tt, wTs_nil, wTs_cons, wAnd, wOr, wO, wIf, rdV, argN, tyB, b_add, b_sub, b_mul, b_fdiv, b_mod, b_adds, b_addt, b_addo, b_muls, b_mulo, c_eq, c_ne, c_lt, c_le, c_gt, c_ge, c_eqs, c_nes, c_eqb, c_neb, c_in1, c_nin1, c_init, c_ninit, c_inio, c_ninio, i_objs, dOk_int, dOk_str, o_sets, m_get1, m_get2, m_setd, t_get, t_setd, O.dic.injEq, c_inso, c_inst, c_ninso, c_ninst, f_lenS, f_tupS, i_tS, v_tS, y_tS, c_inS, c_ninS, isN_tS, c_isn, c_isntn, c_isb, c_isntb, isN_non, isN_int, isN_str, isN_tup, isN_bl, isN_obj, sq_tup, sq_fro, sq_obj, i_str, i_obj, i_tup, i_fro, s_str, s_tup, s_fro, s_obj, f_lens, f_lent, f_lenf, f_leno, f_inti, f_intb, f_boolb, f_sum, f_all, f_any, f_tupt, f_tupo, f_lstt, f_lsto, f_min, f_max, f_abs, f_stri, m_app, m_popi, m_ins, m_idxi, m_idxs, m_split, m_words, t_ins, t_idx, t_idxf, t_split,  m_ext, m_pop, m_join, t_app, t_ext, t_pop, t_join, o_set, y_non, y_int, y_bl, y_str, y_tup, y_fro, y_obj, v_tup, v_tI, v_fro, v_str, v_obj, z_tup, z_to, z_ot, z_obj, f_tups, t_idxt, en_obj, en_tup, rv_obj, rv_tup, s_tI, b_addI, f_lenI, f_tupI, f_lstI, i_tI, y_tI, isN_tI, tI_nil, still_nil, still_one, still_two, ixD0, ixD1, ixD2, ixD3, ixD4, ixD5, Nat.reduceAdd, Nat.reduceSub, Nat.reduceLT, Nat.reduceEqDiff, Nat.lt_add_one, Nat.zero_lt_succ, atD0, atD1, atD2, atD3, atD4, atD5, List.getElem?_cons_zero, List.getElem?_cons_succ, List.set_cons_zero, List.set_cons_succ, Option.some.injEq, D.int.injEq, D.bl.injEq, D.obj.injEq, D.str.injEq, D.tup.injEq, O.lst.injEq, List.cons.injEq, List.length_cons, List.length_nil, exists_eq_left', exists_eq_left, exists_eq, exists_eq', exists_and_left, true_and, and_true, and_self, decide_eq_true_eq, decide_eq_false_iff_not, Bool.not_eq_true', Bool.not_eq_false', Bool.not_true, Bool.not_false, forall_const, imp_self, reduceCtorEq, false_and, and_false, exists_false, or_false, false_or, implies_true, false_implies, true_implies, not_true_eq_false, not_false_eq_true, if_true, if_false, b__law_values_1, wI]
  refine draw_ok hS (by decide) fun r st1 hr hd1 => ?_
  simp only [wS, wE, wEs, wT_tn, wT_tt, wTs_nil, wTs_cons, wAnd, wOr, wO, wIf, rdV, argN, tyB, b_add, b_sub, b_mul, b_fdiv, b_mod, b_adds, b_addt, b_addo, b_muls, b_mulo, c_eq, c_ne, c_lt, c_le, c_gt, c_ge, c_eqs, c_nes, c_eqb, c_neb, c_in1, c_nin1, c_init, c_ninit, c_inio, c_ninio, i_objs, dOk_int, dOk_str, o_sets, m_get1, m_get2, m_setd, t_get, t_setd, O.dic.injEq, c_inso, c_inst, c_ninso, c_ninst, f_lenS, f_tupS, i_tS, v_tS, y_tS, c_inS, c_ninS, isN_tS, c_isn, c_isntn, c_isb, c_isntb, isN_non, isN_int, isN_str, isN_tup, isN_bl, isN_obj, sq_tup, sq_fro, sq_obj, i_str, i_obj, i_tup, i_fro, s_str, s_tup, s_fro, s_obj, f_lens, f_lent, f_lenf, f_leno, f_inti, f_intb, f_boolb, f_sum, f_all, f_any, f_tupt, f_tupo, f_lstt, f_lsto, f_min, f_max, f_abs, f_stri, m_app, m_popi, m_ins, m_idxi, m_idxs, m_split, m_words, t_ins, t_idx, t_idxf, t_split,  m_ext, m_pop, m_join, t_app, t_ext, t_pop, t_join, o_set, y_non, y_int, y_bl, y_str, y_tup, y_fro, y_obj, v_tup, v_tI, v_fro, v_str, v_obj, z_tup, z_to, z_ot, z_obj, f_tups, t_idxt, en_obj, en_tup, rv_obj, rv_tup, s_tI, b_addI, f_lenI, f_tupI, f_lstI, i_tI, y_tI, isN_tI, tI_nil, still_nil, still_one, still_two, ixD0, ixD1, ixD2, ixD3, ixD4, ixD5, Nat.reduceAdd, Nat.reduceSub, Nat.reduceLT, Nat.reduceEqDiff, Nat.lt_add_one, Nat.zero_lt_succ, atD0, atD1, atD2, atD3, atD4, atD5, List.getElem?_cons_zero, List.getElem?_cons_succ, List.set_cons_zero, List.set_cons_succ, Option.some.injEq, D.int.injEq, D.bl.injEq, D.obj.injEq, D.str.injEq, D.tup.injEq, O.lst.injEq, List.cons.injEq, List.length_cons, List.length_nil, exists_eq_left', exists_eq_left, exists_eq, exists_eq', exists_and_left, true_and, and_true, and_self, decide_eq_true_eq, decide_eq_false_iff_not, Bool.not_eq_true', Bool.not_eq_false', Bool.not_true, Bool.not_false, forall_const, imp_self, reduceCtorEq, false_and, and_false, exists_false, or_false, false_or, implies_true, false_implies, true_implies, not_true_eq_false, not_false_eq_true, if_true, if_false]
  refine ⟨by omega, loopW_inv (fun i env st' => ∃ d b, env = [some (.obj s), some (.str word), some (.str digits), some d, b, none, none] ∧ Vd d ∧ st' = st1) ⟨_, _, rfl, .inl ⟨_, rfl, ?_⟩, rfl⟩ (fun i e s _ _ => by simp only [wS, wE, wEs, wT_tn, wT_tt, wTs_nil, wTs_cons, wAnd, wOr, wO, wIf, rdV, argN, tyB, b_add, b_sub, b_mul, b_fdiv, b_mod, b_adds, b_addt, b_addo, b_muls, b_mulo, c_eq, c_ne, c_lt, c_le, c_gt, c_ge, c_eqs, c_nes, c_eqb, c_neb, c_in1, c_nin1, c_init, c_ninit, c_inio, c_ninio, i_objs, dOk_int, dOk_str, o_sets, m_get1, m_get2, m_setd, t_get, t_setd, O.dic.injEq, c_inso, c_inst, c_ninso, c_ninst, f_lenS, f_tupS, i_tS, v_tS, y_tS, c_inS, c_ninS, isN_tS, c_isn, c_isntn, c_isb, c_isntb, isN_non, isN_int, isN_str, isN_tup, isN_bl, isN_obj, sq_tup, sq_fro, sq_obj, i_str, i_obj, i_tup, i_fro, s_str, s_tup, s_fro, s_obj, f_lens, f_lent, f_lenf, f_leno, f_inti, f_intb, f_boolb, f_sum, f_all, f_any, f_tupt, f_tupo, f_lstt, f_lsto, f_min, f_max, f_abs, f_stri, m_app, m_popi, m_ins, m_idxi, m_idxs, m_split, m_words, t_ins, t_idx, t_idxf, t_split,  m_ext, m_pop, m_join, t_app, t_ext, t_pop, t_join, o_set, y_non, y_int, y_bl, y_str, y_tup, y_fro, y_obj, v_tup, v_tI, v_fro, v_str, v_obj, z_tup, z_to, z_ot, z_obj, f_tups, t_idxt, en_obj, en_tup, rv_obj, rv_tup, s_tI, b_addI, f_lenI, f_tupI, f_lstI, i_tI, y_tI, isN_tI, tI_nil, still_nil, still_one, still_two, ixD0, ixD1, ixD2, ixD3, ixD4, ixD5, Nat.reduceAdd, Nat.reduceSub, Nat.reduceLT, Nat.reduceEqDiff, Nat.lt_add_one, Nat.zero_lt_succ, atD0, atD1, atD2, atD3, atD4, atD5, List.getElem?_cons_zero, List.getElem?_cons_succ, List.set_cons_zero, List.set_cons_succ, Option.some.injEq, D.int.injEq, D.bl.injEq, D.obj.injEq, D.str.injEq, D.tup.injEq, O.lst.injEq, List.cons.injEq, List.length_cons, List.length_nil, exists_eq_left', exists_eq_left, exists_eq, exists_eq', exists_and_left, true_and, and_true, and_self, decide_eq_true_eq, decide_eq_false_iff_not, Bool.not_eq_true', Bool.not_eq_false', Bool.not_true, Bool.not_false, forall_const, imp_self, reduceCtorEq, false_and, and_false, exists_false, or_false, false_or, implies_true, false_implies, true_implies, not_true_eq_false, not_false_eq_true, if_true, if_false]) ?_ ?_⟩
  · have : (cutD word none (some 2)).length ≤ 14 := by unfold cutD; rw [List.length_take, List.length_drop]; omega
    omega
  · rintro env st' ⟨d, b, rfl, hv, rfl⟩
    simp only [wS, wE, wEs, wT_tn, wT_tt, wTs_nil, wTs_cons, wAnd, wOr, wO, wIf, rdV, argN, tyB, b_add, b_sub, b_mul, b_fdiv, b_mod, b_adds, b_addt, b_addo, b_muls, b_mulo, c_eq, c_ne, c_lt, c_le, c_gt, c_ge, c_eqs, c_nes, c_eqb, c_neb, c_in1, c_nin1, c_init, c_ninit, c_inio, c_ninio, i_objs, dOk_int, dOk_str, o_sets, m_get1, m_get2, m_setd, t_get, t_setd, O.dic.injEq, c_inso, c_inst, c_ninso, c_ninst, f_lenS, f_tupS, i_tS, v_tS, y_tS, c_inS, c_ninS, isN_tS, c_isn, c_isntn, c_isb, c_isntb, isN_non, isN_int, isN_str, isN_tup, isN_bl, isN_obj, sq_tup, sq_fro, sq_obj, i_str, i_obj, i_tup, i_fro, s_str, s_tup, s_fro, s_obj, f_lens, f_lent, f_lenf, f_leno, f_inti, f_intb, f_boolb, f_sum, f_all, f_any, f_tupt, f_tupo, f_lstt, f_lsto, f_min, f_max, f_abs, f_stri, m_app, m_popi, m_ins, m_idxi, m_idxs, m_split, m_words, t_ins, t_idx, t_idxf, t_split,  m_ext, m_pop, m_join, t_app, t_ext, t_pop, t_join, o_set, y_non, y_int, y_bl, y_str, y_tup, y_fro, y_obj, v_tup, v_tI, v_fro, v_str, v_obj, z_tup, z_to, z_ot, z_obj, f_tups, t_idxt, en_obj, en_tup, rv_obj, rv_tup, s_tI, b_addI, f_lenI, f_tupI, f_lstI, i_tI, y_tI, isN_tI, tI_nil, still_nil, still_one, still_two, ixD0, ixD1, ixD2, ixD3, ixD4, ixD5, Nat.reduceAdd, Nat.reduceSub, Nat.reduceLT, Nat.reduceEqDiff, Nat.lt_add_one, Nat.zero_lt_succ, atD0, atD1, atD2, atD3, atD4, atD5, List.getElem?_cons_zero, List.getElem?_cons_succ, List.set_cons_zero, List.set_cons_succ, Option.some.injEq, D.int.injEq, D.bl.injEq, D.obj.injEq, D.str.injEq, D.tup.injEq, O.lst.injEq, List.cons.injEq, List.length_cons, List.length_nil, exists_eq_left', exists_eq_left, exists_eq, exists_eq', exists_and_left, true_and, and_true, and_self, decide_eq_true_eq, decide_eq_false_iff_not, Bool.not_eq_true', Bool.not_eq_false', Bool.not_true, Bool.not_false, forall_const, imp_self, reduceCtorEq, false_and, and_false, exists_false, or_false, false_or, implies_true, false_implies, true_implies, not_true_eq_false, not_false_eq_true, if_true, if_false, b__law_values_3]
    refine draw_ok hd1.1 (by decide) fun m st2 hm hd2 => ?_
    simp only [wS, wE, wEs, wT_tn, wT_tt, wTs_nil, wTs_cons, wAnd, wOr, wO, wIf, rdV, argN, tyB, b_add, b_sub, b_mul, b_fdiv, b_mod, b_adds, b_addt, b_addo, b_muls, b_mulo, c_eq, c_ne, c_lt, c_le, c_gt, c_ge, c_eqs, c_nes, c_eqb, c_neb, c_in1, c_nin1, c_init, c_ninit, c_inio, c_ninio, i_objs, dOk_int, dOk_str, o_sets, m_get1, m_get2, m_setd, t_get, t_setd, O.dic.injEq, c_inso, c_inst, c_ninso, c_ninst, f_lenS, f_tupS, i_tS, v_tS, y_tS, c_inS, c_ninS, isN_tS, c_isn, c_isntn, c_isb, c_isntb, isN_non, isN_int, isN_str, isN_tup, isN_bl, isN_obj, sq_tup, sq_fro, sq_obj, i_str, i_obj, i_tup, i_fro, s_str, s_tup, s_fro, s_obj, f_lens, f_lent, f_lenf, f_leno, f_inti, f_intb, f_boolb, f_sum, f_all, f_any, f_tupt, f_tupo, f_lstt, f_lsto, f_min, f_max, f_abs, f_stri, m_app, m_popi, m_ins, m_idxi, m_idxs, m_split, m_words, t_ins, t_idx, t_idxf, t_split,  m_ext, m_pop, m_join, t_app, t_ext, t_pop, t_join, o_set, y_non, y_int, y_bl, y_str, y_tup, y_fro, y_obj, v_tup, v_tI, v_fro, v_str, v_obj, z_tup, z_to, z_ot, z_obj, f_tups, t_idxt, en_obj, en_tup, rv_obj, rv_tup, s_tI, b_addI, f_lenI, f_tupI, f_lstI, i_tI, y_tI, isN_tI, tI_nil, still_nil, still_one, still_two, ixD0, ixD1, ixD2, ixD3, ixD4, ixD5, Nat.reduceAdd, Nat.reduceSub, Nat.reduceLT, Nat.reduceEqDiff, Nat.lt_add_one, Nat.zero_lt_succ, atD0, atD1, atD2, atD3, atD4, atD5, List.getElem?_cons_zero, List.getElem?_cons_succ, List.set_cons_zero, List.set_cons_succ, Option.some.injEq, D.int.injEq, D.bl.injEq, D.obj.injEq, D.str.injEq, D.tup.injEq, O.lst.injEq, List.cons.injEq, List.length_cons, List.length_nil, exists_eq_left', exists_eq_left, exists_eq, exists_eq', exists_and_left, true_and, and_true, and_self, decide_eq_true_eq, decide_eq_false_iff_not, Bool.not_eq_true', Bool.not_eq_false', Bool.not_true, Bool.not_false, forall_const, imp_self, reduceCtorEq, false_and, and_false, exists_false, or_false, false_or, implies_true, false_implies, true_implies, not_true_eq_false, not_false_eq_true, if_true, if_false, b__law_values_4]
    refine draw_ok hd2.1 (by decide) fun m3 st3 hm3 hd3 => ?_
    simp only [wS, wE, wEs, wT_tn, wT_tt, wTs_nil, wTs_cons, wAnd, wOr, wO, wIf, rdV, argN, tyB, b_add, b_sub, b_mul, b_fdiv, b_mod, b_adds, b_addt, b_addo, b_muls, b_mulo, c_eq, c_ne, c_lt, c_le, c_gt, c_ge, c_eqs, c_nes, c_eqb, c_neb, c_in1, c_nin1, c_init, c_ninit, c_inio, c_ninio, i_objs, dOk_int, dOk_str, o_sets, m_get1, m_get2, m_setd, t_get, t_setd, O.dic.injEq, c_inso, c_inst, c_ninso, c_ninst, f_lenS, f_tupS, i_tS, v_tS, y_tS, c_inS, c_ninS, isN_tS, c_isn, c_isntn, c_isb, c_isntb, isN_non, isN_int, isN_str, isN_tup, isN_bl, isN_obj, sq_tup, sq_fro, sq_obj, i_str, i_obj, i_tup, i_fro, s_str, s_tup, s_fro, s_obj, f_lens, f_lent, f_lenf, f_leno, f_inti, f_intb, f_boolb, f_sum, f_all, f_any, f_tupt, f_tupo, f_lstt, f_lsto, f_min, f_max, f_abs, f_stri, m_app, m_popi, m_ins, m_idxi, m_idxs, m_split, m_words, t_ins, t_idx, t_idxf, t_split,  m_ext, m_pop, m_join, t_app, t_ext, t_pop, t_join, o_set, y_non, y_int, y_bl, y_str, y_tup, y_fro, y_obj, v_tup, v_tI, v_fro, v_str, v_obj, z_tup, z_to, z_ot, z_obj, f_tups, t_idxt, en_obj, en_tup, rv_obj, rv_tup, s_tI, b_addI, f_lenI, f_tupI, f_lstI, i_tI, y_tI, isN_tI, tI_nil, still_nil, still_one, still_two, ixD0, ixD1, ixD2, ixD3, ixD4, ixD5, Nat.reduceAdd, Nat.reduceSub, Nat.reduceLT, Nat.reduceEqDiff, Nat.lt_add_one, Nat.zero_lt_succ, atD0, atD1, atD2, atD3, atD4, atD5, List.getElem?_cons_zero, List.getElem?_cons_succ, List.set_cons_zero, List.set_cons_succ, Option.some.injEq, D.int.injEq, D.bl.injEq, D.obj.injEq, D.str.injEq, D.tup.injEq, O.lst.injEq, List.cons.injEq, List.length_cons, List.length_nil, exists_eq_left', exists_eq_left, exists_eq, exists_eq', exists_and_left, true_and, and_true, and_self, decide_eq_true_eq, decide_eq_false_iff_not, Bool.not_eq_true', Bool.not_eq_false', Bool.not_true, Bool.not_false, forall_const, imp_self, reduceCtorEq, false_and, and_false, exists_false, or_false, false_or, implies_true, false_implies, true_implies, not_true_eq_false, not_false_eq_true, if_true, if_false]
    have cl : ∀ (z : List Nat) (i : Option Int), z.length ≤ 14 → (cutD z none i).length ≤ 14 := fun z i hz => by unfold cutD; rw [List.length_take, List.length_drop]; omega
    have lo : ∀ (m : Nat) (z : List Nat), D.low m (.tup (z.map fun c => D.str [c])) = true := fun m z => by
      have := tS_low m (z.map fun c => [c])
      unfold tS at this
      rwa [List.map_map] at this
    have c1 := cl word (some (1 + (m3 : Int))) (by omega)
    refine ⟨by omega, by omega, ((Ext.refl hd2.1).dr hd3).gc (lo _ _) fun st5 hd5 => ?_⟩
    refine draw_ok hd5.1 (by decide) fun m4 st6 hm4 hd6 => ?_
    have c2 := cl digits (some (1 + (m4 : Int))) (by omega)
    simp only [wS, wE, wEs, wT_tn, wT_tt, wTs_nil, wTs_cons, wAnd, wOr, wO, wIf, rdV, argN, tyB, b_add, b_sub, b_mul, b_fdiv, b_mod, b_adds, b_addt, b_addo, b_muls, b_mulo, c_eq, c_ne, c_lt, c_le, c_gt, c_ge, c_eqs, c_nes, c_eqb, c_neb, c_in1, c_nin1, c_init, c_ninit, c_inio, c_ninio, i_objs, dOk_int, dOk_str, o_sets, m_get1, m_get2, m_setd, t_get, t_setd, O.dic.injEq, c_inso, c_inst, c_ninso, c_ninst, f_lenS, f_tupS, i_tS, v_tS, y_tS, c_inS, c_ninS, isN_tS, c_isn, c_isntn, c_isb, c_isntb, isN_non, isN_int, isN_str, isN_tup, isN_bl, isN_obj, sq_tup, sq_fro, sq_obj, i_str, i_obj, i_tup, i_fro, s_str, s_tup, s_fro, s_obj, f_lens, f_lent, f_lenf, f_leno, f_inti, f_intb, f_boolb, f_sum, f_all, f_any, f_tupt, f_tupo, f_lstt, f_lsto, f_min, f_max, f_abs, f_stri, m_app, m_popi, m_ins, m_idxi, m_idxs, m_split, m_words, t_ins, t_idx, t_idxf, t_split,  m_ext, m_pop, m_join, t_app, t_ext, t_pop, t_join, o_set, y_non, y_int, y_bl, y_str, y_tup, y_fro, y_obj, v_tup, v_tI, v_fro, v_str, v_obj, z_tup, z_to, z_ot, z_obj, f_tups, t_idxt, en_obj, en_tup, rv_obj, rv_tup, s_tI, b_addI, f_lenI, f_tupI, f_lstI, i_tI, y_tI, isN_tI, tI_nil, still_nil, still_one, still_two, ixD0, ixD1, ixD2, ixD3, ixD4, ixD5, Nat.reduceAdd, Nat.reduceSub, Nat.reduceLT, Nat.reduceEqDiff, Nat.lt_add_one, Nat.zero_lt_succ, atD0, atD1, atD2, atD3, atD4, atD5, List.getElem?_cons_zero, List.getElem?_cons_succ, List.set_cons_zero, List.set_cons_succ, Option.some.injEq, D.int.injEq, D.bl.injEq, D.obj.injEq, D.str.injEq, D.tup.injEq, O.lst.injEq, List.cons.injEq, List.length_cons, List.length_nil, exists_eq_left', exists_eq_left, exists_eq, exists_eq', exists_and_left, true_and, and_true, and_self, decide_eq_true_eq, decide_eq_false_iff_not, Bool.not_eq_true', Bool.not_eq_false', Bool.not_true, Bool.not_false, forall_const, imp_self, reduceCtorEq, false_and, and_false, exists_false, or_false, false_or, implies_true, false_implies, true_implies, not_true_eq_false, not_false_eq_true, if_true, if_false]
    refine ⟨by omega, by omega, ((Ext.refl hd5.1).dr hd6).gc (lo _ _) fun st7 hd7 => ?_⟩
    simp only [wS, wE, wEs, wT_tn, wT_tt, wTs_nil, wTs_cons, wAnd, wOr, wO, wIf, rdV, argN, tyB, b_add, b_sub, b_mul, b_fdiv, b_mod, b_adds, b_addt, b_addo, b_muls, b_mulo, c_eq, c_ne, c_lt, c_le, c_gt, c_ge, c_eqs, c_nes, c_eqb, c_neb, c_in1, c_nin1, c_init, c_ninit, c_inio, c_ninio, i_objs, dOk_int, dOk_str, o_sets, m_get1, m_get2, m_setd, t_get, t_setd, O.dic.injEq, c_inso, c_inst, c_ninso, c_ninst, f_lenS, f_tupS, i_tS, v_tS, y_tS, c_inS, c_ninS, isN_tS, c_isn, c_isntn, c_isb, c_isntb, isN_non, isN_int, isN_str, isN_tup, isN_bl, isN_obj, sq_tup, sq_fro, sq_obj, i_str, i_obj, i_tup, i_fro, s_str, s_tup, s_fro, s_obj, f_lens, f_lent, f_lenf, f_leno, f_inti, f_intb, f_boolb, f_sum, f_all, f_any, f_tupt, f_tupo, f_lstt, f_lsto, f_min, f_max, f_abs, f_stri, m_app, m_popi, m_ins, m_idxi, m_idxs, m_split, m_words, t_ins, t_idx, t_idxf, t_split,  m_ext, m_pop, m_join, t_app, t_ext, t_pop, t_join, o_set, y_non, y_int, y_bl, y_str, y_tup, y_fro, y_obj, v_tup, v_tI, v_fro, v_str, v_obj, z_tup, z_to, z_ot, z_obj, f_tups, t_idxt, en_obj, en_tup, rv_obj, rv_tup, s_tI, b_addI, f_lenI, f_tupI, f_lstI, i_tI, y_tI, isN_tI, tI_nil, still_nil, still_one, still_two, ixD0, ixD1, ixD2, ixD3, ixD4, ixD5, Nat.reduceAdd, Nat.reduceSub, Nat.reduceLT, Nat.reduceEqDiff, Nat.lt_add_one, Nat.zero_lt_succ, atD0, atD1, atD2, atD3, atD4, atD5, List.getElem?_cons_zero, List.getElem?_cons_succ, List.set_cons_zero, List.set_cons_succ, Option.some.injEq, D.int.injEq, D.bl.injEq, D.obj.injEq, D.str.injEq, D.tup.injEq, O.lst.injEq, List.cons.injEq, List.length_cons, List.length_nil, exists_eq_left', exists_eq_left, exists_eq, exists_eq', exists_and_left, true_and, and_true, and_self, decide_eq_true_eq, decide_eq_false_iff_not, Bool.not_eq_true', Bool.not_eq_false', Bool.not_true, Bool.not_false, forall_const, imp_self, reduceCtorEq, false_and, and_false, exists_false, or_false, false_or, implies_true, false_implies, true_implies, not_true_eq_false, not_false_eq_true, if_true, if_false, b__law_values_5]
    have X : Ext s st st7 := (Ext.refl hS).dr (hd1.trans (hd2.trans (hd5.trans hd7)))
    refine ⟨by decide, by decide, by decide, by omega, by omega, by decide, by decide, by decide, _, by rw [app_lt (by simp)]; exact app_last, _, app_last, by show 2 + 7 ≤ _; omega, .inl (h _ _ _ app_last (((X.app _).app _).app _) (by show 2 + 7 ≤ _; omega) fun e he => ?_)⟩
    simp only [List.cons_append, List.nil_append, List.mem_cons, List.not_mem_nil, or_false] at he
    rcases he with rfl | rfl | rfl | rfl | rfl | rfl | rfl | rfl | rfl
    · exact .inr (ns_tup _)
    · exact .inr (ns_tup _)
    · exact .inr ns_non
    · exact .inr (ns_int _)
    · exact .inr (ns_int _)
    · exact .inr (ns_tup _)
    · exact .inr (ns_tup _)
    · exact .inr (ns_tup _)
    · exact hv
  · rintro i env st' v ⟨d, b, rfl, hd, rfl⟩ hv nxt hnx
    simp only [wS, wE, wEs, wT_tn, wT_tt, wTs_nil, wTs_cons, wAnd, wOr, wO, wIf, rdV, argN, tyB, b_add, b_sub, b_mul, b_fdiv, b_mod, b_adds, b_addt, b_addo, b_muls, b_mulo, c_eq, c_ne, c_lt, c_le, c_gt, c_ge, c_eqs, c_nes, c_eqb, c_neb, c_in1, c_nin1, c_init, c_ninit, c_inio, c_ninio, i_objs, dOk_int, dOk_str, o_sets, m_get1, m_get2, m_setd, t_get, t_setd, O.dic.injEq, c_inso, c_inst, c_ninso, c_ninst, f_lenS, f_tupS, i_tS, v_tS, y_tS, c_inS, c_ninS, isN_tS, c_isn, c_isntn, c_isb, c_isntb, isN_non, isN_int, isN_str, isN_tup, isN_bl, isN_obj, sq_tup, sq_fro, sq_obj, i_str, i_obj, i_tup, i_fro, s_str, s_tup, s_fro, s_obj, f_lens, f_lent, f_lenf, f_leno, f_inti, f_intb, f_boolb, f_sum, f_all, f_any, f_tupt, f_tupo, f_lstt, f_lsto, f_min, f_max, f_abs, f_stri, m_app, m_popi, m_ins, m_idxi, m_idxs, m_split, m_words, t_ins, t_idx, t_idxf, t_split,  m_ext, m_pop, m_join, t_app, t_ext, t_pop, t_join, o_set, y_non, y_int, y_bl, y_str, y_tup, y_fro, y_obj, v_tup, v_tI, v_fro, v_str, v_obj, z_tup, z_to, z_ot, z_obj, f_tups, t_idxt, en_obj, en_tup, rv_obj, rv_tup, s_tI, b_addI, f_lenI, f_tupI, f_lstI, i_tI, y_tI, isN_tI, tI_nil, still_nil, still_one, still_two, ixD0, ixD1, ixD2, ixD3, ixD4, ixD5, Nat.reduceAdd, Nat.reduceSub, Nat.reduceLT, Nat.reduceEqDiff, Nat.lt_add_one, Nat.zero_lt_succ, atD0, atD1, atD2, atD3, atD4, atD5, List.getElem?_cons_zero, List.getElem?_cons_succ, List.set_cons_zero, List.set_cons_succ, Option.some.injEq, D.int.injEq, D.bl.injEq, D.obj.injEq, D.str.injEq, D.tup.injEq, O.lst.injEq, List.cons.injEq, List.length_cons, List.length_nil, exists_eq_left', exists_eq_left, exists_eq, exists_eq', exists_and_left, true_and, and_true, and_self, decide_eq_true_eq, decide_eq_false_iff_not, Bool.not_eq_true', Bool.not_eq_false', Bool.not_true, Bool.not_false, forall_const, imp_self, reduceCtorEq, false_and, and_false, exists_false, or_false, false_or, implies_true, false_implies, true_implies, not_true_eq_false, not_false_eq_true, if_true, if_false, b__law_values_2]
    exact ⟨by decide, hnx _ _ ⟨_, _, rfl, .inr (ns_tup _), rfl⟩⟩
theorem law_true (ns : List Int) (hns : ns.length ≤ 63) : wCall GG TT (9 + 1) 16 [.fro (ns.map D.int)] [] (fun d _ => d = .bl true) X0 := by
  refine wCall_in (fn := f_law) rfl rfl rfl ?_
  show wS _ _ b_law_0 [some (.fro (ns.map D.int)), none, none, none, none, none, none, none] _ _
  simp only [wS, wE, wEs, wT_tn, wT_tt, wTs_nil, wTs_cons, wAnd, wOr, wO, wIf, rdV, argN, tyB, b_add, b_sub, b_mul, b_fdiv, b_mod, b_adds, b_addt, b_addo, b_muls, b_mulo, c_eq, c_ne, c_lt, c_le, c_gt, c_ge, c_eqs, c_nes, c_eqb, c_neb, c_in1, c_nin1, c_init, c_ninit, c_inio, c_ninio, i_objs, dOk_int, dOk_str, o_sets, m_get1, m_get2, m_setd, t_get, t_setd, O.dic.injEq, c_inso, c_inst, c_ninso, c_ninst, f_lenS, f_tupS, i_tS, v_tS, y_tS, c_inS, c_ninS, isN_tS, c_isn, c_isntn, c_isb, c_isntb, isN_non, isN_int, isN_str, isN_tup, isN_bl, isN_obj, sq_tup, sq_fro, sq_obj, i_str, i_obj, i_tup, i_fro, s_str, s_tup, s_fro, s_obj, f_lens, f_lent, f_lenf, f_leno, f_inti, f_intb, f_boolb, f_sum, f_all, f_any, f_tupt, f_tupo, f_lstt, f_lsto, f_min, f_max, f_abs, f_stri, m_app, m_popi, m_ins, m_idxi, m_idxs, m_split, m_words, t_ins, t_idx, t_idxf, t_split,  m_ext, m_pop, m_join, t_app, t_ext, t_pop, t_join, o_set, y_non, y_int, y_bl, y_str, y_tup, y_fro, y_obj, v_tup, v_tI, v_fro, v_str, v_obj, z_tup, z_to, z_ot, z_obj, f_tups, t_idxt, en_obj, en_tup, rv_obj, rv_tup, s_tI, b_addI, f_lenI, f_tupI, f_lstI, i_tI, y_tI, isN_tI, tI_nil, still_nil, still_one, still_two, ixD0, ixD1, ixD2, ixD3, ixD4, ixD5, Nat.reduceAdd, Nat.reduceSub, Nat.reduceLT, Nat.reduceEqDiff, Nat.lt_add_one, Nat.zero_lt_succ, atD0, atD1, atD2, atD3, atD4, atD5, List.getElem?_cons_zero, List.getElem?_cons_succ, List.set_cons_zero, List.set_cons_succ, Option.some.injEq, D.int.injEq, D.bl.injEq, D.obj.injEq, D.str.injEq, D.tup.injEq, O.lst.injEq, List.cons.injEq, List.length_cons, List.length_nil, exists_eq_left', exists_eq_left, exists_eq, exists_eq', exists_and_left, true_and, and_true, and_self, decide_eq_true_eq, decide_eq_false_iff_not, Bool.not_eq_true', Bool.not_eq_false', Bool.not_true, Bool.not_false, forall_const, imp_self, reduceCtorEq, false_and, and_false, exists_false, or_false, false_or, implies_true, false_implies, true_implies, not_true_eq_false, not_false_eq_true, if_true, if_false, b_law_0]
  refine source_ok fun st1 hS1 hl1 => ?_
  simp only [wS, wE, wEs, wT_tn, wT_tt, wTs_nil, wTs_cons, wAnd, wOr, wO, wIf, rdV, argN, tyB, b_add, b_sub, b_mul, b_fdiv, b_mod, b_adds, b_addt, b_addo, b_muls, b_mulo, c_eq, c_ne, c_lt, c_le, c_gt, c_ge, c_eqs, c_nes, c_eqb, c_neb, c_in1, c_nin1, c_init, c_ninit, c_inio, c_ninio, i_objs, dOk_int, dOk_str, o_sets, m_get1, m_get2, m_setd, t_get, t_setd, O.dic.injEq, c_inso, c_inst, c_ninso, c_ninst, f_lenS, f_tupS, i_tS, v_tS, y_tS, c_inS, c_ninS, isN_tS, c_isn, c_isntn, c_isb, c_isntb, isN_non, isN_int, isN_str, isN_tup, isN_bl, isN_obj, sq_tup, sq_fro, sq_obj, i_str, i_obj, i_tup, i_fro, s_str, s_tup, s_fro, s_obj, f_lens, f_lent, f_lenf, f_leno, f_inti, f_intb, f_boolb, f_sum, f_all, f_any, f_tupt, f_tupo, f_lstt, f_lsto, f_min, f_max, f_abs, f_stri, m_app, m_popi, m_ins, m_idxi, m_idxs, m_split, m_words, t_ins, t_idx, t_idxf, t_split,  m_ext, m_pop, m_join, t_app, t_ext, t_pop, t_join, o_set, y_non, y_int, y_bl, y_str, y_tup, y_fro, y_obj, v_tup, v_tI, v_fro, v_str, v_obj, z_tup, z_to, z_ot, z_obj, f_tups, t_idxt, en_obj, en_tup, rv_obj, rv_tup, s_tI, b_addI, f_lenI, f_tupI, f_lstI, i_tI, y_tI, isN_tI, tI_nil, still_nil, still_one, still_two, ixD0, ixD1, ixD2, ixD3, ixD4, ixD5, Nat.reduceAdd, Nat.reduceSub, Nat.reduceLT, Nat.reduceEqDiff, Nat.lt_add_one, Nat.zero_lt_succ, atD0, atD1, atD2, atD3, atD4, atD5, List.getElem?_cons_zero, List.getElem?_cons_succ, List.set_cons_zero, List.set_cons_succ, Option.some.injEq, D.int.injEq, D.bl.injEq, D.obj.injEq, D.str.injEq, D.tup.injEq, O.lst.injEq, List.cons.injEq, List.length_cons, List.length_nil, exists_eq_left', exists_eq_left, exists_eq, exists_eq', exists_and_left, true_and, and_true, and_self, decide_eq_true_eq, decide_eq_false_iff_not, Bool.not_eq_true', Bool.not_eq_false', Bool.not_true, Bool.not_false, forall_const, imp_self, reduceCtorEq, false_and, and_false, exists_false, or_false, false_or, implies_true, false_implies, true_implies, not_true_eq_false, not_false_eq_true, if_true, if_false, b_law_1]
  refine reserved_ok ?_
  rw [hl1]
  simp only [wS, wE, wEs, wT_tn, wT_tt, wTs_nil, wTs_cons, wAnd, wOr, wO, wIf, rdV, argN, tyB, b_add, b_sub, b_mul, b_fdiv, b_mod, b_adds, b_addt, b_addo, b_muls, b_mulo, c_eq, c_ne, c_lt, c_le, c_gt, c_ge, c_eqs, c_nes, c_eqb, c_neb, c_in1, c_nin1, c_init, c_ninit, c_inio, c_ninio, i_objs, dOk_int, dOk_str, o_sets, m_get1, m_get2, m_setd, t_get, t_setd, O.dic.injEq, c_inso, c_inst, c_ninso, c_ninst, f_lenS, f_tupS, i_tS, v_tS, y_tS, c_inS, c_ninS, isN_tS, c_isn, c_isntn, c_isb, c_isntb, isN_non, isN_int, isN_str, isN_tup, isN_bl, isN_obj, sq_tup, sq_fro, sq_obj, i_str, i_obj, i_tup, i_fro, s_str, s_tup, s_fro, s_obj, f_lens, f_lent, f_lenf, f_leno, f_inti, f_intb, f_boolb, f_sum, f_all, f_any, f_tupt, f_tupo, f_lstt, f_lsto, f_min, f_max, f_abs, f_stri, m_app, m_popi, m_ins, m_idxi, m_idxs, m_split, m_words, t_ins, t_idx, t_idxf, t_split,  m_ext, m_pop, m_join, t_app, t_ext, t_pop, t_join, o_set, y_non, y_int, y_bl, y_str, y_tup, y_fro, y_obj, v_tup, v_tI, v_fro, v_str, v_obj, z_tup, z_to, z_ot, z_obj, f_tups, t_idxt, en_obj, en_tup, rv_obj, rv_tup, s_tI, b_addI, f_lenI, f_tupI, f_lstI, i_tI, y_tI, isN_tI, tI_nil, still_nil, still_one, still_two, ixD0, ixD1, ixD2, ixD3, ixD4, ixD5, Nat.reduceAdd, Nat.reduceSub, Nat.reduceLT, Nat.reduceEqDiff, Nat.lt_add_one, Nat.zero_lt_succ, atD0, atD1, atD2, atD3, atD4, atD5, List.getElem?_cons_zero, List.getElem?_cons_succ, List.set_cons_zero, List.set_cons_succ, Option.some.injEq, D.int.injEq, D.bl.injEq, D.obj.injEq, D.str.injEq, D.tup.injEq, O.lst.injEq, List.cons.injEq, List.length_cons, List.length_nil, exists_eq_left', exists_eq_left, exists_eq, exists_eq', exists_and_left, true_and, and_true, and_self, decide_eq_true_eq, decide_eq_false_iff_not, Bool.not_eq_true', Bool.not_eq_false', Bool.not_true, Bool.not_false, forall_const, imp_self, reduceCtorEq, false_and, and_false, exists_false, or_false, false_or, implies_true, false_implies, true_implies, not_true_eq_false, not_false_eq_true, if_true, if_false, b_law_2]
  refine numbers_ok fun kvs hk => ?_
  have hl2 : (st1 ++ [O.lst (RES.map D.str)]).length = 4 := by rw [List.length_append, hl1]; rfl
  rw [hl2]
  generalize hst : st1 ++ [O.lst (RES.map D.str)] ++ [O.dic false kvs] = st2
  have g3 : st2[3]? = some (.lst (RES.map D.str)) := by rw [← hst, app_lt (by rw [hl2]; decide), ← hl1, app_last]
  have g4 : st2[4]? = some (.dic false kvs) := by rw [← hst, ← hl2, app_last]
  have hS2 : Src st2 2 := by rw [← hst]; exact hS1.app.app
  simp only [wS, wE, wEs, wT_tn, wT_tt, wTs_nil, wTs_cons, wAnd, wOr, wO, wIf, rdV, argN, tyB, b_add, b_sub, b_mul, b_fdiv, b_mod, b_adds, b_addt, b_addo, b_muls, b_mulo, c_eq, c_ne, c_lt, c_le, c_gt, c_ge, c_eqs, c_nes, c_eqb, c_neb, c_in1, c_nin1, c_init, c_ninit, c_inio, c_ninio, i_objs, dOk_int, dOk_str, o_sets, m_get1, m_get2, m_setd, t_get, t_setd, O.dic.injEq, c_inso, c_inst, c_ninso, c_ninst, f_lenS, f_tupS, i_tS, v_tS, y_tS, c_inS, c_ninS, isN_tS, c_isn, c_isntn, c_isb, c_isntb, isN_non, isN_int, isN_str, isN_tup, isN_bl, isN_obj, sq_tup, sq_fro, sq_obj, i_str, i_obj, i_tup, i_fro, s_str, s_tup, s_fro, s_obj, f_lens, f_lent, f_lenf, f_leno, f_inti, f_intb, f_boolb, f_sum, f_all, f_any, f_tupt, f_tupo, f_lstt, f_lsto, f_min, f_max, f_abs, f_stri, m_app, m_popi, m_ins, m_idxi, m_idxs, m_split, m_words, t_ins, t_idx, t_idxf, t_split,  m_ext, m_pop, m_join, t_app, t_ext, t_pop, t_join, o_set, y_non, y_int, y_bl, y_str, y_tup, y_fro, y_obj, v_tup, v_tI, v_fro, v_str, v_obj, z_tup, z_to, z_ot, z_obj, f_tups, t_idxt, en_obj, en_tup, rv_obj, rv_tup, s_tI, b_addI, f_lenI, f_tupI, f_lstI, i_tI, y_tI, isN_tI, tI_nil, still_nil, still_one, still_two, ixD0, ixD1, ixD2, ixD3, ixD4, ixD5, Nat.reduceAdd, Nat.reduceSub, Nat.reduceLT, Nat.reduceEqDiff, Nat.lt_add_one, Nat.zero_lt_succ, atD0, atD1, atD2, atD3, atD4, atD5, List.getElem?_cons_zero, List.getElem?_cons_succ, List.set_cons_zero, List.set_cons_succ, Option.some.injEq, D.int.injEq, D.bl.injEq, D.obj.injEq, D.str.injEq, D.tup.injEq, O.lst.injEq, List.cons.injEq, List.length_cons, List.length_nil, exists_eq_left', exists_eq_left, exists_eq, exists_eq', exists_and_left, true_and, and_true, and_self, decide_eq_true_eq, decide_eq_false_iff_not, Bool.not_eq_true', Bool.not_eq_false', Bool.not_true, Bool.not_false, forall_const, imp_self, reduceCtorEq, false_and, and_false, exists_false, or_false, false_or, implies_true, false_implies, true_implies, not_true_eq_false, not_false_eq_true, if_true, if_false, b_law_3]
  refine spelt_ok hS2 (n := 14) (by decide) (by simp) (by decide) fun word st3 hw hd3 => ?_
  simp only [wS, wE, wEs, wT_tn, wT_tt, wTs_nil, wTs_cons, wAnd, wOr, wO, wIf, rdV, argN, tyB, b_add, b_sub, b_mul, b_fdiv, b_mod, b_adds, b_addt, b_addo, b_muls, b_mulo, c_eq, c_ne, c_lt, c_le, c_gt, c_ge, c_eqs, c_nes, c_eqb, c_neb, c_in1, c_nin1, c_init, c_ninit, c_inio, c_ninio, i_objs, dOk_int, dOk_str, o_sets, m_get1, m_get2, m_setd, t_get, t_setd, O.dic.injEq, c_inso, c_inst, c_ninso, c_ninst, f_lenS, f_tupS, i_tS, v_tS, y_tS, c_inS, c_ninS, isN_tS, c_isn, c_isntn, c_isb, c_isntb, isN_non, isN_int, isN_str, isN_tup, isN_bl, isN_obj, sq_tup, sq_fro, sq_obj, i_str, i_obj, i_tup, i_fro, s_str, s_tup, s_fro, s_obj, f_lens, f_lent, f_lenf, f_leno, f_inti, f_intb, f_boolb, f_sum, f_all, f_any, f_tupt, f_tupo, f_lstt, f_lsto, f_min, f_max, f_abs, f_stri, m_app, m_popi, m_ins, m_idxi, m_idxs, m_split, m_words, t_ins, t_idx, t_idxf, t_split,  m_ext, m_pop, m_join, t_app, t_ext, t_pop, t_join, o_set, y_non, y_int, y_bl, y_str, y_tup, y_fro, y_obj, v_tup, v_tI, v_fro, v_str, v_obj, z_tup, z_to, z_ot, z_obj, f_tups, t_idxt, en_obj, en_tup, rv_obj, rv_tup, s_tI, b_addI, f_lenI, f_tupI, f_lstI, i_tI, y_tI, isN_tI, tI_nil, still_nil, still_one, still_two, ixD0, ixD1, ixD2, ixD3, ixD4, ixD5, Nat.reduceAdd, Nat.reduceSub, Nat.reduceLT, Nat.reduceEqDiff, Nat.lt_add_one, Nat.zero_lt_succ, atD0, atD1, atD2, atD3, atD4, atD5, List.getElem?_cons_zero, List.getElem?_cons_succ, List.set_cons_zero, List.set_cons_succ, Option.some.injEq, D.int.injEq, D.bl.injEq, D.obj.injEq, D.str.injEq, D.tup.injEq, O.lst.injEq, List.cons.injEq, List.length_cons, List.length_nil, exists_eq_left', exists_eq_left, exists_eq, exists_eq', exists_and_left, true_and, and_true, and_self, decide_eq_true_eq, decide_eq_false_iff_not, Bool.not_eq_true', Bool.not_eq_false', Bool.not_true, Bool.not_false, forall_const, imp_self, reduceCtorEq, false_and, and_false, exists_false, or_false, false_or, implies_true, false_implies, true_implies, not_true_eq_false, not_false_eq_true, if_true, if_false, b_law_4]
  refine spelt_ok hd3.1 (n := 5) (by decide) (by simp) (by decide) fun digits st4 hdg hd4 => ?_
  have X4 : Ext 2 st2 st4 := ((Ext.refl hS2).dr hd3).dr hd4
  simp only [wS, wE, wEs, wT_tn, wT_tt, wTs_nil, wTs_cons, wAnd, wOr, wO, wIf, rdV, argN, tyB, b_add, b_sub, b_mul, b_fdiv, b_mod, b_adds, b_addt, b_addo, b_muls, b_mulo, c_eq, c_ne, c_lt, c_le, c_gt, c_ge, c_eqs, c_nes, c_eqb, c_neb, c_in1, c_nin1, c_init, c_ninit, c_inio, c_ninio, i_objs, dOk_int, dOk_str, o_sets, m_get1, m_get2, m_setd, t_get, t_setd, O.dic.injEq, c_inso, c_inst, c_ninso, c_ninst, f_lenS, f_tupS, i_tS, v_tS, y_tS, c_inS, c_ninS, isN_tS, c_isn, c_isntn, c_isb, c_isntb, isN_non, isN_int, isN_str, isN_tup, isN_bl, isN_obj, sq_tup, sq_fro, sq_obj, i_str, i_obj, i_tup, i_fro, s_str, s_tup, s_fro, s_obj, f_lens, f_lent, f_lenf, f_leno, f_inti, f_intb, f_boolb, f_sum, f_all, f_any, f_tupt, f_tupo, f_lstt, f_lsto, f_min, f_max, f_abs, f_stri, m_app, m_popi, m_ins, m_idxi, m_idxs, m_split, m_words, t_ins, t_idx, t_idxf, t_split,  m_ext, m_pop, m_join, t_app, t_ext, t_pop, t_join, o_set, y_non, y_int, y_bl, y_str, y_tup, y_fro, y_obj, v_tup, v_tI, v_fro, v_str, v_obj, z_tup, z_to, z_ot, z_obj, f_tups, t_idxt, en_obj, en_tup, rv_obj, rv_tup, s_tI, b_addI, f_lenI, f_tupI, f_lstI, i_tI, y_tI, isN_tI, tI_nil, still_nil, still_one, still_two, ixD0, ixD1, ixD2, ixD3, ixD4, ixD5, Nat.reduceAdd, Nat.reduceSub, Nat.reduceLT, Nat.reduceEqDiff, Nat.lt_add_one, Nat.zero_lt_succ, atD0, atD1, atD2, atD3, atD4, atD5, List.getElem?_cons_zero, List.getElem?_cons_succ, List.set_cons_zero, List.set_cons_succ, Option.some.injEq, D.int.injEq, D.bl.injEq, D.obj.injEq, D.str.injEq, D.tup.injEq, O.lst.injEq, List.cons.injEq, List.length_cons, List.length_nil, exists_eq_left', exists_eq_left, exists_eq, exists_eq', exists_and_left, true_and, and_true, and_self, decide_eq_true_eq, decide_eq_false_iff_not, Bool.not_eq_true', Bool.not_eq_false', Bool.not_true, Bool.not_false, forall_const, imp_self, reduceCtorEq, false_and, and_false, exists_false, or_false, false_or, implies_true, false_implies, true_implies, not_true_eq_false, not_false_eq_true, if_true, if_false, b_law_5]
  refine texts_ok X4.src (by decide) (X4.at g3 (by decide)) hw hdg fun t ss st5 ht5 h5 X5 hn5 hv5 => ?_
  refine values_ok X5.src hw hdg fun v ds st6 h6 X6 hn6 hv6 => ?_
  simp only [wS, wE, wEs, wT_tn, wT_tt, wTs_nil, wTs_cons, wAnd, wOr, wO, wIf, rdV, argN, tyB, b_add, b_sub, b_mul, b_fdiv, b_mod, b_adds, b_addt, b_addo, b_muls, b_mulo, c_eq, c_ne, c_lt, c_le, c_gt, c_ge, c_eqs, c_nes, c_eqb, c_neb, c_in1, c_nin1, c_init, c_ninit, c_inio, c_ninio, i_objs, dOk_int, dOk_str, o_sets, m_get1, m_get2, m_setd, t_get, t_setd, O.dic.injEq, c_inso, c_inst, c_ninso, c_ninst, f_lenS, f_tupS, i_tS, v_tS, y_tS, c_inS, c_ninS, isN_tS, c_isn, c_isntn, c_isb, c_isntb, isN_non, isN_int, isN_str, isN_tup, isN_bl, isN_obj, sq_tup, sq_fro, sq_obj, i_str, i_obj, i_tup, i_fro, s_str, s_tup, s_fro, s_obj, f_lens, f_lent, f_lenf, f_leno, f_inti, f_intb, f_boolb, f_sum, f_all, f_any, f_tupt, f_tupo, f_lstt, f_lsto, f_min, f_max, f_abs, f_stri, m_app, m_popi, m_ins, m_idxi, m_idxs, m_split, m_words, t_ins, t_idx, t_idxf, t_split,  m_ext, m_pop, m_join, t_app, t_ext, t_pop, t_join, o_set, y_non, y_int, y_bl, y_str, y_tup, y_fro, y_obj, v_tup, v_tI, v_fro, v_str, v_obj, z_tup, z_to, z_ot, z_obj, f_tups, t_idxt, en_obj, en_tup, rv_obj, rv_tup, s_tI, b_addI, f_lenI, f_tupI, f_lstI, i_tI, y_tI, isN_tI, tI_nil, still_nil, still_one, still_two, ixD0, ixD1, ixD2, ixD3, ixD4, ixD5, Nat.reduceAdd, Nat.reduceSub, Nat.reduceLT, Nat.reduceEqDiff, Nat.lt_add_one, Nat.zero_lt_succ, atD0, atD1, atD2, atD3, atD4, atD5, List.getElem?_cons_zero, List.getElem?_cons_succ, List.set_cons_zero, List.set_cons_succ, Option.some.injEq, D.int.injEq, D.bl.injEq, D.obj.injEq, D.str.injEq, D.tup.injEq, O.lst.injEq, List.cons.injEq, List.length_cons, List.length_nil, exists_eq_left', exists_eq_left, exists_eq, exists_eq', exists_and_left, true_and, and_true, and_self, decide_eq_true_eq, decide_eq_false_iff_not, Bool.not_eq_true', Bool.not_eq_false', Bool.not_true, Bool.not_false, forall_const, imp_self, reduceCtorEq, false_and, and_false, exists_false, or_false, false_or, implies_true, false_implies, true_implies, not_true_eq_false, not_false_eq_true, if_true, if_false]
  have ht2 : t ≠ 2 := by
    have := X4.len
    have : st2.length = 5 := by rw [← hst, List.length_append, hl2]; rfl
    omega
  have h5' : st6[t]? = some (.lst (ss.map D.str)) := X6.at h5 ht2
  simp only [wS, wE, wEs, wT_tn, wT_tt, wTs_nil, wTs_cons, wAnd, wOr, wO, wIf, rdV, argN, tyB, b_add, b_sub, b_mul, b_fdiv, b_mod, b_adds, b_addt, b_addo, b_muls, b_mulo, c_eq, c_ne, c_lt, c_le, c_gt, c_ge, c_eqs, c_nes, c_eqb, c_neb, c_in1, c_nin1, c_init, c_ninit, c_inio, c_ninio, i_objs, dOk_int, dOk_str, o_sets, m_get1, m_get2, m_setd, t_get, t_setd, O.dic.injEq, c_inso, c_inst, c_ninso, c_ninst, f_lenS, f_tupS, i_tS, v_tS, y_tS, c_inS, c_ninS, isN_tS, c_isn, c_isntn, c_isb, c_isntb, isN_non, isN_int, isN_str, isN_tup, isN_bl, isN_obj, sq_tup, sq_fro, sq_obj, i_str, i_obj, i_tup, i_fro, s_str, s_tup, s_fro, s_obj, f_lens, f_lent, f_lenf, f_leno, f_inti, f_intb, f_boolb, f_sum, f_all, f_any, f_tupt, f_tupo, f_lstt, f_lsto, f_min, f_max, f_abs, f_stri, m_app, m_popi, m_ins, m_idxi, m_idxs, m_split, m_words, t_ins, t_idx, t_idxf, t_split,  m_ext, m_pop, m_join, t_app, t_ext, t_pop, t_join, o_set, y_non, y_int, y_bl, y_str, y_tup, y_fro, y_obj, v_tup, v_tI, v_fro, v_str, v_obj, z_tup, z_to, z_ot, z_obj, f_tups, t_idxt, en_obj, en_tup, rv_obj, rv_tup, s_tI, b_addI, f_lenI, f_tupI, f_lstI, i_tI, y_tI, isN_tI, tI_nil, still_nil, still_one, still_two, ixD0, ixD1, ixD2, ixD3, ixD4, ixD5, Nat.reduceAdd, Nat.reduceSub, Nat.reduceLT, Nat.reduceEqDiff, Nat.lt_add_one, Nat.zero_lt_succ, atD0, atD1, atD2, atD3, atD4, atD5, List.getElem?_cons_zero, List.getElem?_cons_succ, List.set_cons_zero, List.set_cons_succ, Option.some.injEq, D.int.injEq, D.bl.injEq, D.obj.injEq, D.str.injEq, D.tup.injEq, O.lst.injEq, List.cons.injEq, List.length_cons, List.length_nil, exists_eq_left', exists_eq_left, exists_eq, exists_eq', exists_and_left, true_and, and_true, and_self, decide_eq_true_eq, decide_eq_false_iff_not, Bool.not_eq_true', Bool.not_eq_false', Bool.not_true, Bool.not_false, forall_const, imp_self, reduceCtorEq, false_and, and_false, exists_false, or_false, false_or, implies_true, false_implies, true_implies, not_true_eq_false, not_false_eq_true, if_true, if_false, h5', h6]
  refine ⟨by rw [List.length_map]; omega, ?_⟩
  have hvd : ∀ d ∈ ss.map D.str ++ ds, Vd d := by
    intro d hd
    rcases List.mem_append.mp hd with z | z
    · obtain ⟨w, hw, rfl⟩ := List.mem_map.mp z
      exact .inl ⟨w, rfl, hv5 w hw⟩
    · exact hv6 d z
  have hlen : (ss.map D.str ++ ds).length ≤ 400 := by rw [List.length_append, List.length_map]; omega
  revert hvd hlen
  generalize ss.map D.str ++ ds = vs
  intro hvd hlen
  have g3' : st6[3]? = some (.lst (RES.map D.str)) := X6.at (X5.at (X4.at g3 (by decide)) (by decide)) (by decide)
  have g4' : st6[4]? = some (.dic false kvs) := X6.at (X5.at (X4.at g4 (by decide)) (by decide)) (by decide)
  simp only [wS, wE, wEs, wT_tn, wT_tt, wTs_nil, wTs_cons, wAnd, wOr, wO, wIf, rdV, argN, tyB, b_add, b_sub, b_mul, b_fdiv, b_mod, b_adds, b_addt, b_addo, b_muls, b_mulo, c_eq, c_ne, c_lt, c_le, c_gt, c_ge, c_eqs, c_nes, c_eqb, c_neb, c_in1, c_nin1, c_init, c_ninit, c_inio, c_ninio, i_objs, dOk_int, dOk_str, o_sets, m_get1, m_get2, m_setd, t_get, t_setd, O.dic.injEq, c_inso, c_inst, c_ninso, c_ninst, f_lenS, f_tupS, i_tS, v_tS, y_tS, c_inS, c_ninS, isN_tS, c_isn, c_isntn, c_isb, c_isntb, isN_non, isN_int, isN_str, isN_tup, isN_bl, isN_obj, sq_tup, sq_fro, sq_obj, i_str, i_obj, i_tup, i_fro, s_str, s_tup, s_fro, s_obj, f_lens, f_lent, f_lenf, f_leno, f_inti, f_intb, f_boolb, f_sum, f_all, f_any, f_tupt, f_tupo, f_lstt, f_lsto, f_min, f_max, f_abs, f_stri, m_app, m_popi, m_ins, m_idxi, m_idxs, m_split, m_words, t_ins, t_idx, t_idxf, t_split,  m_ext, m_pop, m_join, t_app, t_ext, t_pop, t_join, o_set, y_non, y_int, y_bl, y_str, y_tup, y_fro, y_obj, v_tup, v_tI, v_fro, v_str, v_obj, z_tup, z_to, z_ot, z_obj, f_tups, t_idxt, en_obj, en_tup, rv_obj, rv_tup, s_tI, b_addI, f_lenI, f_tupI, f_lstI, i_tI, y_tI, isN_tI, tI_nil, still_nil, still_one, still_two, ixD0, ixD1, ixD2, ixD3, ixD4, ixD5, Nat.reduceAdd, Nat.reduceSub, Nat.reduceLT, Nat.reduceEqDiff, Nat.lt_add_one, Nat.zero_lt_succ, atD0, atD1, atD2, atD3, atD4, atD5, List.getElem?_cons_zero, List.getElem?_cons_succ, List.set_cons_zero, List.set_cons_succ, Option.some.injEq, D.int.injEq, D.bl.injEq, D.obj.injEq, D.str.injEq, D.tup.injEq, O.lst.injEq, List.cons.injEq, List.length_cons, List.length_nil, exists_eq_left', exists_eq_left, exists_eq, exists_eq', exists_and_left, true_and, and_true, and_self, decide_eq_true_eq, decide_eq_false_iff_not, Bool.not_eq_true', Bool.not_eq_false', Bool.not_true, Bool.not_false, forall_const, imp_self, reduceCtorEq, false_and, and_false, exists_false, or_false, false_or, implies_true, false_implies, true_implies, not_true_eq_false, not_false_eq_true, if_true, if_false, b_law_6, wI, app_last]
  refine ⟨vs, by rw [app_lt (by simp)]; exact app_last, by rw [List.length_reverse]; omega, ?_⟩
  generalize hJ : List.length (st6 ++ [O.lst vs] ++ [O.lst vs.reverse]) = J
  have hJ2 : 5 ≤ J := by
    have := (List.getElem?_eq_some_iff.mp g4').1
    rw [← hJ]
    simp only [List.length_append, List.length_cons, List.length_nil]
    omega
  generalize hst7 : st6 ++ [O.lst vs] ++ [O.lst vs.reverse] ++ [O.lst (vs ++ vs.reverse)] = st7
  have e3 : st7[3]? = some (.lst (RES.map D.str)) := by rw [← hst7]; exact app_some (app_some (app_some g3'))
  have e4 : st7[4]? = some (.dic false kvs) := by rw [← hst7]; exact app_some (app_some (app_some g4'))
  have eJ : st7[J]? = some (.lst (vs ++ vs.reverse)) := by rw [← hst7, ← hJ]; exact app_last
  refine loopW_inv (fun i env st' => ∃ b, env = [some (.fro (ns.map D.int)), some (.obj 2), some (.obj 3), some (.obj 4), some (.str word), some (.str digits), some (.obj (List.length st6)), b] ∧ st' = st7) ⟨_, rfl, rfl⟩ (fun i e s _ hI => ?_) ?_ ?_
  · obtain ⟨_, _, rfl⟩ := hI
    simp only [wS, wE, wEs, wT_tn, wT_tt, wTs_nil, wTs_cons, wAnd, wOr, wO, wIf, rdV, argN, tyB, b_add, b_sub, b_mul, b_fdiv, b_mod, b_adds, b_addt, b_addo, b_muls, b_mulo, c_eq, c_ne, c_lt, c_le, c_gt, c_ge, c_eqs, c_nes, c_eqb, c_neb, c_in1, c_nin1, c_init, c_ninit, c_inio, c_ninio, i_objs, dOk_int, dOk_str, o_sets, m_get1, m_get2, m_setd, t_get, t_setd, O.dic.injEq, c_inso, c_inst, c_ninso, c_ninst, f_lenS, f_tupS, i_tS, v_tS, y_tS, c_inS, c_ninS, isN_tS, c_isn, c_isntn, c_isb, c_isntb, isN_non, isN_int, isN_str, isN_tup, isN_bl, isN_obj, sq_tup, sq_fro, sq_obj, i_str, i_obj, i_tup, i_fro, s_str, s_tup, s_fro, s_obj, f_lens, f_lent, f_lenf, f_leno, f_inti, f_intb, f_boolb, f_sum, f_all, f_any, f_tupt, f_tupo, f_lstt, f_lsto, f_min, f_max, f_abs, f_stri, m_app, m_popi, m_ins, m_idxi, m_idxs, m_split, m_words, t_ins, t_idx, t_idxf, t_split,  m_ext, m_pop, m_join, t_app, t_ext, t_pop, t_join, o_set, y_non, y_int, y_bl, y_str, y_tup, y_fro, y_obj, v_tup, v_tI, v_fro, v_str, v_obj, z_tup, z_to, z_ot, z_obj, f_tups, t_idxt, en_obj, en_tup, rv_obj, rv_tup, s_tI, b_addI, f_lenI, f_tupI, f_lstI, i_tI, y_tI, isN_tI, tI_nil, still_nil, still_one, still_two, ixD0, ixD1, ixD2, ixD3, ixD4, ixD5, Nat.reduceAdd, Nat.reduceSub, Nat.reduceLT, Nat.reduceEqDiff, Nat.lt_add_one, Nat.zero_lt_succ, atD0, atD1, atD2, atD3, atD4, atD5, List.getElem?_cons_zero, List.getElem?_cons_succ, List.set_cons_zero, List.set_cons_succ, Option.some.injEq, D.int.injEq, D.bl.injEq, D.obj.injEq, D.str.injEq, D.tup.injEq, O.lst.injEq, List.cons.injEq, List.length_cons, List.length_nil, exists_eq_left', exists_eq_left, exists_eq, exists_eq', exists_and_left, true_and, and_true, and_self, decide_eq_true_eq, decide_eq_false_iff_not, Bool.not_eq_true', Bool.not_eq_false', Bool.not_true, Bool.not_false, forall_const, imp_self, reduceCtorEq, false_and, and_false, exists_false, or_false, false_or, implies_true, false_implies, true_implies, not_true_eq_false, not_false_eq_true, if_true, if_false, eJ]
  · rintro env st' ⟨b, rfl, rfl⟩
    simp only [wS, wE, wEs, wT_tn, wT_tt, wTs_nil, wTs_cons, wAnd, wOr, wO, wIf, rdV, argN, tyB, b_add, b_sub, b_mul, b_fdiv, b_mod, b_adds, b_addt, b_addo, b_muls, b_mulo, c_eq, c_ne, c_lt, c_le, c_gt, c_ge, c_eqs, c_nes, c_eqb, c_neb, c_in1, c_nin1, c_init, c_ninit, c_inio, c_ninio, i_objs, dOk_int, dOk_str, o_sets, m_get1, m_get2, m_setd, t_get, t_setd, O.dic.injEq, c_inso, c_inst, c_ninso, c_ninst, f_lenS, f_tupS, i_tS, v_tS, y_tS, c_inS, c_ninS, isN_tS, c_isn, c_isntn, c_isb, c_isntb, isN_non, isN_int, isN_str, isN_tup, isN_bl, isN_obj, sq_tup, sq_fro, sq_obj, i_str, i_obj, i_tup, i_fro, s_str, s_tup, s_fro, s_obj, f_lens, f_lent, f_lenf, f_leno, f_inti, f_intb, f_boolb, f_sum, f_all, f_any, f_tupt, f_tupo, f_lstt, f_lsto, f_min, f_max, f_abs, f_stri, m_app, m_popi, m_ins, m_idxi, m_idxs, m_split, m_words, t_ins, t_idx, t_idxf, t_split,  m_ext, m_pop, m_join, t_app, t_ext, t_pop, t_join, o_set, y_non, y_int, y_bl, y_str, y_tup, y_fro, y_obj, v_tup, v_tI, v_fro, v_str, v_obj, z_tup, z_to, z_ot, z_obj, f_tups, t_idxt, en_obj, en_tup, rv_obj, rv_tup, s_tI, b_addI, f_lenI, f_tupI, f_lstI, i_tI, y_tI, isN_tI, tI_nil, still_nil, still_one, still_two, ixD0, ixD1, ixD2, ixD3, ixD4, ixD5, Nat.reduceAdd, Nat.reduceSub, Nat.reduceLT, Nat.reduceEqDiff, Nat.lt_add_one, Nat.zero_lt_succ, atD0, atD1, atD2, atD3, atD4, atD5, List.getElem?_cons_zero, List.getElem?_cons_succ, List.set_cons_zero, List.set_cons_succ, Option.some.injEq, D.int.injEq, D.bl.injEq, D.obj.injEq, D.str.injEq, D.tup.injEq, O.lst.injEq, List.cons.injEq, List.length_cons, List.length_nil, exists_eq_left', exists_eq_left, exists_eq, exists_eq', exists_and_left, true_and, and_true, and_self, decide_eq_true_eq, decide_eq_false_iff_not, Bool.not_eq_true', Bool.not_eq_false', Bool.not_true, Bool.not_false, forall_const, imp_self, reduceCtorEq, false_and, and_false, exists_false, or_false, false_or, implies_true, false_implies, true_implies, not_true_eq_false, not_false_eq_true, if_true, if_false, b_law_9]
    exact .inl rfl
  · rintro i env st' d ⟨b, rfl, rfl⟩ hd nxt hnx
    have hd : (vs ++ vs.reverse)[i]? = some d := hd
    have hm : d ∈ vs := by
      rcases List.mem_append.mp (List.mem_of_getElem? hd) with z | z
      · exact z
      · exact List.mem_reverse.mp z
    simp only [wS, wE, wEs, wT_tn, wT_tt, wTs_nil, wTs_cons, wAnd, wOr, wO, wIf, rdV, argN, tyB, b_add, b_sub, b_mul, b_fdiv, b_mod, b_adds, b_addt, b_addo, b_muls, b_mulo, c_eq, c_ne, c_lt, c_le, c_gt, c_ge, c_eqs, c_nes, c_eqb, c_neb, c_in1, c_nin1, c_init, c_ninit, c_inio, c_ninio, i_objs, dOk_int, dOk_str, o_sets, m_get1, m_get2, m_setd, t_get, t_setd, O.dic.injEq, c_inso, c_inst, c_ninso, c_ninst, f_lenS, f_tupS, i_tS, v_tS, y_tS, c_inS, c_ninS, isN_tS, c_isn, c_isntn, c_isb, c_isntb, isN_non, isN_int, isN_str, isN_tup, isN_bl, isN_obj, sq_tup, sq_fro, sq_obj, i_str, i_obj, i_tup, i_fro, s_str, s_tup, s_fro, s_obj, f_lens, f_lent, f_lenf, f_leno, f_inti, f_intb, f_boolb, f_sum, f_all, f_any, f_tupt, f_tupo, f_lstt, f_lsto, f_min, f_max, f_abs, f_stri, m_app, m_popi, m_ins, m_idxi, m_idxs, m_split, m_words, t_ins, t_idx, t_idxf, t_split,  m_ext, m_pop, m_join, t_app, t_ext, t_pop, t_join, o_set, y_non, y_int, y_bl, y_str, y_tup, y_fro, y_obj, v_tup, v_tI, v_fro, v_str, v_obj, z_tup, z_to, z_ot, z_obj, f_tups, t_idxt, en_obj, en_tup, rv_obj, rv_tup, s_tI, b_addI, f_lenI, f_tupI, f_lstI, i_tI, y_tI, isN_tI, tI_nil, still_nil, still_one, still_two, ixD0, ixD1, ixD2, ixD3, ixD4, ixD5, Nat.reduceAdd, Nat.reduceSub, Nat.reduceLT, Nat.reduceEqDiff, Nat.lt_add_one, Nat.zero_lt_succ, atD0, atD1, atD2, atD3, atD4, atD5, List.getElem?_cons_zero, List.getElem?_cons_succ, List.set_cons_zero, List.set_cons_succ, Option.some.injEq, D.int.injEq, D.bl.injEq, D.obj.injEq, D.str.injEq, D.tup.injEq, O.lst.injEq, List.cons.injEq, List.length_cons, List.length_nil, exists_eq_left', exists_eq_left, exists_eq, exists_eq', exists_and_left, true_and, and_true, and_self, decide_eq_true_eq, decide_eq_false_iff_not, Bool.not_eq_true', Bool.not_eq_false', Bool.not_true, Bool.not_false, forall_const, imp_self, reduceCtorEq, false_and, and_false, exists_false, or_false, false_or, implies_true, false_implies, true_implies, not_true_eq_false, not_false_eq_true, if_true, if_false, b_law_7]
    refine right_ok (hvd d hm) e3 e4 hk ?_
    simp only [wS, wE, wEs, wT_tn, wT_tt, wTs_nil, wTs_cons, wAnd, wOr, wO, wIf, rdV, argN, tyB, b_add, b_sub, b_mul, b_fdiv, b_mod, b_adds, b_addt, b_addo, b_muls, b_mulo, c_eq, c_ne, c_lt, c_le, c_gt, c_ge, c_eqs, c_nes, c_eqb, c_neb, c_in1, c_nin1, c_init, c_ninit, c_inio, c_ninio, i_objs, dOk_int, dOk_str, o_sets, m_get1, m_get2, m_setd, t_get, t_setd, O.dic.injEq, c_inso, c_inst, c_ninso, c_ninst, f_lenS, f_tupS, i_tS, v_tS, y_tS, c_inS, c_ninS, isN_tS, c_isn, c_isntn, c_isb, c_isntb, isN_non, isN_int, isN_str, isN_tup, isN_bl, isN_obj, sq_tup, sq_fro, sq_obj, i_str, i_obj, i_tup, i_fro, s_str, s_tup, s_fro, s_obj, f_lens, f_lent, f_lenf, f_leno, f_inti, f_intb, f_boolb, f_sum, f_all, f_any, f_tupt, f_tupo, f_lstt, f_lsto, f_min, f_max, f_abs, f_stri, m_app, m_popi, m_ins, m_idxi, m_idxs, m_split, m_words, t_ins, t_idx, t_idxf, t_split,  m_ext, m_pop, m_join, t_app, t_ext, t_pop, t_join, o_set, y_non, y_int, y_bl, y_str, y_tup, y_fro, y_obj, v_tup, v_tI, v_fro, v_str, v_obj, z_tup, z_to, z_ot, z_obj, f_tups, t_idxt, en_obj, en_tup, rv_obj, rv_tup, s_tI, b_addI, f_lenI, f_tupI, f_lstI, i_tI, y_tI, isN_tI, tI_nil, still_nil, still_one, still_two, ixD0, ixD1, ixD2, ixD3, ixD4, ixD5, Nat.reduceAdd, Nat.reduceSub, Nat.reduceLT, Nat.reduceEqDiff, Nat.lt_add_one, Nat.zero_lt_succ, atD0, atD1, atD2, atD3, atD4, atD5, List.getElem?_cons_zero, List.getElem?_cons_succ, List.set_cons_zero, List.set_cons_succ, Option.some.injEq, D.int.injEq, D.bl.injEq, D.obj.injEq, D.str.injEq, D.tup.injEq, O.lst.injEq, List.cons.injEq, List.length_cons, List.length_nil, exists_eq_left', exists_eq_left, exists_eq, exists_eq', exists_and_left, true_and, and_true, and_self, decide_eq_true_eq, decide_eq_false_iff_not, Bool.not_eq_true', Bool.not_eq_false', Bool.not_true, Bool.not_false, forall_const, imp_self, reduceCtorEq, false_and, and_false, exists_false, or_false, false_or, implies_true, false_implies, true_implies, not_true_eq_false, not_false_eq_true, if_true, if_false]
    exact hnx _ _ ⟨_, rfl, rfl⟩
end Rf

namespace Rf
open PySem PySem.Spec PyProof.Rows L2
def top (i : Nat) : Stmt := PySem.Challenge.pw_wroughtline_k02_words.main.body.getD i (.Pass ⟨0, 0, 0, 0⟩)
theorem ok_is_word : okFn GNs TNs (top 4) f_is_word = true := by decide +kernel
theorem bd_is_word : ∀ (kV doc pm : Value) (an : Option Addr) (cdv ct : Value) (us : List Value), us.length = 1 → bindArgs (PySem.W.fnOf "is_word" "is_word" (defArgs (top 4)) (defBody (top 4)) (defScope (top 4)) .none kV doc pm an cdv ct) ⟨us, []⟩ = pure ((["token"] : List Str).zip us) :=
  fun _ _ _ _ _ _ us hl => match us, hl with | [_], _ => rfl
theorem ok_is_name : okFn GNs TNs (top 5) f_is_name = true := by decide +kernel
theorem bd_is_name : ∀ (kV doc pm : Value) (an : Option Addr) (cdv ct : Value) (us : List Value), us.length = 1 → bindArgs (PySem.W.fnOf "is_name" "is_name" (defArgs (top 5)) (defBody (top 5)) (defScope (top 5)) .none kV doc pm an cdv ct) ⟨us, []⟩ = pure ((["word"] : List Str).zip us) :=
  fun _ _ _ _ _ _ us hl => match us, hl with | [_], _ => rfl
theorem ok_is_sign : okFn GNs TNs (top 6) f_is_sign = true := by decide +kernel
theorem bd_is_sign : ∀ (kV doc pm : Value) (an : Option Addr) (cdv ct : Value) (us : List Value), us.length = 1 → bindArgs (PySem.W.fnOf "is_sign" "is_sign" (defArgs (top 6)) (defBody (top 6)) (defScope (top 6)) .none kV doc pm an cdv ct) ⟨us, []⟩ = pure ((["word"] : List Str).zip us) :=
  fun _ _ _ _ _ _ us hl => match us, hl with | [_], _ => rfl
theorem ok_is_number : okFn GNs TNs (top 7) f_is_number = true := by decide +kernel
theorem bd_is_number : ∀ (kV doc pm : Value) (an : Option Addr) (cdv ct : Value) (us : List Value), us.length = 1 → bindArgs (PySem.W.fnOf "is_number" "is_number" (defArgs (top 7)) (defBody (top 7)) (defScope (top 7)) .none kV doc pm an cdv ct) ⟨us, []⟩ = pure ((["word"] : List Str).zip us) :=
  fun _ _ _ _ _ _ us hl => match us, hl with | [_], _ => rfl
theorem ok__law_source : okFn GNs TNs (top 9) f__law_source = true := by decide +kernel
theorem bd__law_source : ∀ (kV doc pm : Value) (an : Option Addr) (cdv ct : Value) (us : List Value), us.length = 1 → bindArgs (PySem.W.fnOf "_law_source" "_law_source" (defArgs (top 9)) (defBody (top 9)) (defScope (top 9)) .none kV doc pm an cdv ct) ⟨us, []⟩ = pure ((["script"] : List Str).zip us) :=
  fun _ _ _ _ _ _ us hl => match us, hl with | [_], _ => rfl
theorem ok__law_mixed : okFn GNs TNs (top 10) f__law_mixed = true := by decide +kernel
theorem bd__law_mixed : ∀ (kV doc pm : Value) (an : Option Addr) (cdv ct : Value) (us : List Value), us.length = 2 → bindArgs (PySem.W.fnOf "_law_mixed" "_law_mixed" (defArgs (top 10)) (defBody (top 10)) (defScope (top 10)) .none kV doc pm an cdv ct) ⟨us, []⟩ = pure ((["source", "many"] : List Str).zip us) :=
  fun _ _ _ _ _ _ us hl => match us, hl with | [_, _], _ => rfl
theorem ok__law_draw : okFn GNs TNs (top 11) f__law_draw = true := by decide +kernel
theorem bd__law_draw : ∀ (kV doc pm : Value) (an : Option Addr) (cdv ct : Value) (us : List Value), us.length = 2 → bindArgs (PySem.W.fnOf "_law_draw" "_law_draw" (defArgs (top 11)) (defBody (top 11)) (defScope (top 11)) .none kV doc pm an cdv ct) ⟨us, []⟩ = pure ((["source", "many"] : List Str).zip us) :=
  fun _ _ _ _ _ _ us hl => match us, hl with | [_, _], _ => rfl
theorem ok__law_some : okFn GNs TNs (top 12) f__law_some = true := by decide +kernel
theorem bd__law_some : ∀ (kV doc pm : Value) (an : Option Addr) (cdv ct : Value) (us : List Value), us.length = 2 → bindArgs (PySem.W.fnOf "_law_some" "_law_some" (defArgs (top 12)) (defBody (top 12)) (defScope (top 12)) .none kV doc pm an cdv ct) ⟨us, []⟩ = pure ((["source", "things"] : List Str).zip us) :=
  fun _ _ _ _ _ _ us hl => match us, hl with | [_, _], _ => rfl
theorem ok__law_reserved : okFn GNs TNs (top 13) f__law_reserved = true := by decide +kernel
theorem bd__law_reserved : ∀ (kV doc pm : Value) (an : Option Addr) (cdv ct : Value) (us : List Value), us.length = 0 → bindArgs (PySem.W.fnOf "_law_reserved" "_law_reserved" (defArgs (top 13)) (defBody (top 13)) (defScope (top 13)) .none kV doc pm an cdv ct) ⟨us, []⟩ = pure (([] : List Str).zip us) :=
  fun _ _ _ _ _ _ us hl => match us, hl with | [], _ => rfl
theorem ok__law_numbers : okFn GNs TNs (top 14) f__law_numbers = true := by decide +kernel
theorem bd__law_numbers : ∀ (kV doc pm : Value) (an : Option Addr) (cdv ct : Value) (us : List Value), us.length = 0 → bindArgs (PySem.W.fnOf "_law_numbers" "_law_numbers" (defArgs (top 14)) (defBody (top 14)) (defScope (top 14)) .none kV doc pm an cdv ct) ⟨us, []⟩ = pure (([] : List Str).zip us) :=
  fun _ _ _ _ _ _ us hl => match us, hl with | [], _ => rfl
theorem ok__law_spelt : okFn GNs TNs (top 15) f__law_spelt = true := by decide +kernel
theorem bd__law_spelt : ∀ (kV doc pm : Value) (an : Option Addr) (cdv ct : Value) (us : List Value), us.length = 3 → bindArgs (PySem.W.fnOf "_law_spelt" "_law_spelt" (defArgs (top 15)) (defBody (top 15)) (defScope (top 15)) .none kV doc pm an cdv ct) ⟨us, []⟩ = pure ((["source", "size", "chars"] : List Str).zip us) :=
  fun _ _ _ _ _ _ us hl => match us, hl with | [_, _, _], _ => rfl
theorem ok__law_changed : okFn GNs TNs (top 16) f__law_changed = true := by decide +kernel
theorem bd__law_changed : ∀ (kV doc pm : Value) (an : Option Addr) (cdv ct : Value) (us : List Value), us.length = 2 → bindArgs (PySem.W.fnOf "_law_changed" "_law_changed" (defArgs (top 16)) (defBody (top 16)) (defScope (top 16)) .none kV doc pm an cdv ct) ⟨us, []⟩ = pure ((["source", "word"] : List Str).zip us) :=
  fun _ _ _ _ _ _ us hl => match us, hl with | [_, _], _ => rfl
theorem ok__law_broken : okFn GNs TNs (top 17) f__law_broken = true := by decide +kernel
theorem bd__law_broken : ∀ (kV doc pm : Value) (an : Option Addr) (cdv ct : Value) (us : List Value), us.length = 2 → bindArgs (PySem.W.fnOf "_law_broken" "_law_broken" (defArgs (top 17)) (defBody (top 17)) (defScope (top 17)) .none kV doc pm an cdv ct) ⟨us, []⟩ = pure ((["source", "word"] : List Str).zip us) :=
  fun _ _ _ _ _ _ us hl => match us, hl with | [_, _], _ => rfl
theorem ok__law_texts : okFn GNs TNs (top 18) f__law_texts = true := by decide +kernel
theorem bd__law_texts : ∀ (kV doc pm : Value) (an : Option Addr) (cdv ct : Value) (us : List Value), us.length = 4 → bindArgs (PySem.W.fnOf "_law_texts" "_law_texts" (defArgs (top 18)) (defBody (top 18)) (defScope (top 18)) .none kV doc pm an cdv ct) ⟨us, []⟩ = pure ((["source", "reserved", "word", "digits"] : List Str).zip us) :=
  fun _ _ _ _ _ _ us hl => match us, hl with | [_, _, _, _], _ => rfl
theorem ok__law_values : okFn GNs TNs (top 19) f__law_values = true := by decide +kernel
theorem bd__law_values : ∀ (kV doc pm : Value) (an : Option Addr) (cdv ct : Value) (us : List Value), us.length = 3 → bindArgs (PySem.W.fnOf "_law_values" "_law_values" (defArgs (top 19)) (defBody (top 19)) (defScope (top 19)) .none kV doc pm an cdv ct) ⟨us, []⟩ = pure ((["source", "word", "digits"] : List Str).zip us) :=
  fun _ _ _ _ _ _ us hl => match us, hl with | [_, _, _], _ => rfl
theorem ok__law_right : okFn GNs TNs (top 20) f__law_right = true := by decide +kernel
theorem bd__law_right : ∀ (kV doc pm : Value) (an : Option Addr) (cdv ct : Value) (us : List Value), us.length = 3 → bindArgs (PySem.W.fnOf "_law_right" "_law_right" (defArgs (top 20)) (defBody (top 20)) (defScope (top 20)) .none kV doc pm an cdv ct) ⟨us, []⟩ = pure ((["value", "reserved", "numbers"] : List Str).zip us) :=
  fun _ _ _ _ _ _ us hl => match us, hl with | [_, _, _], _ => rfl
theorem ok_law : okFn GNs TNs (top 21) f_law = true := by decide +kernel
theorem bd_law : ∀ (kV doc pm : Value) (an : Option Addr) (cdv ct : Value) (us : List Value), us.length = 1 → bindArgs (PySem.W.fnOf "law" "law" (defArgs (top 21)) (defBody (top 21)) (defScope (top 21)) .none kV doc pm an cdv ct) ⟨us, []⟩ = pure ((["script"] : List Str).zip us) :=
  fun _ _ _ _ _ _ us hl => match us, hl with | [_], _ => rfl
section
variable {K : PySem.W.Frag} {h : Heap} {mg : Str → Option Value}
theorem at_mk (X : K.In h) (Gg : h.Ns mainGlobals mg) {fn : Fn} {f : Addr} {oc : Value} {od an : Option Addr} {sl : Array (Option Value)} {kV dc pm cd ct : Value} (a : PySem.W.nsIn K mainGlobals fn.name = some (some (.ref f)))
    (l : K.lookup f = some ⟨oc, od, .func (PySem.W.fnOf fn.name fn.name (defArgs (top fn.pos)) (defBody (top fn.pos)) (defScope (top fn.pos)) .none kV dc pm an cd ct), sl⟩) (c : PySem.W.codeIn K cd fn.name = true) (k : PySem.W.keepIn K (.ref f) = true)
    (ok : okFn GNs TNs (top fn.pos) fn = true) (bd : ∀ (kV doc pm : Value) (an : Option Addr) (cdv ct : Value) (us : List Value), us.length = fn.np → bindArgs (PySem.W.fnOf fn.name fn.name (defArgs (top fn.pos)) (defBody (top fn.pos)) (defScope (top fn.pos)) .none kV doc pm an cdv ct) ⟨us, []⟩ = pure ((fn.N.take fn.np).zip us)) :
    FnAt K mg GNs TNs top fn := ⟨⟨f, _, PySem.W.mg_of X Gg a, fun_mk l c k⟩, ok, bd⟩
theorem none_mk (X : K.In h) (Gg : h.Ns mainGlobals mg) (z0 : PySem.W.nsIn K mainGlobals "len" = some none) (z1 : PySem.W.nsIn K mainGlobals "int" = some none) (z2 : PySem.W.nsIn K mainGlobals "sum" = some none) (z3 : PySem.W.nsIn K mainGlobals "tuple" = some none) (z4 : PySem.W.nsIn K mainGlobals "list" = some none) (z5 : PySem.W.nsIn K mainGlobals "all" = some none) (z6 : PySem.W.nsIn K mainGlobals "any" = some none) (z7 : PySem.W.nsIn K mainGlobals "min" = some none) (z8 : PySem.W.nsIn K mainGlobals "max" = some none) (z9 : PySem.W.nsIn K mainGlobals "abs" = some none) (z10 : PySem.W.nsIn K mainGlobals "bool" = some none) (z11 : PySem.W.nsIn K mainGlobals "sorted" = some none) (z12 : PySem.W.nsIn K mainGlobals "str" = some none) (z13 : PySem.W.nsIn K mainGlobals "isinstance" = some none) (z14 : PySem.W.nsIn K mainGlobals "range" = some none) (z15 : PySem.W.nsIn K mainGlobals "enumerate" = some none) (z16 : PySem.W.nsIn K mainGlobals "zip" = some none) (z17 : PySem.W.nsIn K mainGlobals "reversed" = some none) (z18 : PySem.W.nsIn K mainGlobals "repr" = some none) : ∀ b ∈ bNames, mg b = none := by
  intro b hb
  simp only [bNames, List.mem_cons, List.not_mem_nil, or_false] at hb
  rcases hb with rfl | rfl | rfl | rfl | rfl | rfl | rfl | rfl | rfl | rfl | rfl | rfl | rfl | rfl | rfl | rfl | rfl | rfl | rfl
  · exact PySem.W.mg_none_of X Gg z0
  · exact PySem.W.mg_none_of X Gg z1
  · exact PySem.W.mg_none_of X Gg z2
  · exact PySem.W.mg_none_of X Gg z3
  · exact PySem.W.mg_none_of X Gg z4
  · exact PySem.W.mg_none_of X Gg z5
  · exact PySem.W.mg_none_of X Gg z6
  · exact PySem.W.mg_none_of X Gg z7
  · exact PySem.W.mg_none_of X Gg z8
  · exact PySem.W.mg_none_of X Gg z9
  · exact PySem.W.mg_none_of X Gg z10
  · exact PySem.W.mg_none_of X Gg z11
  · exact PySem.W.mg_none_of X Gg z12
  · exact PySem.W.mg_none_of X Gg z13
  · exact PySem.W.mg_none_of X Gg z14
  · exact PySem.W.mg_none_of X Gg z15
  · exact PySem.W.mg_none_of X Gg z16
  · exact PySem.W.mg_none_of X Gg z17
  · exact PySem.W.mg_none_of X Gg z18
theorem fin {l : PySem.W.OpenLaw} {w : World} (X : K.In h) (Gg : h.Ns mainGlobals mg) {fa : Addr} (hfa : mg "law" = some (.ref fa)) {f0 : Addr} {oc0 kV0 dc0 pm0 cd0 ct0 : Value} {od0 an0 : Option Addr} {sl0 : Array (Option Value)} {f1 : Addr} {oc1 kV1 dc1 pm1 cd1 ct1 : Value} {od1 an1 : Option Addr} {sl1 : Array (Option Value)} {f2 : Addr} {oc2 kV2 dc2 pm2 cd2 ct2 : Value} {od2 an2 : Option Addr} {sl2 : Array (Option Value)} {f3 : Addr} {oc3 kV3 dc3 pm3 cd3 ct3 : Value} {od3 an3 : Option Addr} {sl3 : Array (Option Value)} {f4 : Addr} {oc4 kV4 dc4 pm4 cd4 ct4 : Value} {od4 an4 : Option Addr} {sl4 : Array (Option Value)} {f5 : Addr} {oc5 kV5 dc5 pm5 cd5 ct5 : Value} {od5 an5 : Option Addr} {sl5 : Array (Option Value)} {f6 : Addr} {oc6 kV6 dc6 pm6 cd6 ct6 : Value} {od6 an6 : Option Addr} {sl6 : Array (Option Value)} {f7 : Addr} {oc7 kV7 dc7 pm7 cd7 ct7 : Value} {od7 an7 : Option Addr} {sl7 : Array (Option Value)} {f8 : Addr} {oc8 kV8 dc8 pm8 cd8 ct8 : Value} {od8 an8 : Option Addr} {sl8 : Array (Option Value)} {f9 : Addr} {oc9 kV9 dc9 pm9 cd9 ct9 : Value} {od9 an9 : Option Addr} {sl9 : Array (Option Value)} {f10 : Addr} {oc10 kV10 dc10 pm10 cd10 ct10 : Value} {od10 an10 : Option Addr} {sl10 : Array (Option Value)} {f11 : Addr} {oc11 kV11 dc11 pm11 cd11 ct11 : Value} {od11 an11 : Option Addr} {sl11 : Array (Option Value)} {f12 : Addr} {oc12 kV12 dc12 pm12 cd12 ct12 : Value} {od12 an12 : Option Addr} {sl12 : Array (Option Value)} {f13 : Addr} {oc13 kV13 dc13 pm13 cd13 ct13 : Value} {od13 an13 : Option Addr} {sl13 : Array (Option Value)} {f14 : Addr} {oc14 kV14 dc14 pm14 cd14 ct14 : Value} {od14 an14 : Option Addr} {sl14 : Array (Option Value)} {f15 : Addr} {oc15 kV15 dc15 pm15 cd15 ct15 : Value} {od15 an15 : Option Addr} {sl15 : Array (Option Value)} {f16 : Addr} {oc16 kV16 dc16 pm16 cd16 ct16 : Value} {od16 an16 : Option Addr} {sl16 : Array (Option Value)}
    (a0 : PySem.W.nsIn K mainGlobals "is_word" = some (some (.ref f0))) (l0 : K.lookup f0 = some ⟨oc0, od0, .func (PySem.W.fnOf "is_word" "is_word" (defArgs (top 4)) (defBody (top 4)) (defScope (top 4)) .none kV0 dc0 pm0 an0 cd0 ct0), sl0⟩) (c0 : PySem.W.codeIn K cd0 "is_word" = true) (k0 : PySem.W.keepIn K (.ref f0) = true)
    (a1 : PySem.W.nsIn K mainGlobals "is_name" = some (some (.ref f1))) (l1 : K.lookup f1 = some ⟨oc1, od1, .func (PySem.W.fnOf "is_name" "is_name" (defArgs (top 5)) (defBody (top 5)) (defScope (top 5)) .none kV1 dc1 pm1 an1 cd1 ct1), sl1⟩) (c1 : PySem.W.codeIn K cd1 "is_name" = true) (k1 : PySem.W.keepIn K (.ref f1) = true)
    (a2 : PySem.W.nsIn K mainGlobals "is_sign" = some (some (.ref f2))) (l2 : K.lookup f2 = some ⟨oc2, od2, .func (PySem.W.fnOf "is_sign" "is_sign" (defArgs (top 6)) (defBody (top 6)) (defScope (top 6)) .none kV2 dc2 pm2 an2 cd2 ct2), sl2⟩) (c2 : PySem.W.codeIn K cd2 "is_sign" = true) (k2 : PySem.W.keepIn K (.ref f2) = true)
    (a3 : PySem.W.nsIn K mainGlobals "is_number" = some (some (.ref f3))) (l3 : K.lookup f3 = some ⟨oc3, od3, .func (PySem.W.fnOf "is_number" "is_number" (defArgs (top 7)) (defBody (top 7)) (defScope (top 7)) .none kV3 dc3 pm3 an3 cd3 ct3), sl3⟩) (c3 : PySem.W.codeIn K cd3 "is_number" = true) (k3 : PySem.W.keepIn K (.ref f3) = true)
    (a4 : PySem.W.nsIn K mainGlobals "_law_source" = some (some (.ref f4))) (l4 : K.lookup f4 = some ⟨oc4, od4, .func (PySem.W.fnOf "_law_source" "_law_source" (defArgs (top 9)) (defBody (top 9)) (defScope (top 9)) .none kV4 dc4 pm4 an4 cd4 ct4), sl4⟩) (c4 : PySem.W.codeIn K cd4 "_law_source" = true) (k4 : PySem.W.keepIn K (.ref f4) = true)
    (a5 : PySem.W.nsIn K mainGlobals "_law_mixed" = some (some (.ref f5))) (l5 : K.lookup f5 = some ⟨oc5, od5, .func (PySem.W.fnOf "_law_mixed" "_law_mixed" (defArgs (top 10)) (defBody (top 10)) (defScope (top 10)) .none kV5 dc5 pm5 an5 cd5 ct5), sl5⟩) (c5 : PySem.W.codeIn K cd5 "_law_mixed" = true) (k5 : PySem.W.keepIn K (.ref f5) = true)
    (a6 : PySem.W.nsIn K mainGlobals "_law_draw" = some (some (.ref f6))) (l6 : K.lookup f6 = some ⟨oc6, od6, .func (PySem.W.fnOf "_law_draw" "_law_draw" (defArgs (top 11)) (defBody (top 11)) (defScope (top 11)) .none kV6 dc6 pm6 an6 cd6 ct6), sl6⟩) (c6 : PySem.W.codeIn K cd6 "_law_draw" = true) (k6 : PySem.W.keepIn K (.ref f6) = true)
    (a7 : PySem.W.nsIn K mainGlobals "_law_some" = some (some (.ref f7))) (l7 : K.lookup f7 = some ⟨oc7, od7, .func (PySem.W.fnOf "_law_some" "_law_some" (defArgs (top 12)) (defBody (top 12)) (defScope (top 12)) .none kV7 dc7 pm7 an7 cd7 ct7), sl7⟩) (c7 : PySem.W.codeIn K cd7 "_law_some" = true) (k7 : PySem.W.keepIn K (.ref f7) = true)
    (a8 : PySem.W.nsIn K mainGlobals "_law_reserved" = some (some (.ref f8))) (l8 : K.lookup f8 = some ⟨oc8, od8, .func (PySem.W.fnOf "_law_reserved" "_law_reserved" (defArgs (top 13)) (defBody (top 13)) (defScope (top 13)) .none kV8 dc8 pm8 an8 cd8 ct8), sl8⟩) (c8 : PySem.W.codeIn K cd8 "_law_reserved" = true) (k8 : PySem.W.keepIn K (.ref f8) = true)
    (a9 : PySem.W.nsIn K mainGlobals "_law_numbers" = some (some (.ref f9))) (l9 : K.lookup f9 = some ⟨oc9, od9, .func (PySem.W.fnOf "_law_numbers" "_law_numbers" (defArgs (top 14)) (defBody (top 14)) (defScope (top 14)) .none kV9 dc9 pm9 an9 cd9 ct9), sl9⟩) (c9 : PySem.W.codeIn K cd9 "_law_numbers" = true) (k9 : PySem.W.keepIn K (.ref f9) = true)
    (a10 : PySem.W.nsIn K mainGlobals "_law_spelt" = some (some (.ref f10))) (l10 : K.lookup f10 = some ⟨oc10, od10, .func (PySem.W.fnOf "_law_spelt" "_law_spelt" (defArgs (top 15)) (defBody (top 15)) (defScope (top 15)) .none kV10 dc10 pm10 an10 cd10 ct10), sl10⟩) (c10 : PySem.W.codeIn K cd10 "_law_spelt" = true) (k10 : PySem.W.keepIn K (.ref f10) = true)
    (a11 : PySem.W.nsIn K mainGlobals "_law_changed" = some (some (.ref f11))) (l11 : K.lookup f11 = some ⟨oc11, od11, .func (PySem.W.fnOf "_law_changed" "_law_changed" (defArgs (top 16)) (defBody (top 16)) (defScope (top 16)) .none kV11 dc11 pm11 an11 cd11 ct11), sl11⟩) (c11 : PySem.W.codeIn K cd11 "_law_changed" = true) (k11 : PySem.W.keepIn K (.ref f11) = true)
    (a12 : PySem.W.nsIn K mainGlobals "_law_broken" = some (some (.ref f12))) (l12 : K.lookup f12 = some ⟨oc12, od12, .func (PySem.W.fnOf "_law_broken" "_law_broken" (defArgs (top 17)) (defBody (top 17)) (defScope (top 17)) .none kV12 dc12 pm12 an12 cd12 ct12), sl12⟩) (c12 : PySem.W.codeIn K cd12 "_law_broken" = true) (k12 : PySem.W.keepIn K (.ref f12) = true)
    (a13 : PySem.W.nsIn K mainGlobals "_law_texts" = some (some (.ref f13))) (l13 : K.lookup f13 = some ⟨oc13, od13, .func (PySem.W.fnOf "_law_texts" "_law_texts" (defArgs (top 18)) (defBody (top 18)) (defScope (top 18)) .none kV13 dc13 pm13 an13 cd13 ct13), sl13⟩) (c13 : PySem.W.codeIn K cd13 "_law_texts" = true) (k13 : PySem.W.keepIn K (.ref f13) = true)
    (a14 : PySem.W.nsIn K mainGlobals "_law_values" = some (some (.ref f14))) (l14 : K.lookup f14 = some ⟨oc14, od14, .func (PySem.W.fnOf "_law_values" "_law_values" (defArgs (top 19)) (defBody (top 19)) (defScope (top 19)) .none kV14 dc14 pm14 an14 cd14 ct14), sl14⟩) (c14 : PySem.W.codeIn K cd14 "_law_values" = true) (k14 : PySem.W.keepIn K (.ref f14) = true)
    (a15 : PySem.W.nsIn K mainGlobals "_law_right" = some (some (.ref f15))) (l15 : K.lookup f15 = some ⟨oc15, od15, .func (PySem.W.fnOf "_law_right" "_law_right" (defArgs (top 20)) (defBody (top 20)) (defScope (top 20)) .none kV15 dc15 pm15 an15 cd15 ct15), sl15⟩) (c15 : PySem.W.codeIn K cd15 "_law_right" = true) (k15 : PySem.W.keepIn K (.ref f15) = true)
    (a16 : PySem.W.nsIn K mainGlobals "law" = some (some (.ref f16))) (l16 : K.lookup f16 = some ⟨oc16, od16, .func (PySem.W.fnOf "law" "law" (defArgs (top 21)) (defBody (top 21)) (defScope (top 21)) .none kV16 dc16 pm16 an16 cd16 ct16), sl16⟩) (c16 : PySem.W.codeIn K cd16 "law" = true) (k16 : PySem.W.keepIn K (.ref f16) = true)
    (z0 : PySem.W.nsIn K mainGlobals "len" = some none) (z1 : PySem.W.nsIn K mainGlobals "int" = some none) (z2 : PySem.W.nsIn K mainGlobals "sum" = some none) (z3 : PySem.W.nsIn K mainGlobals "tuple" = some none) (z4 : PySem.W.nsIn K mainGlobals "list" = some none) (z5 : PySem.W.nsIn K mainGlobals "all" = some none) (z6 : PySem.W.nsIn K mainGlobals "any" = some none) (z7 : PySem.W.nsIn K mainGlobals "min" = some none) (z8 : PySem.W.nsIn K mainGlobals "max" = some none) (z9 : PySem.W.nsIn K mainGlobals "abs" = some none) (z10 : PySem.W.nsIn K mainGlobals "bool" = some none) (z11 : PySem.W.nsIn K mainGlobals "sorted" = some none) (z12 : PySem.W.nsIn K mainGlobals "str" = some none) (z13 : PySem.W.nsIn K mainGlobals "isinstance" = some none) (z14 : PySem.W.nsIn K mainGlobals "range" = some none) (z15 : PySem.W.nsIn K mainGlobals "enumerate" = some none) (z16 : PySem.W.nsIn K mainGlobals "zip" = some none) (z17 : PySem.W.nsIn K mainGlobals "reversed" = some none) (z18 : PySem.W.nsIn K mainGlobals "repr" = some none)
    {g0t : Value} (g0 : PySem.W.nsIn K mainGlobals "LETTERS" = some (some g0t)) (r0 : RelV (V.str ⟨#[97, 98, 99, 100, 101, 102, 103, 104, 105, 106, 107, 108, 109, 110, 111, 112, 113, 114, 115, 116, 117, 118, 119, 120, 121, 122]⟩) g0t)
    {g1t : Value} (g1 : PySem.W.nsIn K mainGlobals "DIGITS" = some (some g1t)) (r1 : RelV (V.str ⟨#[48, 49, 50, 51, 52, 53, 54, 55, 56, 57]⟩) g1t)
    {g2t : Addr} (g2 : PySem.W.nsIn K mainGlobals "RESERVED" = some (some (.ref g2t))) {g2o : Obj} (gl2 : K.lookup g2t = some g2o) (r2 : TupO g2o ∧ ∃ (its : Array Value) (n : Nat), g2o.data = .seq its n ∧ its.size ≤ sizeLine ∧ Vals (([(.str [108, 105, 110, 101]), (.str [109, 97, 99, 104, 105, 110, 101]), (.str [115, 105, 103, 110, 115]), (.str [115, 116, 97, 114, 116]), (.str [97, 116]), (.str [115, 116, 111, 112]), (.str [108, 111, 115, 101]), (.str [116, 117, 114, 110]), (.str [105, 110, 116, 111]), (.str [100, 111, 117, 98, 108, 101]), (.str [97, 100, 100]), (.str [98, 101, 102, 111, 114, 101]), (.str [98, 101, 104, 105, 110, 100]), (.str [108, 97, 112, 115, 101]), (.str [109, 111, 115, 116]), (.str [103, 105, 118, 101, 115]), (.str [117, 110, 116, 105, 108]), (.str [97, 112, 97, 114, 116]), (.str [116, 111, 116, 97, 108]), (.str [104, 111, 108, 100]), (.str [114, 101, 115, 116]), (.str [108, 97, 112, 115, 101, 100]), (.str [99, 111, 115, 116]), (.str [115, 104, 97, 114, 101]), (.str [114, 101, 97, 100, 115]), (.str [99, 111, 117, 110, 116, 101, 114]), (.str [104, 101, 97, 114, 100]), (.str [115, 97, 105, 100]), (.str [114, 101, 97, 100]), (.str [97, 110, 121]), (.str [105, 102]), (.str [103, 105, 118, 101]), (.str [115, 101, 116]), (.str [103, 111]), (.str [105, 116]), (.str [105, 115]), (.str [110, 111, 110, 101]), (.str [97, 110, 100]), (.str [111, 114]), (.str [110, 111, 116])] : List D).map dV) its.toList)
    (law : ∀ ns : List Int, ns.length ≤ 63 → wCall GG TT (9 + 1) 16 [.fro (ns.map D.int)] [] (fun d _ => d = .bl true) X0) :
    ∃ fd : FuncData, (∀ (s : Shared) (u : Value), BindsTo s fd ⟨[u], []⟩ [("script", u)]) ∧ ∀ base : Heap, K.In base → base.Ns mainGlobals mg → FnG l.prog w K mg base (9 + 1) fa fd ["script"] (spL K) := by
  have e := hfa.symm.trans (PySem.W.mg_of X Gg a16)
  cases e
  have F : Pf K mg GNs TNs top GG TT := by
    refine ⟨rfl, fun fn hf => ?_, fun i x d e1 e2 => ?_, none_mk X Gg z0 z1 z2 z3 z4 z5 z6 z7 z8 z9 z10 z11 z12 z13 z14 z15 z16 z17 z18⟩
    · simp only [TT, List.mem_cons, List.not_mem_nil, or_false] at hf
      rcases hf with rfl | rfl | rfl | rfl | rfl | rfl | rfl | rfl | rfl | rfl | rfl | rfl | rfl | rfl | rfl | rfl | rfl
      · exact at_mk X Gg a0 l0 c0 k0 ok_is_word bd_is_word
      · exact at_mk X Gg a1 l1 c1 k1 ok_is_name bd_is_name
      · exact at_mk X Gg a2 l2 c2 k2 ok_is_sign bd_is_sign
      · exact at_mk X Gg a3 l3 c3 k3 ok_is_number bd_is_number
      · exact at_mk X Gg a4 l4 c4 k4 ok__law_source bd__law_source
      · exact at_mk X Gg a5 l5 c5 k5 ok__law_mixed bd__law_mixed
      · exact at_mk X Gg a6 l6 c6 k6 ok__law_draw bd__law_draw
      · exact at_mk X Gg a7 l7 c7 k7 ok__law_some bd__law_some
      · exact at_mk X Gg a8 l8 c8 k8 ok__law_reserved bd__law_reserved
      · exact at_mk X Gg a9 l9 c9 k9 ok__law_numbers bd__law_numbers
      · exact at_mk X Gg a10 l10 c10 k10 ok__law_spelt bd__law_spelt
      · exact at_mk X Gg a11 l11 c11 k11 ok__law_changed bd__law_changed
      · exact at_mk X Gg a12 l12 c12 k12 ok__law_broken bd__law_broken
      · exact at_mk X Gg a13 l13 c13 k13 ok__law_texts bd__law_texts
      · exact at_mk X Gg a14 l14 c14 k14 ok__law_values bd__law_values
      · exact at_mk X Gg a15 l15 c15 k15 ok__law_right bd__law_right
      · exact at_mk X Gg a16 l16 c16 k16 ok_law bd_law
    · match i, e1, e2 with
      | 0, e1, e2 => cases e1; cases e2; exact ⟨_, _, PySem.W.mg_of X Gg g0, r0, fun ρ H => .str [97, 98, 99, 100, 101, 102, 103, 104, 105, 106, 107, 108, 109, 110, 111, 112, 113, 114, 115, 116, 117, 118, 119, 120, 121, 122]⟩
      | 1, e1, e2 => cases e1; cases e2; exact ⟨_, _, PySem.W.mg_of X Gg g1, r1, fun ρ H => .str [48, 49, 50, 51, 52, 53, 54, 55, 56, 57]⟩
      | 2, e1, e2 => cases e1; cases e2; exact gl_tup rfl (PySem.W.mg_of X Gg g2) gl2 r2
      | n + 3, e1, e2 => simp [GNs] at e1
  have F16 := fun_mk (st := top 21) l16 c16 k16
  exact ⟨_, fun s v => .of_eq rfl, fun base _ _ => law_ok F (fun fn hf => by simp only [TT, List.mem_cons, List.not_mem_nil, or_false] at hf; rcases hf with rfl | rfl | rfl | rfl | rfl | rfl | rfl | rfl | rfl | rfl | rfl | rfl | rfl | rfl | rfl | rfl | rfl <;> rfl) (i := 16) (fn := f_law) rfl rfl F16 law⟩
end
end Rf
open PySem PySem.W PyProof.Rows
set_option maxRecDepth 100000 in
set_option maxHeartbeats 0 in
theorem PySem.Challenge.cw_wroughtline_k02_words_holds : PySem.Challenge.rw_wroughtline_k02_words.Holds := by
  w_on; o_law; k_head; (case hw => w_witness2)
  k_fill
  refine Rf.walk_ev (l := PySem.Challenge.rw_wroughtline_k02_words) (k := 9) rfl rfl ⟨rfl, by decide, by decide⟩ (fun w h Y => PySem.W.kIn_of Y) ?F
  case F =>
    intro w mg fa h KX Gg hmg
    refine' Rf.fin KX Gg hmg ?a0 ?l0 ?c0 ?k0 ?a1 ?l1 ?c1 ?k1 ?a2 ?l2 ?c2 ?k2 ?a3 ?l3 ?c3 ?k3 ?a4 ?l4 ?c4 ?k4 ?a5 ?l5 ?c5 ?k5 ?a6 ?l6 ?c6 ?k6 ?a7 ?l7 ?c7 ?k7 ?a8 ?l8 ?c8 ?k8 ?a9 ?l9 ?c9 ?k9 ?a10 ?l10 ?c10 ?k10 ?a11 ?l11 ?c11 ?k11 ?a12 ?l12 ?c12 ?k12 ?a13 ?l13 ?c13 ?k13 ?a14 ?l14 ?c14 ?k14 ?a15 ?l15 ?c15 ?k15 ?a16 ?l16 ?c16 ?k16 ?z0 ?z1 ?z2 ?z3 ?z4 ?z5 ?z6 ?z7 ?z8 ?z9 ?z10 ?z11 ?z12 ?z13 ?z14 ?z15 ?z16 ?z17 ?z18 ?eg0 ?er0 ?eg1 ?er1 ?eg2 ?el2 ?er2 Rf.law_true
    (case a0 => k_is)
    (case l0 => k_is)
    (case c0 => k_is)
    (case k0 => k_is)
    (case a1 => k_is)
    (case l1 => k_is)
    (case c1 => k_is)
    (case k1 => k_is)
    (case a2 => k_is)
    (case l2 => k_is)
    (case c2 => k_is)
    (case k2 => k_is)
    (case a3 => k_is)
    (case l3 => k_is)
    (case c3 => k_is)
    (case k3 => k_is)
    (case a4 => k_is)
    (case l4 => k_is)
    (case c4 => k_is)
    (case k4 => k_is)
    (case a5 => k_is)
    (case l5 => k_is)
    (case c5 => k_is)
    (case k5 => k_is)
    (case a6 => k_is)
    (case l6 => k_is)
    (case c6 => k_is)
    (case k6 => k_is)
    (case a7 => k_is)
    (case l7 => k_is)
    (case c7 => k_is)
    (case k7 => k_is)
    (case a8 => k_is)
    (case l8 => k_is)
    (case c8 => k_is)
    (case k8 => k_is)
    (case a9 => k_is)
    (case l9 => k_is)
    (case c9 => k_is)
    (case k9 => k_is)
    (case a10 => k_is)
    (case l10 => k_is)
    (case c10 => k_is)
    (case k10 => k_is)
    (case a11 => k_is)
    (case l11 => k_is)
    (case c11 => k_is)
    (case k11 => k_is)
    (case a12 => k_is)
    (case l12 => k_is)
    (case c12 => k_is)
    (case k12 => k_is)
    (case a13 => k_is)
    (case l13 => k_is)
    (case c13 => k_is)
    (case k13 => k_is)
    (case a14 => k_is)
    (case l14 => k_is)
    (case c14 => k_is)
    (case k14 => k_is)
    (case a15 => k_is)
    (case l15 => k_is)
    (case c15 => k_is)
    (case k15 => k_is)
    (case a16 => k_is)
    (case l16 => k_is)
    (case c16 => k_is)
    (case k16 => k_is)
    (case z0 => k_is)
    (case z1 => k_is)
    (case z2 => k_is)
    (case z3 => k_is)
    (case z4 => k_is)
    (case z5 => k_is)
    (case z6 => k_is)
    (case z7 => k_is)
    (case z8 => k_is)
    (case z9 => k_is)
    (case z10 => k_is)
    (case z11 => k_is)
    (case z12 => k_is)
    (case z13 => k_is)
    (case z14 => k_is)
    (case z15 => k_is)
    (case z16 => k_is)
    (case z17 => k_is)
    (case z18 => k_is)
    (case eg0 => k_is); (case er0 => exact ⟨_, rfl⟩)
    (case eg1 => k_is); (case er1 => exact ⟨_, rfl⟩)
    (case eg2 => k_is); (case el2 => k_is); (case er2 => exact ⟨⟨rfl, rfl⟩, _, _, rfl, (by decide), (by repeat (first | exact .nil | refine .cons ⟨_, rfl⟩ ?_))⟩)
