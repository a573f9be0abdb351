import PyProof.Rows.All
import Wide.All
import OpenK.AllK
import Wide.FinOn
import HandS.ForMost
import HandS.ForExc
import HandS.Flow
import HandS.IsInst
import HandS.TupAny
import HandS.TupLe
import HandS.Deep
import HandS.More
import HandS.Zip
import HandS.Conv
import HandS.TryMany
import HandS.SuiteRaise
import HandS.ExcField
import HandS.ExcInit
import HandS.Text
import HandS.TupMul
import KE.SortData
import HandS.RaiseMore
import HandS.ExcIs
import KE.GoesEnum
import KE.GoesMore
import HandS.Small
import HandS.WordsExc
import HandS.Style
import KE.KExcIs
import PySem.Challenge.RW_leastroads_k31_whole_rows_there_and_back
set_option Elab.async false
set_option linter.all false
set_option maxRecDepth 100000
namespace DL
open PySem

/-- values as data; ref: an object that may change, kept in the heap of the layer -/
inductive D where
  | non | bl (b : Bool) | int (i : Int) | str (s : Str)
  | tup (xs : List D) | lst (xs : List D) | stl (xs : List D) | stp (xs : List D)
  | dic (t : Bool) (kvs : List (D × D))
  | ins (C : Str) (fs : List (Str × D))
  | ref (a : Addr)
  | exn (a : Addr) (d : Option Addr) (C : Str) (fs : List (Str × D))

abbrev DH := Addr → Option D
abbrev DSt := List (Option D)
abbrev DK := D → DH → Prop
abbrev DXK := Str → List (Str × D) → DH → Prop
abbrev DXS := Str → List (Str × D) → DSt → DH → Prop
def dupd (H : DH) (a : Addr) (o : D) : DH := fun b => if b = a then some o else H b
def minus (H : DH) (S : Addr → Bool) : DH := fun b => if S b then none else H b
theorem dupd_same {H : DH} {a : Addr} {o : D} : dupd H a o a = some o := by unfold dupd; rw [if_pos rfl]
theorem dupd_ne {H : DH} {a b : Addr} {o : D} (h : b ≠ a) : dupd H a o b = H b := by unfold dupd; rw [if_neg h]
theorem dupd_dupd {H : DH} {a : Addr} {o u : D} : dupd (dupd H a o) a u = dupd H a u := by
  funext b; unfold dupd; split <;> rfl
theorem minus_dupd {H : DH} {p : Addr} {o : D} (h : H p = none) : minus (dupd H p o) (fun b => b == p) = H := by
  funext b
  unfold minus dupd
  by_cases e : b = p
  · subst e; simp [h]
  · simp [e]
theorem minus_none {H : DH} : minus H (fun _ => false) = H := by funext b; simp [minus]

mutual
def toP : D → PyData
  | .non => .none | .bl b => .bool b | .int i => .int i | .str s => .str s
  | .tup xs => .tuple (toPs xs) | .stp xs => .tuple (toPs xs) | .lst xs => .list (toPs xs) | .stl xs => .list (toPs xs)
  | .dic _ _ => .dict [] | .ins _ _ => .dict [] | .ref _ => .dict [] | .exn _ _ _ _ => .dict []
def toPs : List D → List PyData
  | [] => [] | x :: xs => toP x :: toPs xs
end
mutual
/-- plain data through and through -/
def isData : D → Bool
  | .non => true | .bl _ => true | .int _ => true | .str _ => true
  | .tup xs => areData xs | .stp xs => areData xs | .lst xs => areData xs | .stl xs => areData xs
  | .dic _ _ => false | .ins _ _ => false | .ref _ => false | .exn _ _ _ _ => false
def areData : List D → Bool
  | [] => true | x :: xs => isData x && areData xs
end
mutual
def deep : D → Nat
  | .tup xs => deeps xs + 1 | .stp xs => deeps xs + 1 | .lst xs => deeps xs + 1 | .stl xs => deeps xs + 1
  | .non => 0 | .bl _ => 0 | .int _ => 0 | .str _ => 0 | .dic _ _ => 1 | .ins _ _ => 1 | .ref _ => 1 | .exn _ _ _ _ => 1
def deeps : List D → Nat
  | [] => 0 | x :: xs => max (deep x) (deeps xs)
end
/-- == of data -/
def deq (x y : D) : Bool := PyData.eqv (toP x) (toP y)
/-- < of data that are alike -/
def dlt (x y : D) : Bool := PySem.W.dataLt (toP x) (toP y)
def dalike (x y : D) : Bool := PySem.W.alike (toP x) (toP y)

/-- what a value is, through a reference -/
def rd (H : DH) : D → D
  | .ref a => (H a).getD (.ref a)
  | d => d
inductive BOp where | add | sub | mul | div | mod | pow
inductive COp where | eq | ne | lt | le | gt | ge | isin | notin | is | isnot
  deriving DecidableEq
inductive Blt where | len | int | str | tuple | list | sorted | sum | min | max | all | any | abs | ord | dict | repr
  deriving DecidableEq
inductive Ty where | int | bool | str | tuple | list | dict | cls (C : Str)
  deriving DecidableEq
inductive BMt where | append | extend | pop | popAt | index | count | get | dpop | keys | values | join | update
  deriving DecidableEq

mutual
inductive Ex where
  | v (i : Nat)
  | non | bl (b : Bool) | int (i : Int) | str (s : Str)
  | gc (x : Str)
  | tup (es : List Ex)
  | lst (m : Bool) (es : List Ex)
  | dic0 (t : Bool)
  | dicS (ks : List Str) (es : List Ex)
  | bin (o : BOp) (m : Bool) (a b : Ex)
  | cmp (o : COp) (a b : Ex)
  | chn (o o' : COp) (a b c : Ex)
  | and (a b : Ex) | or (a b : Ex) | not (a : Ex) | neg (a : Ex)
  | ife (c a b : Ex)
  | idx (a b : Ex)
  | slc (m : Bool) (a : Ex) (lo hi : Option Ex)
  | rev (m : Bool) (a : Ex)
  | fld (C : Str) (a : Ex) (f : Str)
  | call (f : Str) (es : List Ex)
  | meth (C m : Str) (o : Ex) (es : List Ex)
  | make (C : Str) (es : List Ex)
  | blt (b : Blt) (m : Bool) (es : List Ex)
  | bm (b : BMt) (m : Bool) (o : Ex) (es : List Ex)
  | isi (a : Ex) (ts : List Ty)
  | xf (i : Nat) (f : Str)
  | xi (i : Nat) (t : Ty)
  | comp (m : Bool) (elt : Ex) (tg : Tg) (own : List (Str × Nat)) (it : It) (cs : List Ex)
inductive Tg where
  | nm (i : Nat)
  | tp (ts : List Tg)
  | fld (C : Str) (o : Ex) (f : Str)
  | sub (o i : Ex)
inductive It where
  | seq (e : Ex)
  | rng (a : Ex) (b : Option Ex)
  | enu (e : Ex)
  | zip (a b : Ex)
end
inductive Cmd where
  | set (tg : Tg) (e : Ex)
  | aug (tg : Tg) (o : BOp) (e : Ex)
  | expr (e : Ex)
  | ret (e : Ex) | retN
  | ife (c : Ex) (a b : List Cmd)
  | while (c : Ex) (body : List Cmd)
  | for (tg : Tg) (it : It) (body : List Cmd)
  | raise (C : Str) (es : List Ex)
  | try (body : List Cmd) (hs : List (List Str × Option Nat × List Cmd))
  | pass | brk | cont
end DL

set_option maxRecDepth 100000
namespace DL
open PySem

/-- a new list or dict: a value (never changed behind), or an object -/
def alc (m : Bool) (o : D) (H : DH) (Q : DK) : Prop := if m = true then ∀ p, H p = none → Q (.ref p) (dupd H p o) else Q o H
theorem alc_f {o : D} {H : DH} {Q : DK} : alc false o H Q = Q o H := rfl
theorem alc_t {o : D} {H : DH} {Q : DK} : alc true o H Q = ∀ p, H p = none → Q (.ref p) (dupd H p o) := rfl

/-! ### operators -/
def addD (m : Bool) (x y : D) (H : DH) (Q : DK) : Prop := match x, y with
  | .int i, .int j => Q (.int (i + j)) H
  | .str a, .str b => a.length + b.length ≤ sizeLine ∧ Q (.str (a ++ b)) H
  | .tup a, .tup b => a.length + b.length ≤ sizeLine ∧ Q (.tup (a ++ b)) H
  | .lst a, .lst b => a.length + b.length ≤ sizeLine ∧ alc m (.lst (a ++ b)) H Q
  | _, _ => False
/-- a text, so many times -/
def repS (s : Str) (n : Nat) : Str := ⟨(List.replicate n s.cps).foldl (· ++ ·) #[]⟩
def mulD (m : Bool) (x y : D) (H : DH) (Q : DK) : Prop := match x, y with
  | .int i, .int j => L2.CMul i j ∧ Q (.int (i * j)) H
  | .lst a, .int k => 0 ≤ k ∧ k < 2 ^ 63 ∧ a.length * k.toNat ≤ sizeLine ∧ alc m (.lst (List.replicate k.toNat a).flatten) H Q
  | .str s, .int k => 1 ≤ s.length ∧ s.length ≤ 1000 ∧ 2 ≤ k ∧ k ≤ 1000 ∧ Q (.str (repS s k.toNat)) H
  | .tup a, .int k => a ≠ [] ∧ 2 ≤ k ∧ k ≤ 1000 ∧ a.length ≤ 1000 ∧ Q (.tup (List.replicate k.toNat a).flatten) H
  | _, _ => False
def binD (o : BOp) (m : Bool) (x y : D) (H : DH) (Q : DK) : Prop := match o with
  | .add => addD m x y H Q
  | .mul => mulD m x y H Q
  | .sub => match x, y with | .int i, .int j => Q (.int (i - j)) H | _, _ => False
  | .div => match x, y with | .int i, .int j => L2.CDiv i j ∧ Q (.int (i / j)) H | _, _ => False
  | .mod => match x, y with | .int i, .int j => 0 < j ∧ Q (.int (i % j)) H | _, _ => False
  | .pow => match x, y with | .int i, .int j => L2.CPow i j ∧ Q (.int (i ^ j.toNat)) H | _, _ => False

def augD (o : BOp) (x y : D) (H : DH) (Q : DK) : Prop := match o, x, y with
  | .add, .int i, .int j => Q (.int (i + j)) H
  | .add, .str a, .str b => a.length + b.length ≤ sizeLine ∧ Q (.str (a ++ b)) H
  | .sub, .int i, .int j => Q (.int (i - j)) H
  | .mul, .int i, .int j => L2.CMul i j ∧ Q (.int (i * j)) H
  | _, _, _ => False

/-! ### comparisons -/
def keyD : L2.Key → D
  | .inl i => .int i
  | .inr s => .str s
def isK : D → Bool
  | .int _ => true | .str _ => true | _ => false
/-- what may be asked of a dict: t: its keys are tuples of ints and texts -/
def isKey (t : Bool) (k : D) : Bool := match t, k with
  | false, .int _ => true | false, .str _ => true
  | true, .tup ks => ks.all isK
  | _, _ => false
def dget (kvs : List (D × D)) (k : D) : Option D := (kvs.find? fun kv => deq kv.1 k).map (·.2)
def dput (kvs : List (D × D)) (k v : D) : List (D × D) := if (kvs.any fun kv => deq kv.1 k) = true then kvs.map (fun kv => if deq kv.1 k = true then (kv.1, v) else kv) else kvs ++ [(k, v)]
def ddrop (kvs : List (D × D)) (k : D) : List (D × D) := kvs.filter fun kv => !deq kv.1 k

def toI : D → Option Int
  | .int i => some i | _ => none
def toIs : List D → Option (List Int)
  | [] => some [] | .int i :: r => (toIs r).map (i :: ·) | _ :: _ => none
def leI : List Int → List Int → Bool
  | [], _ => true
  | _ :: _, [] => false
  | x :: xs, y :: ys => if x = y then leI xs ys else decide (x ≤ y)
def ltI : List Int → List Int → Bool
  | [], [] => false
  | [], _ :: _ => true
  | _ :: _, [] => false
  | x :: xs, y :: ys => if x = y then ltI xs ys else decide (x < y)
def shallow (x y : D) : Prop := deep x ≤ 60 ∨ deep y ≤ 60
def eqD (x y : D) (Q : Bool → Prop) : Prop := isData x = true ∧ isData y = true ∧ shallow x y ∧ Q (deq x y)
def ltD (x y : D) (Q : Bool → Prop) : Prop := match x, y with
  | .int i, .int j => Q (decide (i < j))
  | x, y => isData x = true ∧ isData y = true ∧ dalike x y = true ∧ (deep x ≤ 60 ∨ deep y ≤ 60) ∧ (toP x ≠ .none) ∧ Q (dlt x y)
def leD (x y : D) (Q : Bool → Prop) : Prop := match x, y with
  | .int i, .int j => Q (decide (i ≤ j))
  | .str s, .str t => Q (!decide (t.cps.toList < s.cps.toList))
  | .tup xs, .tup ys => ∃ ns ms, toIs xs = some ns ∧ toIs ys = some ms ∧ Q (leI ns ms)
  | _, _ => False
def inD (x y : D) (Q : Bool → Prop) : Prop := match y with
  | .tup ys => isData x = true ∧ areData ys = true ∧ deep x ≤ 60 ∧ Q (ys.any fun z => deq z x)
  | .stp ys => isData x = true ∧ areData ys = true ∧ deep x ≤ 60 ∧ Q (ys.any fun z => deq z x)
  | .lst ys => isData x = true ∧ areData ys = true ∧ deep x ≤ 60 ∧ Q (ys.any fun z => deq z x)
  | .dic t kvs => isKey t x = true ∧ Q (dget kvs x).isSome
  | _ => False
def isNon : D → Bool
  | .non => true | _ => false
def isBl (b : Bool) : D → Bool
  | .bl c => c == b | _ => false
def isD (x y : D) (Q : Bool → Prop) : Prop := match y with
  | .non => Q (isNon x)
  | .bl b => Q (isBl b x)
  | _ => False
def gtD (x y : D) (Q : Bool → Prop) : Prop := match x, y with
  | .int i, .int j => Q (decide (j < i))
  | .tup xs, .tup ys => ∃ ns ms, toIs xs = some ns ∧ toIs ys = some ms ∧ Q (ltI ms ns)
  | _, _ => False
def cmpD (o : COp) (x y : D) (Q : Bool → Prop) : Prop := match o with
  | .eq => eqD x y Q
  | .ne => eqD x y fun b => Q (!b)
  | .lt => ltD x y Q
  | .gt => gtD x y Q
  | .le => leD x y Q
  | .ge => match x, y with | .int i, .int j => Q (decide (j ≤ i)) | _, _ => False
  | .isin => inD x y Q
  | .notin => inD x y fun b => Q (!b)
  | .is => isD x y Q
  | .isnot => isD x y fun b => Q (!b)

/-! ### items, slices, fields -/
def idxD (x i : D) (Q : D → Prop) : Prop := match x with
  | .tup xs => ∃ k d, i = .int k ∧ L2.atI xs k = some d ∧ Q d
  | .lst xs => ∃ k d, i = .int k ∧ L2.atI xs k = some d ∧ Q d
  | .stl xs => ∃ k d, i = .int k ∧ L2.atI xs k = some d ∧ Q d
  | .stp xs => ∃ k d, i = .int k ∧ L2.atI xs k = some d ∧ Q d
  | .str s => ∃ k c, i = .int k ∧ L2.atI s.cps.toList k = some c ∧ Q (.str ⟨#[c]⟩)
  | .dic t kvs => isKey t i = true ∧ ∃ d, dget kvs i = some d ∧ Q d
  | _ => False
def dcut {α : Type} (xs : List α) (lo hi : Option Int) : List α := (xs.drop (HT.sIx xs.length 0 lo)).take (HT.sIx xs.length xs.length hi - HT.sIx xs.length 0 lo)
def slcD (m : Bool) (x : D) (lo hi : Option Int) (H : DH) (Q : DK) : Prop := match x with
  | .tup xs => Q (.tup (dcut xs lo hi)) H
  | .lst xs => alc m (.lst (dcut xs lo hi)) H Q
  | .stl xs => alc m (.lst (dcut xs lo hi)) H Q
  | _ => False
def revD (m : Bool) (x : D) (H : DH) (Q : DK) : Prop := match x with
  | .tup xs => Q (.tup xs.reverse) H
  | .lst xs => alc m (.lst xs.reverse) H Q
  | .stl xs => alc m (.lst xs.reverse) H Q
  | _ => False
def fldD (x : D) (f : Str) (Q : D → Prop) : Prop := match x with
  | .ins _ fs => ∃ d, fs.lookup f = some d ∧ Q d
  | _ => False
def fput (f : Str) (v : D) : List (Str × D) → List (Str × D)
  | [] => [(f, v)]
  | (g, w) :: r => if g = f then (g, v) :: r else (g, w) :: fput f v r

/-- what stands at x[k], ahead of x[k] op= .. -/
def getD (x k : D) (Q : D → Prop) : Prop := match x with
  | .lst xs => ∃ i d, k = .int i ∧ 0 ≤ i ∧ xs[i.toNat]? = some d ∧ Q d
  | .dic t kvs => isKey t k = true ∧ ∃ d, dget kvs k = some d ∧ Q d
  | _ => False
/-- x[y] = d -/
def setD (x y d : D) (H : DH) (Q : DH → Prop) : Prop := match x with
  | .ref p => (match H p with
    | some (.lst xs) => (match y with | .int k => ∃ j, L2.ixN xs.length k = some j ∧ Q (dupd H p (.lst (xs.set j d))) | _ => False)
    | some (.dic t kvs) => isKey t y = true ∧ kvs.length < sizeLine ∧ Q (dupd H p (.dic t (dput kvs y d)))
    | _ => False)
  | _ => False

/-! ### built-in functions -/
def dle (a b : D) : Bool := !dlt b a
def dsort (xs : List D) : List D := xs.mergeSort dle
def sortable (xs : List D) : Prop := (∀ x ∈ xs, ∀ y ∈ xs, dalike x y = true) ∧ (∀ x ∈ xs, isData x = true ∧ deep x ≤ 60) ∧ ((∀ x ∈ xs, ∃ z r, x = .tup (z :: r)) ∨ ∀ x ∈ xs, (∃ i, x = .int i) ∨ ∃ s, x = .str s)
def toBs : List D → Option (List Bool)
  | [] => some [] | .bl b :: r => (toBs r).map (b :: ·) | _ :: _ => none
def b2i (b : Bool) : Int := if b then 1 else 0
def enumD : Nat → List D → List D
  | _, [] => [] | n, x :: xs => .tup [.int n, x] :: enumD (n + 1) xs
def zipD : List D → List D → List D
  | x :: xs, y :: ys => .tup [x, y] :: zipD xs ys | _, _ => []
def rangeD (a : Int) : Nat → List D
  | 0 => [] | n + 1 => .int a :: rangeD (a + 1) n
/-- pairs as a dict -/
def asPair : D → Option (D × D)
  | .tup [k, v] => some (k, v) | _ => none
def pairs : List D → Option (List (D × D))
  | [] => some [] | d :: r => (asPair d).bind fun p => (pairs r).map (p :: ·)
def dmerge (kvs more : List (D × D)) : List (D × D) := more.foldl (fun acc kv => dput acc kv.1 kv.2) kvs
def chars (s : Str) : List D := s.cps.toList.map fun c => .str ⟨#[c]⟩
/-- the items of a list or a tuple -/
def litOf : D → Option (List D)
  | .tup xs => some xs | .lst xs => some xs | .stl xs => some xs | .stp xs => some xs | _ => none
/-- what may be walked -/
def seqOf : D → Option (List D)
  | .str s => some (chars s) | d => litOf d
def tupOf : D → Option (List D)
  | .tup xs => some xs | .stp xs => some xs | _ => none
def isTup : D → Bool
  | .tup _ => true | .stp _ => true | _ => false
def bltD (b : Blt) (m : Bool) (vs : List D) (H : DH) (Q : DK) : Prop := match b, vs with
  | .len, [x] => (match rd H x with
      | .tup xs => Q (.int xs.length) H | .lst xs => Q (.int xs.length) H | .stl xs => Q (.int xs.length) H | .stp xs => Q (.int xs.length) H
      | .str s => Q (.int s.length) H | .dic t kvs => t = false ∧ Q (.int kvs.length) H | _ => False)
  | .int, [x] => (match x with | .int i => Q (.int i) H | .bl b => Q (.int (b2i b)) H | _ => False)
  | .tuple, [x] => (match rd H x with | .tup xs => Q (.tup xs) H | .lst xs => Q (.tup xs) H | .stl xs => Q (.tup xs) H | _ => False)
  | .list, [x] => (match rd H x with | .tup xs => alc m (.lst xs) H Q | .lst xs => alc m (.lst xs) H Q | .stl xs => alc m (.lst xs) H Q | .stp xs => alc m (.lst xs) H Q | .dic t kvs => t = false ∧ ∃ ks : List Int, kvs.map (·.1) = ks.map D.int ∧ alc m (.lst (ks.map D.int)) H Q | _ => False)
  | .sorted, [x] => (match rd H x with | .lst xs => sortable xs ∧ alc m (.lst (dsort xs)) H Q | .dic t kvs => t = false ∧ ∃ ks : List Int, kvs.map (·.1) = ks.map D.int ∧ ks.length < 64 ∧ ∀ ys : List Int, ys.Perm ks → ys.Pairwise (· ≤ ·) → alc m (.lst (ys.map D.int)) H Q | _ => False)
  | .ord, [x] => (match x with | .str s => s.length = 1 ∧ Q (.int (s.cps.getD 0 0 : Nat)) H | _ => False)
  | .sum, [x] => (match rd H x with | .lst xs => ∃ ns, toIs xs = some ns ∧ Q (.int ns.sum) H | _ => False)
  | .all, [x] => (match rd H x with | .lst xs => ∃ bs, toBs xs = some bs ∧ Q (.bl (bs.all id)) H | _ => False)
  | .any, [x] => (match rd H x with | .lst xs => ∃ bs, toBs xs = some bs ∧ Q (.bl (bs.any id)) H | _ => False)
  | .min, [x, y] => (match x, y with | .int i, .int j => Q (.int (if j < i then j else i)) H | _, _ => False)
  | .max, [x, y] => (match x, y with | .int i, .int j => Q (.int (if j > i then j else i)) H | _, _ => False)
  | .max, [x] => (match rd H x with | .lst xs => ∃ ns, toIs xs = some ns ∧ 0 < ns.length ∧ ∀ m, m ∈ ns → (∀ y, y ∈ ns → y ≤ m) → Q (.int m) H | _ => False)
  | .repr, [x] => (match x with | .int i => i.natAbs.log2 < 1920 ∧ Q (.str (toString i)) H | _ => False)
  | .abs, [x] => (match x with | .int i => Q (.int (if i < 0 then -i else i)) H | _ => False)
  | .dict, [x] => (match rd H x with | .lst xs => ∃ kvs, pairs xs = some kvs ∧ (kvs.all fun kv => isKey false kv.1) = true ∧ alc m (.dic false (dmerge [] kvs)) H Q | .dic t kvs => t = false ∧ alc m (.dic false kvs) H Q | _ => False)
  | _, _ => False
/-- texts -/
def toSs : List D → Option (List Str)
  | [] => some [] | .str s :: r => (toSs r).map (s :: ·) | _ :: _ => none
def bmD (b : BMt) (m : Bool) (o : D) (vs : List D) (H : DH) (Q : DK) : Prop := match b, vs with
  | .append, [y] => ∃ p xs, o = .ref p ∧ H p = some (.lst xs) ∧ xs.length < sizeLine ∧ Q .non (dupd H p (.lst (xs ++ [y])))
  | .extend, [y] => ∃ p xs ys, o = .ref p ∧ H p = some (.lst xs) ∧ rd H y = .lst ys ∧ xs.length + ys.length ≤ sizeLine ∧ Q .non (dupd H p (.lst (xs ++ ys)))
  | .pop, [] => ∃ p xs y, o = .ref p ∧ H p = some (.lst xs) ∧ xs[xs.length - 1]? = some y ∧ Q y (dupd H p (.lst xs.dropLast))
  | .popAt, [i] => ∃ p xs k y, o = .ref p ∧ i = .int (k : Nat) ∧ k < 2 ^ 62 ∧ H p = some (.lst xs) ∧ xs[k]? = some y ∧ Q y (dupd H p (.lst (xs.eraseIdx k)))
  | .get, [k, d] => (match rd H o with | .dic t kvs => isKey t k = true ∧ Q ((dget kvs k).getD d) H | _ => False)
  | .join, [y] => ∃ a ys ss, o = .str a ∧ litOf (rd H y) = some ys ∧ toSs ys = some ss ∧ (ss.map fun s => s.length).sum + ss.length * a.length ≤ 16777216 ∧ Q (.str (Txt.join a ss)) H
  | .dpop, [k] => ∃ p kvs v, o = .ref p ∧ H p = some (.dic false kvs) ∧ isKey false k = true ∧ dget kvs k = some v ∧ Q v (dupd H p (.dic false (ddrop kvs k)))
  | _, _ => False
/-- the kind of the receiver -/
def bmTy : BMt → D → Bool
  | .get, .dic _ _ => true | .dpop, .dic _ _ => true | .keys, .dic _ _ => true | .values, .dic _ _ => true | .update, .dic _ _ => true
  | .join, .str _ => true
  | .append, .lst _ => true | .extend, .lst _ => true | .pop, .lst _ => true | .popAt, .lst _ => true
  | _, _ => false
def isiOk (pl : Str → Bool) : D → Bool
  | .ref _ => false | .exn _ _ _ _ => false | .ins C _ => pl C | _ => true
def tyD (x : D) : Ty → Bool
  | .int => (match x with | .int _ => true | .bl _ => true | _ => false)
  | .bool => (match x with | .bl _ => true | _ => false)
  | .str => (match x with | .str _ => true | _ => false)
  | .tuple => (match x with | .tup _ => true | .stp _ => true | _ => false)
  | .list => (match x with | .lst _ => true | .stl _ => true | _ => false)
  | .dict => (match x with | .dic _ _ => true | _ => false)
  | .cls C => (match x with | .ins C' _ => decide (C' = C) | _ => false)

/-! ### freezing and forgetting -/
mutual
/-- d' is d with references of S replaced by what stands there -/
inductive Ice (H : DH) (S : Addr → Bool) : D → D → Prop
  | same (d : D) : Ice H S d d
  | ref {a : Addr} {o o' : D} : H a = some o → S a = true → Ice H S o o' → Ice H S (.ref a) o'
  | lst {xs ys : List D} : Ices H S xs ys → Ice H S (.lst xs) (.lst ys)
  | tup {xs ys : List D} : Ices H S xs ys → Ice H S (.tup xs) (.tup ys)
  | ins {C : Str} {fs gs : List (Str × D)} : IceF H S fs gs → Ice H S (.ins C fs) (.ins C gs)
  | dic {t : Bool} {fs gs : List (D × D)} : IceK H S fs gs → Ice H S (.dic t fs) (.dic t gs)
inductive Ices (H : DH) (S : Addr → Bool) : List D → List D → Prop
  | nil : Ices H S [] []
  | cons {x y : D} {xs ys : List D} : Ice H S x y → Ices H S xs ys → Ices H S (x :: xs) (y :: ys)
inductive IceF (H : DH) (S : Addr → Bool) : List (Str × D) → List (Str × D) → Prop
  | nil : IceF H S [] []
  | cons {n : Str} {x y : D} {xs ys : List (Str × D)} : Ice H S x y → IceF H S xs ys → IceF H S ((n, x) :: xs) ((n, y) :: ys)
inductive IceK (H : DH) (S : Addr → Bool) : List (D × D) → List (D × D) → Prop
  | nil : IceK H S [] []
  | cons {k x y : D} {xs ys : List (D × D)} : Ice H S x y → IceK H S xs ys → IceK H S ((k, x) :: xs) ((k, y) :: ys)
end
inductive IceS (H : DH) (S : Addr → Bool) : DSt → DSt → Prop
  | nil : IceS H S [] []
  | cons {x y : D} {xs ys : DSt} : Ice H S x y → IceS H S xs ys → IceS H S (some x :: xs) (some y :: ys)
  | fgt {x : Option D} {xs ys : DSt} : IceS H S xs ys → IceS H S (x :: xs) (none :: ys)
theorem IceS.refl {H : DH} {S : Addr → Bool} : ∀ σ : DSt, IceS H S σ σ
  | [] => .nil
  | none :: r => .fgt (IceS.refl r)
  | some d :: r => .cons (.same d) (IceS.refl r)
/-- behind freezing and forgetting some objects P holds -/
def Fz (σ : DSt) (H : DH) (P : DSt → DH → Prop) : Prop := ∃ S σ', IceS H S σ σ' ∧ P σ' (minus H S)
theorem Fz.here {σ : DSt} {H : DH} {P : DSt → DH → Prop} (h : P σ H) : Fz σ H P := ⟨fun _ => false, σ, IceS.refl σ, by rw [minus_none]; exact h⟩
def FzV (d : D) (H : DH) (Q : DK) : Prop := ∃ S d', Ice H S d d' ∧ Q d' (minus H S)
theorem FzV.here {d : D} {H : DH} {Q : DK} (h : Q d H) : FzV d H Q := ⟨fun _ => false, d, .same d, by rw [minus_none]; exact h⟩
/-- the one object that was made is handed back as a value -/
theorem FzV.one {p : Addr} {o : D} {H : DH} {Q : DK} (hp : H p = none) (h : Q o H) : FzV (.ref p) (dupd H p o) Q :=
  ⟨fun b => b == p, o, .ref dupd_same (by simp) (.same o), by rw [minus_dupd hp]; exact h⟩
/-- an object that was made is forgotten -/
theorem FzV.drop {p : Addr} {o d : D} {H : DH} {Q : DK} (hp : H p = none) (h : Q d H) : FzV d (dupd H p o) Q :=
  ⟨fun b => b == p, d, .same d, by rw [minus_dupd hp]; exact h⟩

/-! ### the reading of the language -/
structure Gam where
  fn : Str → List D → DH → DK → DXK → Prop
  mt : Str → Str → List D → DH → DK → DXK → Prop
  gc : Str → Option D
  xf : Str → List Str
  sub : Str → Str → Bool
  pl : Str → Bool
  cx : Option (Addr × Option Addr × Str) := none
/-- is an error of a class -/
def isX (sub : Str → Str → Bool) (C : Str) : Ty → Bool
  | .cls C' => sub C C' | _ => false
structure Ends where
  nx : DSt → DH → Prop
  rt : DK
  bk : DSt → DH → Prop := fun _ _ => False
  ct : DSt → DH → Prop := fun _ _ => False
  ex : DXS
def noX : DXS := fun _ _ _ _ => False
def dwipe (σ : DSt) : List Nat → DSt
  | [] => σ
  | v :: vs => (dwipe σ vs).set v none
mutual
def wE (G : Gam) : Ex → DXS → DSt → DH → DK → Prop
  | .v i, _, σ, H, Q => ∃ d, σ[i]? = some (some d) ∧ Q d H
  | .non, _, _, H, Q => Q .non H
  | .bl b, _, _, H, Q => Q (.bl b) H
  | .int i, _, _, H, Q => Q (.int i) H
  | .str s, _, _, H, Q => Q (.str s) H
  | .gc x, _, _, H, Q => ∃ d, G.gc x = some d ∧ Q d H
  | .tup es, X, σ, H, Q => wEs G es X σ H fun vs H1 => Q (.tup vs) H1
  | .lst m es, X, σ, H, Q => wEs G es X σ H fun vs H1 => alc m (.lst vs) H1 Q
  | .dic0 t, _, _, H, Q => alc true (.dic t []) H Q
  | .dicS ks es, X, σ, H, Q => ∀ p, H p = none → wEs G es X σ (dupd H p (.dic false [])) fun vs H1 => H1 p = some (.dic false []) ∧ Q (.ref p) (dupd H1 p (.dic false (dmerge [] (List.zip (ks.map D.str) vs))))
  | .bin o m a b, X, σ, H, Q => wE G a X σ H fun x H1 => wE G b X σ H1 fun y H2 => binD o m (rd H2 x) (rd H2 y) H2 Q
  | .cmp o a b, X, σ, H, Q => wE G a X σ H fun x H1 => wE G b X σ H1 fun y H2 => cmpD o (rd H2 x) (rd H2 y) fun c => Q (.bl c) H2
  | .chn o o' a b c, X, σ, H, Q => wE G a X σ H fun x H1 => wE G b X σ H1 fun y H2 => cmpD o (rd H2 x) (rd H2 y) fun k =>
      if k = true then wE G c X σ H2 fun z H3 => cmpD o' (rd H3 y) (rd H3 z) fun k => Q (.bl k) H3 else Q (.bl false) H2
  | .and a b, X, σ, H, Q => wE G a X σ H fun x H1 => ∃ c, x = .bl c ∧ if c = true then wE G b X σ H1 Q else Q (.bl false) H1
  | .or a b, X, σ, H, Q => wE G a X σ H fun x H1 => ∃ c, x = .bl c ∧ if c = true then Q (.bl true) H1 else wE G b X σ H1 Q
  | .not a, X, σ, H, Q => wE G a X σ H fun x H1 => ∃ c, x = .bl c ∧ Q (.bl (!c)) H1
  | .neg a, X, σ, H, Q => wE G a X σ H fun x H1 => ∃ i, x = .int i ∧ Q (.int (-i)) H1
  | .ife c a b, X, σ, H, Q => wE G c X σ H fun x H1 => ∃ k, x = .bl k ∧ if k = true then wE G a X σ H1 Q else wE G b X σ H1 Q
  | .idx a b, X, σ, H, Q => wE G a X σ H fun x H1 => wE G b X σ H1 fun y H2 => idxD (rd H2 x) (rd H2 y) fun d => Q d H2
  | .slc m a lo hi, X, σ, H, Q => wE G a X σ H fun x H1 => wO G lo X σ H1 fun l H2 => wO G hi X σ H2 fun h H3 => slcD m (rd H3 x) l h H3 Q
  | .rev m a, X, σ, H, Q => wE G a X σ H fun x H1 => revD m (rd H1 x) H1 Q
  | .fld C a f, X, σ, H, Q => wE G a X σ H fun x H1 => ∃ fs d, rd H1 x = .ins C fs ∧ fs.lookup f = some d ∧ Q d H1
  | .call f es, X, σ, H, Q => wEs G es X σ H fun vs H1 => G.fn f vs H1 Q fun c fs H2 => X c fs σ H2
  | .meth C m o es, X, σ, H, Q => wE G o X σ H fun x H1 => (∃ fs, rd H1 x = .ins C fs ∧ fs.lookup m = none) ∧ wEs G es X σ H1 fun vs H2 => G.mt C m (x :: vs) H2 Q fun c fs H3 => X c fs σ H3
  | .make C es, X, σ, H, Q => wEs G es X σ H fun vs H1 => ∀ p, H1 p = none → G.mt C "__init__" (.ref p :: vs) (dupd H1 p (.ins C [])) (fun v H2 => v = .non ∧ FzV (.ref p) H2 Q) fun c fs H3 => X c fs σ H3
  | .blt b m es, X, σ, H, Q => wEs G es X σ H fun vs H1 => bltD b m vs H1 Q
  | .bm b m o es, X, σ, H, Q => wE G o X σ H fun x H1 => bmTy b (rd H1 x) = true ∧ wEs G es X σ H1 fun vs H2 => bmD b m x vs H2 Q
  | .isi a ts, X, σ, H, Q => wE G a X σ H fun x H1 => isiOk G.pl (rd H1 x) = true ∧ Q (.bl (ts.any fun t => tyD (rd H1 x) t)) H1
  | .xf i f, _, σ, H, Q => ∃ a d C fs v, σ[i]? = some (some (.exn a d C fs)) ∧ G.cx = some (a, d, C) ∧ G.xf C = [f] ∧ fs.lookup f = some v ∧ Q v H
  | .xi i t, _, σ, H, Q => ∃ a d C fs, σ[i]? = some (some (.exn a d C fs)) ∧ G.cx = some (a, d, C) ∧ G.sub C "BaseException" = true ∧ Q (.bl (isX G.sub C t)) H
  | .comp m elt tg own it cs, X, σ, H, Q => wIt G it X σ H fun ds st H1 => ds.length ≤ sizeLine → ∀ p, H1 p = none → ∃ I : Nat → List D → DH → Prop, I 0 [] (dupd H1 p (.lst [])) ∧ (∀ i acc H, I i acc H → st H) ∧
      (∀ i d acc H, ds[i]? = some d → I i acc H → H p = some (.lst acc) → acc.length ≤ i → wTg G tg d (dwipe σ (own.map (·.2))) H fun σ2 H2 => wAll G cs σ2 H2 fun b H3 =>
        if b = true then wE G elt noX σ2 H3 fun y H4 => H4 p = some (.lst acc) ∧ I (i + 1) (acc ++ [y]) (dupd H4 p (.lst (acc ++ [y]))) else H3 p = some (.lst acc) ∧ I (i + 1) acc H3) ∧
      ∀ acc H, I ds.length acc H → H p = some (.lst acc) → acc.length ≤ ds.length → if m = true then Q (.ref p) H else Q (.lst acc) (minus H fun b => b == p)
def wEs (G : Gam) : List Ex → DXS → DSt → DH → (List D → DH → Prop) → Prop
  | [], _, _, H, Q => Q [] H
  | e :: es, X, σ, H, Q => wE G e X σ H fun x H1 => wEs G es X σ H1 fun xs H2 => Q (x :: xs) H2
def wO (G : Gam) : Option Ex → DXS → DSt → DH → (Option Int → DH → Prop) → Prop
  | none, _, _, H, Q => Q none H
  | some e, X, σ, H, Q => wE G e X σ H fun x H1 => ∃ i, x = .int i ∧ Q (some i) H1
/-- the tests of a comprehension -/
def wAll (G : Gam) : List Ex → DSt → DH → (Bool → DH → Prop) → Prop
  | [], _, H, Q => Q true H
  | e :: es, σ, H, Q => wE G e noX σ H fun x H1 => ∃ c, x = .bl c ∧ if c = true then wAll G es σ H1 Q else Q false H1
def wTg (G : Gam) : Tg → D → DSt → DH → (DSt → DH → Prop) → Prop
  | .nm i, d, σ, H, Q => Q (σ.set i (some d)) H
  | .tp ts, d, σ, H, Q => ∃ xs, tupOf d = some xs ∧ xs.length = ts.length ∧ wTgs G ts xs σ H Q
  | .fld C o f, d, σ, H, Q => wE G o noX σ H fun x H1 => ∃ p fs, x = .ref p ∧ H1 p = some (.ins C fs) ∧ fs.length < 1000 ∧ Q σ (dupd H1 p (.ins C (fput f d fs)))
  | .sub o i, d, σ, H, Q => wE G o noX σ H fun x H1 => wE G i noX σ H1 fun y H2 => setD x y d H2 fun H3 => Q σ H3
def wTgs (G : Gam) : List Tg → List D → DSt → DH → (DSt → DH → Prop) → Prop
  | [], [], σ, H, Q => Q σ H
  | t :: ts, d :: ds, σ, H, Q => wTg G t d σ H fun σ1 H1 => wTgs G ts ds σ1 H1 Q
  | _, _, _, _, _ => False
def wIt (G : Gam) : It → DXS → DSt → DH → (List D → (DH → Prop) → DH → Prop) → Prop
  | .seq e, X, σ, H, Q => wE G e X σ H fun x H1 => ∃ ds, seqOf (rd H1 x) = some ds ∧ Q ds (fun H => seqOf (rd H x) = some ds) H1
  | .rng a none, X, σ, H, Q => wE G a X σ H fun x H1 => ∃ i, x = .int i ∧ i ≤ 2 ^ 24 ∧ -(2 ^ 62) ≤ i ∧ Q (rangeD 0 i.toNat) (fun _ => True) H1
  | .rng a (some b), X, σ, H, Q => wE G a X σ H fun x H1 => wE G b X σ H1 fun y H2 => ∃ i j, x = .int i ∧ y = .int j ∧ -(2 ^ 62) ≤ i ∧ i < 2 ^ 62 ∧ -(2 ^ 62) ≤ j ∧ j < 2 ^ 62 ∧ j - i ≤ 2 ^ 24 ∧ Q (rangeD i (j - i).toNat) (fun _ => True) H2
  | .enu e, X, σ, H, Q => wE G e X σ H fun x H1 => ∃ ds, litOf (rd H1 x) = some ds ∧ Q (enumD 0 ds) (fun H => litOf (rd H x) = some ds) H1
  | .zip a b, X, σ, H, Q => wE G a X σ H fun x H1 => wE G b X σ H1 fun y H2 => ∃ ds es, litOf (rd H2 x) = some ds ∧ litOf (rd H2 y) = some es ∧ isTup (rd H2 x) = isTup (rd H2 y) ∧ Q (zipD ds es) (fun H => litOf (rd H x) = some ds ∧ litOf (rd H y) = some es) H2
end
end DL

set_option maxRecDepth 100000
namespace DL
open PySem

mutual
def wS (G : Gam) : Cmd → Ends → DSt → DH → Prop
  | .set tg e, D, σ, H => wE G e D.ex σ H fun x H1 => wTg G tg x σ H1 D.nx
  | .aug tg o e, D, σ, H => (match tg with
    | .nm i => ∃ x, σ[i]? = some (some x) ∧ wE G e D.ex σ H fun y H1 => augD o (rd H1 x) (rd H1 y) H1 fun z H2 => D.nx (σ.set i (some z)) H2
    | .fld C a f => wE G a D.ex σ H fun x H1 => ∃ p fs v, x = .ref p ∧ H1 p = some (.ins C fs) ∧ fs.lookup f = some v ∧ wE G e D.ex σ H1 fun y H2 => augD o (rd H2 v) (rd H2 y) H2 fun z H3 =>
        ∃ fs', H3 p = some (.ins C fs') ∧ fs'.length < 1000 ∧ D.nx σ (dupd H3 p (.ins C (fput f z fs')))
    | .sub a i => wE G a D.ex σ H fun x H1 => wE G i D.ex σ H1 fun k H2 => getD (rd H2 x) k fun v => wE G e D.ex σ H2 fun y H3 => augD o (rd H3 v) (rd H3 y) H3 fun z H4 => setD x k z H4 fun H5 => D.nx σ H5
    | .tp _ => False)
  | .expr e, D, σ, H => wE G e D.ex σ H fun _ H1 => D.nx σ H1
  | .ret e, D, σ, H => wE G e D.ex σ H fun x H1 => FzV x H1 D.rt
  | .retN, D, _, H => FzV .non H D.rt
  | .ife c a b, D, σ, H => wE G c D.ex σ H fun x H1 => ∃ k, x = .bl k ∧ if k = true then wB G a D σ H1 else wB G b D σ H1
  | .while c body, D, σ, H => ∃ I : Nat → DSt → DH → Prop, (∃ m, I m σ H) ∧ ∀ m σ H, I m σ H → wE G c D.ex σ H fun x H1 => ∃ k, x = .bl k ∧
      if k = true then wB G body { D with nx := fun σ' H' => Fz σ' H' fun σ' H' => ∃ m', m' < m ∧ I m' σ' H', ct := fun σ' H' => Fz σ' H' fun σ' H' => ∃ m', m' < m ∧ I m' σ' H', bk := D.nx } σ H1
      else D.nx σ H1
  | .for tg it body, D, σ, H => wIt G it D.ex σ H fun ds st H1 => ds.length ≤ sizeLine → ∃ I : Nat → DSt → DH → Prop, I 0 σ H1 ∧ (∀ i σ H, I i σ H → st H) ∧
      (∀ i d σ H, ds[i]? = some d → I i σ H → wTg G tg d σ H fun σ2 H2 => wB G body { D with nx := fun σ' H' => Fz σ' H' (I (i + 1)), ct := fun σ' H' => Fz σ' H' (I (i + 1)), bk := D.nx } σ2 H2) ∧
      ∀ σ H, I ds.length σ H → D.nx σ H
  | .raise C es, D, σ, H => wEs G es D.ex σ H fun vs H1 => vs.length = (G.xf C).length ∧ D.ex C (List.zip (G.xf C) vs) σ H1
  | .try body hs, D, σ, H => wB G body { D with ex := fun c fs σ' H' => wHs G hs c fs D σ' H' } σ H
  | .pass, D, σ, H => D.nx σ H
  | .brk, D, σ, H => D.bk σ H
  | .cont, D, σ, H => D.ct σ H
def wB (G : Gam) : List Cmd → Ends → DSt → DH → Prop
  | [], D, σ, H => D.nx σ H
  | c :: cs, D, σ, H => wS G c { D with nx := wB G cs D } σ H
def wHs (G : Gam) : List (List Str × Option Nat × List Cmd) → Str → List (Str × D) → Ends → DSt → DH → Prop
  | [], c, fs, D, σ, H => D.ex c fs σ H
  | (Cs, n, suite) :: hs, c, fs, D, σ, H => if (Cs.any fun C => G.sub c C) = true then
      (match n with
        | none => wB G suite { D with ex := noX } σ H
        | some i => ∀ a d, (fs = [] → d = none) → wB { G with cx := some (a, d, c) } suite { D with ex := noX, nx := fun σ' H' => D.nx (σ'.set i none) H', bk := fun σ' H' => D.bk (σ'.set i none) H', ct := fun σ' H' => D.ct (σ'.set i none) H' } (σ.set i (some (.exn a d c fs))) H)
      else wHs G hs c fs D σ H
end
/-- a def keeps its promise: a pure statement -/
def Sat (G : Gam) (n : Nat) (body : List Cmd) (sp : List D → DH → DK → DXK → Prop) : Prop :=
  ∀ vs H Q E, sp vs H Q E → wB G body { nx := fun _ H1 => FzV .non H1 Q, rt := Q, ex := fun c fs _ H1 => E c fs H1 } (vs.map some ++ List.replicate (n - vs.length) none) H
end DL

set_option maxRecDepth 100000
namespace DL
open PySem L2

/-! ### how data lies in the abstract heap of the hand layer -/
mutual
inductive Rep (K : PySem.W.Frag) (cl : Str → Option Addr) (Hd : DH) (H : Hp) : V → D → Prop
  | non : Rep K cl Hd H .non .non
  | bl (b : Bool) : Rep K cl Hd H (.bl b) (.bl b)
  | int (i : Int) : Rep K cl Hd H (.int i) (.int i)
  | str {s : Str} : s.length ≤ sizeLine → PyData.strOk s = true → Rep K cl Hd H (.str s) (.str s)
  | ref (a : Addr) : Rep K cl Hd H (.ref a) (.ref a)
  | tup {a : Addr} {xs : List V} {ds : List D} : H a = some (.tup xs) → Hd a = none → xs.length ≤ sizeLine → Reps K cl Hd H xs ds → Rep K cl Hd H (.ref a) (.tup ds)
  | lst {a : Addr} {xs : List V} {ds : List D} : H a = some (.lst xs) → Hd a = none → xs.length ≤ sizeLine → Reps K cl Hd H xs ds → Rep K cl Hd H (.ref a) (.lst ds)
  | stl {a : Addr} {xs : List V} {ds : List D} : Rd H a (.lst xs) → Hd a = none → xs.length ≤ sizeLine → Reps K cl Hd H xs ds → Rep K cl Hd H (.ref a) (.stl ds)
  | stlK {a : Addr} {xs : List V} {ds : List D} : (∀ H', SqL K H' a xs) → xs.length ≤ sizeLine → Reps K cl Hd H xs ds → Rep K cl Hd H (.ref a) (.stl ds)
  | stp {a : Addr} {xs : List V} {ds : List D} : (∀ H', SqT K H' a xs) → (∃ o, K.lookup a = some o ∧ o.cls = .type "tuple") → xs.length ≤ sizeLine → Reps K cl Hd H xs ds → Rep K cl Hd H (.ref a) (.stp ds)
  | dicK {a : Addr} {l : List (Key × V)} {kvs : List (D × D)} : H a = some (.dK l) → Hd a = none → l.length ≤ sizeLine → RepK K cl Hd H l kvs → Rep K cl Hd H (.ref a) (.dic false kvs)
  | dicT {a : Addr} {l : List (List Key × V)} {kvs : List (D × D)} : H a = some (.dT l) → Hd a = none → l.length ≤ sizeLine → RepT K cl Hd H l kvs → Rep K cl Hd H (.ref a) (.dic true kvs)
  | ins {a Ca dx : Addr} {C : Str} {l : List (Str × V)} {fs : List (Str × D)} : cl C = some Ca → H a = some (.ins Ca dx l) → Hd a = none → RepF K cl Hd H l fs → Rep K cl Hd H (.ref a) (.ins C fs)
  | exn0 (a : Addr) (C : Str) : Rep K cl Hd H (.ref a) (.exn a none C [])
  | exn {a dd : Addr} {C : Str} {l : List (Str × V)} {fs : List (Str × D)} : H dd = some (.xd l) → Hd dd = none → RepF K cl Hd H l fs → Rep K cl Hd H (.ref a) (.exn a (some dd) C fs)
inductive Reps (K : PySem.W.Frag) (cl : Str → Option Addr) (Hd : DH) (H : Hp) : List V → List D → Prop
  | nil : Reps K cl Hd H [] []
  | cons {v : V} {d : D} {vs : List V} {ds : List D} : Rep K cl Hd H v d → Reps K cl Hd H vs ds → Reps K cl Hd H (v :: vs) (d :: ds)
inductive RepK (K : PySem.W.Frag) (cl : Str → Option Addr) (Hd : DH) (H : Hp) : List (Key × V) → List (D × D) → Prop
  | nil : RepK K cl Hd H [] []
  | cons {k : Key} {v : V} {d : D} {vs : List (Key × V)} {ds : List (D × D)} : Rep K cl Hd H v d → RepK K cl Hd H vs ds → RepK K cl Hd H ((k, v) :: vs) ((keyD k, d) :: ds)
inductive RepT (K : PySem.W.Frag) (cl : Str → Option Addr) (Hd : DH) (H : Hp) : List (List Key × V) → List (D × D) → Prop
  | nil : RepT K cl Hd H [] []
  | cons {k : List Key} {v : V} {d : D} {vs : List (List Key × V)} {ds : List (D × D)} : Rep K cl Hd H v d → RepT K cl Hd H vs ds → RepT K cl Hd H ((k, v) :: vs) ((.tup (k.map keyD), d) :: ds)
inductive RepF (K : PySem.W.Frag) (cl : Str → Option Addr) (Hd : DH) (H : Hp) : List (Str × V) → List (Str × D) → Prop
  | nil : RepF K cl Hd H [] []
  | cons {n : Str} {v : V} {d : D} {vs : List (Str × V)} {ds : List (Str × D)} : Rep K cl Hd H v d → RepF K cl Hd H vs ds → RepF K cl Hd H ((n, v) :: vs) ((n, d) :: ds)
end
inductive RepS (K : PySem.W.Frag) (cl : Str → Option Addr) (Hd : DH) (H : Hp) : DSt → St → Prop
  | nil : RepS K cl Hd H [] []
  | some {v : V} {d : D} {σ : DSt} {τ : St} : Rep K cl Hd H v d → RepS K cl Hd H σ τ → RepS K cl Hd H (some d :: σ) (some v :: τ)
  | any {o : Option V} {σ : DSt} {τ : St} : RepS K cl Hd H σ τ → RepS K cl Hd H (none :: σ) (o :: τ)

/-- what the layer does not follow as an object stays as it is -/
def Ext (Hd : DH) (H : Hp) (Hd' : DH) (H' : Hp) : Prop := ∀ a o, H a = some o → Hd a = none → H' a = some o ∧ Hd' a = none
section
variable {K : PySem.W.Frag} {cl : Str → Option Addr} {Hd Hd' Hd2 : DH} {H H' H2 : Hp}
theorem Ext.refl (Hd : DH) (H : Hp) : Ext Hd H Hd H := fun _ _ h n => ⟨h, n⟩
theorem Ext.trans (a : Ext Hd H Hd' H') (b : Ext Hd' H' Hd2 H2) : Ext Hd H Hd2 H2 := fun c o h n => b c o (a c o h n).1 (a c o h n).2

mutual
theorem Rep.mono (x : Ext Hd H Hd' H') : ∀ {v : V} {d : D}, Rep K cl Hd H v d → Rep K cl Hd' H' v d
  | _, _, .non => .non
  | _, _, .bl b => .bl b
  | _, _, .int i => .int i
  | _, _, .str h k => .str h k
  | _, _, .ref a => .ref a
  | _, _, .tup e n z r => .tup (x _ _ e n).1 (x _ _ e n).2 z (Reps.mono x r)
  | _, _, .lst e n z r => .lst (x _ _ e n).1 (x _ _ e n).2 z (Reps.mono x r)
  | _, _, .stl (a := a) s n z r => by
    rcases s with s | ⟨o2, s⟩
    · exact .stl (.inl (x _ _ s n).1) (x _ _ s n).2 z (Reps.mono x r)
    · exact .stl (.inr ⟨o2, (x _ _ s n).1⟩) (x _ _ s n).2 z (Reps.mono x r)
  | _, _, .stlK s z r => .stlK s z (Reps.mono x r)
  | _, _, .stp s k z r => .stp s k z (Reps.mono x r)
  | _, _, .dicK e n z r => .dicK (x _ _ e n).1 (x _ _ e n).2 z (RepK.mono x r)
  | _, _, .dicT e n z r => .dicT (x _ _ e n).1 (x _ _ e n).2 z (RepT.mono x r)
  | _, _, .ins c e n r => .ins c (x _ _ e n).1 (x _ _ e n).2 (RepF.mono x r)
  | _, _, .exn0 a C => .exn0 a C
  | _, _, .exn e n r => .exn (x _ _ e n).1 (x _ _ e n).2 (RepF.mono x r)
theorem Reps.mono (x : Ext Hd H Hd' H') : ∀ {v : List V} {d : List D}, Reps K cl Hd H v d → Reps K cl Hd' H' v d
  | _, _, .nil => .nil
  | _, _, .cons r t => .cons (Rep.mono x r) (Reps.mono x t)
theorem RepK.mono (x : Ext Hd H Hd' H') : ∀ {v : List (Key × V)} {d : List (D × D)}, RepK K cl Hd H v d → RepK K cl Hd' H' v d
  | _, _, .nil => .nil
  | _, _, .cons r t => .cons (Rep.mono x r) (RepK.mono x t)
theorem RepT.mono (x : Ext Hd H Hd' H') : ∀ {v : List (List Key × V)} {d : List (D × D)}, RepT K cl Hd H v d → RepT K cl Hd' H' v d
  | _, _, .nil => .nil
  | _, _, .cons r t => .cons (Rep.mono x r) (RepT.mono x t)
theorem RepF.mono (x : Ext Hd H Hd' H') : ∀ {v : List (Str × V)} {d : List (Str × D)}, RepF K cl Hd H v d → RepF K cl Hd' H' v d
  | _, _, .nil => .nil
  | _, _, .cons r t => .cons (Rep.mono x r) (RepF.mono x t)
end
theorem RepS.mono (x : Ext Hd H Hd' H') : ∀ {σ : DSt} {τ : St}, RepS K cl Hd H σ τ → RepS K cl Hd' H' σ τ
  | _, _, .nil => .nil
  | _, _, .some r t => .some (r.mono x) (RepS.mono x t)
  | _, _, .any t => .any (RepS.mono x t)
theorem RepS.get : ∀ {σ : DSt} {τ : St} {i : Nat} {d : D}, RepS K cl Hd H σ τ → σ[i]? = Option.some (Option.some d) → ∃ v, τ[i]? = Option.some (Option.some v) ∧ Rep K cl Hd H v d
  | _, _, _, _, .nil, e => by simp at e
  | _, _, 0, _, .some r t, e => by simp at e; subst e; exact ⟨_, by simp, r⟩
  | _, _, 0, _, .any t, e => by simp at e
  | _, _, i + 1, d, .some r t, e => by
    obtain ⟨v, h1, h2⟩ := RepS.get (i := i) (d := d) t (by simpa using e)
    exact ⟨v, by simpa using h1, h2⟩
  | _, _, i + 1, d, .any t, e => by
    obtain ⟨v, h1, h2⟩ := RepS.get (i := i) (d := d) t (by simpa using e)
    exact ⟨v, by simpa using h1, h2⟩
theorem RepS.set {v : V} {d : D} (r : Rep K cl Hd H v d) : ∀ {σ : DSt} {τ : St} (i : Nat), RepS K cl Hd H σ τ → RepS K cl Hd H (σ.set i (Option.some d)) (τ.set i (Option.some v))
  | _, _, _, .nil => .nil
  | _, _, 0, .some q t => .some r t
  | _, _, 0, .any t => .some r t
  | _, _, i + 1, .some q t => .some q (RepS.set r i t)
  | _, _, i + 1, .any t => .any (RepS.set r i t)
theorem RepS.unset {o : Option V} : ∀ {σ : DSt} {τ : St} (i : Nat), RepS K cl Hd H σ τ → RepS K cl Hd H (σ.set i Option.none) (τ.set i o)
  | _, _, _, .nil => .nil
  | _, _, 0, .some q t => .any t
  | _, _, 0, .any t => .any t
  | _, _, i + 1, .some q t => .some q (RepS.unset i t)
  | _, _, i + 1, .any t => .any (RepS.unset i t)
theorem RepS.hole : ∀ {σ : DSt} {τ : St} (i : Nat), RepS K cl Hd H σ τ → RepS K cl Hd H (σ.set i Option.none) τ
  | _, _, _, .nil => .nil
  | _, _, 0, .some q t => .any t
  | _, _, 0, .any t => .any t
  | _, _, i + 1, .some q t => .some q (RepS.hole i t)
  | _, _, i + 1, .any t => .any (RepS.hole i t)
theorem RepS.length : ∀ {σ : DSt} {τ : St}, RepS K cl Hd H σ τ → σ.length = τ.length
  | _, _, .nil => rfl
  | _, _, .some _ t => by simp [RepS.length t]
  | _, _, .any t => by simp [RepS.length t]
theorem RepS.wipe {σ : DSt} {τ : St} (r : RepS K cl Hd H σ τ) : ∀ vs : List Nat, RepS K cl Hd H (dwipe σ vs) (L2.wipe τ vs)
  | [] => r
  | v :: vs => by
    unfold dwipe L2.wipe
    exact (RepS.wipe r vs).unset v
theorem RepS.start : ∀ {vs : List V} {ds : List D} (n : Nat), Reps K cl Hd H vs ds → RepS K cl Hd H (ds.map Option.some ++ List.replicate n Option.none) (vs.map Option.some ++ List.replicate n Option.none)
  | _, _, 0, .nil => .nil
  | _, _, n + 1, .nil => .any (RepS.start n .nil)
  | _, _, n, .cons r t => .some r (RepS.start n t)
theorem Reps.length : ∀ {vs : List V} {ds : List D}, Reps K cl Hd H vs ds → vs.length = ds.length
  | _, _, .nil => rfl
  | _, _, .cons _ t => by simp [Reps.length t]
theorem RepK.length : ∀ {vs : List (Key × V)} {ds : List (D × D)}, RepK K cl Hd H vs ds → vs.length = ds.length
  | _, _, .nil => rfl
  | _, _, .cons _ t => by simp [RepK.length t]
theorem RepT.length : ∀ {vs : List (List Key × V)} {ds : List (D × D)}, RepT K cl Hd H vs ds → vs.length = ds.length
  | _, _, .nil => rfl
  | _, _, .cons _ t => by simp [RepT.length t]
theorem Reps.append : ∀ {vs us : List V} {ds es : List D}, Reps K cl Hd H vs ds → Reps K cl Hd H us es → Reps K cl Hd H (vs ++ us) (ds ++ es)
  | _, _, _, _, .nil, s => s
  | _, _, _, _, .cons r t, s => .cons r (Reps.append t s)
theorem Reps.get : ∀ {vs : List V} {ds : List D} {i : Nat} {d : D}, Reps K cl Hd H vs ds → ds[i]? = some d → ∃ v, vs[i]? = some v ∧ Rep K cl Hd H v d
  | _, _, _, _, .nil, e => by simp at e
  | _, _, 0, _, .cons r t, e => by simp at e; subst e; exact ⟨_, by simp, r⟩
  | _, _, i + 1, d, .cons r t, e => by
    obtain ⟨v, h1, h2⟩ := Reps.get (i := i) (d := d) t (by simpa using e)
    exact ⟨v, by simpa using h1, h2⟩
theorem Reps.getV : ∀ {vs : List V} {ds : List D} {i : Nat} {v : V}, Reps K cl Hd H vs ds → vs[i]? = some v → ∃ d, ds[i]? = some d ∧ Rep K cl Hd H v d
  | _, _, _, _, .nil, e => by simp at e
  | _, _, 0, _, .cons r t, e => by simp at e; subst e; exact ⟨_, by simp, r⟩
  | _, _, i + 1, d, .cons r t, e => by
    obtain ⟨v, h1, h2⟩ := Reps.getV (i := i) (v := d) t (by simpa using e)
    exact ⟨v, by simpa using h1, h2⟩
theorem Reps.take : ∀ {vs : List V} {ds : List D} (n : Nat), Reps K cl Hd H vs ds → Reps K cl Hd H (vs.take n) (ds.take n)
  | _, _, 0, _ => by simpa using Reps.nil
  | _, _, n + 1, .nil => .nil
  | _, _, n + 1, .cons r t => .cons r (Reps.take n t)
theorem Reps.drop : ∀ {vs : List V} {ds : List D} (n : Nat), Reps K cl Hd H vs ds → Reps K cl Hd H (vs.drop n) (ds.drop n)
  | _, _, 0, r => r
  | _, _, n + 1, .nil => .nil
  | _, _, n + 1, .cons r t => Reps.drop n t
theorem Reps.set {v : V} {d : D} (r : Rep K cl Hd H v d) : ∀ {vs : List V} {ds : List D} (i : Nat), Reps K cl Hd H vs ds → Reps K cl Hd H (vs.set i v) (ds.set i d)
  | _, _, _, .nil => .nil
  | _, _, 0, .cons _ t => .cons r t
  | _, _, i + 1, .cons q t => .cons q (Reps.set r i t)
theorem Reps.eraseIdx : ∀ {vs : List V} {ds : List D} (i : Nat), Reps K cl Hd H vs ds → Reps K cl Hd H (vs.eraseIdx i) (ds.eraseIdx i)
  | _, _, _, .nil => .nil
  | _, _, 0, .cons _ t => t
  | _, _, i + 1, .cons q t => .cons q (Reps.eraseIdx i t)
theorem Reps.dropLast {vs : List V} {ds : List D} (r : Reps K cl Hd H vs ds) : Reps K cl Hd H vs.dropLast ds.dropLast := by
  rw [List.dropLast_eq_take, List.dropLast_eq_take, r.length]
  exact r.take _
theorem Reps.flat {vs : List V} {ds : List D} (r : Reps K cl Hd H vs ds) : ∀ n : Nat, Reps K cl Hd H (List.replicate n vs).flatten (List.replicate n ds).flatten
  | 0 => .nil
  | n + 1 => by
    rw [List.replicate_succ, List.replicate_succ, List.flatten_cons, List.flatten_cons]
    exact r.append (Reps.flat r n)
theorem RepF.look : ∀ {l : List (Str × V)} {fs : List (Str × D)} {f : Str} {d : D}, RepF K cl Hd H l fs → fs.lookup f = some d → ∃ v, l.lookup f = some v ∧ Rep K cl Hd H v d
  | _, _, _, _, .nil, e => by simp at e
  | _, _, f, d, .cons (n := n) r t, e => by
    rw [List.lookup_cons] at e ⊢
    cases h : f == n with
    | true => rw [h] at e; cases e; exact ⟨_, rfl, r⟩
    | false => rw [h] at e; exact RepF.look t e
theorem RepF.lookN : ∀ {l : List (Str × V)} {fs : List (Str × D)} {f : Str}, RepF K cl Hd H l fs → fs.lookup f = none → l.lookup f = none
  | _, _, _, .nil, e => by simp
  | _, _, f, .cons (n := n) r t, e => by
    rw [List.lookup_cons] at e ⊢
    cases h : f == n with
    | true => rw [h] at e; cases e
    | false => rw [h] at e; exact RepF.lookN t e
theorem RepF.put {v : V} {d : D} {f : Str} (r : Rep K cl Hd H v d) : ∀ {l : List (Str × V)} {fs : List (Str × D)}, RepF K cl Hd H l fs → RepF K cl Hd H (putF f v l) (fput f d fs)
  | _, _, .nil => .cons r .nil
  | _, _, .cons (n := n) q t => by
    unfold putF fput
    by_cases h : n = f
    · rw [if_pos h, if_pos h]; exact .cons r t
    · rw [if_neg h, if_neg h]; exact .cons q (RepF.put r t)
theorem RepF.length : ∀ {l : List (Str × V)} {fs : List (Str × D)}, RepF K cl Hd H l fs → l.length = fs.length
  | _, _, .nil => rfl
  | _, _, .cons _ t => by simp [RepF.length t]
end
end DL

set_option maxRecDepth 100000
namespace DL
open PySem L2

/-- an object that is followed -/
inductive LkO (K : PySem.W.Frag) (cl : Str → Option Addr) (Hd : DH) (H : Hp) (a : Addr) : D → Prop
  | lst {xs : List V} {ds : List D} : H a = some (.lst xs) → xs.length ≤ sizeLine → Reps K cl Hd H xs ds → LkO K cl Hd H a (.lst ds)
  | dicK {l : List (Key × V)} {kvs : List (D × D)} : H a = some (.dK l) → l.length ≤ sizeLine → RepK K cl Hd H l kvs → LkO K cl Hd H a (.dic false kvs)
  | dicT {l : List (List Key × V)} {kvs : List (D × D)} : H a = some (.dT l) → l.length ≤ sizeLine → RepT K cl Hd H l kvs → LkO K cl Hd H a (.dic true kvs)
  | ins {Ca dx : Addr} {C : Str} {l : List (Str × V)} {fs : List (Str × D)} : cl C = some Ca → H a = some (.ins Ca dx l) → RepF K cl Hd H l fs → LkO K cl Hd H a (.ins C fs)
def Lk (K : PySem.W.Frag) (cl : Str → Option Addr) (Hd : DH) (H : Hp) : Prop := ∀ a d, Hd a = some d → LkO K cl Hd H a d
section
variable {K : PySem.W.Frag} {cl : Str → Option Addr} {Hd Hd' Hd2 : DH} {H H' H2 : Hp} {a p : Addr} {d o : D} {ho : HO}
theorem LkO.some (h : LkO K cl Hd H a d) : ∃ ho, H a = some ho ∧ Mut (Option.some ho) := by
  cases h with
  | lst e _ _ => exact ⟨_, e, trivial⟩
  | dicK e _ _ => exact ⟨_, e, trivial⟩
  | dicT e _ _ => exact ⟨_, e, trivial⟩
  | ins _ e _ => exact ⟨_, e, trivial⟩
theorem Lk.free (lk : Lk K cl Hd H) (h : H p = none) : Hd p = none := by
  cases e : Hd p with
  | none => rfl
  | some d =>
    obtain ⟨_, q, _⟩ := (lk p d e).some
    rw [h] at q; cases q
theorem LkO.mono (x : Ext Hd H Hd' H') (e : H' a = H a) (h : LkO K cl Hd H a d) : LkO K cl Hd' H' a d := by
  cases h with
  | lst h z r => exact .lst (e.trans h) z (r.mono x)
  | dicK h z r => exact .dicK (e.trans h) z (r.mono x)
  | dicT h z r => exact .dicT (e.trans h) z (r.mono x)
  | ins c h r => exact .ins c (e.trans h) (r.mono x)
/-- an object as a value, once it isn't followed any more -/
theorem LkO.rep (x : Ext Hd H Hd' H') (e : H' a = H a) (n : Hd' a = none) (h : LkO K cl Hd H a d) : Rep K cl Hd' H' (.ref a) d := by
  cases h with
  | lst h z r => exact .lst (e.trans h) n z (r.mono x)
  | dicK h z r => exact .dicK (e.trans h) n z (r.mono x)
  | dicT h z r => exact .dicT (e.trans h) n z (r.mono x)
  | ins c h r => exact .ins c (e.trans h) n (r.mono x)
theorem upd_at_ne {H : Hp} {a p : Addr} {o u : HO} (h : H p = none) (e : H a = Option.some u) : upd H p o a = H a := upd_ne (ne_of_none e h)

/-! new objects -/
theorem Ext.new (hp : H p = none) : Ext Hd H Hd (upd H p ho) := fun a u e n => ⟨by rw [upd_ne (ne_of_none e hp)]; exact e, n⟩
theorem Lk.new (lk : Lk K cl Hd H) (hp : H p = none) : Lk K cl Hd (upd H p ho) := fun a d e => by
  have h := lk a d e
  obtain ⟨u, q, _⟩ := h.some
  exact h.mono (Ext.new hp) (upd_ne (ne_of_none q hp))
theorem Ext.newD (hp : H p = none) : Ext Hd H (dupd Hd p d) (upd H p ho) := fun a u e n => by
  have z := ne_of_none e hp
  exact ⟨by rw [upd_ne z]; exact e, by rw [dupd_ne z]; exact n⟩
theorem Lk.newD (lk : Lk K cl Hd H) (hp : H p = none) (h : LkO K cl (dupd Hd p d) (upd H p ho) p d) : Lk K cl (dupd Hd p d) (upd H p ho) := fun a u e => by
  by_cases z : a = p
  · subst z
    rw [dupd_same] at e; cases e
    exact h
  · rw [dupd_ne z] at e
    exact (lk a u e).mono (Ext.newD hp) (upd_ne z)
/-! writes -/
theorem Ext.write (hp : Hd p = Option.some o) : Ext Hd H (dupd Hd p d) (upd H p ho) := fun a u e n => by
  have z : a ≠ p := fun z => by rw [z, hp] at n; cases n
  exact ⟨by rw [upd_ne z]; exact e, by rw [dupd_ne z]; exact n⟩
theorem Lk.write (lk : Lk K cl Hd H) (hp : Hd p = Option.some o) (h : LkO K cl (dupd Hd p d) (upd H p ho) p d) : Lk K cl (dupd Hd p d) (upd H p ho) := fun a u e => by
  by_cases z : a = p
  · subst z
    rw [dupd_same] at e; cases e
    exact h
  · rw [dupd_ne z] at e
    exact (lk a u e).mono (Ext.write hp) (upd_ne z)
/-! forgetting -/
theorem Ext.minus (S : Addr → Bool) : Ext Hd H (minus Hd S) H := fun a u e n => ⟨e, by unfold DL.minus; rw [n]; split <;> rfl⟩
theorem Lk.minus (lk : Lk K cl Hd H) (S : Addr → Bool) : Lk K cl (minus Hd S) H := fun a d e => by
  unfold DL.minus at e
  split at e
  · cases e
  · exact (lk a d e).mono (Ext.minus S) rfl

mutual
theorem Ice.rep (lk : Lk K cl Hd H) {S : Addr → Bool} : ∀ {d d' : D} {v : V}, Ice Hd S d d' → Rep K cl Hd H v d → Rep K cl (minus Hd S) H v d'
  | _, _, _, .same d, r => r.mono (Ext.minus S)
  | _, _, _, .ref (a := a) h s i, r => by
    cases r
    exact Ice.cell lk (lk a _ h) (by unfold DL.minus; rw [s]; rfl) i
  | _, _, _, .lst i, .lst e n z r => .lst e ((Ext.minus S) _ _ e n).2 z (Ices.rep lk i r)
  | _, _, _, .tup i, .tup e n z r => .tup e ((Ext.minus S) _ _ e n).2 z (Ices.rep lk i r)
  | _, _, _, .ins i, .ins c e n r => .ins c e ((Ext.minus S) _ _ e n).2 (IceF.rep lk i r)
  | _, _, _, .dic i, .dicK e n z r => .dicK e ((Ext.minus S) _ _ e n).2 z (IceK.repK lk i r)
  | _, _, _, .dic i, .dicT e n z r => .dicT e ((Ext.minus S) _ _ e n).2 z (IceK.repT lk i r)
theorem Ice.cell (lk : Lk K cl Hd H) {S : Addr → Bool} : ∀ {d d' : D} {a : Addr}, LkO K cl Hd H a d → DL.minus Hd S a = none → Ice Hd S d d' → Rep K cl (minus Hd S) H (.ref a) d'
  | d, _, _, h, n, .same _ => h.rep (Ext.minus S) rfl n
  | _, _, _, h, n, .ref _ _ _ => nomatch h
  | _, _, _, .lst e z r, n, .lst i => .lst e n z (Ices.rep lk i r)
  | _, _, _, h, n, .tup i => nomatch h
  | _, _, _, .ins c e r, n, .ins i => .ins c e n (IceF.rep lk i r)
  | _, _, _, .dicK e z r, n, .dic i => .dicK e n z (IceK.repK lk i r)
  | _, _, _, .dicT e z r, n, .dic i => .dicT e n z (IceK.repT lk i r)
theorem Ices.rep (lk : Lk K cl Hd H) {S : Addr → Bool} : ∀ {d d' : List D} {v : List V}, Ices Hd S d d' → Reps K cl Hd H v d → Reps K cl (minus Hd S) H v d'
  | _, _, _, .nil, .nil => .nil
  | _, _, _, .cons i j, .cons r t => .cons (Ice.rep lk i r) (Ices.rep lk j t)
theorem IceF.rep (lk : Lk K cl Hd H) {S : Addr → Bool} : ∀ {d d' : List (Str × D)} {v : List (Str × V)}, IceF Hd S d d' → RepF K cl Hd H v d → RepF K cl (minus Hd S) H v d'
  | _, _, _, .nil, .nil => .nil
  | _, _, _, .cons i j, .cons r t => .cons (Ice.rep lk i r) (IceF.rep lk j t)
theorem IceK.repK (lk : Lk K cl Hd H) {S : Addr → Bool} : ∀ {d d' : List (D × D)} {v : List (Key × V)}, IceK Hd S d d' → RepK K cl Hd H v d → RepK K cl (minus Hd S) H v d'
  | _, _, _, .nil, .nil => .nil
  | _, _, _, .cons i j, .cons r t => .cons (Ice.rep lk i r) (IceK.repK lk j t)
theorem IceK.repT (lk : Lk K cl Hd H) {S : Addr → Bool} : ∀ {d d' : List (D × D)} {v : List (List Key × V)}, IceK Hd S d d' → RepT K cl Hd H v d → RepT K cl (minus Hd S) H v d'
  | _, _, _, .nil, .nil => .nil
  | _, _, _, .cons i j, .cons r t => .cons (Ice.rep lk i r) (IceK.repT lk j t)
end
theorem IceS.rep (lk : Lk K cl Hd H) {S : Addr → Bool} : ∀ {σ σ' : DSt} {τ : St}, IceS Hd S σ σ' → RepS K cl Hd H σ τ → RepS K cl (DL.minus Hd S) H σ' τ
  | _, _, _, .nil, .nil => .nil
  | _, _, _, .cons i j, .some r t => .some (i.rep lk r) (IceS.rep lk j t)
  | _, _, _, .fgt j, .some r t => .any (IceS.rep lk j t)
  | _, _, _, .fgt j, .any t => .any (IceS.rep lk j t)

/-! ### ends -/
def LQ (K : PySem.W.Frag) (cl : Str → Option Addr) (Hd : DH) (H : Hp) (Q : DK) : VK := fun v H' => ∃ d Hd', Ext Hd H Hd' H' ∧ Lk K cl Hd' H' ∧ Rep K cl Hd' H' v d ∧ Q d Hd'
def LN (K : PySem.W.Frag) (cl : Str → Option Addr) (Hd : DH) (H : Hp) (Q : DSt → DH → Prop) : St → Hp → Prop := fun τ H' => ∃ σ Hd', Ext Hd H Hd' H' ∧ Lk K cl Hd' H' ∧ RepS K cl Hd' H' σ τ ∧ Q σ Hd'
/-- an exception of one of the text's own classes, with its fields -/
def XRep (K : PySem.W.Frag) (cl : Str → Option Addr) (Hd : DH) (H : Hp) (cls : Value) (od : Option Addr) (c : Str) (fs : List (Str × D)) : Prop :=
  (∃ Ca, cl c = some Ca ∧ cls = .ref Ca) ∧ ((fs = [] ∧ od = none) ∨ ∃ dd l, fs ≠ [] ∧ od = some dd ∧ H dd = some (.xd l) ∧ Hd dd = none ∧ RepF K cl Hd H l fs)
theorem XRep.mono {cls : Value} {od : Option Addr} {c : Str} {fs : List (Str × D)} (x : Ext Hd H Hd' H') (h : XRep K cl Hd H cls od c fs) : XRep K cl Hd' H' cls od c fs := by
  obtain ⟨h1, h2⟩ := h
  refine ⟨h1, h2.imp id ?_⟩
  rintro ⟨dd, l, ne, e, q, n, r⟩
  exact ⟨dd, l, ne, e, (x _ _ q n).1, (x _ _ q n).2, r.mono x⟩
def LXF (K : PySem.W.Frag) (cl : Str → Option Addr) (Hd : DH) (H : Hp) (E : DXK) : XK := fun cls od H' => ∃ c fs Hd', Ext Hd H Hd' H' ∧ Lk K cl Hd' H' ∧ XRep K cl Hd' H' cls od c fs ∧ E c fs Hd'
def LX (K : PySem.W.Frag) (cl : Str → Option Addr) (Hd : DH) (H : Hp) (E : DXS) : WX := fun cls od τ H' => ∃ c fs σ Hd', Ext Hd H Hd' H' ∧ Lk K cl Hd' H' ∧ RepS K cl Hd' H' σ τ ∧ XRep K cl Hd' H' cls od c fs ∧ E c fs σ Hd'
theorem LQ.pre {Q : DK} {v : V} (x : Ext Hd H Hd2 H2) (h : LQ K cl Hd2 H2 Q v H') : LQ K cl Hd H Q v H' := by
  obtain ⟨d, Hd', e, r⟩ := h
  exact ⟨d, Hd', x.trans e, r⟩
theorem LN.pre {Q : DSt → DH → Prop} {τ : St} (x : Ext Hd H Hd2 H2) (h : LN K cl Hd2 H2 Q τ H') : LN K cl Hd H Q τ H' := by
  obtain ⟨d, Hd', e, r⟩ := h
  exact ⟨d, Hd', x.trans e, r⟩
theorem LX.pre {E : DXS} {cls : Value} {od : Option Addr} {τ : St} (x : Ext Hd H Hd2 H2) (h : LX K cl Hd2 H2 E cls od τ H') : LX K cl Hd H E cls od τ H' := by
  obtain ⟨c, fs, σ, Hd', e, r⟩ := h
  exact ⟨c, fs, σ, Hd', x.trans e, r⟩

/-! ### the two lifts -/
abbrev DTE := DXS → DSt → DH → DK → Prop
abbrev DTS := Ends → DSt → DH → Prop
def liftE (K : PySem.W.Frag) (cl : Str → Option Addr) (W : WX) (t : DTE) : TE := fun τ H Q => ∃ σ Hd X Qd, RepS K cl Hd H σ τ ∧ Lk K cl Hd H ∧ t X σ Hd Qd ∧
  (∀ cls od τ' H', LX K cl Hd H X cls od τ' H' → W cls od τ' H') ∧ ∀ v H', LQ K cl Hd H Qd v H' → Q v H'
def liftS (K : PySem.W.Frag) (cl : Str → Option Addr) (W : WX) (t : DTS) : TS := fun D τ H => ∃ σ Hd E, RepS K cl Hd H σ τ ∧ Lk K cl Hd H ∧ t E σ Hd ∧
  (∀ cls od τ' H', LX K cl Hd H E.ex cls od τ' H' → W cls od τ' H') ∧ (∀ τ' H', LN K cl Hd H E.nx τ' H' → D.nx τ' H') ∧ (∀ v H', LQ K cl Hd H E.rt v H' → D.rt v H') ∧
  (∀ τ' H', LN K cl Hd H E.bk τ' H' → D.bk τ' H') ∧ (∀ τ' H', LN K cl Hd H E.ct τ' H' → D.ct τ' H')
def liftF (K : PySem.W.Frag) (cl : Str → Option Addr) (n : Nat) (sp : List D → DH → DK → DXK → Prop) : Sp := fun vs H Q E => ∃ ds Hd Qd Ed, ds.length = n ∧ Reps K cl Hd H vs ds ∧ Lk K cl Hd H ∧ sp ds Hd Qd Ed ∧
  (∀ v H', LQ K cl Hd H Qd v H' → Q v H') ∧ ∀ cls od H', LXF K cl Hd H Ed cls od H' → E cls od H'
theorem LQ.here {Q : DK} {v : V} {d : D} (lk : Lk K cl Hd H) (r : Rep K cl Hd H v d) (q : Q d Hd) : LQ K cl Hd H Q v H := ⟨d, Hd, Ext.refl _ _, lk, r, q⟩
end
def DE (cl : Str → Option Addr) (X : Cx) (e : Expr) (t : DTE) : Prop := ∀ W, Takes X W → PE X e (liftE X.K cl W t)
def DS (cl : Str → Option Addr) (X : Cx) (s : Stmt) (t : DTS) : Prop := ∀ W, Takes X W → PS X s (liftS X.K cl W t)
def DB (cl : Str → Option Addr) (X : Cx) (s : List Stmt) (t : DTS) : Prop := ∀ W, Takes X W → PSs X s (liftS X.K cl W t)
theorem PE.imp {X : Cx} {e : Expr} {t u : TE} (h : PE X e t) (i : ∀ σ H Q, u σ H Q → t σ H Q) : PE X e u := ⟨fun pins s σ H Q I q => h.run pins s σ H Q I (i _ _ _ q)⟩
theorem PT.imp {X : Cx} {e : Expr} {t u : TT} (h : PT X e t) (i : ∀ σ H Q, u σ H Q → t σ H Q) : PT X e u := ⟨fun pins s σ H Q I q => h.run pins s σ H Q I (i _ _ _ q)⟩
theorem PS.imp {X : Cx} {e : Stmt} {t u : TS} (h : PS X e t) (i : ∀ D σ H, u D σ H → t D σ H) : PS X e u := ⟨fun pins s σ H D I q => h.run pins s σ H D I (i _ _ _ q)⟩
theorem PSs.imp {X : Cx} {e : List Stmt} {t u : TS} (h : PSs X e t) (i : ∀ D σ H, u D σ H → t D σ H) : PSs X e u := ⟨fun pins s σ H D I q => h.run pins s σ H D I (i _ _ _ q)⟩
end DL

set_option maxRecDepth 100000
namespace DL
open PySem L2

/-- what a value holds, through a reference -/
inductive Cont (K : PySem.W.Frag) (cl : Str → Option Addr) (Hd : DH) (H : Hp) : V → D → Prop
  | rep {v : V} {d : D} : Rep K cl Hd H v d → Cont K cl Hd H v d
  | obj {a : Addr} {d : D} : Hd a = some d → LkO K cl Hd H a d → Cont K cl Hd H (.ref a) d
section
variable {K : PySem.W.Frag} {cl : Str → Option Addr} {Hd Hd' Hd2 : DH} {H H' H2 : Hp} {v : V} {x : D}
theorem Rep.cont (lk : Lk K cl Hd H) (r : Rep K cl Hd H v x) : Cont K cl Hd H v (rd Hd x) := by
  cases r with
  | ref a =>
    show Cont K cl Hd H (.ref a) ((Hd a).getD (.ref a))
    cases e : Hd a with
    | none => exact .rep (.ref a)
    | some d => exact .obj e (lk a d e)
  | non => exact .rep .non
  | bl b => exact .rep (.bl b)
  | int i => exact .rep (.int i)
  | str h k => exact .rep (.str h k)
  | tup e n z r => exact .rep (.tup e n z r)
  | lst e n z r => exact .rep (.lst e n z r)
  | stl e n z r => exact .rep (.stl e n z r)
  | stlK e z r => exact .rep (.stlK e z r)
  | stp e n z r => exact .rep (.stp e n z r)
  | dicK e n z r => exact .rep (.dicK e n z r)
  | dicT e n z r => exact .rep (.dicT e n z r)
  | ins c e n r => exact .rep (.ins c e n r)
  | exn0 a C => exact .rep (.exn0 a C)
  | exn e n r => exact .rep (.exn e n r)
theorem Cont.int {i : Int} (c : Cont K cl Hd H v (.int i)) : v = .int i := by cases c with | rep r => cases r; rfl | obj e l => cases l
theorem Cont.bl {i : Bool} (c : Cont K cl Hd H v (.bl i)) : v = .bl i := by cases c with | rep r => cases r; rfl | obj e l => cases l
theorem Cont.non (c : Cont K cl Hd H v .non) : v = .non := by cases c with | rep r => cases r; rfl | obj e l => cases l
theorem Cont.str {i : Str} (c : Cont K cl Hd H v (.str i)) : v = .str i ∧ i.length ≤ sizeLine ∧ PyData.strOk i = true := by cases c with | rep r => cases r; exact ⟨rfl, by assumption, by assumption⟩ | obj e l => cases l
theorem Cont.tup {ds : List D} (c : Cont K cl Hd H v (.tup ds)) : ∃ a xs, v = .ref a ∧ H a = some (.tup xs) ∧ Hd a = none ∧ xs.length ≤ sizeLine ∧ Reps K cl Hd H xs ds := by
  cases c with
  | rep r => cases r with | tup e n z r => exact ⟨_, _, rfl, e, n, z, r⟩
  | obj e l => cases l
theorem Cont.lst {ds : List D} (c : Cont K cl Hd H v (.lst ds)) : ∃ a xs, v = .ref a ∧ H a = some (.lst xs) ∧ xs.length ≤ sizeLine ∧ Reps K cl Hd H xs ds := by
  cases c with
  | rep r => cases r with | lst e n z r => exact ⟨_, _, rfl, e, z, r⟩
  | obj e l => cases l with | lst e z r => exact ⟨_, _, rfl, e, z, r⟩
theorem Cont.stl {ds : List D} (c : Cont K cl Hd H v (.stl ds)) : ∃ a xs, v = .ref a ∧ SqL K H a xs ∧ xs.length ≤ sizeLine ∧ Reps K cl Hd H xs ds := by
  cases c with
  | rep r => cases r with | stl e n z r => exact ⟨_, _, rfl, .inl e, z, r⟩ | stlK e z r => exact ⟨_, _, rfl, e H, z, r⟩
  | obj e l => cases l
theorem Cont.stp {ds : List D} (c : Cont K cl Hd H v (.stp ds)) : ∃ a xs, v = .ref a ∧ SqT K H a xs ∧ xs.length ≤ sizeLine ∧ Reps K cl Hd H xs ds := by
  cases c with
  | rep r => cases r with | stp e n z r => exact ⟨_, _, rfl, e H, z, r⟩
  | obj e l => cases l
theorem Cont.dicK {kvs : List (D × D)} (c : Cont K cl Hd H v (.dic false kvs)) : ∃ a l, v = .ref a ∧ H a = some (.dK l) ∧ l.length ≤ sizeLine ∧ RepK K cl Hd H l kvs := by
  cases c with
  | rep r => cases r with | dicK e n z r => exact ⟨_, _, rfl, e, z, r⟩
  | obj e l => cases l with | dicK e z r => exact ⟨_, _, rfl, e, z, r⟩
theorem Cont.dicT {kvs : List (D × D)} (c : Cont K cl Hd H v (.dic true kvs)) : ∃ a l, v = .ref a ∧ H a = some (.dT l) ∧ l.length ≤ sizeLine ∧ RepT K cl Hd H l kvs := by
  cases c with
  | rep r => cases r with | dicT e n z r => exact ⟨_, _, rfl, e, z, r⟩
  | obj e l => cases l with | dicT e z r => exact ⟨_, _, rfl, e, z, r⟩
theorem Cont.ins {C : Str} {fs : List (Str × D)} (c : Cont K cl Hd H v (.ins C fs)) : ∃ a Ca dx l, v = .ref a ∧ cl C = some Ca ∧ H a = some (.ins Ca dx l) ∧ RepF K cl Hd H l fs := by
  cases c with
  | rep r => cases r with | ins c e n r => exact ⟨_, _, _, _, rfl, c, e, r⟩
  | obj e l => cases l with | ins c e r => exact ⟨_, _, _, _, rfl, c, e, r⟩

/-! ### data -/
mutual
theorem Rep.dp : ∀ {v : V} {d : D}, isData d = true → Rep K cl Hd H v d → Dp K H v (toP d)
  | _, _, _, .non => by simp only [toP]; exact .non
  | _, _, _, .bl b => by simp only [toP]; exact .bl b
  | _, _, _, .int b => by simp only [toP]; exact .int b
  | _, _, _, .str _ _ => by simp only [toP]; exact .str _
  | _, _, h, .ref _ => by simp [isData] at h
  | _, _, h, .tup e n z r => by simp only [toP]; exact .tup (SqT.of e) (Reps.dp (by simpa [isData] using h) r)
  | _, _, h, .lst e n z r => by simp only [toP]; exact .lst (SqL.of e) (Reps.dp (by simpa [isData] using h) r)
  | _, _, h, .stl e n z r => by simp only [toP]; exact .lst (.inl e) (Reps.dp (by simpa [isData] using h) r)
  | _, _, h, .stlK e z r => by simp only [toP]; exact .lst (e H) (Reps.dp (by simpa [isData] using h) r)
  | _, _, h, .stp e n z r => by simp only [toP]; exact .tup (e H) (Reps.dp (by simpa [isData] using h) r)
  | _, _, h, .dicK _ _ _ _ => by simp [isData] at h
  | _, _, h, .dicT _ _ _ _ => by simp [isData] at h
  | _, _, h, .ins _ _ _ _ => by simp [isData] at h
  | _, _, h, .exn0 _ _ => by simp [isData] at h
  | _, _, h, .exn _ _ _ => by simp [isData] at h
theorem Reps.dp : ∀ {v : List V} {d : List D}, areData d = true → Reps K cl Hd H v d → DpAll K H v (toPs d)
  | _, _, _, .nil => by simp only [toPs]; exact .nil
  | _, d :: ds, h, .cons r t => by
    simp only [toPs]
    have h' : isData d = true ∧ areData ds = true := by rw [areData, Bool.and_eq_true] at h; exact h
    exact .cons (Rep.dp h'.1 r) (Reps.dp h'.2 t)
end
mutual
theorem Rep.lay : ∀ {v : V} {d : D}, isData d = true → Rep K cl Hd H v d → (toP d).canLay0 = true
  | _, _, _, .non => by simp [toP, PyData.canLay0]
  | _, _, _, .bl b => by simp [toP, PyData.canLay0]
  | _, _, _, .int b => by simp [toP, PyData.canLay0]
  | _, _, _, .str _ h => by simp [toP, PyData.canLay0, h]
  | _, _, h, .ref _ => by simp [isData] at h
  | _, _, h, .tup e n z r => by simp only [toP, PyData.canLay0]; exact Reps.lay (by simpa [isData] using h) r
  | _, _, h, .lst e n z r => by simp only [toP, PyData.canLay0]; exact Reps.lay (by simpa [isData] using h) r
  | _, _, h, .stl e n z r => by simp only [toP, PyData.canLay0]; exact Reps.lay (by simpa [isData] using h) r
  | _, _, h, .stlK e z r => by simp only [toP, PyData.canLay0]; exact Reps.lay (by simpa [isData] using h) r
  | _, _, h, .stp e n z r => by simp only [toP, PyData.canLay0]; exact Reps.lay (by simpa [isData] using h) r
  | _, _, h, .dicK _ _ _ _ => by simp [isData] at h
  | _, _, h, .dicT _ _ _ _ => by simp [isData] at h
  | _, _, h, .ins _ _ _ _ => by simp [isData] at h
  | _, _, h, .exn0 _ _ => by simp [isData] at h
  | _, _, h, .exn _ _ _ => by simp [isData] at h
theorem Reps.lay : ∀ {v : List V} {d : List D}, areData d = true → Reps K cl Hd H v d → PyData.canLayAll0 (toPs d) = true
  | _, _, _, .nil => by simp [toPs, PyData.canLayAll0]
  | _, d :: ds, h, .cons r t => by
    have h' : isData d = true ∧ areData ds = true := by rw [areData, Bool.and_eq_true] at h; exact h
    simp only [toPs, PyData.canLayAll0, Bool.and_eq_true]
    exact ⟨Rep.lay h'.1 r, Reps.lay h'.2 t⟩
end
mutual
theorem deep_toP : ∀ d : D, (toP d).depth ≤ deep d
  | .non => by simp [toP, PyData.depth, deep]
  | .bl _ => by simp [toP, PyData.depth, deep]
  | .int _ => by simp [toP, PyData.depth, deep]
  | .str _ => by simp [toP, PyData.depth, deep]
  | .tup xs => by simp only [toP, PyData.depth, deep]; exact Nat.succ_le_succ (deeps_toPs xs)
  | .lst xs => by simp only [toP, PyData.depth, deep]; exact Nat.succ_le_succ (deeps_toPs xs)
  | .stl xs => by simp only [toP, PyData.depth, deep]; exact Nat.succ_le_succ (deeps_toPs xs)
  | .stp xs => by simp only [toP, PyData.depth, deep]; exact Nat.succ_le_succ (deeps_toPs xs)
  | .dic _ _ => by simp [toP, PyData.depth, PyData.depthKv, deep]
  | .ins _ _ => by simp [toP, PyData.depth, PyData.depthKv, deep]
  | .ref _ => by simp [toP, PyData.depth, PyData.depthKv, deep]
  | .exn _ _ _ _ => by simp [toP, PyData.depth, PyData.depthKv, deep]
theorem deeps_toPs : ∀ ds : List D, PyData.depthAll (toPs ds) ≤ deeps ds
  | [] => by simp [toPs, PyData.depthAll, deeps]
  | d :: ds => by
    have h1 := deep_toP d
    have h2 := deeps_toPs ds
    simp only [toPs, PyData.depthAll, deeps]
    omega
end
theorem LkO.dp {a : Addr} (h : isData x = true) (l : LkO K cl Hd H a x) : Dp K H (.ref a) (toP x) ∧ (toP x).canLay0 = true := by
  cases l with
  | @lst xs ds e z r =>
    have h' : areData ds = true := by simpa [isData] using h
    simp only [toP, PyData.canLay0]
    exact ⟨.lst (SqL.of e) (r.dp h'), r.lay h'⟩
  | dicK _ _ _ => simp [isData] at h
  | dicT _ _ _ => simp [isData] at h
  | ins _ _ _ => simp [isData] at h
theorem Cont.dp (h : isData x = true) (c : Cont K cl Hd H v x) : Dp K H v (toP x) ∧ (toP x).canLay0 = true := by
  cases c with
  | rep r => exact ⟨r.dp h, r.lay h⟩
  | obj e l => exact l.dp h
end
/-! ### binary operators -/
def r2D (K : PySem.W.Frag) (cl : Str → Option Addr) (f : D → D → DH → DK → Prop) : R2 := fun v u H Q => ∃ x y Hd Qd, Lk K cl Hd H ∧ Cont K cl Hd H v x ∧ Cont K cl Hd H u y ∧ f x y Hd Qd ∧ ∀ v' H', LQ K cl Hd H Qd v' H' → Q v' H'
section
variable {cl : Str → Option Addr} {X : Cx} {K : PySem.W.Frag} {Hd : DH} {H : Hp}
theorem alc_ok {m : Bool} {o : D} {ho : HO} {Qd : DK} {Q : VK} (lk : Lk K cl Hd H) (h : alc m o Hd Qd)
    (mk : ∀ Hd' H' p, Ext Hd H Hd' H' → H' p = some ho → LkO K cl Hd' H' p o) (fin : ∀ v' H', LQ K cl Hd H Qd v' H' → Q v' H') : ∀ p, H p = none → Q (.ref p) (upd H p ho) := by
  intro p hp
  cases m with
  | false =>
    have h' : Qd o Hd := h
    refine fin _ _ ⟨o, Hd, Ext.new hp, lk.new hp, ?_, h'⟩
    exact (mk Hd (upd H p ho) p (Ext.new hp) upd_same).rep (Ext.refl _ _) rfl (lk.free hp)
  | true =>
    have h' : ∀ p, Hd p = none → Qd (.ref p) (dupd Hd p o) := h
    exact fin _ _ ⟨.ref p, _, Ext.newD hp, lk.newD hp (mk _ _ p (Ext.newD hp) upd_same), .ref p, h' p (lk.free hp)⟩
theorem tup_ok {o : List D} {xs : List V} {Qd : DK} {Q : VK} (lk : Lk K cl Hd H) (h : Qd (.tup o) Hd) (z : xs.length ≤ sizeLine) (r : Reps K cl Hd H xs o) (fin : ∀ v' H', LQ K cl Hd H Qd v' H' → Q v' H') : ∀ p, H p = none → Q (.ref p) (upd H p (.tup xs)) := fun p hp =>
  fin _ _ ⟨.tup o, Hd, Ext.new hp, lk.new hp, .tup upd_same (lk.free hp) z (r.mono (Ext.new hp)), h⟩
theorem strOk_app {a b : Str} (h1 : PyData.strOk a = true) (h2 : PyData.strOk b = true) : PyData.strOk (a ++ b) = true := by
  show Array.all (a.cps ++ b.cps) _ = true
  rw [Array.all_append, Bool.and_eq_true]
  exact ⟨h1, h2⟩
theorem length_app (a b : Str) : (a ++ b).length = a.length + b.length := by
  show (a.cps ++ b.cps).size = _
  rw [Array.size_append]; rfl
theorem op_addD {m : Bool} : OpR X (binaryOp .Add) (r2D X.K cl (addD m)) := by
  rintro pins s σ H v u vv uu Q I rv ru ⟨x, y, Hd, Qd, lk, cx, cy, q, fin⟩
  cases x <;> cases y <;> try exact False.elim q
  · rename_i i j
    obtain rfl := cx.int; obtain rfl := cy.int
    exact op_add pins s σ H _ _ vv uu Q I rv ru ⟨i, j, rfl, rfl, fin _ _ (LQ.here lk (.int _) q)⟩
  · rename_i a b
    obtain ⟨rfl, z1, k1⟩ := cx.str; obtain ⟨rfl, z2, k2⟩ := cy.str
    obtain ⟨z, q⟩ : _ ∧ _ := q
    exact op_add_str pins s σ H _ _ vv uu Q I rv ru ⟨a, b, rfl, rfl, z, fin _ _ (LQ.here lk (.str (by rw [length_app]; exact z) (strOk_app k1 k2)) q)⟩
  · obtain ⟨a, xs, rfl, ea, na, za, ra⟩ := cx.tup
    obtain ⟨b, ys, rfl, eb, nb, zb, rb⟩ := cy.tup
    obtain ⟨z, q⟩ : _ ∧ _ := q
    have z' : xs.length + ys.length ≤ sizeLine := by rw [ra.length, rb.length]; exact z
    refine op_catA pins s σ H _ _ vv uu Q I rv ru ⟨a, b, xs, ys, rfl, rfl, SqT.of ea, SqT.of eb, z', fun e => ?_, fun _ e => ?_, fun _ _ => ?_⟩
    · subst e
      cases ra
      exact fin _ _ (LQ.here lk (.tup eb nb zb rb) q)
    · subst e
      cases rb
      rw [List.append_nil] at q
      exact fin _ _ (LQ.here lk (.tup ea na za ra) q)
    · exact tup_ok lk q (by rw [List.length_append]; exact z') (ra.append rb) fin
  · obtain ⟨a, xs, rfl, ea, za, ra⟩ := cx.lst
    obtain ⟨b, ys, rfl, eb, zb, rb⟩ := cy.lst
    obtain ⟨z, q⟩ : _ ∧ _ := q
    have z' : xs.length + ys.length ≤ sizeLine := by rw [ra.length, rb.length]; exact z
    exact op_cat pins s σ H _ _ vv uu Q I rv ru ⟨a, b, xs, ys, rfl, rfl, ea, eb, z', alc_ok lk q (fun Hd' H' p x e => .lst e (by rw [List.length_append]; exact z') ((ra.append rb).mono x)) fin⟩
theorem rep_arr (a : Array Nat) : ∀ (n : Nat) (acc : Array Nat), ((List.replicate n a).foldl (· ++ ·) acc).toList = acc.toList ++ (List.replicate n a.toList).flatten
  | 0, acc => by simp
  | n + 1, acc => by
    rw [List.replicate_succ, List.foldl_cons, rep_arr a n, List.replicate_succ, List.flatten_cons, Array.toList_append, List.append_assoc]
theorem repS_list (s : Str) (n : Nat) : (repS s n).cps.toList = (List.replicate n s.cps.toList).flatten := by
  unfold repS
  rw [rep_arr]
  simp
theorem repS_len (s : Str) (n : Nat) : (repS s n).length = n * s.length := by
  show (repS s n).cps.size = _
  rw [← Array.length_toList, repS_list]
  simp [Str.length]
theorem repS_ok {s : Str} {n : Nat} (h : PyData.strOk s = true) : PyData.strOk (repS s n) = true := by
  unfold PyData.strOk at *
  rw [← Array.all_toList] at h ⊢
  rw [repS_list, List.all_eq_true]
  intro x hx
  obtain ⟨l, hl, hx⟩ := List.mem_flatten.mp hx
  rw [(List.mem_replicate.mp hl).2] at hx
  exact List.all_eq_true.mp h x hx
theorem op_mulS : OpR X (binaryOp .Mult) (fun x y H Q => ∃ (s : Str) (k : Int), x = .str s ∧ y = .int k ∧ 1 ≤ s.length ∧ s.length ≤ 1000 ∧ 2 ≤ k ∧ k ≤ 1000 ∧ Q (.str (repS s k.toNat)) H) := by
  intro pins s σ H x y v u Q I rx ry h
  obtain ⟨z, k, rfl, rfl, h1, h2, h3, h4, q⟩ := h
  obtain ⟨t, rfl⟩ := rx
  obtain ⟨t', rfl⟩ := ry
  have hk : z.length * k.toNat ≤ 1000 * 1000 := Nat.mul_le_mul h2 (by omega)
  have h5 : (1000 * 1000 : Nat) ≤ sizeLine := by decide
  refine PySem.P.mul_str ?_ (fun _ _ => ?_) (fun _ _ => ?_) ?_
  · rw [decide_eq_false (by omega), decide_eq_false (by omega)] <;> rfl
  · have : (1000 : Int) ≤ (2 ^ 63 - 1) / k := Int.le_ediv_of_mul_le (by omega) (by omega)
    omega
  · unfold Builtin.Str.tooLong
    exact decide_eq_false (by omega)
  · have c1 : (k == 1 || z.length == 0) = false := by
      rw [Bool.or_eq_false_iff]
      exact ⟨beq_eq_false_iff_ne.mpr (by omega), beq_eq_false_iff_ne.mpr (by omega)⟩
    rw [if_neg (by omega), if_neg (by rw [c1]; simp)]
    refine ⟨?_, ⟨.str (repS z k.toNat), H, I.tok _, ⟨_, rfl⟩, q⟩⟩
    have := repS_len z k.toNat
    rw [Nat.mul_comm] at this
    show (repS z k.toNat).length ≤ sizeLine
    omega
theorem op_mulD {m : Bool} : OpR X (binaryOp .Mult) (r2D X.K cl (mulD m)) := by
  rintro pins s σ H v u vv uu Q I rv ru ⟨x, y, Hd, Qd, lk, cx, cy, q, fin⟩
  cases x <;> cases y <;> try exact False.elim q
  · rename_i i j
    obtain rfl := cx.int; obtain rfl := cy.int
    obtain ⟨z, q⟩ : _ ∧ _ := q
    exact op_mul pins s σ H _ _ vv uu Q I rv ru ⟨i, j, rfl, rfl, z, fin _ _ (LQ.here lk (.int _) q)⟩
  · rename_i a k
    obtain ⟨rfl, z1, k1⟩ := cx.str
    obtain rfl := cy.int
    obtain ⟨h1, h2, h3, h4, q⟩ : _ ∧ _ ∧ _ ∧ _ ∧ _ := q
    have hk : k.toNat * a.length ≤ 1000 * 1000 := Nat.mul_le_mul (by omega) h2
    have h5 : (1000 * 1000 : Nat) ≤ sizeLine := by decide
    exact op_mulS pins s σ H _ _ vv uu Q I rv ru ⟨a, k, rfl, rfl, h1, h2, h3, h4, fin _ _ (LQ.here lk (.str (by rw [repS_len]; omega) (repS_ok k1)) q)⟩
  · rename_i ds k
    obtain ⟨a, xs, rfl, ea, na, za, ra⟩ := cx.tup
    obtain rfl := cy.int
    obtain ⟨k0, k1, k2, z, q⟩ : _ ∧ _ ∧ _ ∧ _ ∧ _ := q
    have hl := ra.length
    have hne : xs ≠ [] := fun e => by subst e; simp at hl; exact k0 (List.length_eq_zero_iff.mp hl.symm)
    refine op_repT pins s σ H _ _ vv uu Q I rv ru ⟨a, k, xs, rfl, rfl, SqT.of ea, hne, k1, k2, by omega, ?_⟩
    refine tup_ok lk q ?_ (ra.flat _) fin
    have h1 : k.toNat ≤ 1000 := by omega
    have h2 : xs.length ≤ 1000 := by omega
    have h3 : k.toNat * xs.length ≤ 1000 * 1000 := Nat.mul_le_mul h1 h2
    have h4 : (1000 * 1000 : Nat) ≤ sizeLine := by decide
    simp
    omega
  · rename_i ds k
    obtain ⟨a, xs, rfl, ea, za, ra⟩ := cx.lst
    obtain rfl := cy.int
    obtain ⟨k0, k1, z, q⟩ : _ ∧ _ ∧ _ ∧ _ := q
    have z' : xs.length * k.toNat ≤ sizeLine := by rw [ra.length]; exact z
    refine op_rep pins s σ H _ _ vv uu Q I rv ru ⟨a, k, xs, rfl, rfl, ea, by omega, k1, z', ?_⟩
    exact alc_ok lk q (fun Hd' H' p x e => .lst e (by simp; rw [Nat.mul_comm]; exact z') ((ra.flat _).mono x)) fin
def opOf : BOp → Operator
  | .add => .Add | .sub => .Sub | .mul => .Mult | .div => .FloorDiv | .mod => .Mod | .pow => .Pow
theorem op_binD {o : BOp} {m : Bool} : OpR X (binaryOp (opOf o)) (r2D X.K cl (binD o m)) := by
  cases o with
  | add => exact op_addD
  | mul => exact op_mulD
  | sub =>
    rintro pins s σ H v u vv uu Q I rv ru ⟨x, y, Hd, Qd, lk, cx, cy, q, fin⟩
    cases x <;> cases y <;> try exact False.elim q
    obtain rfl := cx.int; obtain rfl := cy.int
    exact op_sub pins s σ H _ _ vv uu Q I rv ru ⟨_, _, rfl, rfl, fin _ _ (LQ.here lk (.int _) q)⟩
  | div =>
    rintro pins s σ H v u vv uu Q I rv ru ⟨x, y, Hd, Qd, lk, cx, cy, q, fin⟩
    cases x <;> cases y <;> try exact False.elim q
    obtain rfl := cx.int; obtain rfl := cy.int
    obtain ⟨z, q⟩ : _ ∧ _ := q
    exact op_fdiv pins s σ H _ _ vv uu Q I rv ru ⟨_, _, rfl, rfl, z, fin _ _ (LQ.here lk (.int _) q)⟩
  | mod =>
    rintro pins s σ H v u vv uu Q I rv ru ⟨x, y, Hd, Qd, lk, cx, cy, q, fin⟩
    cases x <;> cases y <;> try exact False.elim q
    obtain rfl := cx.int; obtain rfl := cy.int
    obtain ⟨z, q⟩ : _ ∧ _ := q
    exact op_mod pins s σ H _ _ vv uu Q I rv ru ⟨_, _, rfl, rfl, z, fin _ _ (LQ.here lk (.int _) q)⟩
  | pow =>
    rintro pins s σ H v u vv uu Q I rv ru ⟨x, y, Hd, Qd, lk, cx, cy, q, fin⟩
    cases x <;> cases y <;> try exact False.elim q
    obtain rfl := cx.int; obtain rfl := cy.int
    obtain ⟨z, q⟩ : _ ∧ _ := q
    exact op_pow pins s σ H _ _ vv uu Q I rv ru ⟨_, _, rfl, rfl, z, fin _ _ (LQ.here lk (.int _) q)⟩
end
end DL

set_option maxRecDepth 100000
namespace DL
open PySem L2

/-! ### comparisons -/
def c2D (K : PySem.W.Frag) (cl : Str → Option Addr) (f : D → D → (Bool → Prop) → Prop) : R2 := fun v u H Q => ∃ x y Hd Qd, Lk K cl Hd H ∧ Cont K cl Hd H v x ∧ Cont K cl Hd H u y ∧ f x y Qd ∧ ∀ b, Qd b → Q (.bl b) H
theorem lexAt_shift (e r : Nat → Bool) (z : Bool) : ∀ (k i : Nat), Ob.lexAt e r z (i + 1) k = Ob.lexAt (fun j => e (j + 1)) (fun j => r (j + 1)) z i k
  | 0, i => rfl
  | k + 1, i => by rw [Ob.lexAt_succ, Ob.lexAt_succ, lexAt_shift e r z k (i + 1)]
theorem lexAt_le : ∀ ns ms : List Int, Ob.lexAt (fun j => decide (ns.getD j 0 = ms.getD j 0)) (fun j => decide (ns.getD j 0 ≤ ms.getD j 0)) (decide (ns.length ≤ ms.length)) 0 (min ns.length ms.length) = leI ns ms
  | [], ms => by simp [leI, Ob.lexAt]
  | n :: ns, [] => by simp [leI, Ob.lexAt]
  | n :: ns, m :: ms => by
    rw [show min (n :: ns).length (m :: ms).length = min ns.length ms.length + 1 by simp only [List.length_cons]; omega, Ob.lexAt_succ, lexAt_shift]
    unfold leI
    have ih := lexAt_le ns ms
    simp only [List.getD_cons_succ, List.getD_cons_zero, List.length_cons, Nat.add_le_add_iff_right, decide_eq_true_eq] at ih ⊢
    rw [ih]
theorem lexAt_gt : ∀ ns ms : List Int, Ob.lexAt (fun j => decide (ns.getD j 0 = ms.getD j 0)) (fun j => decide (ms.getD j 0 < ns.getD j 0)) (decide (ns.length > ms.length)) 0 (min ns.length ms.length) = ltI ms ns
  | [], [] => by simp [ltI, Ob.lexAt]
  | [], m :: ms => by simp [ltI, Ob.lexAt]
  | n :: ns, [] => by simp [ltI, Ob.lexAt]
  | n :: ns, m :: ms => by
    rw [show min (n :: ns).length (m :: ms).length = min ns.length ms.length + 1 by simp only [List.length_cons]; omega, Ob.lexAt_succ, lexAt_shift]
    unfold ltI
    have ih := lexAt_gt ns ms
    simp only [List.getD_cons_succ, List.getD_cons_zero, List.length_cons, gt_iff_lt, Nat.add_lt_add_iff_right, decide_eq_true_eq] at ih ⊢
    rw [ih]
    by_cases e : n = m
    · rw [if_pos e, if_pos e.symm]
    · rw [if_neg e, if_neg (fun z => e z.symm)]
section
variable {cl : Str → Option Addr} {X : Cx} {K : PySem.W.Frag} {Hd : DH} {H : Hp}
theorem toIs_reps : ∀ {vs : List V} {ds : List D} {ns : List Int}, Reps K cl Hd H vs ds → toIs ds = some ns → vs = ns.map V.int
  | _, _, _, .nil, e => by cases e; rfl
  | _, d :: ds, ns, .cons r t, e => by
    cases d <;> simp only [toIs] at e <;> try cases e
    cases h : toIs ds with
    | none => rw [h] at e; cases e
    | some ms =>
      rw [h] at e; cases e
      cases r
      rw [toIs_reps t h]; rfl
theorem reads_of {pins : List (Addr × Obj)} {σ : St} {s : Shared} {x : D} {v : V} {u : Value} (I : Inv X pins σ H s) (h : isData x = true) (c : Cont X.K cl Hd H v x) (r : RelV v u) : (∃ as, Reads s.heap u (toP x) as) ∧ (toP x).canLay0 = true :=
  ⟨Dp.reads I _ _ _ (c.dp h).1 r, (c.dp h).2⟩
theorem room_min {A : Around} {x y : D} (hu : A.units + 64 < cLine) (h : shallow x y) : A.units + min (toP x).depth (toP y).depth < cLine := by
  have h1 := deep_toP x
  have h2 := deep_toP y
  rcases h with h | h <;> omega
theorem op_eqM (hu : X.A.units + 64 < cLine) : OpR X (compareOp .Eq) (c2D X.K cl eqD) := by
  rintro pins s σ H v u vv uu Q I rv ru ⟨x, y, Hd, Qd, lk, cx, cy, ⟨hx, hy, hs, q⟩, fin⟩
  obtain ⟨⟨as, r1⟩, l1⟩ := reads_of I hx cx rv
  obtain ⟨⟨bs, r2⟩, l2⟩ := reads_of I hy cy ru
  exact SeqAt.compareEq_reads r1 r2 l1 l2 (room_min hu hs) ⟨.bl _, H, I, rfl, fin _ q⟩
theorem op_neM (hu : X.A.units + 64 < cLine) : OpR X (compareOp .NotEq) (c2D X.K cl fun x y Q => eqD x y fun b => Q (!b)) := by
  rintro pins s σ H v u vv uu Q I rv ru ⟨x, y, Hd, Qd, lk, cx, cy, ⟨hx, hy, hs, q⟩, fin⟩
  obtain ⟨⟨as, r1⟩, l1⟩ := reads_of I hx cx rv
  obtain ⟨⟨bs, r2⟩, l2⟩ := reads_of I hy cy ru
  exact SeqAt.compareNe_reads r1 r2 l1 l2 (room_min hu hs) ⟨.bl _, H, I, rfl, fin _ q⟩
theorem op_ltM (hu : X.A.units + 64 < cLine) : OpR X (compareOp .Lt) (c2D X.K cl ltD) := by
  rintro pins s σ H v u vv uu Q I rv ru ⟨x, y, Hd, Qd, lk, cx, cy, q, fin⟩
  have gen : (isData x = true ∧ isData y = true ∧ dalike x y = true ∧ (deep x ≤ 60 ∨ deep y ≤ 60) ∧ (toP x ≠ .none) ∧ Qd (dlt x y)) → wpAny (model X.prog X.w) X.A (compareOp .Lt vv uu) (EP X pins σ Q) X.xe s := by
    rintro ⟨hx, hy, ha, hs, hn, q⟩
    obtain ⟨⟨as, r1⟩, l1⟩ := reads_of I hx cx rv
    obtain ⟨⟨bs, r2⟩, l2⟩ := reads_of I hy cy ru
    have R := PySem.W.rcLt_alike (toP x) (toP y) X.A s vv uu as bs r1 r2 ha hn (room_min hu hs)
    exact R X.prog X.w X.xe (EP X pins σ Q) ⟨.bl _, H, I, rfl, fin _ q⟩
  cases x with
  | int i =>
    cases y with
    | int j =>
      obtain rfl := cx.int; obtain rfl := cy.int
      exact op_lt pins s σ H _ _ vv uu Q I rv ru ⟨i, j, rfl, rfl, fin _ q⟩
    | _ => exact gen q
  | _ => exact gen q
theorem op_leM (hu : X.A.units + 64 < cLine) : OpR X (compareOp .LtE) (c2D X.K cl leD) := by
  rintro pins s σ H v u vv uu Q I rv ru ⟨x, y, Hd, Qd, lk, cx, cy, q, fin⟩
  cases x <;> cases y <;> try exact False.elim q
  · obtain rfl := cx.int; obtain rfl := cy.int
    exact op_le pins s σ H _ _ vv uu Q I rv ru ⟨_, _, rfl, rfl, fin _ q⟩
  · obtain ⟨rfl, _, _⟩ := cx.str; obtain ⟨rfl, _, _⟩ := cy.str
    exact op_le_str pins s σ H _ _ vv uu Q I rv ru ⟨_, _, rfl, rfl, fin _ q⟩
  · obtain ⟨ns, ms, e1, e2, q⟩ := q
    obtain ⟨a, xs, rfl, ea, na, za, ra⟩ := cx.tup
    obtain ⟨b, ys, rfl, eb, nb, zb, rb⟩ := cy.tup
    have i1 := toIs_reps ra e1
    have i2 := toIs_reps rb e2
    refine op_leT (by omega) pins s σ H _ _ vv uu Q I rv ru ⟨a, b, ns, ms, rfl, rfl, SqT.of (by rw [← i1]; exact ea), SqT.of (by rw [← i2]; exact eb), ?_⟩
    rw [lexAt_le]
    exact fin _ q
theorem op_gtT (hu : X.A.units < cLine) : OpR X (compareOp .Gt) (fun x y H Q => ∃ (a b : Addr) (ns ms : List Int), x = .ref a ∧ y = .ref b ∧ SqT X.K H a (ns.map V.int) ∧ SqT X.K H b (ms.map V.int) ∧ Q (.bl (ltI ms ns)) H) := by
  intro pins s σ H x y v u Q I rx ry h
  obtain ⟨a, b, ns, ms, rfl, rfl, ha, hb, q⟩ := h
  cases rx
  cases ry
  obtain ⟨its, r1, p1, _⟩ := I.tuple ha
  obtain ⟨its2, r2, p2, _⟩ := I.tuple hb
  have i1 : PyProof.Rows.IntsAre its ns := Vals.ints r1
  have i2 : PyProof.Rows.IntsAre its2 ms := Vals.ints r2
  have e1 : its.toArray.size = ns.length := by rw [List.size_toArray]; exact i1.length
  have e2 : its2.toArray.size = ms.length := by rw [List.size_toArray]; exact i2.length
  have at1 : ∀ j (h1 : j < its.toArray.size), ∃ t, its.toArray[j] = .int (ns.getD j 0) t := fun j h1 => PyProof.Rows.IntsAre.int_at i1 _ _ (by simp at h1; simp [h1])
  have at2 : ∀ j (h1 : j < its2.toArray.size), ∃ t, its2.toArray[j] = .int (ms.getD j 0) t := fun j h1 => PyProof.Rows.IntsAre.int_at i2 _ _ (by simp at h1; simp [h1])
  have R := Ob.RcOp.tuples_gt (A := X.A) (s := s) (e := fun j => decide (ns.getD j 0 = ms.getD j 0)) (r := fun j => decide (ms.getD j 0 < ns.getD j 0)) p1 p2 hu (fun j h1 h2 => by
    obtain ⟨t, et⟩ := at1 j h1
    obtain ⟨t', et'⟩ := at2 j h2
    rw [et, et']
    have z : (ns.getD j 0 == ms.getD j 0) = decide (ns.getD j 0 = ms.getD j 0) := by
      by_cases q : ns.getD j 0 = ms.getD j 0
      · rw [decide_eq_true q]; exact beq_iff_eq.mpr q
      · rw [decide_eq_false q]; exact beq_eq_false_iff_ne.mpr q
    rw [← z]
    exact SeqAt.EqAt.int_int _ _ _ _) (fun j h1 h2 _ => by
    obtain ⟨t, et⟩ := at1 j h1
    obtain ⟨t', et'⟩ := at2 j h2
    rw [et, et']
    exact Ob.RcOp.gt_int _ _ _ _)
  rw [e1, e2, lexAt_gt] at R
  have z : wpAny (model X.prog X.w) X.A (compareOp .Gt (.ref a) (.ref b)) (EP X pins σ Q) X.xe s := R X.prog X.w X.xe (EP X pins σ Q) ⟨.bl _, H, I, rfl, q⟩
  exact z
theorem op_gtM (hu : X.A.units + 64 < cLine) : OpR X (compareOp .Gt) (c2D X.K cl gtD) := by
  rintro pins s σ H v u vv uu Q I rv ru ⟨x, y, Hd, Qd, lk, cx, cy, q, fin⟩
  cases x <;> cases y <;> try exact False.elim q
  · obtain rfl := cx.int; obtain rfl := cy.int
    exact op_gt pins s σ H _ _ vv uu Q I rv ru ⟨_, _, rfl, rfl, fin _ q⟩
  · obtain ⟨ns, ms, e1, e2, q⟩ := q
    obtain ⟨a, xs, rfl, ea, na, za, ra⟩ := cx.tup
    obtain ⟨b, ys, rfl, eb, nb, zb, rb⟩ := cy.tup
    have i1 := toIs_reps ra e1
    have i2 := toIs_reps rb e2
    exact op_gtT (by omega) pins s σ H _ _ vv uu Q I rv ru ⟨a, b, ns, ms, rfl, rfl, SqT.of (by rw [← i1]; exact ea), SqT.of (by rw [← i2]; exact eb), fin _ q⟩
theorem rep_not_non {v : V} {x : D} (c : Cont K cl Hd H v x) : decide (v = .non) = isNon x := by
  cases c with
  | rep r => cases r <;> simp [isNon]
  | obj e l => cases l <;> simp [isNon]
theorem is_bl_gen {v : V} {x : D} {vv : Value} (b : Bool) (c : Cont K cl Hd H v x) (rv : RelV v vv) : PySem.plainIs vv (.bool b) = true ∧ (vv == Value.bool b) = isBl b x := by
  cases c with
  | rep r =>
    cases r <;> first
      | (cases rv; refine ⟨rfl, ?_⟩; simp [isBl]; done)
      | (cases rv; refine ⟨rfl, ?_⟩; simp only [isBl]; rw [Bool.eq_iff_iff]; simp; done)
      | (obtain ⟨t, rfl⟩ := rv; refine ⟨rfl, ?_⟩; simp [isBl])
  | obj e l =>
    cases rv
    refine ⟨rfl, ?_⟩
    cases l <;> simp [isBl]
theorem op_isM : OpR X (compareOp .Is) (c2D X.K cl isD) := by
  rintro pins s σ H v u vv uu Q I rv ru ⟨x, y, Hd, Qd, lk, cx, cy, q, fin⟩
  cases y <;> try exact False.elim q
  · obtain rfl := cy.non
    exact op_isN pins s σ H _ _ vv uu Q I rv ru ⟨rfl, by rw [rep_not_non cx]; exact fin _ q⟩
  · rename_i b
    obtain rfl := cy.bl
    cases ru
    obtain ⟨h1, h2⟩ := is_bl_gen b cx rv
    exact wpAny_is_plain h1 ⟨.bl _, H, I, rfl, by rw [h2]; exact fin _ q⟩
theorem op_isnotM : OpR X (compareOp .IsNot) (c2D X.K cl fun x y Q => isD x y fun b => Q (!b)) := by
  rintro pins s σ H v u vv uu Q I rv ru ⟨x, y, Hd, Qd, lk, cx, cy, q, fin⟩
  cases y <;> try exact False.elim q
  · obtain rfl := cy.non
    exact op_notN pins s σ H _ _ vv uu Q I rv ru ⟨rfl, by rw [rep_not_non cx]; exact fin _ q⟩
  · rename_i b
    obtain rfl := cy.bl
    cases ru
    obtain ⟨h1, h2⟩ := is_bl_gen b cx rv
    exact wpAny_isNot_plain h1 ⟨.bl _, H, I, rfl, by rw [h2]; exact fin _ q⟩
end
end DL

set_option maxRecDepth 100000
namespace DL
open PySem L2

/-! ### dicts -/
theorem deq_key (a b : L2.Key) : deq (keyD a) (keyD b) = decide (a = b) := by
  cases a <;> cases b <;> simp only [deq, keyD, toP, PyData.eqv]
  · rw [key_ll]
  · exact (key_lr _ _).symm
  · exact (key_rl _ _).symm
  · rw [key_rr, Bool.eq_iff_iff]; simp
theorem deq_keys : ∀ a b : List L2.Key, deq (.tup (a.map keyD)) (.tup (b.map keyD)) = decide (a = b)
  | [], [] => by simp [deq, toP, toPs, PyData.eqv, PyData.eqvAll]
  | [], b :: bs => by simp [deq, toP, toPs, PyData.eqv, PyData.eqvAll]
  | a :: as, [] => by simp [deq, toP, toPs, PyData.eqv, PyData.eqvAll]
  | a :: as, b :: bs => by
    have h1 := deq_key a b
    have h2 := deq_keys as bs
    simp only [deq, toP, toPs, PyData.eqv, PyData.eqvAll, List.map_cons] at h1 h2 ⊢
    rw [h1, h2]
    by_cases e : a = b
    · subst e; simp
    · simp [e]
theorem isK_key : ∀ {k : D}, isK k = true → ∃ q : L2.Key, k = keyD q
  | .int i, _ => ⟨.inl i, rfl⟩
  | .str s, _ => ⟨.inr s, rfl⟩
theorem isK_keys : ∀ {ks : List D}, ks.all isK = true → ∃ q : List L2.Key, ks = q.map keyD
  | [], _ => ⟨[], rfl⟩
  | k :: ks, h => by
    rw [List.all_cons, Bool.and_eq_true] at h
    obtain ⟨q, e⟩ := isK_key h.1
    obtain ⟨qs, es⟩ := isK_keys h.2
    exact ⟨q :: qs, by rw [e, es]; rfl⟩
theorem isKey_f : ∀ {k : D}, isKey false k = true → ∃ q : L2.Key, k = keyD q
  | .int i, _ => ⟨.inl i, rfl⟩
  | .str s, _ => ⟨.inr s, rfl⟩
  | .non, h => by simp [isKey] at h
  | .bl _, h => by simp [isKey] at h
  | .tup _, h => by simp [isKey] at h
  | .lst _, h => by simp [isKey] at h
  | .stl _, h => by simp [isKey] at h
  | .stp _, h => by simp [isKey] at h
  | .dic _ _, h => by simp [isKey] at h
  | .ins _ _, h => by simp [isKey] at h
  | .ref _, h => by simp [isKey] at h
theorem isKey_t : ∀ {k : D}, isKey true k = true → ∃ q : List L2.Key, k = .tup (q.map keyD)
  | .tup ks, h => by
    obtain ⟨q, e⟩ := isK_keys (show ks.all isK = true from h)
    exact ⟨q, by rw [e]⟩
  | .non, h => by simp [isKey] at h
  | .bl _, h => by simp [isKey] at h
  | .int _, h => by simp [isKey] at h
  | .str _, h => by simp [isKey] at h
  | .lst _, h => by simp [isKey] at h
  | .stl _, h => by simp [isKey] at h
  | .stp _, h => by simp [isKey] at h
  | .dic _ _, h => by simp [isKey] at h
  | .ins _ _, h => by simp [isKey] at h
  | .ref _, h => by simp [isKey] at h
section
variable {K : PySem.W.Frag} {cl : Str → Option Addr} {Hd : DH} {H : Hp}
theorem Rep.key {v : V} {k : L2.Key} (r : Rep K cl Hd H v (keyD k)) : v = kV k := by
  cases k with
  | inl i => cases r; rfl
  | inr s => cases r; rfl
theorem Reps.keys : ∀ {vs : List V} {ks : List L2.Key}, Reps K cl Hd H vs (ks.map keyD) → vs = ks.map kV
  | _, [], .nil => rfl
  | _, k :: ks, .cons r t => by rw [Rep.key r, Reps.keys t]; rfl
theorem Cont.key {v : V} {k : L2.Key} (c : Cont K cl Hd H v (keyD k)) : v = kV k := by
  cases c with
  | rep r => exact r.key
  | obj e l => cases k <;> cases l
theorem Cont.keyT {v : V} {ks : List L2.Key} (c : Cont K cl Hd H v (.tup (ks.map keyD))) : ∃ b, v = .ref b ∧ H b = some (.tup (ks.map kV)) := by
  obtain ⟨b, xs, rfl, e, _, _, r⟩ := c.tup
  exact ⟨b, rfl, by rw [e, r.keys]⟩
/-- two look-ups that agree -/
inductive RepO (K : PySem.W.Frag) (cl : Str → Option Addr) (Hd : DH) (H : Hp) : Option V → Option D → Prop
  | none : RepO K cl Hd H none none
  | some {v : V} {d : D} : Rep K cl Hd H v d → RepO K cl Hd H (some v) (some d)
theorem RepO.isSome {o : Option V} {p : Option D} (r : RepO K cl Hd H o p) : o.isSome = p.isSome := by cases r <;> rfl
theorem dget_cons (kv : D × D) (r : List (D × D)) (k : D) : dget (kv :: r) k = if deq kv.1 k = true then some kv.2 else dget r k := by
  unfold dget
  rw [List.find?_cons]
  cases h : deq kv.1 k <;> simp
theorem RepK.get {k : L2.Key} : ∀ {l : List (L2.Key × V)} {kvs : List (D × D)}, RepK K cl Hd H l kvs → RepO K cl Hd H (valV l k) (dget kvs (keyD k))
  | _, _, .nil => .none
  | _, _, .cons (k := j) r t => by
    rw [dget_cons, deq_key]
    by_cases e : j = k
    · rw [valV_pos (p := (j, _)) e, decide_eq_true e, if_pos rfl]; exact .some r
    · rw [valV_neg (p := (j, _)) e, decide_eq_false e, if_neg Bool.false_ne_true]; exact RepK.get t
theorem RepT.get {k : List L2.Key} : ∀ {l : List (List L2.Key × V)} {kvs : List (D × D)}, RepT K cl Hd H l kvs → RepO K cl Hd H (valV l k) (dget kvs (.tup (k.map keyD)))
  | _, _, .nil => .none
  | _, _, .cons (k := j) r t => by
    rw [dget_cons, deq_keys]
    by_cases e : j = k
    · rw [valV_pos (p := (j, _)) e, decide_eq_true e, if_pos rfl]; exact .some r
    · rw [valV_neg (p := (j, _)) e, decide_eq_false e, if_neg Bool.false_ne_true]; exact RepT.get t
theorem RepK.any {k : L2.Key} : ∀ {l : List (L2.Key × V)} {kvs : List (D × D)}, RepK K cl Hd H l kvs → (l.any fun kv => decide (kv.1 = k)) = kvs.any fun kv => deq kv.1 (keyD k)
  | _, _, .nil => rfl
  | _, _, .cons r t => by rw [List.any_cons, List.any_cons, RepK.any t, deq_key]
theorem RepT.any {k : List L2.Key} : ∀ {l : List (List L2.Key × V)} {kvs : List (D × D)}, RepT K cl Hd H l kvs → (l.any fun kv => decide (kv.1 = k)) = kvs.any fun kv => deq kv.1 (.tup (k.map keyD))
  | _, _, .nil => rfl
  | _, _, .cons r t => by rw [List.any_cons, List.any_cons, RepT.any t, deq_keys]
theorem RepK.repl {k : L2.Key} {v : V} {d : D} (q : Rep K cl Hd H v d) : ∀ {l : List (L2.Key × V)} {kvs : List (D × D)}, RepK K cl Hd H l kvs →
    RepK K cl Hd H (l.map fun kv => if kv.1 = k then (kv.1, v) else kv) (kvs.map fun kv => if deq kv.1 (keyD k) = true then (kv.1, d) else kv)
  | _, _, .nil => .nil
  | _, _, .cons (k := j) r t => by
    rw [List.map_cons, List.map_cons, deq_key]
    by_cases e : j = k
    · rw [if_pos e, decide_eq_true e, if_pos rfl]; exact .cons q (RepK.repl q t)
    · rw [if_neg e, decide_eq_false e, if_neg Bool.false_ne_true]; exact .cons r (RepK.repl q t)
theorem RepT.repl {k : List L2.Key} {v : V} {d : D} (q : Rep K cl Hd H v d) : ∀ {l : List (List L2.Key × V)} {kvs : List (D × D)}, RepT K cl Hd H l kvs →
    RepT K cl Hd H (l.map fun kv => if kv.1 = k then (kv.1, v) else kv) (kvs.map fun kv => if deq kv.1 (.tup (k.map keyD)) = true then (kv.1, d) else kv)
  | _, _, .nil => .nil
  | _, _, .cons (k := j) r t => by
    rw [List.map_cons, List.map_cons, deq_keys]
    by_cases e : j = k
    · rw [if_pos e, decide_eq_true e, if_pos rfl]; exact .cons q (RepT.repl q t)
    · rw [if_neg e, decide_eq_false e, if_neg Bool.false_ne_true]; exact .cons r (RepT.repl q t)
theorem RepK.append : ∀ {l m : List (L2.Key × V)} {a b : List (D × D)}, RepK K cl Hd H l a → RepK K cl Hd H m b → RepK K cl Hd H (l ++ m) (a ++ b)
  | _, _, _, _, .nil, s => s
  | _, _, _, _, .cons r t, s => .cons r (RepK.append t s)
theorem RepT.append : ∀ {l m : List (List L2.Key × V)} {a b : List (D × D)}, RepT K cl Hd H l a → RepT K cl Hd H m b → RepT K cl Hd H (l ++ m) (a ++ b)
  | _, _, _, _, .nil, s => s
  | _, _, _, _, .cons r t, s => .cons r (RepT.append t s)
theorem RepK.put {k : L2.Key} {v : V} {d : D} {l : List (L2.Key × V)} {kvs : List (D × D)} (t : RepK K cl Hd H l kvs) (q : Rep K cl Hd H v d) : RepK K cl Hd H (putK l k v) (dput kvs (keyD k) d) := by
  unfold putK dput
  rw [t.any (k := k)]
  split
  · exact t.repl q
  · exact t.append (.cons q .nil)
theorem RepT.put {k : List L2.Key} {v : V} {d : D} {l : List (List L2.Key × V)} {kvs : List (D × D)} (t : RepT K cl Hd H l kvs) (q : Rep K cl Hd H v d) : RepT K cl Hd H (putK l k v) (dput kvs (.tup (k.map keyD)) d) := by
  unfold putK dput
  rw [t.any (k := k)]
  split
  · exact t.repl q
  · exact t.append (.cons q .nil)
theorem RepK.drop {k : L2.Key} : ∀ {l : List (L2.Key × V)} {kvs : List (D × D)}, RepK K cl Hd H l kvs → RepK K cl Hd H (dropK l k) (ddrop kvs (keyD k))
  | _, _, .nil => .nil
  | _, _, .cons (k := j) r t => by
    have ih := RepK.drop (k := k) t
    unfold dropK ddrop at ih ⊢
    rw [List.filter_cons, List.filter_cons, deq_key]
    by_cases e : j = k
    · simp only [e, decide_true, Bool.not_true, Bool.false_eq_true, if_false, ne_eq, not_true_eq_false, decide_false]; exact ih
    · simp only [e, decide_false, Bool.not_false, if_true, ne_eq, not_false_eq_true, decide_true]; exact .cons r ih
theorem RepK.keysD : ∀ {l : List (L2.Key × V)} {kvs : List (D × D)}, RepK K cl Hd H l kvs → kvs.map (·.1) = l.map fun p => keyD p.1
  | _, _, .nil => rfl
  | _, _, .cons r t => by rw [List.map_cons, List.map_cons, RepK.keysD t]
/-- what a dict holds at a key -/
theorem Cont.dget {v u : V} {t : Bool} {kvs : List (D × D)} {k : D} (c : Cont K cl Hd H v (.dic t kvs)) (h : isKey t k = true) (ck : Cont K cl Hd H u k) : ∃ a o, v = .ref a ∧ DGet H a u o ∧ RepO K cl Hd H o (dget kvs k) ∧ IsD H a := by
  cases t with
  | false =>
    obtain ⟨q, rfl⟩ := isKey_f h
    obtain ⟨a, l, rfl, e, z, r⟩ := c.dicK
    rw [ck.key]
    exact ⟨a, valV l q, rfl, DGet.k e, r.get, .inl ⟨l, .inl e⟩⟩
  | true =>
    obtain ⟨q, rfl⟩ := isKey_t h
    obtain ⟨a, l, rfl, e, z, r⟩ := c.dicT
    obtain ⟨b, rfl, eb⟩ := ck.keyT
    exact ⟨a, valV l q, rfl, DGet.t e eb, r.get, .inr ⟨l, .inl e⟩⟩
end
section
variable {cl : Str → Option Addr} {X : Cx} {K : PySem.W.Frag} {Hd : DH} {H : Hp}
theorem op_inM (hu : X.A.units + 66 < cLine) : OpR X (compareOp .In) (c2D X.K cl inD) := by
  rintro pins s σ H v u vv uu Q I rv ru ⟨x, y, Hd, Qd, lk, cx, cy, q, fin⟩
  have lst : ∀ {ys : List D}, isData x = true → areData ys = true → deep x ≤ 60 → (toP y = .list (toPs ys) ∨ toP y = .tuple (toPs ys)) → isData y = true → Qd (ys.any fun z => deq z x) → wpAny (model X.prog X.w) X.A (compareOp .In vv uu) (EP X pins σ Q) X.xe s := by
    intro ys hx hys hd ey hy q
    obtain ⟨⟨as, r1⟩, l1⟩ := reads_of I hx cx rv
    obtain ⟨⟨bs, r2⟩, l2⟩ := reads_of I hy cy ru
    have hdd := deep_toP x
    have ha : ((toPs ys).any fun z => PyData.eqv z (toP x)) = ys.any fun z => deq z x := by
      clear r2 l2 ey q hys
      induction ys with
      | nil => rfl
      | cons a as ih => rw [toPs, List.any_cons, List.any_cons, ih]; rfl
    have lay : PyData.canLayAll0 (toPs ys) = true := by
      rcases ey with e | e <;> (rw [e] at l2; simpa only [PyData.canLay0] using l2)
    have room : X.A.units + 1 + min (PyData.depthAll (toPs ys)) (toP x).depth < cLine := by omega
    rcases ey with e | e <;> rw [e] at r2
    · exact SeqAt.in_list_reads r2 r1 lay l1 room ⟨.bl _, H, I, rfl, fin _ (by rw [ha]; exact q)⟩
    · exact SeqAt.in_tuple_reads r2 r1 lay l1 room ⟨.bl _, H, I, rfl, fin _ (by rw [ha]; exact q)⟩
  cases y <;> try exact False.elim q
  · obtain ⟨h1, h2, h3, q⟩ := q
    exact lst h1 h2 h3 (.inr (by simp only [toP])) (by simpa only [isData] using h2) q
  · obtain ⟨h1, h2, h3, q⟩ := q
    exact lst h1 h2 h3 (.inl (by simp only [toP])) (by simpa only [isData] using h2) q
  · obtain ⟨h1, h2, h3, q⟩ := q
    exact lst h1 h2 h3 (.inr (by simp only [toP])) (by simpa only [isData] using h2) q
  · obtain ⟨h1, q⟩ := q
    obtain ⟨a, o, rfl, g, ro, _⟩ := cy.dget h1 cx
    cases ru
    exact d_in (by omega) I g rv fun s' I' => ⟨.bl _, H, I', rfl, fin _ (by rw [ro.isSome]; exact q)⟩
theorem op_notinM (hu : X.A.units + 66 < cLine) : OpR X (compareOp .NotIn) (c2D X.K cl fun x y Q => inD x y fun b => Q (!b)) := by
  rintro pins s σ H v u vv uu Q I rv ru ⟨x, y, Hd, Qd, lk, cx, cy, q, fin⟩
  have lst : ∀ {ys : List D}, isData x = true → areData ys = true → deep x ≤ 60 → (toP y = .list (toPs ys) ∨ toP y = .tuple (toPs ys)) → isData y = true → Qd (!(ys.any fun z => deq z x)) → wpAny (model X.prog X.w) X.A (compareOp .NotIn vv uu) (EP X pins σ Q) X.xe s := by
    intro ys hx hys hd ey hy q
    obtain ⟨⟨as, r1⟩, l1⟩ := reads_of I hx cx rv
    obtain ⟨⟨bs, r2⟩, l2⟩ := reads_of I hy cy ru
    have hdd := deep_toP x
    have ha : ((toPs ys).any fun z => PyData.eqv z (toP x)) = ys.any fun z => deq z x := by
      clear r2 l2 ey q hys
      induction ys with
      | nil => rfl
      | cons a as ih => rw [toPs, List.any_cons, List.any_cons, ih]; rfl
    have lay : PyData.canLayAll0 (toPs ys) = true := by
      rcases ey with e | e <;> (rw [e] at l2; simpa only [PyData.canLay0] using l2)
    have room : X.A.units + 1 + min (PyData.depthAll (toPs ys)) (toP x).depth < cLine := by omega
    rcases ey with e | e <;> rw [e] at r2
    · exact SeqAt.notIn_list_reads r2 r1 lay l1 room ⟨.bl _, H, I, rfl, fin _ (by rw [ha]; exact q)⟩
    · exact SeqAt.notIn_tuple_reads r2 r1 lay l1 room ⟨.bl _, H, I, rfl, fin _ (by rw [ha]; exact q)⟩
  cases y <;> try exact False.elim q
  · obtain ⟨h1, h2, h3, q⟩ := q
    exact lst h1 h2 h3 (.inr (by simp only [toP])) (by simpa only [isData] using h2) q
  · obtain ⟨h1, h2, h3, q⟩ := q
    exact lst h1 h2 h3 (.inl (by simp only [toP])) (by simpa only [isData] using h2) q
  · obtain ⟨h1, h2, h3, q⟩ := q
    exact lst h1 h2 h3 (.inr (by simp only [toP])) (by simpa only [isData] using h2) q
  · obtain ⟨h1, q⟩ := q
    obtain ⟨a, o, rfl, g, ro, _⟩ := cy.dget h1 cx
    cases ru
    exact d_notIn (by omega) I g rv fun s' I' => ⟨.bl _, H, I', rfl, fin _ (by rw [ro.isSome]; exact q)⟩
def copOf : COp → CmpOp
  | .eq => .Eq | .ne => .NotEq | .lt => .Lt | .le => .LtE | .gt => .Gt | .ge => .GtE | .isin => .In | .notin => .NotIn | .is => .Is | .isnot => .IsNot
theorem op_cmpD {o : COp} (hu : X.A.units + 66 < cLine) : OpR X (compareOp (copOf o)) (c2D X.K cl (cmpD o)) := by
  cases o with
  | eq => exact op_eqM (by omega)
  | ne => exact op_neM (by omega)
  | lt => exact op_ltM (by omega)
  | le => exact op_leM (by omega)
  | gt => exact op_gtM (by omega)
  | ge =>
    rintro pins s σ H v u vv uu Q I rv ru ⟨x, y, Hd, Qd, lk, cx, cy, q, fin⟩
    cases x <;> cases y <;> try exact False.elim q
    obtain rfl := cx.int; obtain rfl := cy.int
    exact op_ge pins s σ H _ _ vv uu Q I rv ru ⟨_, _, rfl, rfl, fin _ q⟩
  | isin => exact op_inM hu
  | notin => exact op_notinM hu
  | is => exact op_isM
  | isnot => exact op_isnotM

/-! ### items -/
def i2D (K : PySem.W.Frag) (cl : Str → Option Addr) : R2 := fun v u H Q => ∃ x y Hd Qd, Lk K cl Hd H ∧ Cont K cl Hd H v x ∧ Cont K cl Hd H u y ∧ idxD x y Qd ∧ ∀ d v', Rep K cl Hd H v' d → Qd d → Q v' H
theorem Reps.atI {vs : List V} {ds : List D} {i : Int} {d : D} (r : Reps K cl Hd H vs ds) (e : L2.atI ds i = some d) : ∃ v, L2.atI vs i = some v ∧ Rep K cl Hd H v d := by
  unfold L2.atI at e ⊢
  rw [r.length]
  cases h : ixN ds.length i with
  | none => rw [h] at e; cases e
  | some j => rw [h] at e; exact r.get e
theorem ix_D (hu : X.A.units + 1 < cLine) : IxR X (i2D X.K cl) := by
  rintro value slice pins s σ H v u vv uu Q I rv ru ⟨x, y, Hd, Qd, lk, cx, cy, q, fin⟩ hs
  cases x <;> try exact False.elim q
  · rename_i z
    obtain ⟨rfl, hz, ok⟩ := cx.str
    obtain ⟨k, c, rfl, e, q⟩ := q
    obtain rfl := cy.int
    refine ix_str value slice pins s σ H _ _ vv uu Q I rv ru ⟨z, k, c, rfl, rfl, hz, e, fin _ _ (.str (by show 1 ≤ _; decide) ?_) q⟩ hs
    have hc : c ∈ z.cps.toList := by
      unfold L2.atI at e
      cases h : ixN z.cps.toList.length k with
      | none => rw [h] at e; cases e
      | some j => rw [h] at e; exact List.mem_of_getElem? e
    have hk : z.cps.all (· < 0x110000) = true := ok
    rw [← Array.all_toList, List.all_eq_true] at hk
    have := hk c hc
    show Array.all #[c] _ = true
    simpa using this
  · obtain ⟨k, d, rfl, e, q⟩ := q
    obtain ⟨a, xs, rfl, ea, _, za, ra⟩ := cx.tup
    obtain rfl := cy.int
    obtain ⟨w, e2, rw'⟩ := ra.atI e
    exact ix_tup value slice pins s σ H _ _ vv uu Q I rv ru ⟨a, xs, k, w, rfl, rfl, SqT.of ea, e2, fin _ _ rw' q⟩ hs
  · obtain ⟨k, d, rfl, e, q⟩ := q
    obtain ⟨a, xs, rfl, ea, za, ra⟩ := cx.lst
    obtain rfl := cy.int
    obtain ⟨w, e2, rw'⟩ := ra.atI e
    exact ix_list value slice pins s σ H _ _ vv uu Q I rv ru ⟨a, xs, k, w, rfl, rfl, SqL.of ea, e2, fin _ _ rw' q⟩ hs
  · obtain ⟨k, d, rfl, e, q⟩ := q
    obtain ⟨a, xs, rfl, ea, za, ra⟩ := cx.stl
    obtain rfl := cy.int
    obtain ⟨w, e2, rw'⟩ := ra.atI e
    exact ix_list value slice pins s σ H _ _ vv uu Q I rv ru ⟨a, xs, k, w, rfl, rfl, ea, e2, fin _ _ rw' q⟩ hs
  · obtain ⟨k, d, rfl, e, q⟩ := q
    obtain ⟨a, xs, rfl, ea, za, ra⟩ := cx.stp
    obtain rfl := cy.int
    obtain ⟨w, e2, rw'⟩ := ra.atI e
    exact ix_tup value slice pins s σ H _ _ vv uu Q I rv ru ⟨a, xs, k, w, rfl, rfl, ea, e2, fin _ _ rw' q⟩ hs
  · obtain ⟨hk, d, e, q⟩ := q
    obtain ⟨a, o, rfl, g, ro, _⟩ := cx.dget hk cy
    cases rv
    rw [e] at ro
    cases ro with
    | some r =>
      exact PyProof.Rows.tail_any (dict_typeIs I g) PySem.F.slot_dict_getitem.lookup (d_getItem hu I g ru fun w' s3 I3 rw' => ⟨_, H, I3, rw', fin _ _ r q⟩) hs
/-! ### slices -/
theorem Reps.cut {vs : List V} {ds : List D} (r : Reps K cl Hd H vs ds) (lo hi : Option Int) : Reps K cl Hd H (cutV vs lo hi) (dcut ds lo hi) := by
  unfold cutV dcut
  rw [r.length]
  exact (r.drop _).take _
def s2D (K : PySem.W.Frag) (cl : Str → Option Addr) (m : Bool) : V → Option Int → Option Int → Hp → VK → Prop := fun v lo hi H Q => ∃ x Hd Qd, Lk K cl Hd H ∧ Cont K cl Hd H v x ∧ slcD m x lo hi Hd Qd ∧ ∀ v' H', LQ K cl Hd H Qd v' H' → Q v' H'
theorem sl_D {m : Bool} : SlR X (s2D X.K cl m) := by
  rintro pins s σ H v vv vl vu lo hi sl Q I rv hs pl pu ⟨x, Hd, Qd, lk, cx, q, fin⟩
  cases x <;> try exact False.elim q
  · obtain ⟨a, xs, rfl, ea, na, za, ra⟩ := cx.tup
    refine sl_tupA pins s σ H _ vv vl vu lo hi sl Q I rv hs pl pu ⟨a, xs, rfl, SqT.of ea, fun hw => ?_, fun _ => ?_⟩
    · refine fin _ _ (LQ.here lk (.tup ea na za ra) ?_)
      have e : ∀ ds : List D, ds.length = xs.length → dcut ds lo hi = ds := fun ds h => by
        unfold dcut
        rw [h, hw.1, hw.2, List.drop_zero, Nat.sub_zero, ← h, List.take_length]
      have q' : Qd (.tup (dcut _ lo hi)) Hd := q
      rw [e _ ra.length.symm] at q'
      exact q'
    · exact tup_ok lk q (Nat.le_trans (cutV_length xs lo hi) za) (ra.cut lo hi) fin
  · obtain ⟨a, xs, rfl, ea, za, ra⟩ := cx.lst
    exact sl_list pins s σ H _ vv vl vu lo hi sl Q I rv hs pl pu ⟨a, xs, rfl, SqL.of ea, alc_ok lk q (fun Hd' H' p x e => .lst e (Nat.le_trans (cutV_length xs lo hi) za) ((ra.cut lo hi).mono x)) fin⟩
  · obtain ⟨a, xs, rfl, ea, za, ra⟩ := cx.stl
    exact sl_list pins s σ H _ vv vl vu lo hi sl Q I rv hs pl pu ⟨a, xs, rfl, ea, alc_ok lk q (fun Hd' H' p x e => .lst e (Nat.le_trans (cutV_length xs lo hi) za) ((ra.cut lo hi).mono x)) fin⟩
end
end DL

set_option maxRecDepth 100000
namespace DL
open PySem L2

/-! ### shapes of the syntax -/
def noStar : Expr → Bool
  | .Starred _ _ => false | _ => true
def noSlice : Expr → Bool
  | .Slice _ _ _ _ => false | _ => true
def noSet : Expr → Bool
  | .Set _ _ _ => false | _ => true
def noComp : Expr → Bool
  | .ListComp _ _ _ _ => false | .SetComp _ _ _ _ => false | .DictComp _ _ _ _ _ => false | _ => true
def noSuper : Expr → Bool
  | .Call (.Name id _) [] [] _ => id != "super" | _ => true
theorem star_cons {e : Expr} (h : noStar e = true) (es : List Expr) (env : Env) : starEach (e :: es) env = (false, eval e env) :: starEach es env := by
  cases e <;> first | rfl | (simp [noStar] at h)
theorem star_any : ∀ {es : List Expr}, es.all noStar = true → ∀ (env : Env) (pos : Pos), (backTo pos (starEach es env)).any (·.1) = false
  | [], _, _, _ => rfl
  | e :: es, h, env, pos => by
    rw [List.all_cons, Bool.and_eq_true] at h
    rw [star_cons h.1]
    show (false || (backTo pos (starEach es env)).any (·.1)) = false
    rw [star_any h.2, Bool.or_false]
theorem star_all : ∀ {es : List Expr}, es.all noStar = true → ∀ (env : Env) (pos : Pos), (backTo pos (starEach es env)).all (fun x => !x.1) = true
  | [], _, _, _ => rfl
  | e :: es, h, env, pos => by
    rw [List.all_cons, Bool.and_eq_true] at h
    rw [star_cons h.1]
    show (true && (backTo pos (starEach es env)).all (fun x => !x.1)) = true
    rw [star_all h.2, Bool.and_true]
theorem plainIx_of {b : Expr} (h : noSlice b = true) (o i : Value) : subscripted b false o i = operate [o, i] (getItem o i) := by
  cases b <;> first | rfl | (simp [noSlice] at h)
theorem behind_of {op : CmpOp} {b : Expr} (h : noSet b = true) : behindInMarks op b = false := by
  cases b <;> first | rfl | (simp [noSet] at h)
theorem swaps_of {e : Expr} (h : noComp e = true) (t : Option Expr) (l : Nat) (env : Env) : swapsWith e t l env = pure false := by
  cases e <;> first | rfl | (simp [noComp] at h)
theorem folded_of {e : Expr} (h : noSet e = true) (env : Env) (x : Value) : foldedSetIterable e env x = pure x := by
  cases e <;> first | rfl | (simp [noSet] at h)
theorem base_of {e : Expr} {f : Str} {env : Env} (h : noSuper e = true) : attributeBase e f env (eval e env) = eval e env := by
  unfold attributeBase
  split
  · rename_i id _ pos
    have h' : (id != ("super" : Str)) = true := h
    rw [h', Bool.true_or, Bool.true_or, Bool.true_or, if_pos rfl]
    first | rfl | exact bind_pure _ | done
  · rfl
theorem aug_of {i : Expr} (h : noSlice i = true) (ov iv new : Value) : augStore i ov iv new = (do holding [new, ov, iv] (setItem ov iv new); release [new, ov, iv] []; pure .next) := by
  cases i <;> first | rfl | (simp [noSlice] at h)
theorem last_of {op op' : CmpOp} {b c : Expr} (h : noSet c = true) : lastMarks [op, op'] [b, c] = false := by
  show behindInMarks op' c = false
  exact behind_of h
/-- a method's call, on one line -/
theorem meth_of {o : Expr} {m : Str} {es : List Expr} {apos pos : Pos} {env : Env} (hs : noSuper o = true) (hst : es.all noStar = true) (hl : (apos.endLine == pos.line) = true) (hn : es.length < 30) :
    eval (.Call (.Attribute o m apos) es [] pos) env = (do
      let ov ← eval o env
      standAt apos.atName
      let (f, first) ← holding [ov] (getMethod ov m (do return (← importBound o env).getD true))
      callWith pos f first (backTo pos (starEach es env)) (backToKw pos (keywordEach [] env))) := by
  have e1 : methodCallForm (es.length + ([] : List Keyword).length) (backTo pos (starEach es env)) (backToKw pos (keywordEach [] env)) = true := by
    unfold methodCallForm
    rw [star_all hst]
    show (true && true && decide (es.length + 0 + 0 < 30)) = true
    simpa using hn
  show (do
    let ov ← attributeBase o m env (eval o env)
    standAt apos.atName
    methodCall o m apos pos env ov (es.length + ([] : List Keyword).length) (backTo pos (starEach es env)) (backToKw pos (keywordEach [] env))) = _
  rw [base_of hs]
  congr 1; funext ov
  congr 1; funext _
  unfold methodCall
  rw [e1]
  have e2 : methodCallPos true o env apos pos = pure pos := by
    unfold methodCallPos
    rw [hl]; rfl
  rw [e2]
  rfl
theorem few_of {es : List Expr} {cpos : Pos} {env : Env} (hst : es.all noStar = true) (hn : es.length < 30) :
    ((backTo cpos (starEach es env)).all (fun x => !x.1) && (backToKw cpos (keywordEach [] env)).all (fun x => x.1.isSome)
      && decide (es.length + ([] : List Keyword).length + (if ([] : List Keyword).isEmpty then 0 else 1) < 30)) = true := by
  rw [star_all hst]
  show (true && true && decide (es.length + 0 + 0 < 30)) = true
  simpa using hn
end DL

set_option maxRecDepth 100000
namespace DL
open PySem L2

/-! ### rules for single expressions -/
abbrev DTA := DXS → DSt → DH → (List D → DH → Prop) → Prop
def LA (K : PySem.W.Frag) (cl : Str → Option Addr) (Hd : DH) (H : Hp) (Q : List D → DH → Prop) : List V → Hp → Prop := fun vs H' => ∃ ds Hd', Ext Hd H Hd' H' ∧ Lk K cl Hd' H' ∧ Reps K cl Hd' H' vs ds ∧ Q ds Hd'
def liftA (K : PySem.W.Frag) (cl : Str → Option Addr) (W : WX) (t : DTA) : TA := fun τ H Q => ∃ σ Hd X Qd, RepS K cl Hd H σ τ ∧ Lk K cl Hd H ∧ t X σ Hd Qd ∧
  (∀ cls od τ' H', LX K cl Hd H X cls od τ' H' → W cls od τ' H') ∧ ∀ v H', LA K cl Hd H Qd v H' → Q v H'
def DA (cl : Str → Option Addr) (X : Cx) (es : List Expr) (t : DTA) : Prop := ∀ W, Takes X W → PA X es (liftA X.K cl W t)
/-- a test: a bool -/
def liftT (K : PySem.W.Frag) (cl : Str → Option Addr) (W : WX) (t : DTE) : TT := fun τ H Q => ∃ σ Hd X Q0, ∃ Qd : Bool → DH → Prop, RepS K cl Hd H σ τ ∧ Lk K cl Hd H ∧ t X σ Hd Q0 ∧ (∀ d H1, Q0 d H1 → ∃ b, d = .bl b ∧ Qd b H1) ∧
  (∀ cls od τ' H', LX K cl Hd H X cls od τ' H' → W cls od τ' H') ∧ ∀ b H', (∃ Hd', Ext Hd H Hd' H' ∧ Lk K cl Hd' H' ∧ Qd b Hd') → Q b H'
def DT (cl : Str → Option Addr) (X : Cx) (e : Expr) (t : DTE) : Prop := ∀ W, Takes X W → PT X e (liftT X.K cl W t)
section
variable {cl : Str → Option Addr} {X : Cx} {e a b c : Expr} {es : List Expr} {ta tb tc t : DTE} {pos : Pos}
theorem xmono {K : PySem.W.Frag} {cl : Str → Option Addr} {W : WX} {Hd Hd2 : DH} {H H2 : Hp} {X : DXS} (x : Ext Hd H Hd2 H2) (h : ∀ cls od τ' H', LX K cl Hd H X cls od τ' H' → W cls od τ' H') : ∀ cls od τ' H', LX K cl Hd2 H2 X cls od τ' H' → W cls od τ' H' :=
  fun cls od τ' H' q => h cls od τ' H' (q.pre x)
theorem de_var {i : Nat} {x : Str} (hN : X.N[i]? = some x) (hv : Vis X.env.scope x) (hd : (x == ("__debug__" : Str)) = false) (hcd : (x == ("__classdict__" : Str)) = false) :
    DE cl X (.Name x pos) (fun _ σ H Q => ∃ d, σ[i]? = some (some d) ∧ Q d H) := fun W tk => by
  refine PE.imp (pe_var hN hv hd hcd) ?_
  rintro τ H Q ⟨σ, Hd, Xd, Qd, rs, lk, ⟨d, e, q⟩, hx, fin⟩
  obtain ⟨v, ev, r⟩ := rs.get e
  exact ⟨v, ev, fin _ _ (LQ.here lk r q)⟩
theorem de_const {d : D} {v : V} (h : PE X e (tC v)) (r : ∀ Hd H, Rep X.K cl Hd H v d) : DE cl X e (fun _ _ H Q => Q d H) := fun W tk => by
  refine PE.imp h ?_
  rintro τ H Q ⟨σ, Hd, Xd, Qd, rs, lk, q, hx, fin⟩
  exact fin _ _ (LQ.here lk (r _ _) q)
theorem DE.imp {t u : DTE} (h : DE cl X e t) (i : ∀ Xd σ H Q, u Xd σ H Q → t Xd σ H Q) : DE cl X e u := fun W tk => PE.imp (h W tk) (by
  rintro τ H Q ⟨σ, Hd, Xd, Qd, rs, lk, q, hx, fin⟩
  exact ⟨σ, Hd, Xd, Qd, rs, lk, i _ _ _ _ q, hx, fin⟩)
/-- two in a row -/
theorem lift2 {K : PySem.W.Frag} {W : WX} {τ : St} {H : Hp} {R : V → V → Hp → Prop} {σ : DSt} {Hd : DH} {Xd : DXS} {P : D → D → DH → Prop} (rs : RepS K cl Hd H σ τ) (lk : Lk K cl Hd H)
    (h : ta Xd σ Hd fun x H1 => tb Xd σ H1 fun y H2 => P x y H2) (hx : ∀ cls od τ' H', LX K cl Hd H Xd cls od τ' H' → W cls od τ' H')
    (fin : ∀ v u x y Hd2 H2, Ext Hd H Hd2 H2 → Lk K cl Hd2 H2 → Rep K cl Hd2 H2 v x → Rep K cl Hd2 H2 u y → P x y Hd2 → R v u H2) :
    liftE K cl W ta τ H fun v H1 => liftE K cl W tb τ H1 fun u H2 => R v u H2 :=
  ⟨σ, Hd, Xd, _, rs, lk, h, hx, fun v H1 ⟨x, Hd1, e1, lk1, r1, q1⟩ => ⟨σ, Hd1, Xd, _, rs.mono e1, lk1, q1, xmono e1 hx, fun u H2 ⟨y, Hd2, e2, lk2, r2, q2⟩ =>
    fin v u x y Hd2 H2 (e1.trans e2) lk2 (r1.mono e2) r2 q2⟩⟩
theorem de_bin {o : BOp} {m : Bool} (ha : DE cl X a ta) (hb : DE cl X b tb) : DE cl X (.BinOp a (opOf o) b pos) (fun Xd σ H Q => ta Xd σ H fun x H1 => tb Xd σ H1 fun y H2 => binD o m (rd H2 x) (rd H2 y) H2 Q) := fun W tk => by
  refine PE.imp (pe_op (op_binD (cl := cl) (o := o) (m := m)) (ha W tk) (hb W tk)) ?_
  rintro τ H Q ⟨σ, Hd, Xd, Qd, rs, lk, q, hx, fin⟩
  exact lift2 rs lk q hx fun v u x y Hd2 H2 e lk2 r1 r2 p => ⟨_, _, Hd2, Qd, lk2, r1.cont lk2, r2.cont lk2, p, fun v' H' h => fin v' H' (h.pre e)⟩
theorem de_cmp {o : COp} (hu : X.A.units + 66 < cLine) (ha : DE cl X a ta) (hb : DE cl X b tb) (hs : noSet b = true) : DE cl X (.Compare a [copOf o] [b] pos) (fun Xd σ H Q => ta Xd σ H fun x H1 => tb Xd σ H1 fun y H2 => cmpD o (rd H2 x) (rd H2 y) fun c => Q (.bl c) H2) := fun W tk => by
  refine PE.imp (pe_cmpR (op_cmpD (cl := cl) (o := o) hu) (ha W tk) (hb W tk) (behind_of hs)) ?_
  rintro τ H Q ⟨σ, Hd, Xd, Qd, rs, lk, q, hx, fin⟩
  exact lift2 rs lk q hx fun v u x y Hd2 H2 e lk2 r1 r2 p => ⟨_, _, Hd2, _, lk2, r1.cont lk2, r2.cont lk2, p, fun c h => fin _ _ ⟨.bl c, Hd2, e, lk2, .bl c, h⟩⟩
theorem dt_cmp {o : COp} (hu : X.A.units + 66 < cLine) (ha : DE cl X a ta) (hb : DE cl X b tb) (hs : noSet b = true) : DT cl X (.Compare a [copOf o] [b] pos) (fun Xd σ H Q => ta Xd σ H fun x H1 => tb Xd σ H1 fun y H2 => cmpD o (rd H2 x) (rd H2 y) fun c => Q (.bl c) H2) := fun W tk => by
  refine PT.imp (pt_cmpR (op_cmpD (cl := cl) (o := o) hu) (ha W tk) (hb W tk) (behind_of hs)) ?_
  rintro τ H Q ⟨σ, Hd, Xd, Q0, Qd, rs, lk, q, hq, hx, fin⟩
  refine lift2 rs lk q hx fun v u x y Hd2 H2 e lk2 r1 r2 p => ⟨_, _, Hd2, _, lk2, r1.cont lk2, r2.cont lk2, p, fun c h => ?_⟩
  obtain ⟨b, e1, h⟩ := hq _ _ h
  cases e1
  exact ⟨c, rfl, fin _ _ ⟨Hd2, e, lk2, h⟩⟩
theorem chn_core {o o' : COp} {K : PySem.W.Frag} {W : WX} {τ : St} {H : Hp} {Q : VK} {σ : DSt} {Hd : DH} {Xd : DXS} {Qd : DK} (rs : RepS K cl Hd H σ τ) (lk : Lk K cl Hd H)
    (q : ta Xd σ Hd fun x H1 => tb Xd σ H1 fun y H2 => cmpD o (rd H2 x) (rd H2 y) fun k => if k = true then tc Xd σ H2 fun z H3 => cmpD o' (rd H3 y) (rd H3 z) fun k => Qd (.bl k) H3 else Qd (.bl false) H2)
    (hx : ∀ cls od τ' H', LX K cl Hd H Xd cls od τ' H' → W cls od τ' H') (fin : ∀ v H', LQ K cl Hd H Qd v H' → Q v H') :
    tChain (c2D K cl (cmpD o)) (c2D K cl (cmpD o')) (liftE K cl W ta) (liftE K cl W tb) (liftE K cl W tc) τ H Q := by
  refine lift2 rs lk q hx fun v u x y Hd2 H2 e lk2 r1 r2 p => ⟨_, _, Hd2, _, lk2, r1.cont lk2, r2.cont lk2, p, fun k h => ⟨k, rfl, ?_⟩⟩
  cases k with
  | false => exact fin _ _ ⟨.bl false, Hd2, e, lk2, .bl false, h⟩
  | true =>
    refine ⟨σ, Hd2, Xd, _, rs.mono e, lk2, h, xmono e hx, fun w H3 ⟨z, Hd3, e3, lk3, r3, q3⟩ => ?_⟩
    exact ⟨_, _, Hd3, _, lk3, (r2.mono e3).cont lk3, r3.cont lk3, q3, fun k h => fin _ _ ⟨.bl k, Hd3, e.trans e3, lk3, .bl k, h⟩⟩
theorem de_chn {o o' : COp} (hu : X.A.units + 66 < cLine) (ha : DE cl X a ta) (hb : DE cl X b tb) (hc : DE cl X c tc) (hs : noSet c = true) :
    DE cl X (.Compare a [copOf o, copOf o'] [b, c] pos) (fun Xd σ H Q => ta Xd σ H fun x H1 => tb Xd σ H1 fun y H2 => cmpD o (rd H2 x) (rd H2 y) fun k =>
      if k = true then tc Xd σ H2 fun z H3 => cmpD o' (rd H3 y) (rd H3 z) fun k => Q (.bl k) H3 else Q (.bl false) H2) := fun W tk => by
  refine PE.imp (pe_chain (op_cmpD (cl := cl) (o := o) hu) (op_cmpD (cl := cl) (o := o') hu) (ha W tk) (hb W tk) (hc W tk) (last_of hs)) ?_
  rintro τ H Q ⟨σ, Hd, Xd, Qd, rs, lk, q, hx, fin⟩
  exact chn_core rs lk q hx fin
theorem dt_chn {o o' : COp} (hu : X.A.units + 66 < cLine) (ha : DE cl X a ta) (hb : DE cl X b tb) (hc : DE cl X c tc) (hs : noSet c = true) :
    DT cl X (.Compare a [copOf o, copOf o'] [b, c] pos) (fun Xd σ H Q => ta Xd σ H fun x H1 => tb Xd σ H1 fun y H2 => cmpD o (rd H2 x) (rd H2 y) fun k =>
      if k = true then tc Xd σ H2 fun z H3 => cmpD o' (rd H3 y) (rd H3 z) fun k => Q (.bl k) H3 else Q (.bl false) H2) := fun W tk => by
  refine PT.imp (pt_chain (op_cmpD (cl := cl) (o := o) hu) (op_cmpD (cl := cl) (o := o') hu) (ha W tk) (hb W tk) (hc W tk) (last_of hs)) ?_
  rintro τ H Q ⟨σ, Hd, Xd, Q0, Qd, rs, lk, q, hq, hx, fin⟩
  refine chn_core rs lk q hx ?_
  rintro v H' ⟨d, Hd', e, lk', r, h⟩
  obtain ⟨k, ek, h2⟩ := hq _ _ h
  subst ek
  cases r
  exact ⟨k, rfl, fin _ _ ⟨Hd', e, lk', h2⟩⟩
/-! and, or, not, if -/
theorem de_one {op : BoolOp} (h : DE cl X a ta) : DE cl X (.BoolOp op [a] pos) ta := fun W tk => pe_one (h W tk)
theorem de_and {rest : List Expr} (ha : DE cl X a ta) (hb : DE cl X (.BoolOp .And (b :: rest) pos) tb) : DE cl X (.BoolOp .And (a :: b :: rest) pos) (fun Xd σ H Q => ta Xd σ H fun x H1 => ∃ c, x = .bl c ∧ if c = true then tb Xd σ H1 Q else Q (.bl false) H1) := fun W tk => by
  refine PE.imp (pe_and (ha W tk) (hb W tk)) ?_
  rintro τ H Q ⟨σ, Hd, Xd, Qd, rs, lk, q, hx, fin⟩
  refine ⟨σ, Hd, Xd, _, rs, lk, q, hx, ?_⟩
  rintro v H1 ⟨x, Hd1, e1, lk1, r1, c, ec, q1⟩
  subst ec
  cases r1
  refine ⟨c, rfl, ?_⟩
  cases c with
  | true => exact ⟨σ, Hd1, Xd, Qd, rs.mono e1, lk1, q1, xmono e1 hx, fun v' H' h => fin v' H' (h.pre e1)⟩
  | false => exact fin _ _ ⟨.bl false, Hd1, e1, lk1, .bl false, q1⟩
theorem de_or {rest : List Expr} (ha : DE cl X a ta) (hb : DE cl X (.BoolOp .Or (b :: rest) pos) tb) : DE cl X (.BoolOp .Or (a :: b :: rest) pos) (fun Xd σ H Q => ta Xd σ H fun x H1 => ∃ c, x = .bl c ∧ if c = true then Q (.bl true) H1 else tb Xd σ H1 Q) := fun W tk => by
  refine PE.imp (pe_or (ha W tk) (hb W tk)) ?_
  rintro τ H Q ⟨σ, Hd, Xd, Qd, rs, lk, q, hx, fin⟩
  refine ⟨σ, Hd, Xd, _, rs, lk, q, hx, ?_⟩
  rintro v H1 ⟨x, Hd1, e1, lk1, r1, c, ec, q1⟩
  subst ec
  cases r1
  refine ⟨c, rfl, ?_⟩
  cases c with
  | false => exact ⟨σ, Hd1, Xd, Qd, rs.mono e1, lk1, q1, xmono e1 hx, fun v' H' h => fin v' H' (h.pre e1)⟩
  | true => exact fin _ _ ⟨.bl true, Hd1, e1, lk1, .bl true, q1⟩
theorem de_not (ha : DE cl X a ta) : DE cl X (.UnaryOp .Not a pos) (fun Xd σ H Q => ta Xd σ H fun x H1 => ∃ c, x = .bl c ∧ Q (.bl (!c)) H1) := fun W tk => by
  refine PE.imp (pe_not (ha W tk)) ?_
  rintro τ H Q ⟨σ, Hd, Xd, Qd, rs, lk, q, hx, fin⟩
  refine ⟨σ, Hd, Xd, _, rs, lk, q, hx, ?_⟩
  rintro v H1 ⟨x, Hd1, e1, lk1, r1, c, ec, q1⟩
  subst ec
  cases r1
  exact ⟨c, rfl, fin _ _ ⟨_, Hd1, e1, lk1, .bl _, q1⟩⟩
theorem de_neg (ha : DE cl X a ta) : DE cl X (.UnaryOp .USub a pos) (fun Xd σ H Q => ta Xd σ H fun x H1 => ∃ i, x = .int i ∧ Q (.int (-i)) H1) := fun W tk => by
  refine PE.imp (pe_un un_neg (ha W tk)) ?_
  rintro τ H Q ⟨σ, Hd, Xd, Qd, rs, lk, q, hx, fin⟩
  refine ⟨σ, Hd, Xd, _, rs, lk, q, hx, ?_⟩
  rintro v H1 ⟨x, Hd1, e1, lk1, r1, c, ec, q1⟩
  subst ec
  cases r1
  exact ⟨c, rfl, fin _ _ ⟨_, Hd1, e1, lk1, .int _, q1⟩⟩
theorem dt_not (ha : DT cl X a ta) : DT cl X (.UnaryOp .Not a pos) (fun Xd σ H Q => ta Xd σ H fun x H1 => ∃ c, x = .bl c ∧ Q (.bl (!c)) H1) := fun W tk => by
  refine PT.imp (pt_not (ha W tk)) ?_
  rintro τ H Q ⟨σ, Hd, Xd, Q0, Qd, rs, lk, q, hq, hx, fin⟩
  refine ⟨σ, Hd, Xd, _, fun c H1 => Qd (!c) H1, rs, lk, q, ?_, hx, fun c H1 ⟨Hd1, e1, lk1, q1⟩ => fin _ _ ⟨Hd1, e1, lk1, q1⟩⟩
  rintro d H1 ⟨c, ec, h⟩
  obtain ⟨b, e1, h⟩ := hq _ _ h
  cases e1
  exact ⟨c, ec, h⟩
theorem de_ife (hc : DT cl X c tc) (ha : DE cl X a ta) (hb : DE cl X b tb) : DE cl X (.IfExp c a b pos) (fun Xd σ H Q => tc Xd σ H fun x H1 => ∃ k, x = .bl k ∧ if k = true then ta Xd σ H1 Q else tb Xd σ H1 Q) := fun W tk => by
  refine PE.imp (pe_ifExp (hc W tk) (ha W tk) (hb W tk)) ?_
  rintro τ H Q ⟨σ, Hd, Xd, Qd, rs, lk, q, hx, fin⟩
  refine ⟨σ, Hd, Xd, _, fun k H1 => if k = true then ta Xd σ H1 Qd else tb Xd σ H1 Qd, rs, lk, q, fun _ _ h => h, hx, ?_⟩
  rintro k H1 ⟨Hd1, e1, lk1, q1⟩
  cases k with
  | true => exact ⟨σ, Hd1, Xd, Qd, rs.mono e1, lk1, q1, xmono e1 hx, fun v' H' h => fin v' H' (h.pre e1)⟩
  | false => exact ⟨σ, Hd1, Xd, Qd, rs.mono e1, lk1, q1, xmono e1 hx, fun v' H' h => fin v' H' (h.pre e1)⟩
/-- an expression whose test is its value's truth -/
theorem dt_val (h : DE cl X e t) (he : ∀ whole, isTrue e X.env whole = (do let v ← whole; standAt e.pos; holding [v] (truthy v))) : DT cl X e t := fun W tk => by
  refine PT.imp (pt_val (h W tk) he) ?_
  rintro τ H Q ⟨σ, Hd, Xd, Q0, Qd, rs, lk, q, hq, hx, fin⟩
  refine ⟨σ, Hd, Xd, _, rs, lk, q, hx, ?_⟩
  rintro v H1 ⟨x, Hd1, e1, lk1, r1, q1⟩
  obtain ⟨b, ex, q2⟩ := hq _ _ q1
  subst ex
  cases r1
  exact ⟨b, rfl, fin _ _ ⟨Hd1, e1, lk1, q2⟩⟩
def DW (cl : Str → Option Addr) (X : Cx) (e : Expr) (t : DTE) : Prop := ∀ W, Takes X W → PW X e (liftT X.K cl W t)
theorem DW.dt (h : DW cl X e t) : DT cl X e t := fun W tk => (h W tk).pt
theorem PW.imp {X : Cx} {e : Expr} {t u : TT} (h : PW X e t) (i : ∀ σ H Q, u σ H Q → t σ H Q) : PW X e u := ⟨fun wh pins s σ H Q I q => h.run wh pins s σ H Q I (i _ _ _ q)⟩
theorem dw_and1 (ha : DT cl X a ta) : DW cl X (.BoolOp .And [a] pos) ta := fun W tk => pw_and1 (ha W tk)
theorem dw_or1 (ha : DT cl X a ta) : DW cl X (.BoolOp .Or [a] pos) ta := fun W tk => pw_or1 (ha W tk)
theorem dw_and {rest : List Expr} (ha : DT cl X a ta) (hb : DW cl X (.BoolOp .And (b :: rest) pos) tb) : DW cl X (.BoolOp .And (a :: b :: rest) pos) (fun Xd σ H Q => ta Xd σ H fun x H1 => ∃ c, x = .bl c ∧ if c = true then tb Xd σ H1 Q else Q (.bl false) H1) := fun W tk => by
  refine PW.imp (pw_and (ha W tk) (hb W tk)) ?_
  rintro τ H Q ⟨σ, Hd, Xd, Q0, Qd, rs, lk, q, hq, hx, fin⟩
  refine ⟨σ, Hd, Xd, _, fun c H1 => if c = true then tb Xd σ H1 Q0 else Q0 (.bl false) H1, rs, lk, q, fun _ _ h => h, hx, ?_⟩
  rintro c H1 ⟨Hd1, e1, lk1, q1⟩
  cases c with
  | true => exact ⟨σ, Hd1, Xd, Q0, Qd, rs.mono e1, lk1, q1, hq, xmono e1 hx, fun b H' ⟨Hd', e', lk', h⟩ => fin _ _ ⟨Hd', e1.trans e', lk', h⟩⟩
  | false =>
    obtain ⟨b, eb, h⟩ := hq _ _ q1
    cases eb
    exact fin _ _ ⟨Hd1, e1, lk1, h⟩
theorem dw_or {rest : List Expr} (ha : DT cl X a ta) (hb : DW cl X (.BoolOp .Or (b :: rest) pos) tb) : DW cl X (.BoolOp .Or (a :: b :: rest) pos) (fun Xd σ H Q => ta Xd σ H fun x H1 => ∃ c, x = .bl c ∧ if c = true then Q (.bl true) H1 else tb Xd σ H1 Q) := fun W tk => by
  refine PW.imp (pw_or (ha W tk) (hb W tk)) ?_
  rintro τ H Q ⟨σ, Hd, Xd, Q0, Qd, rs, lk, q, hq, hx, fin⟩
  refine ⟨σ, Hd, Xd, _, fun c H1 => if c = true then Q0 (.bl true) H1 else tb Xd σ H1 Q0, rs, lk, q, fun _ _ h => h, hx, ?_⟩
  rintro c H1 ⟨Hd1, e1, lk1, q1⟩
  cases c with
  | false => exact ⟨σ, Hd1, Xd, Q0, Qd, rs.mono e1, lk1, q1, hq, xmono e1 hx, fun b H' ⟨Hd', e', lk', h⟩ => fin _ _ ⟨Hd', e1.trans e', lk', h⟩⟩
  | true =>
    obtain ⟨b, eb, h⟩ := hq _ _ q1
    cases eb
    exact fin _ _ ⟨Hd1, e1, lk1, h⟩
end
end DL

set_option maxRecDepth 100000
namespace DL
open PySem L2

def liftB (K : PySem.W.Frag) (cl : Str → Option Addr) (W : WX) (n : Nat) (t : DTA) : TA := fun τ H Q => ∃ σ Hd X Qd, RepS K cl Hd H σ τ ∧ Lk K cl Hd H ∧ t X σ Hd Qd ∧
  (∀ cls od τ' H', LX K cl Hd H X cls od τ' H' → W cls od τ' H') ∧ ∀ v H', v.length = n → LA K cl Hd H Qd v H' → Q v H'
def DAs (cl : Str → Option Addr) (X : Cx) (es : List Expr) (t : DTA) : Prop := ∀ W, Takes X W → PA X es (liftB X.K cl W es.length t)
theorem PA.imp {X : Cx} {e : List Expr} {t u : TA} (h : PA X e t) (i : ∀ σ H Q, u σ H Q → t σ H Q) : PA X e u := ⟨fun pos pins s σ H Q I q => h.run pos pins s σ H Q I (i _ _ _ q)⟩
section
variable {cl : Str → Option Addr} {X : Cx} {e a b c o : Expr} {es : List Expr} {ta tb tc t to : DTE} {tA : DTA} {pos apos : Pos}
theorem da_nil : DAs cl X [] (fun _ _ H Q => Q [] H) := fun W tk => by
  refine PA.imp pa_nil ?_
  rintro τ H Q ⟨σ, Hd, Xd, Qd, rs, lk, q, hx, fin⟩
  exact fin [] H rfl ⟨[], Hd, Ext.refl _ _, lk, .nil, q⟩
theorem da_cons (h : DE cl X e t) (hr : DAs cl X es tA) (hs : noStar e = true) : DAs cl X (e :: es) (fun Xd σ H Q => t Xd σ H fun x H1 => tA Xd σ H1 fun xs H2 => Q (x :: xs) H2) := fun W tk => by
  refine PA.imp (pa_cons (h W tk) (hr W tk) (star_cons hs _ _)) ?_
  rintro τ H Q ⟨σ, Hd, Xd, Qd, rs, lk, q, hx, fin⟩
  exact ⟨σ, Hd, Xd, _, rs, lk, q, hx, fun v H1 ⟨x, Hd1, e1, lk1, r1, q1⟩ => ⟨σ, Hd1, Xd, _, rs.mono e1, lk1, q1, xmono e1 hx, fun us H2 hl ⟨xs, Hd2, e2, lk2, r2, q2⟩ =>
    fin (v :: us) H2 (by simp [hl]) ⟨x :: xs, Hd2, e1.trans e2, lk2, .cons (r1.mono e2) r2, q2⟩⟩⟩
theorem de_tup {k : Nat} (h : DAs cl X es tA) (hz : es.length ≤ sizeLine) : DE cl X (.Tuple es k pos) (fun Xd σ H Q => tA Xd σ H fun vs H1 => Q (.tup vs) H1) := fun W tk => by
  refine PE.imp (pe_tup (h W tk)) ?_
  rintro τ H Q ⟨σ, Hd, Xd, Qd, rs, lk, q, hx, fin⟩
  refine ⟨σ, Hd, Xd, _, rs, lk, q, hx, fun us H1 hl ⟨xs, Hd1, e1, lk1, r1, q1⟩ => ⟨by rw [hl]; exact hz, ?_⟩⟩
  exact tup_ok lk1 q1 (by rw [hl]; exact hz) r1 fun v' H' h => fin v' H' (h.pre e1)
theorem de_lst {m : Bool} (h : DAs cl X es tA) (hz : es.length ≤ sizeLine) : DE cl X (.List es pos) (fun Xd σ H Q => tA Xd σ H fun vs H1 => alc m (.lst vs) H1 Q) := fun W tk => by
  refine PE.imp (pe_lst (h W tk)) ?_
  rintro τ H Q ⟨σ, Hd, Xd, Qd, rs, lk, q, hx, fin⟩
  refine ⟨σ, Hd, Xd, _, rs, lk, q, hx, fun us H1 hl ⟨xs, Hd1, e1, lk1, r1, q1⟩ => ⟨by rw [hl]; exact hz, ?_⟩⟩
  exact alc_ok lk1 q1 (fun Hd' H' p x e => .lst e (by rw [hl]; exact hz) (r1.mono x)) fun v' H' h => fin v' H' (h.pre e1)
theorem de_dic0 {d : Bool} : DE cl X (.Dict [] [] pos) (fun _ _ H Q => alc true (.dic d []) H Q) := fun W tk => by
  cases d with
  | false =>
    refine PE.imp pe_dnewK ?_
    rintro τ H Q ⟨σ, Hd, Xd, Qd, rs, lk, q, hx, fin⟩
    exact alc_ok lk q (fun Hd' H' p x e => .dicK e (Nat.zero_le _) .nil) fin
  | true =>
    refine PE.imp pe_dnewT ?_
    rintro τ H Q ⟨σ, Hd, Xd, Qd, rs, lk, q, hx, fin⟩
    exact alc_ok lk q (fun Hd' H' p x e => .dicT e (Nat.zero_le _) .nil) fin
theorem de_idx (hu : X.A.units + 1 < cLine) (ha : DE cl X a ta) (hb : DE cl X b tb) (hs : noSlice b = true) : DE cl X (.Subscript a b pos) (fun Xd σ H Q => ta Xd σ H fun x H1 => tb Xd σ H1 fun y H2 => idxD (rd H2 x) (rd H2 y) fun d => Q d H2) := fun W tk => by
  refine PE.imp (pe_ix (ix_D (cl := cl) hu) (ha W tk) (hb W tk) (plainIx_of hs)) ?_
  rintro τ H Q ⟨σ, Hd, Xd, Qd, rs, lk, q, hx, fin⟩
  exact lift2 rs lk q hx fun v u x y Hd2 H2 e lk2 r1 r2 p => ⟨_, _, Hd2, _, lk2, r1.cont lk2, r2.cont lk2, p, fun d v' r q' => fin v' H2 ⟨d, Hd2, e, lk2, r, q'⟩⟩
/-! parts of a slice -/
abbrev DTO := DXS → DSt → DH → (Option Int → DH → Prop) → Prop
def liftO (K : PySem.W.Frag) (cl : Str → Option Addr) (W : WX) (t : DTO) : TO := fun τ H Q => ∃ σ Hd X Qd, RepS K cl Hd H σ τ ∧ Lk K cl Hd H ∧ t X σ Hd Qd ∧
  (∀ cls od τ' H', LX K cl Hd H X cls od τ' H' → W cls od τ' H') ∧ ∀ i H', (∃ Hd', Ext Hd H Hd' H' ∧ Lk K cl Hd' H' ∧ Qd i Hd') → Q i H'
def DO (cl : Str → Option Addr) (X : Cx) (e : Option Expr) (t : DTO) : Prop := ∀ W, Takes X W → PO X e (liftO X.K cl W t)
theorem PO.imp {X : Cx} {e : Option Expr} {t u : TO} (h : PO X e t) (i : ∀ σ H Q, u σ H Q → t σ H Q) : PO X e u := by
  cases h with
  | mk r => exact ⟨fun pins s σ H Q I q => r pins s σ H Q I (i _ _ _ q)⟩
theorem do_none : DO cl X none (fun _ _ H Q => Q none H) := fun W tk => by
  refine PO.imp po_none ?_
  rintro τ H Q ⟨σ, Hd, Xd, Qd, rs, lk, q, hx, fin⟩
  exact fin _ _ ⟨Hd, Ext.refl _ _, lk, q⟩
theorem do_some (h : DE cl X e t) : DO cl X (some e) (fun Xd σ H Q => t Xd σ H fun x H1 => ∃ i, x = .int i ∧ Q (some i) H1) := fun W tk => by
  refine PO.imp (po_some (h W tk)) ?_
  rintro τ H Q ⟨σ, Hd, Xd, Qd, rs, lk, q, hx, fin⟩
  refine ⟨σ, Hd, Xd, _, rs, lk, q, hx, ?_⟩
  rintro v H1 ⟨x, Hd1, e1, lk1, r1, i, ei, q1⟩
  subst ei
  cases r1
  exact ⟨i, rfl, fin _ _ ⟨Hd1, e1, lk1, q1⟩⟩
theorem de_slc {m : Bool} {lo hi : Option Expr} {tl th : DTO} {p2 : Pos} (ha : DE cl X a ta) (hl : DO cl X lo tl) (hh : DO cl X hi th) :
    DE cl X (.Subscript a (.Slice lo hi none p2) pos) (fun Xd σ H Q => ta Xd σ H fun x H1 => tl Xd σ H1 fun l H2 => th Xd σ H2 fun h H3 => slcD m (rd H3 x) l h H3 Q) := fun W tk => by
  refine PE.imp (pe_slice (sl_D (cl := cl) (m := m)) (ha W tk) (hl W tk) (hh W tk)) ?_
  rintro τ H Q ⟨σ, Hd, Xd, Qd, rs, lk, q, hx, fin⟩
  refine ⟨σ, Hd, Xd, _, rs, lk, q, hx, ?_⟩
  rintro v H1 ⟨x, Hd1, e1, lk1, r1, q1⟩
  refine ⟨σ, Hd1, Xd, _, rs.mono e1, lk1, q1, xmono e1 hx, ?_⟩
  rintro l H2 ⟨Hd2, e2, lk2, q2⟩
  refine ⟨σ, Hd2, Xd, _, (rs.mono e1).mono e2, lk2, q2, xmono (e1.trans e2) hx, ?_⟩
  rintro h H3 ⟨Hd3, e3, lk3, q3⟩
  exact ⟨_, Hd3, Qd, lk3, ((r1.mono e2).mono e3).cont lk3, q3, fun v' H' z => fin v' H' (z.pre (e1.trans (e2.trans e3)))⟩
/-! fields -/
theorem de_fld {C f : Str} {Ca : Addr} (hc : cl C = some Ca) (hC : Cls X.K Ca) (hf : NoAttr X.K Ca f) (ha : DE cl X a ta) (hs : noSuper a = true) :
    DE cl X (.Attribute a f pos) (fun Xd σ H Q => ta Xd σ H fun x H1 => ∃ fs d, rd H1 x = .ins C fs ∧ fs.lookup f = some d ∧ Q d H1) := fun W tk => by
  refine PE.imp (pe_fld (ha W tk) (base_of hs)) ?_
  rintro τ H Q ⟨σ, Hd, Xd, Qd, rs, lk, q, hx, fin⟩
  refine ⟨σ, Hd, Xd, _, rs, lk, q, hx, ?_⟩
  rintro v H1 ⟨x, Hd1, e1, lk1, r1, fs, d, ex, el, q1⟩
  have c := r1.cont lk1
  rw [ex] at c
  obtain ⟨p, Ca', dx, l, rfl, hc', hH, rf⟩ := c.ins
  rw [hc] at hc'; cases hc'
  obtain ⟨w, ew, rw'⟩ := rf.look el
  exact ⟨p, Ca, dx, l, w, rfl, hH, hC, hf, ew, fin _ _ ⟨d, Hd1, e1, lk1, rw', q1⟩⟩

/-! calls -/
section
variable {k : Nat} {f C : Addr} {fd : FuncData} {ps : List Str} {sp : Sp} {x m : Str} {p : Pos} {W : WX} {t : TA} {te : TE}
theorem pe_callD1 (F : FnOk X.prog X.w X.K X.mg X.base (CX X.prog X.w) k f fd ps sp) (hr : Room k X.A) (hg : Gl X x) (hm : X.mg x = some (.ref f))
    (hk : PySem.W.keepIn X.K (.ref f) = true) (hb : Binds X.K fd ps []) (tk : Takes X W) (hst : (e :: es).all noStar = true) (ha : PA X (e :: es) t) (hdb : (x == ("__debug__" : Str)) = false) : PE X (.Call (.Name x p) (e :: es) [] pos) (fun σ H Q => t σ H fun vs H1 => sp vs H1 Q (WE W σ)) := by
  refine ⟨fun pins s σ H Q I h => ?_⟩
  rw [List.all_cons, Bool.and_eq_true] at hst
  refine wpAny_Call_Name_kw (ld_glob I hg hm ?_ hdb)
  refine PySem.W.callWith_K (h₀ := X.base) I.ok.mod.kin hk (thn (ha.run pos pins s σ H _ I h) fun us s1 ⟨vs, H1, I1, r, q⟩ => ⟨I1.kIn, ?_⟩) (star_cons hst.1 _ _) (star_any hst.2 _ _)
  exact run_fnS F hr hb (passAt tk σ) I1 r q
theorem pe_callD0 (F : FnOk X.prog X.w X.K X.mg X.base (CX X.prog X.w) k f fd ps sp) (hr : Room k X.A) (hg : Gl X x) (hm : X.mg x = some (.ref f))
    (hk : PySem.W.keepIn X.K (.ref f) = true) (hb : Binds X.K fd ps []) (tk : Takes X W) (hdb : (x == ("__debug__" : Str)) = false) : PE X (.Call (.Name x p) [] [] pos) (fun σ H Q => sp [] H Q (WE W σ)) := by
  refine ⟨fun pins s σ H Q I h => ?_⟩
  refine wpAny_Call_Name_kw (ld_glob I hg hm ?_ hdb)
  exact PySem.W.callWith_K0 I.kIn hk (run_fnS (us := []) F hr hb (passAt tk σ) I .nil h)
theorem pe_methD1 (he : PE X o te) (c : Cls X.K C) (hm : Meth X.K C m f) (F : FnOk X.prog X.w X.K X.mg X.base (CX X.prog X.w) k f fd ps sp) (hr : Room k X.A) (hb : Binds X.K fd ps []) (tk : Takes X W) (hst : (e :: es).all noStar = true) (ha : PA X (e :: es) t)
    (hs : noSuper o = true) (hl : (apos.endLine == pos.line) = true) (hn : (e :: es).length < 30) :
    PE X (.Call (.Attribute o m apos) (e :: es) [] pos) (fun σ H Q => te σ H fun x H1 => ∃ a dx fs, x = .ref a ∧ H1 a = some (.ins C dx fs) ∧ fs.lookup m = none ∧ t σ H1 fun vs H2 => sp (x :: vs) H2 Q (WE W σ)) := by
  refine ⟨fun pins s σ H Q I h => ?_⟩
  have hst' := hst
  rw [List.all_cons, Bool.and_eq_true] at hst'
  refine PySem.W.methodCall_KW (thn (he.run pins s σ H _ I h) fun u s1 ⟨x, H1, I1, rx, a, dx, fs, ex, ea, l, q⟩ => ?_) (meth_of hs hst hl hn)
  subst ex
  obtain rfl : u = Value.ref a := rx
  refine getmeth_ok I1 ea c hm l ?_
  refine PySem.W.callWith_K (first := [.ref a]) (h₀ := X.base) I.ok.mod.kin hm.kp (thn (ha.run pos pins s1 σ H1 _ I1 q) fun us s2 ⟨vs, H2, I2, r, q2⟩ => ⟨I2.kIn, ?_⟩) (star_cons hst'.1 _ _) (star_any hst'.2 _ _)
  exact run_fnS (us := .ref a :: us) (vs := .ref a :: vs) F hr hb (passAt tk σ) I2 (.cons rfl r) q2
theorem pe_methD0 (he : PE X o te) (c : Cls X.K C) (hm : Meth X.K C m f) (F : FnOk X.prog X.w X.K X.mg X.base (CX X.prog X.w) k f fd ps sp) (hr : Room k X.A) (hb : Binds X.K fd ps []) (tk : Takes X W)
    (hs : noSuper o = true) (hl : (apos.endLine == pos.line) = true) :
    PE X (.Call (.Attribute o m apos) [] [] pos) (fun σ H Q => te σ H fun x H1 => ∃ a dx fs, x = .ref a ∧ H1 a = some (.ins C dx fs) ∧ fs.lookup m = none ∧ sp [x] H1 Q (WE W σ)) := by
  refine ⟨fun pins s σ H Q I h => ?_⟩
  refine PySem.W.methodCall_KW (thn (he.run pins s σ H _ I h) fun u s1 ⟨x, H1, I1, rx, a, dx, fs, ex, ea, l, q⟩ => ?_) (meth_of (es := []) hs rfl hl (by decide))
  subst ex
  obtain rfl : u = Value.ref a := rx
  refine getmeth_ok I1 ea c hm l ?_
  exact PySem.W.callWith_K0 (first := [.ref a]) I1.kIn hm.kp (run_fnS (us := [.ref a]) (vs := [.ref a]) F hr hb (passAt tk σ) I1 (.cons rfl .nil) q)
theorem run_makeS {pins : List (Addr × Obj)} {σ : St} {H : Hp} {s : Shared} {Q : VK} {us : List Value} {vs : List V} (M : Mk X.K C f) (F : FnOk X.prog X.w X.K X.mg X.base (CX X.prog X.w) k f fd ps sp) (hr : Room (k + 1) X.A) (hb : Binds X.K fd ps [])
    (tk : Takes X W) (I : Inv X pins σ H s) (r : Vals vs us)
    (h : ∀ x dx, H x = none → H dx = none → dx ≠ x → sp (.ref x :: vs) (upd (upd H dx (.own x)) x (.ins C dx [])) (fun v H2 => v = .non ∧ Q (.ref x) H2) (WE W σ)) :
    wpAny (model X.prog X.w) X.A (call (.ref C) us) (EP X pins σ Q) X.xe s := by
  have hq := h (s.heap.objs.size + 1) s.heap.objs.size (I.hok.fresh (Nat.le_succ _)) (I.hok.fresh (Nat.le_refl _)) (Nat.ne_of_lt (Nat.lt_succ_self _))
  have I2 := Inv.made (C := C) I
  have r2 : Vals (V.ref (s.heap.objs.size + 1) :: vs) (Value.ref (s.heap.objs.size + 1) :: us) := .cons rfl r
  have hl : (Value.ref (s.heap.objs.size + 1) :: us).length = ps.length := by rw [← r2.length]; exact F.len _ _ _ _ hq
  have b := hb _ (Value.ref (s.heap.objs.size + 1) :: us) I2.kIn (by rw [List.append_nil]; exact hl)
  rw [List.append_nil] at b
  refine wpAny_call (make_map (f := f) I.kIn M.makes M.init (beq_iff_eq.mp M.fn) (codeAny_mono (F.run _ X.stack _ _ ⟨Value.ref (s.heap.objs.size + 1) :: us, []⟩ _ _ _ (WE W σ) (hr.make C us [])
    (I2.env0.make C us []) b r2 hq) fun r s' hq' => ?_))
  cases r with
  | error e => exact passAt tk σ pins _ _ e s' I2 hq'
  | ok fl =>
    cases fl with
    | ret u =>
      obtain ⟨v, H', I3, rv, ev, q3⟩ := I2.after hq'
      subst ev
      exact ⟨rv, ⟨V.ref (s.heap.objs.size + 1), H', I3, rfl, q3⟩⟩
    | next => exact False.elim hq'
    | brk => exact False.elim hq'
    | cont => exact False.elim hq'
def tMakeD (C : Addr) (sp : Sp) (W : WX) (vs : List V) : St → Hp → VK → Prop := fun σ H Q => ∀ x dx, H x = none → H dx = none → dx ≠ x → sp (.ref x :: vs) (upd (upd H dx (.own x)) x (.ins C dx [])) (fun v H2 => v = .non ∧ Q (.ref x) H2) (WE W σ)
theorem pe_makeD1 (M : Mk X.K C f) (F : FnOk X.prog X.w X.K X.mg X.base (CX X.prog X.w) k f fd ps sp) (hr : Room (k + 1) X.A) (hg : Gl X x) (hm : X.mg x = some (.ref C)) (hb : Binds X.K fd ps []) (tk : Takes X W) (hst : (e :: es).all noStar = true)
    (ha : PA X (e :: es) t) (hdb : (x == ("__debug__" : Str)) = false) : PE X (.Call (.Name x p) (e :: es) [] pos) (fun σ H Q => t σ H fun vs H1 => tMakeD C sp W vs σ H1 Q) := by
  refine ⟨fun pins s σ H Q I h => ?_⟩
  rw [List.all_cons, Bool.and_eq_true] at hst
  refine wpAny_Call_Name_kw (ld_glob I hg hm ?_ hdb)
  refine PySem.W.callWith_K (h₀ := X.base) I.ok.mod.kin M.kp (thn (ha.run pos pins s σ H _ I h) fun us s1 ⟨vs, H1, I1, r, q⟩ => ⟨I1.kIn, ?_⟩) (star_cons hst.1 _ _) (star_any hst.2 _ _)
  exact run_makeS M F hr hb tk I1 r q
theorem pe_makeD0 (M : Mk X.K C f) (F : FnOk X.prog X.w X.K X.mg X.base (CX X.prog X.w) k f fd ps sp) (hr : Room (k + 1) X.A) (hg : Gl X x) (hm : X.mg x = some (.ref C)) (hb : Binds X.K fd ps []) (tk : Takes X W)
    (hdb : (x == ("__debug__" : Str)) = false) : PE X (.Call (.Name x p) [] [] pos) (fun σ H Q => tMakeD C sp W [] σ H Q) := by
  refine ⟨fun pins s σ H Q I h => ?_⟩
  refine wpAny_Call_Name_kw (ld_glob I hg hm ?_ hdb)
  exact PySem.W.callWith_K0 I.kIn M.kp (run_makeS (us := []) M F hr hb tk I .nil h)
end
/-- the promise of a callee, at a place -/
theorem promise {K : PySem.W.Frag} {cl : Str → Option Addr} {W : WX} {Hd : DH} {H : Hp} {σ : DSt} {τ : St} {Xd : DXS} {Qd : DK} {Q : VK} {ds : List D} {vs : List V} {n : Nat} {dsp : List D → DH → DK → DXK → Prop} (rs : RepS K cl Hd H σ τ) (lk : Lk K cl Hd H) (hl : ds.length = n) (r : Reps K cl Hd H vs ds)
    (h : dsp ds Hd Qd fun c fs H2 => Xd c fs σ H2) (hx : ∀ cls od τ' H', LX K cl Hd H Xd cls od τ' H' → W cls od τ' H') (fin : ∀ v H', LQ K cl Hd H Qd v H' → Q v H') : liftF K cl n dsp vs H Q (WE W τ) := by
  refine ⟨ds, Hd, Qd, _, hl, r, lk, h, fin, ?_⟩
  rintro cls od H' ⟨c, fs, Hd', e, lk', xr, hE⟩
  exact hx _ _ _ _ ⟨c, fs, σ, Hd', e, lk', rs.mono e, xr, hE⟩
section
variable {k : Nat} {f Ca : Addr} {fd : FuncData} {ps : List Str} {x m C : Str} {p : Pos} {dsp : List D → DH → DK → DXK → Prop} {n : Nat}
theorem de_call1 (F : FnOk X.prog X.w X.K X.mg X.base (CX X.prog X.w) k f fd ps (liftF X.K cl n dsp)) (hn : (e :: es).length = n) (hr : Room k X.A) (hg : Gl X x) (hm : X.mg x = some (.ref f))
    (hk : PySem.W.keepIn X.K (.ref f) = true) (hb : Binds X.K fd ps []) (hst : (e :: es).all noStar = true) (ha : DAs cl X (e :: es) tA) (hdb : (x == ("__debug__" : Str)) = false) :
    DE cl X (.Call (.Name x p) (e :: es) [] pos) (fun Xd σ H Q => tA Xd σ H fun vs H1 => dsp vs H1 Q fun c fs H2 => Xd c fs σ H2) := fun W tk => by
  refine PE.imp (pe_callD1 F hr hg hm hk hb tk hst (ha W tk) hdb) ?_
  rintro τ H Q ⟨σ, Hd, Xd, Qd, rs, lk, q, hx, fin⟩
  refine ⟨σ, Hd, Xd, _, rs, lk, q, hx, ?_⟩
  rintro vs H1 hl ⟨ds, Hd1, e1, lk1, r1, q1⟩
  exact promise (rs.mono e1) lk1 (by rw [← r1.length, hl, hn]) r1 q1 (xmono e1 hx) fun v H' h => fin v H' (h.pre e1)
theorem de_call0 (F : FnOk X.prog X.w X.K X.mg X.base (CX X.prog X.w) k f fd ps (liftF X.K cl 0 dsp)) (hr : Room k X.A) (hg : Gl X x) (hm : X.mg x = some (.ref f))
    (hk : PySem.W.keepIn X.K (.ref f) = true) (hb : Binds X.K fd ps []) (hdb : (x == ("__debug__" : Str)) = false) :
    DE cl X (.Call (.Name x p) [] [] pos) (fun Xd σ H Q => dsp [] H Q fun c fs H2 => Xd c fs σ H2) := fun W tk => by
  refine PE.imp (pe_callD0 F hr hg hm hk hb tk hdb) ?_
  rintro τ H Q ⟨σ, Hd, Xd, Qd, rs, lk, q, hx, fin⟩
  exact promise rs lk rfl .nil q hx fin
theorem de_meth1 (hc : cl C = some Ca) (ho : DE cl X o to) (c : Cls X.K Ca) (hm : Meth X.K Ca m f) (F : FnOk X.prog X.w X.K X.mg X.base (CX X.prog X.w) k f fd ps (liftF X.K cl n dsp)) (hn : (e :: es).length + 1 = n) (hr : Room k X.A) (hb : Binds X.K fd ps [])
    (hst : (e :: es).all noStar = true) (ha : DAs cl X (e :: es) tA) (hs : noSuper o = true) (hl : (apos.endLine == pos.line) = true) (h30 : (e :: es).length < 30) :
    DE cl X (.Call (.Attribute o m apos) (e :: es) [] pos) (fun Xd σ H Q => to Xd σ H fun x H1 => (∃ fs, rd H1 x = .ins C fs ∧ fs.lookup m = none) ∧ tA Xd σ H1 fun vs H2 => dsp (x :: vs) H2 Q fun c fs H3 => Xd c fs σ H3) := fun W tk => by
  refine PE.imp (pe_methD1 (ho W tk) c hm F hr hb tk hst (ha W tk) hs hl h30) ?_
  rintro τ H Q ⟨σ, Hd, Xd, Qd, rs, lk, q, hx, fin⟩
  refine ⟨σ, Hd, Xd, _, rs, lk, q, hx, ?_⟩
  rintro v H1 ⟨x, Hd1, e1, lk1, r1, ⟨fs, ex, el⟩, q1⟩
  have cc := r1.cont lk1
  rw [ex] at cc
  obtain ⟨a, Ca', dx, l, rfl, hc', hH, rf⟩ := cc.ins
  rw [hc] at hc'; cases hc'
  refine ⟨a, dx, l, rfl, hH, rf.lookN el, σ, Hd1, Xd, _, rs.mono e1, lk1, q1, xmono e1 hx, ?_⟩
  rintro vs H2 hl ⟨ds, Hd2, e2, lk2, r2, q2⟩
  exact promise ((rs.mono e1).mono e2) lk2 (by rw [List.length_cons, ← r2.length, hl, hn]) (.cons (r1.mono e2) r2) q2 (xmono (e1.trans e2) hx) fun v H' h => fin v H' (h.pre (e1.trans e2))
theorem de_meth0 (hc : cl C = some Ca) (ho : DE cl X o to) (c : Cls X.K Ca) (hm : Meth X.K Ca m f) (F : FnOk X.prog X.w X.K X.mg X.base (CX X.prog X.w) k f fd ps (liftF X.K cl 1 dsp)) (hr : Room k X.A) (hb : Binds X.K fd ps [])
    (hs : noSuper o = true) (hl : (apos.endLine == pos.line) = true) :
    DE cl X (.Call (.Attribute o m apos) [] [] pos) (fun Xd σ H Q => to Xd σ H fun x H1 => (∃ fs, rd H1 x = .ins C fs ∧ fs.lookup m = none) ∧ dsp [x] H1 Q fun c fs H3 => Xd c fs σ H3) := fun W tk => by
  refine PE.imp (pe_methD0 (ho W tk) c hm F hr hb tk hs hl) ?_
  rintro τ H Q ⟨σ, Hd, Xd, Qd, rs, lk, q, hx, fin⟩
  refine ⟨σ, Hd, Xd, _, rs, lk, q, hx, ?_⟩
  rintro v H1 ⟨x, Hd1, e1, lk1, r1, ⟨fs, ex, el⟩, q1⟩
  have cc := r1.cont lk1
  rw [ex] at cc
  obtain ⟨a, Ca', dx, l, rfl, hc', hH, rf⟩ := cc.ins
  rw [hc] at hc'; cases hc'
  exact ⟨a, dx, l, rfl, hH, rf.lookN el, promise (rs.mono e1) lk1 rfl (.cons r1 .nil) q1 (xmono e1 hx) fun v H' h => fin v H' (h.pre e1)⟩
theorem make_core {K : PySem.W.Frag} {W : WX} {Hd : DH} {H : Hp} {σ : DSt} {τ : St} {Xd : DXS} {Qd : DK} {Q : VK} {ds : List D} {vs : List V} (hc : cl C = some Ca) (rs : RepS K cl Hd H σ τ) (lk : Lk K cl Hd H) (hl : ds.length + 1 = n) (r : Reps K cl Hd H vs ds)
    (h : ∀ p, Hd p = none → dsp (.ref p :: ds) (dupd Hd p (.ins C [])) (fun v H2 => v = .non ∧ FzV (.ref p) H2 Qd) fun c fs H3 => Xd c fs σ H3)
    (hx : ∀ cls od τ' H', LX K cl Hd H Xd cls od τ' H' → W cls od τ' H') (fin : ∀ v H', LQ K cl Hd H Qd v H' → Q v H') : tMakeD Ca (liftF K cl n dsp) W vs τ H Q := by
  intro x dx nx ndx ne
  have nx' : upd H dx (.own x) x = none := by rw [upd_ne (Ne.symm ne)]; exact nx
  have e1 : Ext Hd H Hd (upd H dx (.own x)) := Ext.new ndx
  have lk1 : Lk K cl Hd (upd H dx (.own x)) := lk.new ndx
  have e2 : Ext Hd (upd H dx (.own x)) (dupd Hd x (.ins C [])) (upd (upd H dx (.own x)) x (.ins Ca dx [])) := Ext.newD nx'
  have lk2 : Lk K cl (dupd Hd x (.ins C [])) (upd (upd H dx (.own x)) x (.ins Ca dx [])) := lk1.newD nx' (.ins hc upd_same .nil)
  have ee := e1.trans e2
  refine promise (ds := .ref x :: ds) (rs.mono ee) lk2 (by rw [List.length_cons]; exact hl) (.cons (.ref x) (r.mono ee)) (h x (lk.free nx)) (xmono ee hx) ?_
  rintro v H' ⟨d, Hd', e', lk', r', ed, S, d2, ice, q⟩
  subst ed
  cases r'
  refine ⟨rfl, fin _ _ ⟨d2, _, ee.trans (e'.trans (Ext.minus S)), lk'.minus S, ice.rep lk' (.ref x), q⟩⟩
theorem de_make1 (hc : cl C = some Ca) (M : Mk X.K Ca f) (F : FnOk X.prog X.w X.K X.mg X.base (CX X.prog X.w) k f fd ps (liftF X.K cl n dsp)) (hn : (e :: es).length + 1 = n) (hr : Room (k + 1) X.A) (hg : Gl X C) (hm : X.mg C = some (.ref Ca)) (hb : Binds X.K fd ps [])
    (hst : (e :: es).all noStar = true) (ha : DAs cl X (e :: es) tA) (hdb : (C == ("__debug__" : Str)) = false) :
    DE cl X (.Call (.Name C p) (e :: es) [] pos) (fun Xd σ H Q => tA Xd σ H fun vs H1 => ∀ p, H1 p = none → dsp (.ref p :: vs) (dupd H1 p (.ins C [])) (fun v H2 => v = .non ∧ FzV (.ref p) H2 Q) fun c fs H3 => Xd c fs σ H3) := fun W tk => by
  refine PE.imp (pe_makeD1 M F hr hg hm hb tk hst (ha W tk) hdb) ?_
  rintro τ H Q ⟨σ, Hd, Xd, Qd, rs, lk, q, hx, fin⟩
  refine ⟨σ, Hd, Xd, _, rs, lk, q, hx, ?_⟩
  rintro vs H1 hl ⟨ds, Hd1, e1, lk1, r1, q1⟩
  exact make_core hc (rs.mono e1) lk1 (by rw [← r1.length, hl, hn]) r1 q1 (xmono e1 hx) fun v H' h => fin v H' (h.pre e1)
theorem de_make0 (hc : cl C = some Ca) (M : Mk X.K Ca f) (F : FnOk X.prog X.w X.K X.mg X.base (CX X.prog X.w) k f fd ps (liftF X.K cl 1 dsp)) (hr : Room (k + 1) X.A) (hg : Gl X C) (hm : X.mg C = some (.ref Ca)) (hb : Binds X.K fd ps [])
    (hdb : (C == ("__debug__" : Str)) = false) :
    DE cl X (.Call (.Name C p) [] [] pos) (fun Xd σ H Q => ∀ p, H p = none → dsp [.ref p] (dupd H p (.ins C [])) (fun v H2 => v = .non ∧ FzV (.ref p) H2 Q) fun c fs H3 => Xd c fs σ H3) := fun W tk => by
  refine PE.imp (pe_makeD0 M F hr hg hm hb tk hdb) ?_
  rintro τ H Q ⟨σ, Hd, Xd, Qd, rs, lk, q, hx, fin⟩
  exact make_core hc rs lk rfl .nil q hx fin
end
end
end DL

set_option maxRecDepth 100000
namespace DL
open PySem L2

/-! ### built-in functions -/
def rB (K : PySem.W.Frag) (cl : Str → Option Addr) (f : List D → DH → DK → Prop) : List V → Hp → VK → Prop := fun vs H Q => ∃ ds Hd Qd, Lk K cl Hd H ∧ Reps K cl Hd H vs ds ∧ f ds Hd Qd ∧ ∀ v' H', LQ K cl Hd H Qd v' H' → Q v' H'
section
variable {K : PySem.W.Frag} {cl : Str → Option Addr} {Hd : DH} {H : Hp}
theorem Reps.one {vs : List V} {d : D} (r : Reps K cl Hd H vs [d]) : ∃ v, vs = [v] ∧ Rep K cl Hd H v d := by cases r with | cons r t => cases t; exact ⟨_, rfl, r⟩
theorem Reps.two {vs : List V} {d e : D} (r : Reps K cl Hd H vs [d, e]) : ∃ v u, vs = [v, u] ∧ Rep K cl Hd H v d ∧ Rep K cl Hd H u e := by
  cases r with | cons r t => cases t with | cons r2 t => cases t; exact ⟨_, _, rfl, r, r2⟩
theorem toBs_reps : ∀ {vs : List V} {ds : List D} {ns : List Bool}, Reps K cl Hd H vs ds → toBs ds = some ns → vs = ns.map V.bl
  | _, _, _, .nil, e => by cases e; rfl
  | _, d :: ds, ns, .cons r t, e => by
    cases d <;> simp only [toBs] at e <;> try cases e
    cases h : toBs ds with
    | none => rw [h] at e; cases e
    | some ms =>
      rw [h] at e; cases e
      cases r
      rw [toBs_reps t h]; rfl
open PySem.W in
theorem each_reps {X : Cx} {pins : List (Addr × Obj)} {σ : St} {s : Shared} : ∀ {vs : List V} {us : List Value} {ds : List D}, Reps K cl Hd H vs ds → Vals vs us → EachIs (fun u d => ∃ v, RelV v u ∧ Rep K cl Hd H v d) us ds
  | _, _, _, .nil, .nil => .nil
  | _, _, _, .cons r t, .cons q w => .cons ⟨_, q, r⟩ (each_reps (X := X) (pins := pins) (σ := σ) (s := s) t w)
open PySem.W in
theorem each_back : ∀ {us : List Value} {ds : List D}, EachIs (fun u d => ∃ v, RelV v u ∧ Rep K cl Hd H v d) us ds → ∃ vs, Vals vs us ∧ Reps K cl Hd H vs ds
  | _, _, .nil => ⟨[], .nil, .nil⟩
  | _, _, .cons ⟨v, q, r⟩ t => by
    obtain ⟨vs, h1, h2⟩ := each_back t
    exact ⟨v :: vs, .cons q h1, .cons r h2⟩
open PySem.W in
theorem EachIs.with {α β : Type} {R R' : α → β → Prop} : ∀ {as : List α} {bs : List β}, EachIs R as bs → (∀ a b, b ∈ bs → R a b → R' a b) → EachIs R' as bs
  | _, _, .nil, _ => .nil
  | _, _, .cons r t, h => .cons (h _ _ List.mem_cons_self r) (EachIs.with t fun a b m q => h a b (List.mem_cons_of_mem _ m) q)
end
section
variable {cl : Str → Option Addr} {X : Cx} {K : PySem.W.Frag} {Hd : DH} {H : Hp}
open PySem.W in
/-- sorted(xs), xs a list of data that are alike -/
theorem cr_sortedD (hu : X.A.units + 66 < cLine) : CallR X (.builtin "sorted") (fun vs H Q => ∃ a xs ds Hd, vs = [V.ref a] ∧ SqL X.K H a xs ∧ Reps X.K cl Hd H xs ds ∧ sortable ds ∧ ∀ ys p, Reps X.K cl Hd H ys (dsort ds) → ys.length = xs.length → H p = none → Q (.ref p) (upd H p (.lst ys))) := by
  intro pins s σ H vs us Q I r h
  obtain ⟨a, xs, ds, Hd, rfl, hs, rr, ⟨hal, hda, hso⟩, q⟩ := h
  obtain ⟨its, rv, hl, hz⟩ := I.list hs
  rw [Vals.ref1 r]
  have e0 : EachIs (fun u d => ∃ v, RelV v u ∧ Rep X.K cl Hd H v d) its ds := each_reps (X := X) (pins := pins) (σ := σ) (s := s) rr rv
  have hlen : its.length = xs.length := rv.length.symm
  have hlen2 : xs.length = ds.length := rr.length
  have al : AllAlike (ds.map toP) := by
    intro d hd d' hd'
    obtain ⟨x, hx, rfl⟩ := List.mem_map.mp hd
    obtain ⟨y, hy, rfl⟩ := List.mem_map.mp hd'
    exact hal x hx y hy
  have so : Sortable (ds.map toP) := by
    rcases hso with h | h
    · refine .inl fun d hd => ?_
      obtain ⟨x, hx, rfl⟩ := List.mem_map.mp hd
      obtain ⟨z, r, rfl⟩ := h x hx
      exact ⟨toP z, toPs r, by simp only [toP, toPs]⟩
    · refine .inr fun d hd => ?_
      obtain ⟨x, hx, rfl⟩ := List.mem_map.mp hd
      rcases h x hx with ⟨i, rfl⟩ | ⟨i, rfl⟩
      · simp only [toP]; exact ⟨(fun z => nomatch z), (fun _ z => nomatch z)⟩
      · simp only [toP]; exact ⟨(fun z => nomatch z), (fun _ z => nomatch z)⟩
  refine sorted_data (bs := ds) (enc := toP) hl.isList e0 (EachIs.with e0 fun u d hd ⟨v, rv, rd⟩ => ?_) al so (by omega) (fun d hd => ?_) fun out ho he => ?_
  · exact Dp.reads I _ _ _ (rd.dp (hda d hd).1) rv
  · have := deep_toP d
    have := (hda d hd).2
    omega
  · obtain ⟨ys, v1, r1⟩ := each_back he
    obtain ⟨ep, he'⟩ := PyProof.Rows.sortedAll_at s.heap its out.toArray
    have hyl : ys.length = xs.length := by rw [v1.length, ho, ← hlen2]
    refine ⟨.ref _, upd H (s.heap.objs.size + 1) (.lst ys), I.laid (t' := s.toks) (fun _ _ => PyProof.Rows.sortedAll_old) (Nat.le_succ _) ⟨by omega, out, ep, v1, he'⟩, rfl, q ys _ ?_ hyl (I.hok.fresh (Nat.le_succ _))⟩
    have e2 : ds.mergeSort (dataLe false toP) = dsort ds := by
      unfold dsort
      congr 1
    rw [← e2]
    exact r1
theorem asPair_eq {d : D} {k v : D} (h : asPair d = some (k, v)) : d = .tup [k, v] := by
  unfold asPair at h
  split at h
  · cases h; rfl
  · cases h
theorem pairs_reps : ∀ {vs : List V} {ds : List D} {kvs : List (D × D)}, Reps K cl Hd H vs ds → pairs ds = some kvs → (kvs.all fun kv => isKey false kv.1) = true →
    ∃ (ps : List Addr) (l : List (Key × V)), vs = ps.map V.ref ∧ Paired (fun p kv => SqT K H p [kV kv.1, kv.2]) ps l ∧ RepK K cl Hd H l kvs
  | _, _, _, .nil, e, _ => by cases e; exact ⟨[], [], rfl, .nil, .nil⟩
  | _, d :: ds, kvs, .cons r t, e, h => by
    rw [pairs] at e
    cases h1 : asPair d with
    | none => rw [h1] at e; cases e
    | some p =>
      obtain ⟨k, v⟩ := p
      rw [h1, Option.bind_some] at e
      have hd := asPair_eq h1
      subst hd
      cases hp : pairs ds with
      | none => rw [hp] at e; cases e
      | some ms =>
        rw [hp] at e; cases e
        rw [List.all_cons, Bool.and_eq_true] at h
        obtain ⟨q, hq⟩ := isKey_f h.1
        have hq : k = keyD q := hq
        subst hq
        obtain ⟨ps, l, rfl, h2, h3⟩ := pairs_reps t hp h.2
        cases r with
        | tup ea na za ra =>
          obtain ⟨w, u, rfl, rw', ru⟩ := ra.two
          rw [rw'.key] at ea
          exact ⟨_ :: ps, (q, u) :: l, rfl, .cons (SqT.of ea) h2, .cons ru h3⟩
theorem RepK.merge : ∀ {l : List (Key × V)} {kvs : List (D × D)} {l0 : List (Key × V)} {kvs0 : List (D × D)}, RepK K cl Hd H l kvs → RepK K cl Hd H l0 kvs0 → RepK K cl Hd H (mergeK l0 l) (dmerge kvs0 kvs)
  | _, _, _, _, .nil, r0 => r0
  | _, _, _, _, .cons r t, r0 => by
    unfold mergeK dmerge
    rw [List.foldl_cons, List.foldl_cons]
    exact RepK.merge t (r0.put r)
theorem intsR (ns : List Int) : Reps K cl Hd H (ns.map V.int) (ns.map D.int) := by
  induction ns with
  | nil => exact .nil
  | cons n ns ih => exact .cons (.int n) ih
theorem keysI_of : ∀ {l : List (Key × V)} {kvs : List (D × D)} {ks : List Int}, RepK K cl Hd H l kvs → kvs.map (·.1) = ks.map D.int → l.map (·.1) = ks.map Sum.inl
  | _, _, [], .nil, _ => rfl
  | _, _, _ :: _, .nil, e => by simp at e
  | _, _, [], .cons _ _, e => by simp at e
  | _, _, n :: ns, .cons (k := k) r t, e => by
    simp only [List.map_cons, List.cons.injEq] at e ⊢
    refine ⟨?_, keysI_of t e.2⟩
    cases k with
    | inl i => have := e.1; simp only [keyD] at this; injection this with h; rw [h]
    | inr s => have := e.1; simp only [keyD] at this; cases this
def bltV : Blt → Value
  | .len => .builtin "len" | .int => .type "int" | .str => .type "str" | .tuple => .type "tuple" | .list => .type "list" | .sorted => .builtin "sorted" | .sum => .builtin "sum" | .min => .builtin "min" | .max => .builtin "max"
  | .all => .builtin "all" | .any => .builtin "any" | .abs => .builtin "abs" | .ord => .builtin "ord" | .dict => .type "dict" | .repr => .builtin "repr"
theorem int_text_ok (i : Int) : PyData.strOk (Str.ofString (toString i)) = true := by
  unfold PyData.strOk
  rw [Str.ofString_eq_toList]
  rw [Array.all_eq_true']
  intro c hc
  simp only [List.mem_toArray, List.mem_map] at hc
  obtain ⟨x, -, rfl⟩ := hc
  rw [decide_eq_true_eq]
  have h := x.valid
  show x.val.toNat < 1114112
  rcases h with h | h
  · exact Nat.lt_trans h (by decide)
  · exact h.2
theorem int_text_short {i : Int} (h : i.natAbs.log2 < 1920) : (Str.ofString (toString i)).length ≤ sizeLine := by
  have e := int_text_length_le (k := 1920) (by decide) h
  have e2 : (Str.ofString (toString i)).length = (toString i).length := by
    rw [Str.ofString_eq_toList]
    show ((toString i).toList.map _).toArray.size = _
    rw [List.size_toArray, List.length_map, String.length_toList]
  rw [e2]
  exact Nat.le_trans e (by decide)
theorem call_blt {b : Blt} {m : Bool} (hc : X.calm = true) (hu : X.A.units + 66 < cLine) : CallR X (bltV b) (rB X.K cl (bltD b m)) := by
  rintro pins s σ H vs us Q I rv ⟨ds, Hd, Qd, lk, rr, q, fin⟩
  match b, ds, q with
  | .len, [x], q =>
    obtain ⟨v, rfl, r⟩ := rr.one
    have c := r.cont lk
    have q' : (match rd Hd x with
      | .tup xs => Qd (.int xs.length) Hd | .lst xs => Qd (.int xs.length) Hd | .stl xs => Qd (.int xs.length) Hd | .stp xs => Qd (.int xs.length) Hd
      | .str s => Qd (.int s.length) Hd | .dic t kvs => t = false ∧ Qd (.int kvs.length) Hd | _ => False) := q
    generalize rd Hd x = y at c q'
    cases y <;> try exact False.elim q'
    · obtain ⟨rfl, z, _⟩ := c.str
      exact call_len pins s σ H _ us Q I rv ⟨_, _, rfl, ⟨z, rfl⟩, fin _ _ (LQ.here lk (.int _) q')⟩
    · obtain ⟨a, xs, rfl, e, _, z, ra⟩ := c.tup
      exact call_len pins s σ H _ us Q I rv ⟨_, _, rfl, .inr ⟨_, SqT.of e, rfl⟩, fin _ _ (LQ.here lk (.int _) (by rw [ra.length]; exact q'))⟩
    · obtain ⟨a, xs, rfl, e, z, ra⟩ := c.lst
      exact call_len pins s σ H _ us Q I rv ⟨_, _, rfl, .inl ⟨_, SqL.of e, rfl⟩, fin _ _ (LQ.here lk (.int _) (by rw [ra.length]; exact q'))⟩
    · obtain ⟨a, xs, rfl, e, z, ra⟩ := c.stl
      exact call_len pins s σ H _ us Q I rv ⟨_, _, rfl, .inl ⟨_, e, rfl⟩, fin _ _ (LQ.here lk (.int _) (by rw [ra.length]; exact q'))⟩
    · obtain ⟨a, xs, rfl, e, z, ra⟩ := c.stp
      exact call_len pins s σ H _ us Q I rv ⟨_, _, rfl, .inr ⟨_, e, rfl⟩, fin _ _ (LQ.here lk (.int _) (by rw [ra.length]; exact q'))⟩
    · obtain ⟨rfl, q'⟩ := q'
      obtain ⟨a, l, rfl, e, z, ra⟩ := c.dicK
      rw [Vals.ref1 rv]
      exact d_len I (.inl e) fun t s' I' => ⟨.int l.length, H, I', ⟨_, rfl⟩, fin _ _ (LQ.here lk (.int _) (by rw [ra.length]; exact q'))⟩
  | .int, [x], q =>
    obtain ⟨v, rfl, r⟩ := rr.one
    cases x <;> try exact False.elim q
    · cases r
      exact call_int1 pins s σ H _ us Q I rv (.inr ⟨_, rfl, fin _ _ (LQ.here lk (.int _) q)⟩)
    · cases r
      exact call_int1 pins s σ H _ us Q I rv (.inl ⟨_, rfl, fin _ _ (LQ.here lk (.int _) q)⟩)
  | .tuple, [x], q =>
    obtain ⟨v, rfl, r⟩ := rr.one
    have c := r.cont lk
    have q' : (match rd Hd x with | .tup xs => Qd (.tup xs) Hd | .lst xs => Qd (.tup xs) Hd | .stl xs => Qd (.tup xs) Hd | _ => False) := q
    generalize rd Hd x = y at c q'
    cases y <;> try exact False.elim q'
    · obtain ⟨a, xs, rfl, e, n, z, ra⟩ := c.tup
      exact call_tuple_of pins s σ H _ us Q I rv ⟨a, xs, rfl, .inr ⟨SqT.of e, fin _ _ (LQ.here lk (.tup e n z ra) q')⟩⟩
    · obtain ⟨a, xs, rfl, e, z, ra⟩ := c.lst
      exact call_tuple_of pins s σ H _ us Q I rv ⟨a, xs, rfl, .inl ⟨SqL.of e, tup_ok lk q' z ra fin⟩⟩
    · obtain ⟨a, xs, rfl, e, z, ra⟩ := c.stl
      exact call_tuple_of pins s σ H _ us Q I rv ⟨a, xs, rfl, .inl ⟨e, tup_ok lk q' z ra fin⟩⟩
  | .list, [x], q =>
    obtain ⟨v, rfl, r⟩ := rr.one
    have c := r.cont lk
    have q' : (match rd Hd x with | .tup xs => alc m (.lst xs) Hd Qd | .lst xs => alc m (.lst xs) Hd Qd | .stl xs => alc m (.lst xs) Hd Qd | .stp xs => alc m (.lst xs) Hd Qd | .dic t kvs => t = false ∧ ∃ ks : List Int, kvs.map (·.1) = ks.map D.int ∧ alc m (.lst (ks.map D.int)) Hd Qd | _ => False) := q
    generalize rd Hd x = y at c q'
    cases y <;> try exact False.elim q'
    · obtain ⟨a, xs, rfl, e, n, z, ra⟩ := c.tup
      exact call_list_of pins s σ H _ us Q I rv ⟨a, xs, rfl, .inr (SqT.of e), alc_ok lk q' (fun Hd' H' p x e => .lst e z (ra.mono x)) fin⟩
    · obtain ⟨a, xs, rfl, e, z, ra⟩ := c.lst
      exact call_list_of pins s σ H _ us Q I rv ⟨a, xs, rfl, .inl (SqL.of e), alc_ok lk q' (fun Hd' H' p x e => .lst e z (ra.mono x)) fin⟩
    · obtain ⟨a, xs, rfl, e, z, ra⟩ := c.stl
      exact call_list_of pins s σ H _ us Q I rv ⟨a, xs, rfl, .inl e, alc_ok lk q' (fun Hd' H' p x e => .lst e z (ra.mono x)) fin⟩
    · obtain ⟨a, xs, rfl, e, z, ra⟩ := c.stp
      exact call_list_of pins s σ H _ us Q I rv ⟨a, xs, rfl, .inr e, alc_ok lk q' (fun Hd' H' p x e => .lst e z (ra.mono x)) fin⟩
    · obtain ⟨rfl, ks, e1, q'⟩ := q'
      obtain ⟨a, l, rfl, e, z, ra⟩ := c.dicK
      have ek : (l.map fun kv => kV kv.1) = ks.map V.int := by
        have h := keysI_of ra e1
        have h2 : (l.map fun kv => kV kv.1) = (l.map (·.1)).map kV := by rw [List.map_map]; rfl
        rw [h2, h, List.map_map]
        rfl
      refine call_list_dK hc pins s σ H _ us Q I rv ⟨a, l, rfl, e, ?_⟩
      rw [ek]
      have hz : (ks.map V.int).length ≤ sizeLine := by rw [← ek, List.length_map]; exact z
      exact alc_ok lk q' (fun Hd' H' p x e => .lst e hz (intsR ks)) fin
  | .sorted, [x], q =>
    obtain ⟨v, rfl, r⟩ := rr.one
    have c := r.cont lk
    have q' : (match rd Hd x with | .lst xs => sortable xs ∧ alc m (.lst (dsort xs)) Hd Qd | .dic t kvs => t = false ∧ ∃ ks : List Int, kvs.map (·.1) = ks.map D.int ∧ ks.length < 64 ∧ ∀ ys : List Int, ys.Perm ks → ys.Pairwise (· ≤ ·) → alc m (.lst (ys.map D.int)) Hd Qd | _ => False) := q
    generalize rd Hd x = y at c q'
    cases y <;> try exact False.elim q'
    · obtain ⟨a, xs, rfl, e, z, ra⟩ := c.lst
      refine cr_sortedD (cl := cl) hu pins s σ H _ us Q I rv ⟨a, xs, _, Hd, rfl, SqL.of e, ra, q'.1, fun ys p ry hl hp => ?_⟩
      exact alc_ok lk q'.2 (fun Hd' H' p x e => .lst e (by rw [hl]; exact z) (ry.mono x)) fin p hp
    · obtain ⟨rfl, ks, e1, e2, q'⟩ := q'
      obtain ⟨a, l, rfl, e, z, ra⟩ := c.dicK
      refine call_sortedDI hc pins s σ H _ us Q I rv ⟨a, l, ks, rfl, .inl e, keysI_of ra e1, e2, fun ys p h1 h2 hp => ?_⟩
      exact alc_ok lk (q' ys h1 h2) (fun Hd' H' p x e => .lst e (by rw [List.length_map, h1.length_eq]; exact Nat.le_trans (Nat.le_of_lt e2) (by decide)) (intsR ys)) fin p hp
  | .ord, [x], q =>
    obtain ⟨v, rfl, r⟩ := rr.one
    cases x <;> try exact False.elim q
    cases r
    exact call_ord pins s σ H _ us Q I rv ⟨_, rfl, q.1, fin _ _ (LQ.here lk (.int _) q.2)⟩
  | .sum, [x], q =>
    obtain ⟨v, rfl, r⟩ := rr.one
    have c := r.cont lk
    have q' : (match rd Hd x with | .lst xs => ∃ ns, toIs xs = some ns ∧ Qd (.int ns.sum) Hd | _ => False) := q
    generalize rd Hd x = y at c q'
    cases y <;> try exact False.elim q'
    obtain ⟨a, xs, rfl, e, z, ra⟩ := c.lst
    obtain ⟨ns, e1, q'⟩ := q'
    exact cr_sum hc pins s σ H _ us Q I rv ⟨a, ns, rfl, SqL.of (by rw [e, toIs_reps ra e1]), fin _ _ (LQ.here lk (.int _) q')⟩
  | .all, [x], q =>
    obtain ⟨v, rfl, r⟩ := rr.one
    have c := r.cont lk
    have q' : (match rd Hd x with | .lst xs => ∃ bs, toBs xs = some bs ∧ Qd (.bl (bs.all id)) Hd | _ => False) := q
    generalize rd Hd x = y at c q'
    cases y <;> try exact False.elim q'
    obtain ⟨a, xs, rfl, e, z, ra⟩ := c.lst
    obtain ⟨ns, e1, q'⟩ := q'
    exact cr_all hc pins s σ H _ us Q I rv ⟨a, ns, rfl, SqL.of (by rw [e, toBs_reps ra e1]), fin _ _ (LQ.here lk (.bl _) q')⟩
  | .any, [x], q =>
    obtain ⟨v, rfl, r⟩ := rr.one
    have c := r.cont lk
    have q' : (match rd Hd x with | .lst xs => ∃ bs, toBs xs = some bs ∧ Qd (.bl (bs.any id)) Hd | _ => False) := q
    generalize rd Hd x = y at c q'
    cases y <;> try exact False.elim q'
    obtain ⟨a, xs, rfl, e, z, ra⟩ := c.lst
    obtain ⟨ns, e1, q'⟩ := q'
    exact cr_any hc pins s σ H _ us Q I rv ⟨a, ns, rfl, SqL.of (by rw [e, toBs_reps ra e1]), fin _ _ (LQ.here lk (.bl _) q')⟩
  | .min, [x, y], q =>
    obtain ⟨v, u, rfl, r1, r2⟩ := rr.two
    cases x <;> cases y <;> try exact False.elim q
    cases r1; cases r2
    exact call_min2 hc pins s σ H _ us Q I rv ⟨_, _, rfl, fin _ _ (LQ.here lk (.int _) q)⟩
  | .max, [x, y], q =>
    obtain ⟨v, u, rfl, r1, r2⟩ := rr.two
    cases x <;> cases y <;> try exact False.elim q
    cases r1; cases r2
    exact call_max2 hc pins s σ H _ us Q I rv ⟨_, _, rfl, fin _ _ (LQ.here lk (.int _) q)⟩
  | .max, [x], q =>
    obtain ⟨v, rfl, r⟩ := rr.one
    have c := r.cont lk
    have q' : (match rd Hd x with | .lst xs => ∃ ns, toIs xs = some ns ∧ 0 < ns.length ∧ ∀ m, m ∈ ns → (∀ y, y ∈ ns → y ≤ m) → Qd (.int m) Hd | _ => False) := q
    generalize rd Hd x = y at c q'
    cases y <;> try exact False.elim q'
    obtain ⟨a, xs, rfl, e, z, ra⟩ := c.lst
    obtain ⟨ns, e1, h0, q'⟩ := q'
    exact cr_max hc pins s σ H _ us Q I rv ⟨a, ns, rfl, SqL.of (by rw [e, toIs_reps ra e1]), h0, fun m h1 h2 => fin _ _ (LQ.here lk (.int _) (q' m h1 h2))⟩
  | .repr, [x], q =>
    obtain ⟨v, rfl, r⟩ := rr.one
    cases x <;> try exact False.elim q
    cases r
    rename_i i
    have q' : i.natAbs.log2 < 1920 ∧ Qd (.str (toString i)) Hd := q
    exact SkE.call_repr_int pins s σ H _ us Q I rv ⟨_, rfl, q'.1, fin _ _ (LQ.here lk (.str (int_text_short q'.1) (int_text_ok i)) q'.2)⟩
  | .abs, [x], q =>
    obtain ⟨v, rfl, r⟩ := rr.one
    cases x <;> try exact False.elim q
    cases r
    exact call_abs pins s σ H _ us Q I rv ⟨_, rfl, fin _ _ (LQ.here lk (.int _) q)⟩
  | .dict, [x], q =>
    obtain ⟨v, rfl, r⟩ := rr.one
    have c := r.cont lk
    have q' : (match rd Hd x with | .lst xs => ∃ kvs, pairs xs = some kvs ∧ (kvs.all fun kv => isKey false kv.1) = true ∧ alc m (.dic false (dmerge [] kvs)) Hd Qd | .dic t kvs => t = false ∧ alc m (.dic false kvs) Hd Qd | _ => False) := q
    generalize rd Hd x = y at c q'
    cases y <;> try exact False.elim q'
    rotate_left
    · obtain ⟨rfl, q'⟩ := q'
      obtain ⟨a, l, rfl, e, z, ra⟩ := c.dicK
      exact call_dictD pins s σ H _ us Q I rv ⟨a, l, rfl, .inl e, alc_ok lk q' (fun Hd' H' p x e => .dicK e z (ra.mono x)) fin⟩
    obtain ⟨a, xs, rfl, e, z, ra⟩ := c.lst
    obtain ⟨kvs, e1, e2, q'⟩ := q'
    obtain ⟨ps, l, rfl, h1, h2⟩ := pairs_reps ra e1 e2
    refine call_dictP hc pins s σ H _ us Q I rv ⟨a, ps, l, rfl, SqL.of e, h1, ?_⟩
    have hl : (mergeK [] l).length ≤ sizeLine := by
      have h3 := length_mergeK l []
      have h4 := Paired.length h1
      rw [List.length_map] at z
      simp only [List.length_nil] at h3
      omega
    exact alc_ok lk q' (fun Hd' H' p x e => .dicK e hl ((h2.merge .nil).mono x)) fin
end
end DL

set_option maxRecDepth 100000
namespace DL
open PySem L2

/-! ### methods of built-in types -/
def rM (K : PySem.W.Frag) (cl : Str → Option Addr) (f : D → List D → DH → DK → Prop) : V → List V → Hp → VK → Prop := fun v vs H Q => ∃ x ds Hd Qd, Lk K cl Hd H ∧ Rep K cl Hd H v x ∧ Reps K cl Hd H vs ds ∧ f x ds Hd Qd ∧ ∀ v' H', LQ K cl Hd H Qd v' H' → Q v' H'
def bmId : BMt → String
  | .append => "list.append" | .extend => "list.extend" | .pop => "list.pop" | .popAt => "list.pop" | .index => "tuple.index" | .count => "list.count" | .get => "dict.get" | .dpop => "dict.pop" | .keys => "dict.keys" | .values => "dict.values" | .join => "str.join" | .update => "dict.update"
def bmNm : BMt → Str
  | .append => "append" | .extend => "extend" | .pop => "pop" | .popAt => "pop" | .index => "index" | .count => "count" | .get => "get" | .dpop => "pop" | .keys => "keys" | .values => "values" | .join => "join" | .update => "update"
def bmT : BMt → String
  | .append => "list" | .extend => "list" | .pop => "list" | .popAt => "list" | .index => "tuple" | .count => "list" | .get => "dict" | .dpop => "dict" | .keys => "dict" | .values => "dict" | .join => "str" | .update => "dict"
theorem strOk_join {a : Str} (ha : PyData.strOk a = true) : ∀ {ss : List Str}, (∀ s ∈ ss, PyData.strOk s = true) → PyData.strOk (Str.join a ss) = true
  | [], _ => by show PyData.strOk Str.empty = true; decide +kernel
  | [x], h => h x (by simp)
  | x :: y :: r, h => by
    show PyData.strOk (x ++ a ++ Str.join a (y :: r)) = true
    exact strOk_app (strOk_app (h x (by simp)) ha) (strOk_join ha fun s hs => h s (List.mem_cons_of_mem _ hs))
theorem len_join {a : Str} : ∀ {ss : List Str}, (Str.join a ss).length ≤ (ss.map fun s => s.length).sum + ss.length * a.length
  | [] => Nat.zero_le _
  | [x] => by simp [Str.join]
  | x :: y :: r => by
    have ih := len_join (a := a) (ss := y :: r)
    show (x ++ a ++ Str.join a (y :: r)).length ≤ _
    rw [length_app, length_app]
    simp only [List.map_cons, List.sum_cons, List.length_cons] at ih ⊢
    rw [Nat.add_mul]
    omega
section
variable {cl : Str → Option Addr} {X : Cx} {K : PySem.W.Frag} {Hd : DH} {H : Hp}
section
variable {v : V} {x : D} {ds : List D}
/-- how a list or a tuple is seen -/
theorem Cont.lit (c : Cont K cl Hd H v x) (e : litOf x = some ds) : ∃ a xs, v = .ref a ∧ xs.length ≤ sizeLine ∧ Reps K cl Hd H xs ds ∧ ((isTup x = false ∧ SqL K H a xs) ∨ (isTup x = true ∧ SqT K H a xs)) := by
  cases x <;> simp only [litOf] at e <;> try cases e
  · obtain ⟨a, xs, rfl, h, _, z, r⟩ := c.tup
    exact ⟨a, xs, rfl, z, r, .inr ⟨rfl, SqT.of h⟩⟩
  · obtain ⟨a, xs, rfl, h, z, r⟩ := c.lst
    exact ⟨a, xs, rfl, z, r, .inl ⟨rfl, SqL.of h⟩⟩
  · obtain ⟨a, xs, rfl, h, z, r⟩ := c.stl
    exact ⟨a, xs, rfl, z, r, .inl ⟨rfl, h⟩⟩
  · obtain ⟨a, xs, rfl, h, z, r⟩ := c.stp
    exact ⟨a, xs, rfl, z, r, .inr ⟨rfl, h⟩⟩
end
theorem toSs_reps : ∀ {vs : List V} {ds : List D} {ss : List Str}, Reps K cl Hd H vs ds → toSs ds = some ss → vs = ss.map V.str ∧ ∀ s ∈ ss, PyData.strOk s = true
  | _, _, ss, .nil, e => by simp [toSs] at e; subst e; exact ⟨rfl, fun s h => by cases h⟩
  | _, d :: ds, ss, .cons r t, e => by
    cases d <;> simp only [toSs] at e <;> try (cases e; done)
    rename_i x
    cases h : toSs ds with
    | none => rw [h] at e; cases e
    | some ss' =>
      rw [h] at e
      simp only [Option.map_some, Option.some.injEq] at e
      subst e
      obtain ⟨h1, h2⟩ := toSs_reps t h
      cases r with
      | str _ ok =>
        subst h1
        refine ⟨rfl, fun s hs => ?_⟩
        rcases List.mem_cons.mp hs with e | e
        · rw [e]; exact ok
        · exact h2 s e
theorem bm_ty {b : BMt} {v : V} {x : D} (lk : Lk K cl Hd H) (r : Rep K cl Hd H v x) (h : bmTy b (rd Hd x) = true) : tyV K (bmT b) v H := by
  have c := r.cont lk
  generalize rd Hd x = y at c h
  cases y <;> cases b <;> simp only [bmTy] at h <;> try cases h
  all_goals first
    | (rw [c.str.1]; exact (rfl : bmT .join = "str"))
    | (obtain ⟨a, xs, rfl, e, z, ra⟩ := c.lst; exact .inl ⟨rfl, xs, SqL.of e⟩)
    | (rename_i t kvs; cases t
       · obtain ⟨a, l, rfl, e, z, ra⟩ := c.dicK
         exact .inr (.inr (.inl ⟨rfl, .inl ⟨l, e⟩⟩))
       · obtain ⟨a, l, rfl, e, z, ra⟩ := c.dicT
         exact .inr (.inr (.inl ⟨rfl, .inr ⟨l, e⟩⟩)))
theorem mt_blt {b : BMt} {m : Bool} (hu : X.A.units + 66 < cLine) : MtR X (bmId b) (rM X.K cl (bmD b m)) := by
  rintro pins s σ H v vs vv us Q I rv rvs ⟨x, ds, Hd, Qd, lk, rx, rr, q, fin⟩
  match b, ds, q with
  | .append, [y], q =>
    obtain ⟨u, rfl, r⟩ := rr.one
    obtain ⟨p, xs, rfl, hp, hz, q⟩ := q
    cases rx
    cases lk p _ hp with
    | @lst ws _ e z ra =>
      have hl := ra.length
      refine mt_append pins s σ H _ _ vv us Q I rv rvs ⟨p, _, u, rfl, rfl, e, by omega, ?_⟩
      have w : Ext Hd H (dupd Hd p (.lst (xs ++ [y]))) (upd H p (.lst (ws ++ [u]))) := Ext.write hp
      exact fin _ _ ⟨.non, _, w, lk.write hp (.lst upd_same (by rw [List.length_append, List.length_singleton]; omega) ((ra.append (.cons r .nil)).mono w)), .non, q⟩
  | .extend, [y], q =>
    obtain ⟨u, rfl, r⟩ := rr.one
    obtain ⟨p, xs, ys, rfl, hp, hy, hz, q⟩ := q
    have cy := r.cont lk
    rw [hy] at cy
    obtain ⟨b, zs, rfl, eb, zb, rb⟩ := cy.lst
    cases rx
    cases lk p _ hp with
    | @lst ws _ e z ra =>
      have hl := ra.length
      have hl2 := rb.length
      refine mt_extend pins s σ H _ _ vv us Q I rv rvs ⟨p, b, _, zs, rfl, rfl, e, eb, by omega, ?_⟩
      have w : Ext Hd H (dupd Hd p (.lst (xs ++ ys))) (upd H p (.lst (ws ++ zs))) := Ext.write hp
      exact fin _ _ ⟨.non, _, w, lk.write hp (.lst upd_same (by rw [List.length_append]; omega) ((ra.append rb).mono w)), .non, q⟩
  | .pop, [], q =>
    cases rr
    obtain ⟨p, xs, y, rfl, hp, hy, q⟩ := q
    cases rx
    cases lk p _ hp with
    | @lst ws _ e z ra =>
      have hl := ra.length
      rw [← hl] at hy
      obtain ⟨u, eu, ru⟩ := ra.get hy
      refine mt_pop pins s σ H _ _ vv us Q I rv rvs ⟨p, _, u, rfl, rfl, e, eu, ?_⟩
      have w : Ext Hd H (dupd Hd p (.lst xs.dropLast)) (upd H p (.lst ws.dropLast)) := Ext.write hp
      exact fin _ _ ⟨y, _, w, lk.write hp (.lst upd_same (by rw [List.length_dropLast]; omega) (ra.dropLast.mono w)), ru.mono w, q⟩
  | .popAt, [i], q =>
    obtain ⟨u, rfl, r⟩ := rr.one
    obtain ⟨p, xs, k, y, rfl, rfl, hk, hp, hy, q⟩ := q
    cases rx
    cases r
    cases lk p _ hp with
    | @lst ws _ e z ra =>
      have hl := ra.length
      obtain ⟨u, eu, ru⟩ := ra.get hy
      have hlt : k < xs.length := (List.getElem?_eq_some_iff.mp hy).1
      refine mt_popAt pins s σ H _ _ vv us Q I rv rvs ⟨p, _, k, k, u, rfl, rfl, e, by omega, by omega, ?_, eu, ?_⟩
      · rw [seqIndex_of (by omega) (by omega)]
        simp
      have w : Ext Hd H (dupd Hd p (.lst (xs.eraseIdx k))) (upd H p (.lst (ws.eraseIdx k))) := Ext.write hp
      exact fin _ _ ⟨y, _, w, lk.write hp (.lst upd_same (Nat.le_trans (len_erase _ _) z) ((ra.eraseIdx k).mono w)), ru.mono w, q⟩
  | .get, [k, d], q =>
    obtain ⟨u1, u2, rfl, r1, r2⟩ := rr.two
    have q' : (match rd Hd x with | .dic t kvs => isKey t k = true ∧ Qd ((dget kvs k).getD d) Hd | _ => False) := q
    have c := rx.cont lk
    generalize rd Hd x = y at c q'
    cases y <;> try exact False.elim q'
    obtain ⟨hk, q'⟩ := q'
    obtain ⟨a, o, rfl, g, ro, _⟩ := c.dget hk (.rep r1)
    cases rv
    obtain ⟨w1, w2, rfl, s1, s2⟩ := vals2 rvs
    refine d_get2 (by omega) I g s1 s2 fun w' s4 I4 rw' => ⟨_, H, I4, rw', ?_⟩
    generalize dget _ k = dg at ro q'
    cases ro with
    | none => exact fin _ _ (LQ.here lk r2 q')
    | some r => exact fin _ _ (LQ.here lk r q')
  | .join, [y], q =>
    obtain ⟨u, rfl, r⟩ := rr.one
    obtain ⟨a, ys, ss, rfl, ey, es, hz, q⟩ := q
    obtain ⟨b, xs, rfl, z, ra, q2⟩ := (r.cont lk).lit ey
    obtain ⟨rfl, oks⟩ := toSs_reps ra es
    cases rx with
    | str hl hok =>
      refine mt_join pins s σ H _ _ vv us Q I rv rvs ⟨a, b, ss, rfl, rfl, ?_, hz, fin _ _ (LQ.here lk (.str ?_ ?_) q)⟩
      · rcases q2 with ⟨_, q2⟩ | ⟨_, q2⟩
        · exact .inl q2
        · exact .inr q2
      · rw [TL.join_eq]
        exact Nat.le_trans len_join (Nat.le_trans hz (by decide))
      · rw [TL.join_eq]
        exact strOk_join hok oks
  | .dpop, [k], q =>
    obtain ⟨u1, rfl, r1⟩ := rr.one
    obtain ⟨p, kvs, w, rfl, hp, hk, hg, q⟩ := q
    cases rx
    obtain ⟨k', rfl⟩ := isKey_f hk
    cases lk p _ hp with
    | @dicK ws _ e z ra =>
      have ro := ra.get (k := k')
      rw [hg] at ro
      cases hv : valV ws k' with
      | none => rw [hv] at ro; cases ro
      | some u =>
        rw [hv] at ro
        cases ro with
        | some r =>
          cases rv
          rw [r1.key] at rvs
          obtain ⟨w1, rfl, s1⟩ := vals1 rvs
          have w' : Ext Hd H (dupd Hd p (.dic false (ddrop kvs (keyD k')))) (upd H p (.dK (dropK ws k'))) := Ext.write hp
          refine d_pop I e s1 hv (.inl rfl) fun w2 s4 I4 rw' => ⟨_, _, I4, rw', ?_⟩
          exact fin _ _ ⟨w, _, w', lk.write hp (.dicK upd_same (Nat.le_trans (dropK_le _ _) z) (ra.drop.mono w')), r.mono w', q⟩
theorem bm_facts (b : BMt) : b = .append ∨ b = .extend ∨ b = .pop ∨ b = .popAt ∨ b = .get ∨ b = .dpop ∨ (∀ x, bmTy b x = false) ∨ True := .inr (.inr (.inr (.inr (.inr (.inr (.inr trivial))))))
section
variable {e o : Expr} {es : List Expr} {to t : DTE} {tA : DTA} {pos apos : Pos} {b : BMt} {m : Bool} {T id : String} {nm : Str}
theorem de_bm1 (hT : T = bmT b) (hid : id = bmId b) (pa : PlainAttrs T) (slot : Slot T nm id) (hty : typeOf (.builtin id) = pure (.type "method_descriptor")) (hu : X.A.units + 66 < cLine) (ho : DE cl X o to) (ha : DAs cl X (e :: es) tA)
    (hs : noSuper o = true) (hst : (e :: es).all noStar = true) (hl : (apos.endLine == pos.line) = true) (h30 : (e :: es).length < 30) :
    DE cl X (.Call (.Attribute o nm apos) (e :: es) [] pos) (fun Xd σ H Q => to Xd σ H fun x H1 => bmTy b (rd H1 x) = true ∧ tA Xd σ H1 fun vs H2 => bmD b m x vs H2 Q) := fun W tk => by
  subst hT hid
  have hst' := hst
  rw [List.all_cons, Bool.and_eq_true] at hst'
  refine PE.imp (pe_bm pa slot hty (mt_blt (cl := cl) (b := b) (m := m) hu) (ho W tk) (ha W tk) (base_of hs) (few_of hst h30) hl (star_cons hst'.1 _ _) (star_any hst'.2 _ _)) ?_
  rintro τ H Q ⟨σ, Hd, Xd, Qd, rs, lk, q, hx, fin⟩
  refine ⟨σ, Hd, Xd, _, rs, lk, q, hx, ?_⟩
  rintro v H1 ⟨x, Hd1, e1, lk1, r1, ty, q1⟩
  refine ⟨bm_ty lk1 r1 ty, σ, Hd1, Xd, _, rs.mono e1, lk1, q1, xmono e1 hx, ?_⟩
  rintro vs H2 hl ⟨ds, Hd2, e2, lk2, r2, q2⟩
  exact ⟨x, ds, Hd2, Qd, lk2, r1.mono e2, r2, q2, fun v' H' h => fin v' H' (h.pre (e1.trans e2))⟩
theorem de_bm0 (hT : T = bmT b) (hid : id = bmId b) (pa : PlainAttrs T) (slot : Slot T nm id) (hty : typeOf (.builtin id) = pure (.type "method_descriptor")) (hu : X.A.units + 66 < cLine) (ho : DE cl X o to)
    (hs : noSuper o = true) (hl : (apos.endLine == pos.line) = true) :
    DE cl X (.Call (.Attribute o nm apos) [] [] pos) (fun Xd σ H Q => to Xd σ H fun x H1 => bmTy b (rd H1 x) = true ∧ bmD b m x [] H1 Q) := fun W tk => by
  subst hT hid
  refine PE.imp (pe_bm0 pa slot hty (mt_blt (cl := cl) (b := b) (m := m) hu) (ho W tk) (base_of hs) hl) ?_
  rintro τ H Q ⟨σ, Hd, Xd, Qd, rs, lk, q, hx, fin⟩
  refine ⟨σ, Hd, Xd, _, rs, lk, q, hx, ?_⟩
  rintro v H1 ⟨x, Hd1, e1, lk1, r1, ty, q1⟩
  exact ⟨bm_ty lk1 r1 ty, x, [], Hd1, Qd, lk1, r1, .nil, q1, fun v' H' h => fin v' H' (h.pre e1)⟩
/-! built-in functions -/
theorem de_bltF {f : Blt} {x : Str} {p : Pos} (hc : X.calm = true) (hu : X.A.units + 66 < cLine) (hg : Gl X x) (hm : X.mg x = none) (hv : bootBuiltins x = some (bltV f)) (hn : x ≠ "__name__") (hdb : (x == ("__debug__" : Str)) = false)
    (ha : DAs cl X (e :: es) tA) (hst : (e :: es).all noStar = true) : DE cl X (.Call (.Name x p) (e :: es) [] pos) (fun Xd σ H Q => tA Xd σ H fun vs H1 => bltD f m vs H1 Q) := fun W tk => by
  have hst' := hst
  rw [List.all_cons, Bool.and_eq_true] at hst'
  have cr := call_blt (cl := cl) (X := X) (b := f) (m := m) hc hu
  have base : PE X (.Call (.Name x p) (e :: es) [] pos) (tCB (rB X.K cl (bltD f m)) (liftB X.K cl W (e :: es).length tA)) := by
    cases f
    case len | sorted | sum | min | max | all | any | abs | ord | repr => exact pe_callB cr hg hm hv (ha W tk) hn hdb (star_cons hst'.1 _ _) (star_any hst'.2 _ _)
    case int | str | tuple | list | dict => exact pe_callTy cr hg hm hv (ha W tk) hn hdb (star_cons hst'.1 _ _) (star_any hst'.2 _ _)
  refine PE.imp base ?_
  rintro τ H Q ⟨σ, Hd, Xd, Qd, rs, lk, q, hx, fin⟩
  refine ⟨σ, Hd, Xd, _, rs, lk, q, hx, ?_⟩
  rintro vs H1 hl ⟨ds, Hd1, e1, lk1, r1, q1⟩
  exact ⟨ds, Hd1, Qd, lk1, r1, q1, fun v' H' h => fin v' H' (h.pre e1)⟩
end
end
end DL

set_option maxRecDepth 100000
namespace DL
open PySem L2

/-! ### isinstance -/
def bTy : Ty → Option String
  | .int => some "int" | .bool => some "bool" | .str => some "str" | .tuple => some "tuple" | .list => some "list" | .dict => some "dict" | .cls _ => none
inductive TyVal (cl : Str → Option Addr) : Ty → V → Value → Prop
  | int : TyVal cl .int (.ty "int") (.type "int")
  | bool : TyVal cl .bool (.ty "bool") (.type "bool")
  | str : TyVal cl .str (.ty "str") (.type "str")
  | tuple : TyVal cl .tuple (.ty "tuple") (.type "tuple")
  | list : TyVal cl .list (.ty "list") (.type "list")
  | dict : TyVal cl .dict (.ty "dict") (.type "dict")
  | cls {C : Str} {Ca : Addr} : cl C = some Ca → TyVal cl (.cls C) (.ref Ca) (.ref Ca)
theorem TyVal.clsV {cl : Str → Option Addr} {T : Ty} {v : V} {u : Value} (h : TyVal cl T v u) : ClsV v u := by
  cases h <;> first | exact .ty _ | exact .own _
/-- plain own classes: what isinstance asks of them -/
structure TyFacts (K : PySem.W.Frag) (cl : Str → Option Addr) (pl : Str → Bool) : Prop where
  ins : ∀ C Ca, cl C = some Ca → pl C = true → Cls K Ca ∧ PySem.W.findIn K (.ref Ca) "__class__" = some (some (.builtin "object.__class__")) ∧ PySem.W.mroIn K Ca (.type "object") = some true
  get : PySem.W.specialIn K (.builtin "object.__class__") "__get__" = some (some (.builtin "getset_descriptor.__get__"))
  tak : PySem.W.takesIn K (.builtin "object.__class__") = some true
  bt : ∀ C Ca t, cl C = some Ca → pl C = true → t ∈ ["int", "bool", "str", "tuple", "list", "dict"] → PySem.W.kitOne K (.ref Ca) (.type t) = some false
  own : ∀ C Ca C' Cb, cl C = some Ca → pl C = true → cl C' = some Cb → pl C' = true → PySem.W.kitOne K (.ref Ca) (.ref Cb) = some (decide (C = C'))
  rev : ∀ C Ca t, cl C = some Ca → pl C = true → t ∈ ["NoneType", "int", "bool", "str", "tuple", "list", "dict"] → PySem.W.kitOne K (.type t) (.ref Ca) = some false
def plTy (pl : Str → Bool) : Ty → Bool
  | .cls C => pl C | _ => true
section
variable {K : PySem.W.Frag} {cl : Str → Option Addr} {pl : Str → Bool} {Hd : DH} {H : Hp} {v : V} {x : D}
theorem kit_base {a : String} {T : Ty} {c : V} {u : Value} {r : Bool} (F : TyFacts K cl pl) (tv : TyVal cl T c u) (hp : plTy pl T = true) (ha : a ∈ ["NoneType", "int", "bool", "str", "tuple", "list", "dict"])
    (h : (match bTy T with | some b => kitB a b | none => some false) = some r) : PySem.W.kitOne K (.type a) u = some r := by
  cases tv
  case cls C Ca hc =>
    simp only [bTy] at h
    cases h
    exact F.rev _ _ _ hc hp ha
  all_goals exact kit_ty h
theorem isi_of (F : TyFacts K cl pl) (lk : Lk K cl Hd H) (c : Cont K cl Hd H v x) (h : isiOk pl x = true) : ∃ t, TyX K H v t ∧ ∀ T c u, TyVal cl T c u → plTy pl T = true → PySem.W.kitOne K t u = some (tyD x T) := by
  cases x with
  | non =>
    rw [c.non]
    exact ⟨_, .base .non, fun T c u tv hp => kit_base F tv hp (by simp) (by cases T <;> first | rfl | decide +kernel)⟩
  | bl b =>
    rw [c.bl]
    exact ⟨_, .base (.bl b), fun T c u tv hp => kit_base F tv hp (by simp) (by cases T <;> first | rfl | decide +kernel)⟩
  | int i =>
    rw [c.int]
    exact ⟨_, .base (.int i), fun T c u tv hp => kit_base F tv hp (by simp) (by cases T <;> first | rfl | decide +kernel)⟩
  | str s =>
    obtain ⟨rfl, _, _⟩ := c.str
    exact ⟨_, .base (.str s), fun T c u tv hp => kit_base F tv hp (by simp) (by cases T <;> first | rfl | decide +kernel)⟩
  | tup xs =>
    obtain ⟨a, ys, rfl, e, _⟩ := c.tup
    exact ⟨_, .base (.tup e), fun T c u tv hp => kit_base F tv hp (by simp) (by cases T <;> first | rfl | decide +kernel)⟩
  | stp xs =>
    obtain ⟨a, ys, rfl, e, _⟩ := c.stp
    have hk : ∀ T c u, TyVal cl T c u → plTy pl T = true → PySem.W.kitOne K (.type "tuple") u = some (tyD (.stp xs) T) := fun T c u tv hp => kit_base F tv hp (by simp) (by cases T <;> first | rfl | decide +kernel)
    rcases e with (e | ⟨o, e⟩) | ⟨o, its, n, e, hc, _⟩
    · exact ⟨_, .base (.tup e), hk⟩
    · exact ⟨_, .fTuple e, hk⟩
    · exact ⟨_, .kTuple e hc, hk⟩
  | lst xs =>
    obtain ⟨a, ys, rfl, e, _⟩ := c.lst
    exact ⟨_, .base (.lst e), fun T c u tv hp => kit_base F tv hp (by simp) (by cases T <;> first | rfl | decide +kernel)⟩
  | stl xs =>
    obtain ⟨a, ys, rfl, e, _⟩ := c.stl
    have hk : ∀ T c u, TyVal cl T c u → plTy pl T = true → PySem.W.kitOne K (.type "list") u = some (tyD (.stl xs) T) := fun T c u tv hp => kit_base F tv hp (by simp) (by cases T <;> first | rfl | decide +kernel)
    rcases e with (e | ⟨o, e⟩) | ⟨o, its, n, e, hc, _⟩
    · exact ⟨_, .base (.lst e), hk⟩
    · exact ⟨_, .base (.frz e), hk⟩
    · exact ⟨_, .kList e hc, hk⟩
  | dic t kvs =>
    have hk : ∀ T c u, TyVal cl T c u → plTy pl T = true → PySem.W.kitOne K (.type "dict") u = some (tyD (.dic t kvs) T) := fun T c u tv hp => kit_base F tv hp (by simp) (by cases T <;> first | rfl | decide +kernel)
    cases t with
    | false =>
      obtain ⟨a, l, rfl, e, _⟩ := c.dicK
      exact ⟨_, .base (.dK e), hk⟩
    | true =>
      obtain ⟨a, l, rfl, e, _⟩ := c.dicT
      exact ⟨_, .base (.dT e), hk⟩
  | ins C fs =>
    obtain ⟨a, Ca, dx, l, rfl, hc, e, r⟩ := c.ins
    obtain ⟨f1, f2, f3⟩ := F.ins C Ca hc h
    refine ⟨_, .base (.ins e f1 f2 F.get F.tak f3), fun T c u tv hp => ?_⟩
    cases tv
    case cls C' Cb hb => exact F.own _ _ _ _ hc h hb hp
    all_goals exact F.bt _ _ _ hc h (by simp)
  | ref a => cases h
  | exn a d C fs => cases h
/-- names of types -/
inductive NamesOk (X : Cx) (cl : Str → Option Addr) (pl : Str → Bool) : List Expr → List Ty → Prop
  | nil : NamesOk X cl pl [] []
  | cons {e : Expr} {T : Ty} {v : V} {u : Value} {es : List Expr} {Ts : List Ty} : PE X e (tC v) → TyVal cl T v u → plTy pl T = true → noStar e = true → NamesOk X cl pl es Ts → NamesOk X cl pl (e :: es) (T :: Ts)
theorem NamesOk.vals {X : Cx} : ∀ {es : List Expr} {Ts : List Ty}, NamesOk X cl pl es Ts → ∃ cs us, Paired ClsV cs us ∧ cs.length = Ts.length ∧ PA X es (fun _ H Q => Q cs H) ∧ es.all noStar = true ∧
    ∀ t x, (∀ T c u, TyVal cl T c u → plTy pl T = true → PySem.W.kitOne K t u = some (tyD x T)) → PySem.W.kitAny K t us = some (Ts.any fun T => tyD x T)
  | _, _, .nil => ⟨[], [], .nil, rfl, PA.imp pa_nil fun _ _ _ h => h, rfl, fun _ _ _ => kitAny_nil⟩
  | _, _, .cons (v := v) (u := u) (T := T) (e := e) (es := es) h tv hp hs r => by
    obtain ⟨cs, us, p, hl, ha, hst, k⟩ := NamesOk.vals r
    refine ⟨v :: cs, u :: us, .cons tv.clsV p, by simp [hl], PA.imp (pa_cons h ha (star_cons hs _ _)) fun _ _ _ h => h, by rw [List.all_cons, hs, hst]; rfl, fun t x hk => ?_⟩
    rw [List.any_cons]
    refine kitAny_cons (hk _ _ _ tv hp) (fun e => ?_) fun e => ?_
    · rw [e, Bool.false_or]; exact k t x hk
    · rw [e, Bool.true_or]
end
section
variable {cl : Str → Option Addr} {pl : Str → Bool} {X : Cx} {a e : Expr} {es : List Expr} {ta : DTE} {pos p p2 : Pos} {x : Str} {T : Ty} {Ts : List Ty}
theorem de_isi1 (F : TyFacts X.K cl pl) (hg : Gl X "isinstance") (hm : X.mg "isinstance" = none) (ha : DE cl X a ta) (hs : noStar a = true) (h : NamesOk X cl pl [e] [T]) :
    DE cl X (.Call (.Name "isinstance" p) [a, e] [] pos) (fun Xd σ H Q => ta Xd σ H fun x H1 => isiOk pl (rd H1 x) = true ∧ Q (.bl ([T].any fun t => tyD (rd H1 x) t)) H1) := fun W tk => by
  cases h with
  | @cons _ _ v u _ _ he tv hp hs2 _ =>
    have hst : [e].all noStar = true := by rw [List.all_cons, hs2]; rfl
    refine PE.imp (pe_callB call_isi hg hm rfl (pa_cons (ha W tk) (pa_cons he pa_nil (star_cons hs2 _ _)) (star_cons hs _ _)) (by decide) (by decide) (star_cons hs _ _) (star_any hst _ _)) ?_
    rintro τ H Q ⟨σ, Hd, Xd, Qd, rs, lk, q, hx, fin⟩
    refine ⟨σ, Hd, Xd, _, rs, lk, q, hx, ?_⟩
    rintro w H1 ⟨d, Hd1, e1, lk1, r1, ok, q1⟩
    obtain ⟨t, ty, hk⟩ := isi_of F lk1 (r1.cont lk1) ok
    refine ⟨w, v, t, u, _, rfl, tv.clsV, ty, hk _ _ _ tv hp, fin _ _ ⟨_, Hd1, e1, lk1, .bl _, ?_⟩⟩
    have e2 : ([T].any fun t => tyD (rd Hd1 d) t) = tyD (rd Hd1 d) T := by simp
    rw [e2] at q1
    exact q1
theorem de_isiT {x1 : Nat} (F : TyFacts X.K cl pl) (hg : Gl X "isinstance") (hm : X.mg "isinstance" = none) (ha : DE cl X a ta) (hs : noStar a = true) (h : NamesOk X cl pl es Ts) (hz : Ts.length ≤ 100) :
    DE cl X (.Call (.Name "isinstance" p) [a, .Tuple es x1 p2] [] pos) (fun Xd σ H Q => ta Xd σ H fun x H1 => isiOk pl (rd H1 x) = true ∧ Q (.bl (Ts.any fun t => tyD (rd H1 x) t)) H1) := fun W tk => by
  obtain ⟨cs, us, pc, hl, pa, hst, k⟩ := NamesOk.vals (K := X.K) h
  have hs2 : noStar (.Tuple es x1 p2) = true := rfl
  have hst2 : [Expr.Tuple es x1 p2].all noStar = true := rfl
  refine PE.imp (pe_callB call_isiT hg hm rfl (pa_cons (ha W tk) (pa_cons (pe_tup pa) pa_nil (star_cons hs2 _ _)) (star_cons hs _ _)) (by decide) (by decide) (star_cons hs _ _) (star_any hst2 _ _)) ?_
  rintro τ H Q ⟨σ, Hd, Xd, Qd, rs, lk, q, hx, fin⟩
  refine ⟨σ, Hd, Xd, _, rs, lk, q, hx, ?_⟩
  rintro w H1 ⟨d, Hd1, e1, lk1, r1, ok, q1⟩
  refine ⟨Nat.le_trans (by rw [hl]; exact hz) (by decide), fun tp hp => ?_⟩
  have ex : Ext Hd1 H1 Hd1 (upd H1 tp (.tup cs)) := Ext.new hp
  have lk2 := lk1.new (ho := .tup cs) hp
  obtain ⟨t, ty, hk⟩ := isi_of F lk2 ((r1.mono ex).cont lk2) ok
  exact ⟨w, tp, cs, t, us, _, rfl, upd_same, pc, ty, k _ _ hk, fin _ _ ⟨_, Hd1, e1.trans ex, lk2, .bl _, q1⟩⟩
end
end DL

set_option maxRecDepth 100000
namespace DL
open PySem L2 PySem.Spec PyProof.Rows
open Sem (wp)

/-! ### enumerate(tuple) -/
set_option maxHeartbeats 1000000 in
theorem meets_enumerate_new1 {v : Value} {o : Obj} {H : Heap → Prop} (B : Begins v o H) :
    Meets (Builtin.«enumerate.__new__» ⟨[.type "enumerate", v], []⟩) (fun _ R s => H s.heap ∧
      R (.ok (.ret (.ref (s.heap.push o).objs.size))) { s with heap := (s.heap.push o).push { cls := .type "enumerate", data := .fields #[.none, .bool false, .ref s.heap.objs.size, rawInt 0, .none, .none] } }) :=
  .of_wp fun prog w A R s h => by
    obtain ⟨hp, g, d, tk, os⟩ := s; obtain ⟨h1, h⟩ := h
    have hsub := sub_enumerate
    have q1 : ∀ {A' : Around} {E : Value → Shared → Prop} {Q : Value → Shared → Prop}, Q (.ref hp.objs.size) ⟨hp.push o, g, d, tk, os⟩ → wpAny (model prog w) A' (pyIter v) Q E ⟨hp, g, d, tk, os⟩ :=
      fun q => B.iter prog w _ _ ⟨hp, g, d, tk, os⟩ _ h1 q
    wp_walk using q1
    refine wpAny_stack_any fun st => wpAny_pure ?_
    split
    · rename_i c _ _ _ _ _
      cases (c == Value.type "enumerate")
      · wp_walk using q1
        exact ⟨_, rfl, h⟩
      · wp_walk using q1
        exact ⟨_, rfl, h⟩
    · wp_walk using q1
      exact ⟨_, rfl, h⟩
section
variable {prog : Program} {w : World} {A : Around} {E : Value → Shared → Prop} {s : Shared}
theorem enum_begins1 {v : Value} {o : Obj} {H : Heap → Prop} {Q : Value → Shared → Prop} (B : Begins v o H) (h1 : H s.heap)
    (h : ∀ h', IsEnum h' (s.heap.objs.size + 1) s.heap.objs.size 0 .none → h'.get? s.heap.objs.size = some o → h'.objs.size = s.heap.objs.size + 2 →
      (∀ b o, s.heap.get? b = some o → h'.get? b = some o) → Q (.ref (s.heap.objs.size + 1)) { s with heap := h' }) :
    wpAny (model prog w) A (call (.type "enumerate") [v]) Q E s := by
  refine callType_new F.called_enumerate (by decide) (F.typeCall_enumerate_1 _) (F.newCall_enumerate_1 _) (fun obj => F.args_object_init_2 obj _) F.entry_enumerate_new
    (meets_enumerate_new1 B) ⟨h1, ?_⟩
  have hz : (s.heap.push o).objs.size = s.heap.objs.size + 1 := Heap.size_push ..
  show _ ∧ _
  rw [hz]
  have he : IsEnum ((s.heap.push o).push { cls := .type "enumerate", data := .fields #[.none, .bool false, .ref s.heap.objs.size, rawInt 0, .none, .none] }) (s.heap.objs.size + 1) s.heap.objs.size 0 .none := by
    have := Heap.get?_push_size (s.heap.push o) (o := { cls := .type "enumerate", data := .fields #[.none, .bool false, .ref s.heap.objs.size, rawInt 0, .none, .none] }) rfl
    rw [hz] at this; exact this
  refine ⟨⟨_, he, rfl⟩, h _ he (Heap.get?_push_of_some _ (Heap.get?_push_size _ B.free)) (by rw [Heap.size_push, hz]) fun b o x => Heap.get?_push_of_some _ (Heap.get?_push_of_some _ x)⟩
end

def IteT (K : PySem.W.Frag) (a : Addr) : L2.It :=
  ⟨fun i H => ∃ (xs : List V) (x : V), SqT K H a xs ∧ xs[i]? = some x, fun i H v H' => ∃ T x, v = .ref T ∧ H T = none ∧ H' = upd H T (.tup [.int (i : Nat), x]) ∧ ∀ xs, SqT K H a xs → xs[i]? = some x, fun i H => ∃ xs : List V, SqT K H a xs ∧ xs.length ≤ i⟩
theorem turn_enumT {P : Program} {w : World} {K : PySem.W.Frag} {elts : List Expr} {kk : Nat} {tpos : Pos} (a e it : Addr) :
    Turn P w K (.Tuple elts kk tpos) (IteT K a) [e, it] e (fun i h => (∃ old, IsEnum h e it ((i : Nat) : Int) old) ∧ h.IsTupleIter it a i ∧ e ≠ it) where
  mem := by simp
  obj := fun i h st b hb => by
    obtain ⟨⟨old, he⟩, ⟨o, ho, hc, hd⟩, _⟩ := st
    have e' : b = e ∨ b = it := by simpa using hb
    rcases e' with z | z
    · rw [z]; exact ⟨_, he, fun v q => nomatch q⟩
    · rw [z]; exact ⟨o, ho, fun v q => by rw [hd] at q; cases q⟩
  keep := fun i h h' st k => let ⟨⟨old, he⟩, hi, hne⟩ := st; ⟨⟨old, k e (by simp) _ he⟩, hi.at fun o q => k it (by simp) o q, hne⟩
  item := by
    intro X hP hw hK hc i pins s σ H E I hf st hg
    subst hP hw hK
    obtain ⟨⟨old, he⟩, hit, hne⟩ := st
    obtain ⟨xs, x, hq, hx⟩ := hg
    obtain ⟨its, rv, p, hz⟩ := I.tuple hq
    obtain ⟨u, hu, ru⟩ := rv.get hx
    have hel : e < s.heap.objs.size := Heap.lt_size he
    have hil : it < s.heap.objs.size := by obtain ⟨_, q, _⟩ := hit; exact Heap.lt_size q
    have p' : s.heap.IsTuple a its.toArray := p
    have ani : a ≠ it := fun z => by
      subst z
      obtain ⟨o1, h1, c1, _⟩ := id hit
      obtain ⟨o2, h2, c2, _⟩ := id p'
      rw [h1] at h2; cases h2
      rw [c1] at c2
      injection c2 with c2
      exact absurd c2 (by decide)
    have ane : a ≠ e := fun z => by
      subst z
      obtain ⟨o2, h2, c2, _⟩ := id p'
      have he' : s.heap.get? a = some _ := he
      rw [he'] at h2; cases h2
      injection c2 with c2
      exact absurd c2 (by decide)
    have hlt : i < its.toArray.size := by
      obtain ⟨hl, _⟩ := List.getElem?_eq_some_iff.mp hu
      simpa using hl
    have ef : e ∉ [it, a] := fun z => by
      rcases List.mem_cons.mp z with z | z
      · exact hne z
      · exact ane (List.mem_singleton.mp z).symm
    refine wpAny_pyNext_enum_itemD (Draws.tuple (A := X.A.in1) (show X.A.in1.handled = none from I.ok.hd hc) it a ani its.toArray) he ⟨hit, p'⟩ hlt hne ef fun x1 h' tk hP ho hst' hT hsz hk => ?_
    have ex : x1 = u := by
      have hP' : its[i]? = some x1 := by simpa using hP
      rw [hu] at hP'; exact (Option.some.inj hP').symm
    subst ex
    refine ⟨_, rfl, wpAny_letOwnedTupleGo_enum (s := { s with heap := h', toks := tk + 1 }) ho fun h'' he' sb => ?_⟩
    have hT2 : h''.get? s.heap.objs.size = some { cls := .type "tuple", data := .seq #[.int i tk, x1] } := (sb.2 _ (Nat.ne_of_gt hel)).trans hT
    have new : ObjOk X.prog X.w (upd H s.heap.objs.size (.tup [.int (i : Nat), x])) h'' s.heap.objs.size (.tup [.int (i : Nat), x]) :=
      ⟨by show 2 ≤ sizeLine; decide, [.int i tk, x1], .cons ⟨_, rfl⟩ (.cons ru .nil), ⟨_, hT2, rfl, _, rfl⟩⟩
    have I1 : Inv X pins σ (upd H s.heap.objs.size (.tup [.int (i : Nat), x])) { s with heap := h'', toks := tk + 1 } :=
      I.turnedNew (ch := [e, it]) (fun b ob hb q => (sb.2 b (fun z => hb (by simp [z]))).trans (hk b ob (fun z => hb (by simp [z])) (fun z => hb (by simp [z])) q)) hf (Nat.le_refl _) new
    refine ⟨.ref s.heap.objs.size, _, I1, rfl, ⟨_, x, rfl, I.hok.fresh (Nat.le_refl _), rfl, fun ys hy => by rw [I.tuple_inj hy hq]; exact hx⟩, ⟨⟨x1, ?_⟩, hst'.1.at fun o q => (sb.2 it (Ne.symm hne)).trans q, hne⟩, fun b hb => ?_⟩
    · have e1 : ((i + 1 : Nat) : Int) = (i : Int) + 1 := by omega
      rw [e1]; exact he'
    · have hb' : b < s.heap.objs.size := by
        have e' : b = e ∨ b = it := by simpa using hb
        rcases e' with z | z
        · rw [z]; exact hel
        · rw [z]; exact hil
      rw [upd_ne (Nat.ne_of_lt hb')]
      exact (hf b hb).1
  done := by
    intro X hP hw hK hc i pins s σ H E I hf st hg
    subst hP hw hK
    obtain ⟨⟨old, he⟩, hit, hne⟩ := st
    obtain ⟨xs, hq, hx⟩ := hg
    obtain ⟨its, rv, p, hz⟩ := I.tuple hq
    obtain ⟨f0, f1, f2, f3, f4, f5⟩ := hf it (by simp)
    have p' : s.heap.IsTuple a its.toArray := p
    have hl := rv.length
    have hT : s.TypeIs (.ref e) "enumerate" := ⟨_, he, rfl⟩
    unfold pyNext
    refine wpAny_bind (wpAny_attempt (wpAny_callSpecial?_slot (name := Str.ofString "__next__") hT F.slot_enumerate_next
      (wpAny_call_entry F.slot_enumerate_next hT F.entry_enumerate_next ?_ (F.args_enumerate_next_1 _))))
    show wpAny _ _ (field (.ref e) 2 >>= _) _ _ _
    refine wpAny_bind (wpAny_field he rfl (x := .ref it) rfl ?_)
    refine wpAny_bind (wpAny_nextOf_tuple_end (show X.A.in1.handled = none from I.ok.hd hc) hit p' (by simp; omega) fun h' x he' hx' => ?_)
    obtain ⟨o, ho, hc'⟩ := hx'
    refine wpAny_bind (wpAny_isInstance (T := "StopIteration") (b := true) ⟨o, ho, hc'⟩ isSubtype_stop ?_)
    exact wpAny_pure ⟨rfl, I.turned (t' := s.toks) (fun b o hb q => he' b o hb q) f0 f1 f3 f4 f5⟩
  self := fun A i s Q E st h => let ⟨⟨_, he⟩, _⟩ := st; wpAny_pyIter_enum he h
def iEnumA (K : PySem.W.Frag) (ta : TA) : TI := fun σ H R => ta σ H fun vs H1 => ∃ a xs, vs = [.ref a] ∧ ((SqL K H1 a xs ∧ R (Ite K a) H1) ∨ (SqT K H1 a xs ∧ R (IteT K a) H1))
theorem pi_enumA {X : Cx} {e : Expr} {ta : TA} {p pos tpos : Pos} {elts : List Expr} {kk : Nat} (hg : Gl X "enumerate") (hm : X.mg "enumerate" = none) (ha : PA X [e] ta) (hs : starEach [e] X.env = [(false, eval e X.env)] := by rfl) :
    PI X (.Tuple elts kk tpos) (.Call (.Name "enumerate" p) [e] [] pos) (iEnumA X.K ta) := by
  refine ⟨fun pins s σ H R I h => ?_⟩
  refine Call_ (ld_blt I hg hm boot_enumerate (PyProof.Rows.callWith_type1 (thn (ha.run pos pins s σ H _ I h) fun us s1 ⟨vs, H1, I1, r1, q1⟩ => ?_) hs rfl))
  obtain ⟨a, xs, ex, q1⟩ := q1
  subst ex
  cases r1 with
  | cons r rr =>
    cases rr
    cases r
    have fr : ∀ b, b ∈ [s1.heap.objs.size + 1, s1.heap.objs.size] → FpOk X pins H1 b := fun b hb => by
      have e' : b = s1.heap.objs.size + 1 ∨ b = s1.heap.objs.size := by simpa using hb
      have hle : s1.heap.objs.size ≤ b := by
        rcases e' with z | z
        · rw [z]; exact Nat.le_add_right _ _
        · rw [z]; exact Nat.le_refl _
      exact I1.fpOk hle (I1.hok.fresh hle)
    rcases q1 with ⟨hq, q⟩ | ⟨hq, q⟩
    · obtain ⟨its, rv, p', hz⟩ := I1.list hq
      refine call_enumerate_list p'.isList fun h' he hit hsz hk => wpAny_pyIter_enum he ?_
      have I2 : Inv X pins σ H1 { s1 with heap := h' } := I1.kept (t' := s1.toks) hk
      exact ⟨s1.heap.objs.size + 1, [s1.heap.objs.size + 1, s1.heap.objs.size], _, _, H1, rfl, I2, turn_enum a (s1.heap.objs.size + 1) s1.heap.objs.size, ⟨⟨.none, he⟩, hit, Nat.succ_ne_self _⟩, fr, q⟩
    · obtain ⟨its, rv, p', hz⟩ := I1.tuple hq
      refine enum_begins1 (begins_tuple a its.toArray) p' fun h' he hit hsz hk => wpAny_pyIter_enum he ?_
      have I2 : Inv X pins σ H1 { s1 with heap := h' } := I1.kept (t' := s1.toks) hk
      exact ⟨s1.heap.objs.size + 1, [s1.heap.objs.size + 1, s1.heap.objs.size], _, _, H1, rfl, I2, turn_enumT a (s1.heap.objs.size + 1) s1.heap.objs.size, ⟨⟨.none, he⟩, ⟨_, hit, rfl, rfl⟩, Nat.succ_ne_self _⟩, fr, q⟩
/-! ### a list, a tuple, a text -/
def iSeq (K : PySem.W.Frag) (tl : TE) : TI := fun σ H R => tl σ H fun x H1 => (∃ a, x = .ref a ∧ (((∃ xs, SqL K H1 a xs) ∧ R (Itl K a) H1) ∨ ((∃ xs, SqT K H1 a xs) ∧ R (Itt K a) H1))) ∨ ∃ t, x = .str t ∧ R (Its t) H1
theorem pi_seq {X : Cx} {tg l : Expr} {tl : TE} (hl : PE X l tl) : PI X tg l (iSeq X.K tl) := by
  refine ⟨fun pins s σ H R I h => ?_⟩
  refine thn (hl.run pins s σ H _ I h) fun v s1 ⟨x, H1, I1, r1, q1⟩ => ?_
  have one : ∀ b, b ∈ [s1.heap.objs.size] → FpOk X pins H1 b := fun b hb => by
    have e : b = s1.heap.objs.size := by simpa using hb
    subst e
    exact I1.fpOk (Nat.le_refl _) (I1.hok.fresh (Nat.le_refl _))
  rcases q1 with ⟨a, e, q1⟩ | ⟨t, e, q⟩
  · subst e
    cases r1
    rcases q1 with ⟨⟨xs, hq⟩, q⟩ | ⟨⟨xs, hq⟩, q⟩
    · obtain ⟨its, rv, p, hz⟩ := I1.list hq
      refine wpAny_pyIter_list p.isList ?_
      exact ⟨s1.heap.objs.size, [s1.heap.objs.size], _, _, H1, rfl, I1.kept (t' := s1.toks) fun b o e => Heap.get?_push_of_some _ e, turn_list a _, ⟨_, Heap.get?_push_size _ rfl, rfl, rfl⟩, one, q⟩
    · obtain ⟨its, rv, p, hz⟩ := I1.tuple hq
      refine wpAny_pyIter_tuple (show s1.heap.IsTuple a its.toArray from p) ?_
      exact ⟨s1.heap.objs.size, [s1.heap.objs.size], _, _, H1, rfl, I1.kept (t' := s1.toks) fun b o e => Heap.get?_push_of_some _ e, turn_tuple a _, ⟨_, Heap.get?_push_size _ rfl, rfl, rfl⟩, one, q⟩
  · subst e
    obtain ⟨u, rfl⟩ := r1
    cases ha : t.cps.all (· < 128) with
    | false =>
      refine wpAny_pyIter_wide ha ?_
      exact ⟨s1.heap.objs.size, [s1.heap.objs.size], _, _, H1, rfl, I1.kept (t' := s1.toks) fun b o e => Heap.get?_push_of_some _ e, turn_str _ t u "str_iterator" (.inr rfl), ⟨_, Heap.get?_push_size _ rfl, rfl, rfl⟩, one, q⟩
    | true =>
      refine wpAny_pyIter_ascii ha ?_
      exact ⟨s1.heap.objs.size, [s1.heap.objs.size], _, _, H1, rfl, I1.kept (t' := s1.toks) fun b o e => Heap.get?_push_of_some _ e, turn_str _ t u "str_ascii_iterator" (.inl rfl), ⟨_, Heap.get?_push_size _ rfl, rfl, rfl⟩, one, q⟩
end DL

set_option maxRecDepth 100000
namespace DL
open PySem L2

/-! ### what is walked -/
/-- the iterator J yields just the items of ds, as long as st holds -/
structure LJ (K : PySem.W.Frag) (cl : Str → Option Addr) (Hd0 : DH) (H0 : Hp) (ds : List D) (st : DH → Prop) (J : L2.It) : Prop where
  go : ∀ Hd H i, Ext Hd0 H0 Hd H → Lk K cl Hd H → st Hd → i < ds.length → J.go i H
  stop : ∀ Hd H i, Ext Hd0 H0 Hd H → Lk K cl Hd H → st Hd → ds.length ≤ i → J.stop i H
  yld : ∀ Hd H i x H', Ext Hd0 H0 Hd H → Lk K cl Hd H → st Hd → J.yld i H x H' → i < ds.length → ∃ d, ds[i]? = some d ∧ Ext Hd H Hd H' ∧ Lk K cl Hd H' ∧ Rep K cl Hd H' x d
abbrev DTI := DXS → DSt → DH → (List D → (DH → Prop) → DH → Prop) → Prop
def liftI (K : PySem.W.Frag) (cl : Str → Option Addr) (W : WX) (t : DTI) : TI := fun τ H R => ∃ σ Hd X Qd, RepS K cl Hd H σ τ ∧ Lk K cl Hd H ∧ t X σ Hd Qd ∧
  (∀ cls od τ' H', LX K cl Hd H X cls od τ' H' → W cls od τ' H') ∧ ∀ ds st Hd1 J H1, Ext Hd H Hd1 H1 → Lk K cl Hd1 H1 → LJ K cl Hd1 H1 ds st J → ds.length ≤ sizeLine → Qd ds st Hd1 → R J H1
def DI (cl : Str → Option Addr) (X : Cx) (tg e : Expr) (t : DTI) : Prop := ∀ W, Takes X W → PI X tg e (liftI X.K cl W t)
theorem PI.imp {X : Cx} {tg e : Expr} {t u : TI} (h : PI X tg e t) (i : ∀ σ H Q, u σ H Q → t σ H Q) : PI X tg e u := ⟨fun pins s σ H Q I q => h.run pins s σ H Q I (i _ _ _ q)⟩
section
variable {K : PySem.W.Frag} {cl : Str → Option Addr} {Hd Hd' : DH} {H H' : Hp} {v u : V} {x y : D} {ds es : List D}
theorem Cont.later (lk' : Lk K cl Hd' H') (r : Rep K cl Hd H v x) (e : Ext Hd H Hd' H') : Cont K cl Hd' H' v (rd Hd' x) := (r.mono e).cont lk'
/-- a reference that reads as a list never reads as a tuple -/
theorem isTup_rd (lk : Lk K cl Hd H) (r : Rep K cl Hd H v x) (lk' : Lk K cl Hd' H') (e : Ext Hd H Hd' H') (h : litOf (rd Hd x) = some ds) (h' : litOf (rd Hd' x) = some es) : isTup (rd Hd' x) = isTup (rd Hd x) := by
  cases r with
  | ref a =>
    have g : ∀ {Hd : DH} {H : Hp} {ds : List D}, Lk K cl Hd H → litOf (rd Hd (.ref a)) = some ds → isTup (rd Hd (.ref a)) = false := by
      intro Hd H ds lk h
      have h : litOf ((Hd a).getD (.ref a)) = some ds := h
      show isTup ((Hd a).getD (.ref a)) = false
      cases q : Hd a with
      | none => rfl
      | some d =>
        rw [q] at h
        show isTup d = false
        cases lk a d q <;> rfl
    rw [g lk h, g lk' h']
  | _ => rfl
theorem lj_list {a : Addr} (hr : ∀ Hd1 H1, Ext Hd H Hd1 H1 → Lk K cl Hd1 H1 → litOf (rd Hd1 x) = some ds → ∃ xs, xs.length ≤ sizeLine ∧ Reps K cl Hd1 H1 xs ds ∧ SqL K H1 a xs) : LJ K cl Hd H ds (fun H => litOf (rd H x) = some ds) (Itl K a) where
  go := fun Hd1 H1 i e lk s hi => by
    obtain ⟨xs, _, r, q⟩ := hr Hd1 H1 e lk s
    have hl := r.length
    exact ⟨xs, xs[i]'(by omega), q, by simp⟩
  stop := fun Hd1 H1 i e lk s hi => by
    obtain ⟨xs, _, r, q⟩ := hr Hd1 H1 e lk s
    have hl := r.length
    exact ⟨xs, q, by omega⟩
  yld := fun Hd1 H1 i v H' e lk s y hi => by
    obtain ⟨xs, _, r, q⟩ := hr Hd1 H1 e lk s
    obtain ⟨rfl, y⟩ := y
    obtain ⟨d, ed, rv⟩ := r.getV (y xs q)
    exact ⟨d, ed, Ext.refl _ _, lk, rv⟩
theorem lj_tup {a : Addr} (hr : ∀ Hd1 H1, Ext Hd H Hd1 H1 → Lk K cl Hd1 H1 → litOf (rd Hd1 x) = some ds → ∃ xs, xs.length ≤ sizeLine ∧ Reps K cl Hd1 H1 xs ds ∧ SqT K H1 a xs) : LJ K cl Hd H ds (fun H => litOf (rd H x) = some ds) (Itt K a) where
  go := fun Hd1 H1 i e lk s hi => by
    obtain ⟨xs, _, r, q⟩ := hr Hd1 H1 e lk s
    have hl := r.length
    exact ⟨xs, xs[i]'(by omega), q, by simp⟩
  stop := fun Hd1 H1 i e lk s hi => by
    obtain ⟨xs, _, r, q⟩ := hr Hd1 H1 e lk s
    have hl := r.length
    exact ⟨xs, q, by omega⟩
  yld := fun Hd1 H1 i v H' e lk s y hi => by
    obtain ⟨xs, _, r, q⟩ := hr Hd1 H1 e lk s
    obtain ⟨rfl, y⟩ := y
    obtain ⟨d, ed, rv⟩ := r.getV (y xs q)
    exact ⟨d, ed, Ext.refl _ _, lk, rv⟩
theorem LJ.st {st st' : DH → Prop} {J : L2.It} (h : LJ K cl Hd H ds st J) (i : ∀ H, st' H → st H) : LJ K cl Hd H ds st' J :=
  ⟨fun a b c d e f g => h.go a b c d e (i _ f) g, fun a b c d e f g => h.stop a b c d e (i _ f) g, fun a b c d e f g k l m => h.yld a b c d e f g (i _ k) l m⟩
theorem rangeD_len : ∀ (n : Nat) (a : Int), (rangeD a n).length = n
  | 0, _ => rfl
  | n + 1, a => by simp [rangeD, rangeD_len n]
theorem rangeD_get : ∀ (n : Nat) (a : Int) (i : Nat), i < n → (rangeD a n)[i]? = some (.int (a + i))
  | n + 1, a, 0, _ => by simp [rangeD]
  | n + 1, a, i + 1, h => by
    simp only [rangeD, List.getElem?_cons_succ]
    rw [rangeD_get n (a + 1) i (by omega)]
    congr 2; omega
theorem lj_range {lo : Int} {n : Nat} : LJ K cl Hd H (rangeD lo n) (fun _ => True) (Itr lo n) where
  go := fun Hd1 H1 i e lk s hi => by rw [rangeD_len] at hi; exact hi
  stop := fun Hd1 H1 i e lk s hi => by rw [rangeD_len] at hi; exact hi
  yld := fun Hd1 H1 i v H' e lk s y hi => by
    rw [rangeD_len] at hi
    obtain ⟨rfl, rfl⟩ := y
    exact ⟨_, rangeD_get n lo i hi, Ext.refl _ _, lk, .int _⟩
theorem chars_get {s : Str} {i : Nat} : (chars s)[i]? = (s.cps[i]?).map fun c => .str ⟨#[c]⟩ := by
  unfold chars
  rw [List.getElem?_map]
  simp
theorem chars_len {s : Str} : (chars s).length = s.cps.size := by unfold chars; simp
theorem strOk_get {s : Str} (h : PyData.strOk s = true) {i : Nat} {c : Nat} (e : s.cps[i]? = some c) : PyData.strOk ⟨#[c]⟩ = true := by
  unfold PyData.strOk at h ⊢
  have hm : c ∈ s.cps := by
    obtain ⟨hl, e⟩ := Array.getElem?_eq_some_iff.mp e
    rw [← e]; exact Array.getElem_mem hl
  have := Array.all_eq_true_iff_forall_mem.mp h c hm
  simpa using this
theorem lj_str {s : Str} {st : DH → Prop} (h : PyData.strOk s = true) : LJ K cl Hd H (chars s) st (Its s) where
  go := fun Hd1 H1 i e lk _ hi => by rw [chars_len] at hi; exact hi
  stop := fun Hd1 H1 i e lk _ hi => by rw [chars_len] at hi; exact hi
  yld := fun Hd1 H1 i v H' e lk _ y hi => by
    obtain ⟨rfl, c, ec, rfl⟩ := y
    exact ⟨_, by rw [chars_get, ec]; rfl, Ext.refl _ _, lk, .str (by show 1 ≤ sizeLine; decide) (strOk_get h ec)⟩
theorem enumD_len : ∀ (n : Nat) (ds : List D), (enumD n ds).length = ds.length
  | _, [] => rfl
  | n, d :: ds => by simp [enumD, enumD_len (n + 1) ds]
theorem enumD_get : ∀ (n : Nat) (ds : List D) (i : Nat), (enumD n ds)[i]? = (ds[i]?).map fun d => .tup [.int ((n + i : Nat) : Int), d]
  | _, [], i => by simp [enumD]
  | n, d :: ds, 0 => by simp [enumD]
  | n, d :: ds, i + 1 => by
    simp only [enumD, List.getElem?_cons_succ]
    rw [enumD_get (n + 1) ds i]
    have e : n + 1 + i = n + (i + 1) := by omega
    rw [e]
theorem pair_rep {T : Addr} {a b : V} {d1 d2 : D} (lk : Lk K cl Hd H) (hT : H T = none) (r1 : Rep K cl Hd H a d1) (r2 : Rep K cl Hd H b d2) :
    Ext Hd H Hd (upd H T (.tup [a, b])) ∧ Lk K cl Hd (upd H T (.tup [a, b])) ∧ Rep K cl Hd (upd H T (.tup [a, b])) (.ref T) (.tup [d1, d2]) := by
  have e : Ext Hd H Hd (upd H T (.tup [a, b])) := Ext.new hT
  exact ⟨e, lk.new hT, .tup upd_same (lk.free hT) (by show 2 ≤ sizeLine; decide) (.cons (r1.mono e) (.cons (r2.mono e) .nil))⟩
theorem lj_enumL {a : Addr} (hr : ∀ Hd1 H1, Ext Hd H Hd1 H1 → Lk K cl Hd1 H1 → litOf (rd Hd1 x) = some ds → ∃ xs, xs.length ≤ sizeLine ∧ Reps K cl Hd1 H1 xs ds ∧ SqL K H1 a xs) : LJ K cl Hd H (enumD 0 ds) (fun H => litOf (rd H x) = some ds) (Ite K a) where
  go := fun Hd1 H1 i e lk s hi => by
    rw [enumD_len] at hi
    obtain ⟨xs, _, r, q⟩ := hr Hd1 H1 e lk s
    have hl := r.length
    exact ⟨xs, xs[i]'(by omega), q, by simp⟩
  stop := fun Hd1 H1 i e lk s hi => by
    rw [enumD_len] at hi
    obtain ⟨xs, _, r, q⟩ := hr Hd1 H1 e lk s
    have hl := r.length
    exact ⟨xs, q, by omega⟩
  yld := fun Hd1 H1 i v H' e lk s y hi => by
    obtain ⟨xs, _, r, q⟩ := hr Hd1 H1 e lk s
    obtain ⟨T, z, rfl, hT, rfl, y⟩ := y
    obtain ⟨d, ed, rv⟩ := r.getV (y xs q)
    refine ⟨_, by rw [enumD_get, ed]; rfl, ?_⟩
    have := pair_rep lk hT (.int (i : Nat)) rv
    simpa using this
theorem lj_enumT {a : Addr} (hr : ∀ Hd1 H1, Ext Hd H Hd1 H1 → Lk K cl Hd1 H1 → litOf (rd Hd1 x) = some ds → ∃ xs, xs.length ≤ sizeLine ∧ Reps K cl Hd1 H1 xs ds ∧ SqT K H1 a xs) : LJ K cl Hd H (enumD 0 ds) (fun H => litOf (rd H x) = some ds) (IteT K a) where
  go := fun Hd1 H1 i e lk s hi => by
    rw [enumD_len] at hi
    obtain ⟨xs, _, r, q⟩ := hr Hd1 H1 e lk s
    have hl := r.length
    exact ⟨xs, xs[i]'(by omega), q, by simp⟩
  stop := fun Hd1 H1 i e lk s hi => by
    rw [enumD_len] at hi
    obtain ⟨xs, _, r, q⟩ := hr Hd1 H1 e lk s
    have hl := r.length
    exact ⟨xs, q, by omega⟩
  yld := fun Hd1 H1 i v H' e lk s y hi => by
    obtain ⟨xs, _, r, q⟩ := hr Hd1 H1 e lk s
    obtain ⟨T, z, rfl, hT, rfl, y⟩ := y
    obtain ⟨d, ed, rv⟩ := r.getV (y xs q)
    refine ⟨_, by rw [enumD_get, ed]; rfl, ?_⟩
    have := pair_rep lk hT (.int (i : Nat)) rv
    simpa using this
theorem zipD_len : ∀ (ds es : List D), (zipD ds es).length = min ds.length es.length
  | [], _ => by simp [zipD]
  | _ :: _, [] => by simp [zipD]
  | d :: ds, e :: es => by simp [zipD, zipD_len ds es]
theorem zipD_get : ∀ (ds es : List D) (i : Nat) (d e : D), ds[i]? = some d → es[i]? = some e → (zipD ds es)[i]? = some (.tup [d, e])
  | [], _, _, _, _, h, _ => by simp at h
  | _ :: _, [], _, _, _, _, h => by simp at h
  | d :: ds, e :: es, 0, _, _, h, h' => by simp at h h'; subst h h'; simp [zipD]
  | d :: ds, e :: es, i + 1, d', e', h, h' => by
    simp only [zipD, List.getElem?_cons_succ]
    exact zipD_get ds es i d' e' (by simpa using h) (by simpa using h')
theorem lj_zipL {a b : Addr} (hr : ∀ Hd1 H1, Ext Hd H Hd1 H1 → Lk K cl Hd1 H1 → litOf (rd Hd1 x) = some ds → ∃ xs, xs.length ≤ sizeLine ∧ Reps K cl Hd1 H1 xs ds ∧ SqL K H1 a xs)
    (hr2 : ∀ Hd1 H1, Ext Hd H Hd1 H1 → Lk K cl Hd1 H1 → litOf (rd Hd1 y) = some es → ∃ xs, xs.length ≤ sizeLine ∧ Reps K cl Hd1 H1 xs es ∧ SqL K H1 b xs) :
    LJ K cl Hd H (zipD ds es) (fun H => litOf (rd H x) = some ds ∧ litOf (rd H y) = some es) (Itz K a b) where
  go := fun Hd1 H1 i e lk s hi => by
    rw [zipD_len] at hi
    obtain ⟨xs, _, r, q⟩ := hr Hd1 H1 e lk s.1
    obtain ⟨ys, _, r', q'⟩ := hr2 Hd1 H1 e lk s.2
    have hl := r.length
    have hl' := r'.length
    exact ⟨xs, ys, xs[i]'(by omega), ys[i]'(by omega), q, q', by simp, by simp⟩
  stop := fun Hd1 H1 i e lk s hi => by
    rw [zipD_len] at hi
    obtain ⟨xs, _, r, q⟩ := hr Hd1 H1 e lk s.1
    obtain ⟨ys, _, r', q'⟩ := hr2 Hd1 H1 e lk s.2
    have hl := r.length
    have hl' := r'.length
    exact ⟨xs, ys, q, q', by omega⟩
  yld := fun Hd1 H1 i v H' e lk s y hi => by
    obtain ⟨xs, _, r, q⟩ := hr Hd1 H1 e lk s.1
    obtain ⟨ys, _, r', q'⟩ := hr2 Hd1 H1 e lk s.2
    obtain ⟨T, z, z', rfl, hT, rfl, y, y'⟩ := y
    obtain ⟨d, ed, rv⟩ := r.getV (y xs q)
    obtain ⟨d', ed', rv'⟩ := r'.getV (y' ys q')
    exact ⟨_, zipD_get ds es i d d' ed ed', pair_rep lk hT rv rv'⟩
theorem lj_zipT {a b : Addr} (hr : ∀ Hd1 H1, Ext Hd H Hd1 H1 → Lk K cl Hd1 H1 → litOf (rd Hd1 x) = some ds → ∃ xs, xs.length ≤ sizeLine ∧ Reps K cl Hd1 H1 xs ds ∧ SqT K H1 a xs)
    (hr2 : ∀ Hd1 H1, Ext Hd H Hd1 H1 → Lk K cl Hd1 H1 → litOf (rd Hd1 y) = some es → ∃ xs, xs.length ≤ sizeLine ∧ Reps K cl Hd1 H1 xs es ∧ SqT K H1 b xs) :
    LJ K cl Hd H (zipD ds es) (fun H => litOf (rd H x) = some ds ∧ litOf (rd H y) = some es) (RZ.ItzT K a b) where
  go := fun Hd1 H1 i e lk s hi => by
    rw [zipD_len] at hi
    obtain ⟨xs, _, r, q⟩ := hr Hd1 H1 e lk s.1
    obtain ⟨ys, _, r', q'⟩ := hr2 Hd1 H1 e lk s.2
    have hl := r.length
    have hl' := r'.length
    exact ⟨xs, ys, xs[i]'(by omega), ys[i]'(by omega), q, q', by simp, by simp⟩
  stop := fun Hd1 H1 i e lk s hi => by
    rw [zipD_len] at hi
    obtain ⟨xs, _, r, q⟩ := hr Hd1 H1 e lk s.1
    obtain ⟨ys, _, r', q'⟩ := hr2 Hd1 H1 e lk s.2
    have hl := r.length
    have hl' := r'.length
    exact ⟨xs, ys, q, q', by omega⟩
  yld := fun Hd1 H1 i v H' e lk s y hi => by
    obtain ⟨xs, _, r, q⟩ := hr Hd1 H1 e lk s.1
    obtain ⟨ys, _, r', q'⟩ := hr2 Hd1 H1 e lk s.2
    obtain ⟨T, z, z', rfl, hT, rfl, y, y'⟩ := y
    obtain ⟨d, ed, rv⟩ := r.getV (y xs q)
    obtain ⟨d', ed', rv'⟩ := r'.getV (y' ys q')
    exact ⟨_, zipD_get ds es i d d' ed ed', pair_rep lk hT rv rv'⟩
theorem lit_list {a : Addr} (lk : Lk K cl Hd H) (r : Rep K cl Hd H (.ref a) x) (h : litOf (rd Hd x) = some ds) (ht : isTup (rd Hd x) = false) :
    ∀ Hd1 H1, Ext Hd H Hd1 H1 → Lk K cl Hd1 H1 → litOf (rd Hd1 x) = some es → ∃ xs, xs.length ≤ sizeLine ∧ Reps K cl Hd1 H1 xs es ∧ SqL K H1 a xs := by
  intro Hd1 H1 e lk1 h1
  obtain ⟨a', xs, ea, z, rr, q⟩ := (Cont.later lk1 r e).lit h1
  cases ea
  rcases q with ⟨_, q⟩ | ⟨z1, _⟩
  · exact ⟨xs, z, rr, q⟩
  · rw [isTup_rd lk r lk1 e h h1, ht] at z1; cases z1
theorem lit_tup {a : Addr} (lk : Lk K cl Hd H) (r : Rep K cl Hd H (.ref a) x) (h : litOf (rd Hd x) = some ds) (ht : isTup (rd Hd x) = true) :
    ∀ Hd1 H1, Ext Hd H Hd1 H1 → Lk K cl Hd1 H1 → litOf (rd Hd1 x) = some es → ∃ xs, xs.length ≤ sizeLine ∧ Reps K cl Hd1 H1 xs es ∧ SqT K H1 a xs := by
  intro Hd1 H1 e lk1 h1
  obtain ⟨a', xs, ea, z, rr, q⟩ := (Cont.later lk1 r e).lit h1
  cases ea
  rcases q with ⟨z1, _⟩ | ⟨_, q⟩
  · rw [isTup_rd lk r lk1 e h h1, ht] at z1; cases z1
  · exact ⟨xs, z, rr, q⟩
end
section
variable {cl : Str → Option Addr} {X : Cx} {tg e a b : Expr} {ta tb : DTE} {pos p tpos : Pos} {elts : List Expr} {kk : Nat}
theorem di_seq (he : DE cl X e ta) : DI cl X tg e (fun Xd σ H Q => ta Xd σ H fun x H1 => ∃ ds, seqOf (rd H1 x) = some ds ∧ Q ds (fun H => seqOf (rd H x) = some ds) H1) := fun W tk => by
  refine PI.imp (pi_seq (he W tk)) ?_
  rintro τ H R ⟨σ, Hd, Xd, Qd, rs, lk, q, hx, fin⟩
  refine ⟨σ, Hd, Xd, _, rs, lk, q, hx, ?_⟩
  rintro v H1 ⟨x, Hd1, e1, lk1, r1, ds, es, q1⟩
  have c := r1.cont lk1
  cases hl : litOf (rd Hd1 x) with
  | some ds' =>
    have es2 : seqOf (rd Hd1 x) = some ds' := by
      cases hx : rd Hd1 x <;> rw [hx] at hl <;> simp only [litOf] at hl <;> first | (cases hl; done) | exact hl
    rw [es] at es2; cases es2
    have st : ∀ Hd2 H2, Ext Hd1 H1 Hd2 H2 → Lk X.K cl Hd2 H2 → seqOf (rd Hd2 x) = some ds → litOf (rd Hd2 x) = some ds := by
      intro Hd2 H2 e2 lk2 h2
      cases hx : rd Hd2 x <;> rw [hx] at h2 <;> first | exact h2 | skip
      -- a text
      rename_i s
      exfalso
      obtain ⟨a, xs, rfl, _, _, _⟩ := c.lit hl
      have c2 := (r1.mono e2).cont lk2
      rw [hx] at c2
      have := c2.str.1
      cases this
    obtain ⟨a, xs, rfl, z, rr, q2⟩ := c.lit hl
    have zl : ds.length ≤ sizeLine := by rw [← rr.length]; exact z
    refine .inl ⟨a, rfl, ?_⟩
    rcases q2 with ⟨ht, q2⟩ | ⟨ht, q2⟩
    · refine .inl ⟨⟨xs, q2⟩, fin _ _ _ _ _ e1 lk1 ?_ zl q1⟩
      have L := lj_list (lit_list lk1 r1 hl ht (es := ds))
      exact ⟨fun Hd2 H2 i e2 lk2 s2 => L.go Hd2 H2 i e2 lk2 (st _ _ e2 lk2 s2), fun Hd2 H2 i e2 lk2 s2 => L.stop Hd2 H2 i e2 lk2 (st _ _ e2 lk2 s2), fun Hd2 H2 i x H' e2 lk2 s2 => L.yld Hd2 H2 i x H' e2 lk2 (st _ _ e2 lk2 s2)⟩
    · refine .inr ⟨⟨xs, q2⟩, fin _ _ _ _ _ e1 lk1 ?_ zl q1⟩
      have L := lj_tup (lit_tup lk1 r1 hl ht (es := ds))
      exact ⟨fun Hd2 H2 i e2 lk2 s2 => L.go Hd2 H2 i e2 lk2 (st _ _ e2 lk2 s2), fun Hd2 H2 i e2 lk2 s2 => L.stop Hd2 H2 i e2 lk2 (st _ _ e2 lk2 s2), fun Hd2 H2 i x H' e2 lk2 s2 => L.yld Hd2 H2 i x H' e2 lk2 (st _ _ e2 lk2 s2)⟩
  | none =>
    cases hx : rd Hd1 x <;> rw [hx] at hl es <;> simp only [litOf, seqOf] at hl es <;> first | (cases hl; done) | (cases es; done) | cases es
    rw [hx] at c
    obtain ⟨rfl, hz, hs⟩ := c.str
    exact .inr ⟨_, rfl, fin _ _ _ _ _ e1 lk1 (lj_str hs) (by rw [chars_len]; exact hz) q1⟩
theorem di_rng1 (hg : Gl X "range") (hm : X.mg "range" = none) (ha : DE cl X a ta) (hs : noStar a = true) : DI cl X tg (.Call (.Name "range" p) [a] [] pos) (fun Xd σ H Q => ta Xd σ H fun x H1 => ∃ i, x = .int i ∧ i ≤ 2 ^ 24 ∧ -(2 ^ 62) ≤ i ∧ Q (rangeD 0 i.toNat) (fun _ => True) H1) := fun W tk => by
  refine PI.imp (pi_range1 hg hm (pa_cons (ha W tk) pa_nil (star_cons hs _ _)) (star_cons hs _ _)) ?_
  rintro τ H R ⟨σ, Hd, Xd, Qd, rs, lk, q, hx, fin⟩
  refine ⟨σ, Hd, Xd, _, rs, lk, q, hx, ?_⟩
  rintro v H1 ⟨x, Hd1, e1, lk1, r1, i, rfl, h1, h2, q1⟩
  cases r1
  exact ⟨i, rfl, h2, by omega, fin _ _ _ _ _ e1 lk1 lj_range (by rw [rangeD_len]; show i.toNat ≤ 2 ^ 24; omega) q1⟩
theorem di_rng2 (hg : Gl X "range") (hm : X.mg "range" = none) (ha : DE cl X a ta) (hb : DE cl X b tb) (hs : noStar a = true) (hs2 : noStar b = true) : DI cl X tg (.Call (.Name "range" p) [a, b] [] pos) (fun Xd σ H Q => ta Xd σ H fun x H1 => tb Xd σ H1 fun y H2 =>
    ∃ i j, x = .int i ∧ y = .int j ∧ -(2 ^ 62) ≤ i ∧ i < 2 ^ 62 ∧ -(2 ^ 62) ≤ j ∧ j < 2 ^ 62 ∧ j - i ≤ 2 ^ 24 ∧ Q (rangeD i (j - i).toNat) (fun _ => True) H2) := fun W tk => by
  refine PI.imp (pi_range2 hg hm (pa_cons (ha W tk) (pa_cons (hb W tk) pa_nil (star_cons hs2 _ _)) (star_cons hs _ _)) (by rw [star_cons hs, star_cons hs2]; rfl) (by rw [star_cons hs2]; rfl)) ?_
  rintro τ H R ⟨σ, Hd, Xd, Qd, rs, lk, q, hx, fin⟩
  refine lift2 rs lk q hx ?_
  rintro v u x y Hd2 H2 e2 lk2 r1 r2 ⟨i, j, rfl, rfl, h1, h2, h3, h4, h5, q1⟩
  cases r1
  cases r2
  exact ⟨i, j, rfl, ⟨h1, h2, h3, h4⟩, fin _ _ _ _ _ e2 lk2 lj_range (by rw [rangeD_len]; show (j - i).toNat ≤ 2 ^ 24; omega) q1⟩
theorem di_enu (hg : Gl X "enumerate") (hm : X.mg "enumerate" = none) (ha : DE cl X a ta) (hs : noStar a = true) : DI cl X (.Tuple elts kk tpos) (.Call (.Name "enumerate" p) [a] [] pos) (fun Xd σ H Q => ta Xd σ H fun x H1 =>
    ∃ ds, litOf (rd H1 x) = some ds ∧ Q (enumD 0 ds) (fun H => litOf (rd H x) = some ds) H1) := fun W tk => by
  refine PI.imp (pi_enumA hg hm (pa_cons (ha W tk) pa_nil (star_cons hs _ _)) (star_cons hs _ _)) ?_
  rintro τ H R ⟨σ, Hd, Xd, Qd, rs, lk, q, hx, fin⟩
  refine ⟨σ, Hd, Xd, _, rs, lk, q, hx, ?_⟩
  rintro v H1 ⟨x, Hd1, e1, lk1, r1, ds, es, q1⟩
  obtain ⟨a, xs, rfl, z, rr, q2⟩ := (r1.cont lk1).lit es
  have zl : (enumD 0 ds).length ≤ sizeLine := by rw [enumD_len, ← rr.length]; exact z
  refine ⟨a, xs, rfl, ?_⟩
  rcases q2 with ⟨ht, q2⟩ | ⟨ht, q2⟩
  · exact .inl ⟨q2, fin _ _ _ _ _ e1 lk1 (lj_enumL (lit_list lk1 r1 es ht)) zl q1⟩
  · exact .inr ⟨q2, fin _ _ _ _ _ e1 lk1 (lj_enumT (lit_tup lk1 r1 es ht)) zl q1⟩
theorem di_zip (hg : Gl X "zip") (hm : X.mg "zip" = none) (ha : DE cl X a ta) (hb : DE cl X b tb) (hs : noStar a = true) (hs2 : noStar b = true) : DI cl X (.Tuple elts kk tpos) (.Call (.Name "zip" p) [a, b] [] pos) (fun Xd σ H Q => ta Xd σ H fun x H1 => tb Xd σ H1 fun y H2 =>
    ∃ ds es, litOf (rd H2 x) = some ds ∧ litOf (rd H2 y) = some es ∧ isTup (rd H2 x) = isTup (rd H2 y) ∧ Q (zipD ds es) (fun H => litOf (rd H x) = some ds ∧ litOf (rd H y) = some es) H2) := fun W tk => by
  have hst : [b].all noStar = true := by rw [List.all_cons, hs2]; rfl
  refine PI.imp (RZ.pi_zipA hg hm (pa_cons (ha W tk) (pa_cons (hb W tk) pa_nil (star_cons hs2 _ _)) (star_cons hs _ _)) (star_cons hs _ _) (star_any hst _ _)) ?_
  rintro τ H R ⟨σ, Hd, Xd, Qd, rs, lk, q, hx, fin⟩
  refine lift2 rs lk q hx ?_
  rintro v u x y Hd2 H2 e2 lk2 r1 r2 ⟨ds, es, h1, h2, h3, q1⟩
  obtain ⟨a, xs, rfl, z, rr, q3⟩ := (r1.cont lk2).lit h1
  have zl : (zipD ds es).length ≤ sizeLine := by rw [zipD_len, ← rr.length]; omega
  obtain ⟨b, ys, rfl, _, _, q4⟩ := (r2.cont lk2).lit h2
  refine ⟨a, b, xs, ys, rfl, ?_⟩
  rcases q3 with ⟨t3, q3⟩ | ⟨t3, q3⟩ <;> rcases q4 with ⟨t4, q4⟩ | ⟨t4, q4⟩
  · exact .inl ⟨q3, q4, fin _ _ _ _ _ e2 lk2 (lj_zipL (lit_list lk2 r1 h1 t3) (lit_list lk2 r2 h2 t4)) zl q1⟩
  · rw [t3, t4] at h3; cases h3
  · rw [t3, t4] at h3; cases h3
  · exact .inr ⟨q3, q4, fin _ _ _ _ _ e2 lk2 (lj_zipT (lit_tup lk2 r1 h1 t3) (lit_tup lk2 r2 h2 t4)) zl q1⟩
end
end DL

set_option maxRecDepth 100000
namespace DL
open PySem L2

/-! ### targets -/
abbrev DTG := D → DSt → DH → (DSt → DH → Prop) → Prop
abbrev DTGs := List D → DSt → DH → (DSt → DH → Prop) → Prop
def liftG (K : PySem.W.Frag) (cl : Str → Option Addr) (ns : List Nat) (t : DTG) : TG := fun v τ H Q => ∃ σ Hd d Qd, RepS K cl Hd H σ τ ∧ Lk K cl Hd H ∧ Rep K cl Hd H v d ∧ t d σ Hd Qd ∧
  ∀ τ' H', LN K cl Hd H Qd τ' H' → (∀ vs : List Nat, (∀ i ∈ ns, i ∈ vs) → wipe τ' vs = wipe τ vs) → Q τ' H'
def liftGs (K : PySem.W.Frag) (cl : Str → Option Addr) (n : Nat) (ns : List Nat) (t : DTGs) : TGs := fun v τ H Q => ∃ σ Hd d Qd, RepS K cl Hd H σ τ ∧ Lk K cl Hd H ∧ Reps K cl Hd H v d ∧ d.length = n ∧ t d σ Hd Qd ∧
  ∀ τ' H', LN K cl Hd H Qd τ' H' → (∀ vs : List Nat, (∀ i ∈ ns, i ∈ vs) → wipe τ' vs = wipe τ vs) → Q τ' H'
def DG (cl : Str → Option Addr) (X : Cx) (tg : Expr) (ns : List Nat) (t : DTG) : Prop := PG X tg (liftG X.K cl ns t)
def DGs (cl : Str → Option Addr) (X : Cx) (tgs : List Expr) (n : Nat) (ns : List Nat) (t : DTGs) : Prop := PGs X tgs (liftGs X.K cl n ns t)
theorem PG.imp {X : Cx} {tg : Expr} {t u : TG} (h : PG X tg t) (i : ∀ v σ H Q, u v σ H Q → t v σ H Q) : PG X tg u := ⟨fun pins s σ H v uu Q I r q => h.run pins s σ H v uu Q I r (i _ _ _ _ q)⟩
theorem PGs.imp {X : Cx} {tg : List Expr} {t u : TGs} (h : PGs X tg t) (i : ∀ v σ H Q, u v σ H Q → t v σ H Q) : PGs X tg u := ⟨fun pins s σ H v uu Q I r q => h.run pins s σ H v uu Q I r (i _ _ _ _ q)⟩
theorem wipe_set : ∀ {vs : List Nat} {τ : St} {i : Nat} {o : Option V}, i ∈ vs → wipe (τ.set i o) vs = wipe τ vs
  | v :: vs, τ, i, o, h => by
    unfold wipe
    by_cases e : i ∈ vs
    · rw [wipe_set e]
    · have ev : i = v := by
        rcases List.mem_cons.mp h with h | h
        · exact h
        · exact absurd h e
      subst ev
      have : ∀ (vs : List Nat) (τ : St), i ∉ vs → wipe (τ.set i o) vs = (wipe τ vs).set i o := by
        intro vs
        induction vs with
        | nil => intro τ _; rfl
        | cons w ws ih =>
          intro τ hn
          unfold wipe
          rw [ih τ (fun z => hn (List.mem_cons_of_mem _ z))]
          rw [List.set_comm _ _ (fun z => hn (by rw [z]; exact List.mem_cons_self))]
      rw [this vs τ e, List.set_set]
theorem wipe_wipe : ∀ (vs ws : List Nat) (τ : St), (∀ i ∈ vs, i ∈ ws) → wipe (wipe τ vs) ws = wipe τ ws
  | [], _, _, _ => rfl
  | v :: vs, ws, τ, h => by
    show wipe ((wipe τ vs).set v none) ws = wipe τ ws
    rw [wipe_set (h v List.mem_cons_self), wipe_wipe vs ws τ fun i hi => h i (List.mem_cons_of_mem _ hi)]
section
variable {cl : Str → Option Addr} {X : Cx} {tg o i : Expr} {tgs : List Expr} {to ti : DTE} {t : DTG} {ts : DTGs} {pos : Pos} {ns ms : List Nat} {n : Nat}
theorem dg_name {j : Nat} {x : Str} (hN : X.N.Nodup) (hi : X.N[j]? = some x) (hx : Loc X.env.scope x) (hf : X.fn x = true ∨ X.env.scope.names.lookup x = some .local) : DG cl X (.Name x pos) [j] (fun d σ H Q => Q (σ.set j (some d)) H) := by
  refine PG.imp (pg_name hN hi hx hf) ?_
  rintro v τ H Q ⟨σ, Hd, d, Qd, rs, lk, r, q, fin⟩
  exact fin _ _ ⟨_, Hd, Ext.refl _ _, lk, rs.set r j, q⟩ fun vs h => wipe_set (h j (by simp))
theorem dgs_nil : DGs cl X [] 0 [] (fun ds σ H Q => ds = [] ∧ Q σ H) := by
  refine PGs.imp pgs_nil ?_
  rintro v τ H Q ⟨σ, Hd, d, Qd, rs, lk, r, hl, ⟨rfl, q⟩, fin⟩
  cases r
  exact ⟨rfl, fin _ _ ⟨_, Hd, Ext.refl _ _, lk, rs, q⟩ fun _ _ => rfl⟩
theorem assignEach_of {e : Expr} (h : noStar e = true) (es : List Expr) (env : Env) : assignEach (e :: es) env = (false, assign e env) :: assignEach es env := by
  cases e <;> first | rfl | (simp [noStar] at h)
theorem dgs_cons (h1 : DG cl X tg ns t) (h2 : DGs cl X tgs n ms ts) (hs : noStar tg = true) : DGs cl X (tg :: tgs) (n + 1) (ns ++ ms) (fun ds σ H Q => ∃ d r, ds = d :: r ∧ t d σ H fun σ1 H1 => ts r σ1 H1 Q) := by
  refine PGs.imp (pgs_cons h1 h2 (by rw [assignEach_of hs]; rfl)) ?_
  rintro vs τ H Q ⟨σ, Hd, ds, Qd, rs, lk, r, hl, ⟨d, dr, rfl, q⟩, fin⟩
  cases r with
  | @cons v _ vs _ r rr =>
    refine ⟨v, vs, rfl, σ, Hd, d, _, rs, lk, r, q, ?_⟩
    rintro τ1 H1 ⟨σ1, Hd1, e1, lk1, rs1, q1⟩ w1
    refine ⟨σ1, Hd1, dr, _, rs1, lk1, rr.mono e1, by simpa using hl, q1, ?_⟩
    rintro τ2 H2 ⟨σ2, Hd2, e2, lk2, rs2, q2⟩ w2
    refine fin _ _ ⟨σ2, Hd2, e1.trans e2, lk2, rs2, q2⟩ fun ws h => ?_
    rw [w2 ws (fun i hi => h i (List.mem_append_right _ hi)), w1 ws (fun i hi => h i (List.mem_append_left _ hi))]
theorem assignEach_len : ∀ {es : List Expr} {env : Env}, es.all noStar = true → (assignEach es env).length = es.length ∧ (assignEach es env).findIdx? (·.1) = none
  | [], _, _ => ⟨rfl, rfl⟩
  | e :: es, env, h => by
    rw [List.all_cons, Bool.and_eq_true] at h
    obtain ⟨h1, h2⟩ := assignEach_len (env := env) h.2
    rw [assignEach_of h.1]
    refine ⟨by simp [h1], ?_⟩
    rw [List.findIdx?_cons, h2]
    rfl
theorem dg_tup {k : Nat} (hc : X.calm = true) (h : DGs cl X tgs n ns ts) (hst : tgs.all noStar = true) (hn : tgs.length = n) : DG cl X (.Tuple tgs k pos) ns (fun d σ H Q => ∃ xs, tupOf d = some xs ∧ xs.length = n ∧ ts xs σ H Q) := by
  refine PG.imp (pg_tup hc h (n := n) (by rw [(assignEach_len hst).1, hn]) (assignEach_len hst).2) ?_
  rintro v τ H Q ⟨σ, Hd, d, Qd, rs, lk, r, ⟨xs, ed, hl, q⟩, fin⟩
  have hlit : litOf d = some xs := by cases d <;> simp only [tupOf] at ed <;> first | (cases ed; done) | exact ed
  have htup : isTup d = true := by cases d <;> simp only [tupOf] at ed <;> first | (cases ed; done) | rfl
  obtain ⟨a, ws, rfl, z, rr, q2⟩ := (Cont.rep r).lit hlit
  rcases q2 with ⟨z1, _⟩ | ⟨_, q2⟩
  · rw [htup] at z1; cases z1
  · exact ⟨a, ws, rfl, q2, by rw [rr.length]; exact hl, σ, Hd, xs, Qd, rs, lk, rr, hl, q, fin⟩
theorem takes_no {X : Cx} : Takes X (fun _ _ _ _ => False) := fun _ _ ⟨_, _, _, _, _, _, _, _, _, _, _, _, _, _, _, _, w⟩ => w.elim
theorem noX_no {K : PySem.W.Frag} {Hd : DH} {H : Hp} : ∀ cls od τ' H', LX K cl Hd H noX cls od τ' H' → (fun _ _ _ _ => False : WX) cls od τ' H' := by
  rintro cls od τ' H' ⟨c, fs, σ', Hd', _, _, _, _, z⟩
  exact z
theorem dg_fld {C f : Str} {Ca : Addr} (hc : cl C = some Ca) (c : Cls X.K Ca) (n : NoAttr X.K Ca f) (ho : DE cl X o to) : DG cl X (.Attribute o f pos) [] (fun d σ H Q => to noX σ H fun x H1 => ∃ p fs, x = .ref p ∧ H1 p = some (.ins C fs) ∧ fs.length < 1000 ∧ Q σ (dupd H1 p (.ins C (fput f d fs)))) := by
  refine ⟨fun pins s τ H v u Q I rv h => ?_⟩
  obtain ⟨σ, Hd, d, Qd, rs, lk, r, q, fin⟩ := h
  show wpAny _ _ (do
    let ov ← holding [u] (eval o X.env)
    standAt pos.atName
    holding [u, ov] (setAttr ov f u)
    release [u, ov] []) _ _ s
  refine wpAny_bind (wpAny_holding (thn ((ho _ takes_no).run pins s τ H (fun x H1 => ∃ d1 Hd1, Ext Hd H Hd1 H1 ∧ Lk X.K cl Hd1 H1 ∧ Rep X.K cl Hd1 H1 x d1 ∧ ∃ p fs, d1 = .ref p ∧ Hd1 p = some (.ins C fs) ∧ fs.length < 1000 ∧ Qd σ (dupd Hd1 p (.ins C (fput f d fs)))) I ⟨σ, Hd, noX, _, rs, lk, q, noX_no, fun v H' h => h⟩) fun ov s1 ⟨x, H1, I1, r1, d1, Hd1, e1, lk1, rx, p, fs, ed, hp, hz, q1⟩ => ?_))
  subst ed
  cases rx
  obtain rfl : ov = Value.ref p := r1
  have L := lk1 p _ hp
  cases L with
  | @ins Ca' dx _ l _ hc' eH rf =>
    rw [hc] at hc'; cases hc'
    refine wpAny_bind (wpAny_standAt (wpAny_bind (wpAny_holding (setattr_ok I1 eH c n (by rw [rf.length]; exact hz) rv fun s3 I3 => ?_))))
    refine wpAny_release ⟨τ, _, I3, fin _ _ ⟨σ, dupd Hd1 p (.ins C (fput f d fs)), e1.trans (Ext.write hp), ?_, rs.mono (e1.trans (Ext.write hp)), q1⟩ fun _ _ => rfl⟩
    exact lk1.write hp (.ins hc upd_same ((rf.put (r.mono e1)).mono (Ext.write hp)))
/-! items -/
def sD (K : PySem.W.Frag) (cl : Str → Option Addr) (f : D → D → D → DH → (DH → Prop) → Prop) : TSet := fun o i v H Q => ∃ x y d Hd Qd, Lk K cl Hd H ∧ Rep K cl Hd H o x ∧ Rep K cl Hd H i y ∧ Rep K cl Hd H v d ∧ f x y d Hd Qd ∧ ∀ H', (∃ Hd', Ext Hd H Hd' H' ∧ Lk K cl Hd' H' ∧ Qd Hd') → Q H'
theorem set_D (hu : X.A.units + 1 < cLine) : PSet X (sD X.K cl setD) := by
  rintro pins s τ H o i v ov iv u Q I ro ri rv ⟨x, y, d, Hd, Qd, lk, rx, ry, rd', q, fin⟩
  cases x <;> try exact False.elim q
  rename_i p
  cases rx
  cases hp : Hd p with
  | none => simp only [setD, hp] at q
  | some z =>
    have L := lk p z hp
    simp only [setD, hp] at q
    cases L with
    | @lst xs ds e hz r =>
      cases y <;> try exact False.elim q
      rename_i k
      obtain ⟨j, hj, q⟩ := q
      cases ry
      rw [← r.length] at hj
      refine set_list pins s τ H _ _ v ov iv u Q I ro ri rv ⟨p, xs, k, j, rfl, rfl, e, hj, fin _ ⟨_, Ext.write hp, lk.write hp (.lst upd_same (by rw [List.length_set]; exact hz) ((r.set rd' j).mono (Ext.write hp))), q⟩⟩
    | @dicK l kvs e hz r =>
      obtain ⟨hk, hlt, q⟩ := q
      obtain ⟨k, rfl⟩ := isKey_f hk
      rw [← r.length] at hlt
      have ey := ry.key
      have hl : (putK l k v).length ≤ sizeLine := by have := length_putK l k v; omega
      exact set_dict hu pins s τ H _ _ v ov iv u Q I ro ri rv ⟨p, _, rfl, .inl ⟨l, k, e, ey, hlt, rfl⟩, fin _ ⟨_, Ext.write hp, lk.write hp (.dicK upd_same hl ((r.put rd').mono (Ext.write hp))), q⟩⟩
    | @dicT l kvs e hz r =>
      obtain ⟨hk, hlt, q⟩ := q
      obtain ⟨k, rfl⟩ := isKey_t hk
      rw [← r.length] at hlt
      obtain ⟨b, rfl, eb⟩ := (Cont.rep ry).keyT
      have hl : (putK l k v).length ≤ sizeLine := by have := length_putK l k v; omega
      exact set_dict hu pins s τ H _ _ v ov iv u Q I ro ri rv ⟨p, _, rfl, .inr ⟨l, k, b, e, rfl, eb, hlt, rfl⟩, fin _ ⟨_, Ext.write hp, lk.write hp (.dicT upd_same hl ((r.put rd').mono (Ext.write hp))), q⟩⟩
    | ins c e r => exact False.elim q
theorem assign_sub {i : Expr} (h : noSlice i = true) (o : Expr) (pos : Pos) (env : Env) (v : Value) : assign (.Subscript o i pos) env v = (do
      let ov ← holding [v] (eval o env)
      let iv ← holding [v, ov] (eval i env)
      standAt pos
      holding [v, ov, iv] (setItem ov iv v)
      release [v, ov, iv] []) := by
  cases i <;> first | rfl | (simp [noSlice] at h)
theorem dg_sub (hu : X.A.units + 1 < cLine) (hs : noSlice i = true) (ho : DE cl X o to) (hi : DE cl X i ti) : DG cl X (.Subscript o i pos) [] (fun d σ H Q => to noX σ H fun x H1 => ti noX σ H1 fun y H2 => setD x y d H2 fun H3 => Q σ H3) := by
  refine PG.imp (pg_sub (ho _ takes_no) (hi _ takes_no) (set_D (cl := cl) hu) (assign_sub hs _ _ _)) ?_
  rintro v τ H Q ⟨σ, Hd, d, Qd, rs, lk, r, q, fin⟩
  refine ⟨σ, Hd, noX, _, rs, lk, q, noX_no, ?_⟩
  rintro o' H1 ⟨x, Hd1, e1, lk1, r1, q1⟩
  refine ⟨σ, Hd1, noX, _, rs.mono e1, lk1, q1, noX_no, ?_⟩
  rintro i' H2 ⟨y, Hd2, e2, lk2, r2, q2⟩
  refine ⟨x, y, d, Hd2, _, lk2, r1.mono e2, r2, r.mono (e1.trans e2), q2, ?_⟩
  rintro H3 ⟨Hd3, e3, lk3, q3⟩
  have ee := e1.trans (e2.trans e3)
  exact fin _ _ ⟨σ, Hd3, ee, lk3, rs.mono ee, q3⟩ fun _ _ => rfl
end
end DL

set_option maxRecDepth 100000
namespace DL
open PySem L2

/-! ### comprehensions -/
abbrev DTT := DSt → DH → (Bool → DH → Prop) → Prop
def liftTs (K : PySem.W.Frag) (cl : Str → Option Addr) (t : DTT) : TT := fun τ H Q => ∃ σ Hd Qd, RepS K cl Hd H σ τ ∧ Lk K cl Hd H ∧ t σ Hd Qd ∧ ∀ b H', (∃ Hd', Ext Hd H Hd' H' ∧ Lk K cl Hd' H' ∧ Qd b Hd') → Q b H'
def DTs (cl : Str → Option Addr) (X : Cx) (es : List Expr) (t : DTT) : Prop := PTs X es (liftTs X.K cl t)
theorem PTs.imp {X : Cx} {e : List Expr} {t u : TT} (h : PTs X e t) (i : ∀ σ H Q, u σ H Q → t σ H Q) : PTs X e u := ⟨fun pins s σ H Q I q => h.run pins s σ H Q I (i _ _ _ q)⟩
section
variable {cl : Str → Option Addr} {X : Cx} {tg iter elt c : Expr} {ifs : List Expr} {tI : DTI} {tG : DTG} {tT : DTT} {tc te : DTE} {ns : List Nat} {scope : Scope} {own : List (Str × Nat)} {pos spos : Pos} {m : Bool}
theorem dts_nil : DTs cl X [] (fun σ H Q => Q true H) := by
  refine PTs.imp pts_nil ?_
  rintro τ H Q ⟨σ, Hd, Qd, rs, lk, q, fin⟩
  exact fin _ _ ⟨Hd, Ext.refl _ _, lk, q⟩
theorem dts_one (h : DT cl X c tc) : DTs cl X [c] (fun σ H Q => tc noX σ H fun x H1 => ∃ b, x = .bl b ∧ if b = true then Q true H1 else Q false H1) := by
  refine PTs.imp (pts_one (h _ takes_no)) ?_
  rintro τ H Q ⟨σ, Hd, Qd, rs, lk, q, fin⟩
  refine ⟨σ, Hd, noX, _, fun b H1 => if b = true then Qd true H1 else Qd false H1, rs, lk, q, fun _ _ h => h, noX_no, ?_⟩
  rintro b H' ⟨Hd', e, lk', q'⟩
  cases b with
  | true => exact fin _ _ ⟨Hd', e, lk', q'⟩
  | false => exact fin _ _ ⟨Hd', e, lk', q'⟩
/-- the block of a comprehension, told by data -/
def wComp (tI : DTI) (tG : DTG) (tT : DTT) (te : DTE) (vs : List Nat) (m : Bool) : DTE := fun Xd σ H Q => tI Xd σ H fun ds st H1 => ds.length ≤ sizeLine → ∀ p, H1 p = none → ∃ I : Nat → List D → DH → Prop, I 0 [] (dupd H1 p (.lst [])) ∧ (∀ i acc H, I i acc H → st H) ∧
      (∀ i d acc H, ds[i]? = some d → I i acc H → H p = some (.lst acc) → acc.length ≤ i → tG d (dwipe σ vs) H fun σ2 H2 => tT σ2 H2 fun b H3 =>
        if b = true then te noX σ2 H3 fun y H4 => H4 p = some (.lst acc) ∧ I (i + 1) (acc ++ [y]) (dupd H4 p (.lst (acc ++ [y]))) else H3 p = some (.lst acc) ∧ I (i + 1) acc H3) ∧
      ∀ acc H, I ds.length acc H → H p = some (.lst acc) → acc.length ≤ ds.length → if m = true then Q (.ref p) H else Q (.lst acc) (minus H fun b => b == p)
theorem comp_core {K : PySem.W.Frag} {W : WX} {vs : List Nat} {τ : St} {H : Hp} {Q : VK} {σ : DSt} {Hd : DH} {Xd : DXS} {Qd : DK} (rs : RepS K cl Hd H σ τ) (lk : Lk K cl Hd H) (hns : ∀ i ∈ ns, i ∈ vs)
    (h : wComp tI tG tT te vs m Xd σ Hd Qd) (hx : ∀ cls od τ' H', LX K cl Hd H Xd cls od τ' H' → W cls od τ' H') (fin : ∀ v H', LQ K cl Hd H Qd v H' → Q v H') :
    tLc (liftI K cl W tI) (liftG K cl ns tG) (liftTs K cl tT) (liftE K cl (fun _ _ _ _ => False) te) vs τ H Q := by
  refine ⟨σ, Hd, Xd, _, rs, lk, h, hx, ?_⟩
  intro ds st Hd1 J H1 e1 lk1 L hz q1 A hA
  obtain ⟨I, i0, hst, step, last⟩ := q1 hz A (lk1.free hA)
  have eA : Ext Hd1 H1 (dupd Hd1 A (.lst [])) (upd H1 A (.lst [])) := Ext.newD hA
  have lkA : Lk K cl (dupd Hd1 A (.lst [])) (upd H1 A (.lst [])) := lk1.newD hA (.lst upd_same (Nat.zero_le _) .nil)
  refine ⟨fun i m H' => m = ds.length - i ∧ i ≤ ds.length ∧ ∃ Hd' acc, Ext Hd1 H1 Hd' H' ∧ Lk K cl Hd' H' ∧ Hd' A = some (.lst acc) ∧ acc.length ≤ i ∧ I i acc Hd', ⟨ds.length, by simp, Nat.zero_le _, _, [], eA, lkA, dupd_same, Nat.le_refl _, i0⟩, ?_⟩
  rintro i k H2 ⟨rfl, hi, Hd2, acc, e2, lk2, hd2, hl2, i2⟩
  have s2 := hst _ _ _ i2
  by_cases hlt : i < ds.length
  · refine .inr ⟨L.go _ _ i e2 lk2 s2 hlt, fun H' => ∃ Hd' acc, Ext Hd1 H1 Hd' H' ∧ Lk K cl Hd' H' ∧ Hd' A = some (.lst acc) ∧ acc.length ≤ i + 1 ∧ I (i + 1) acc Hd', fun H' w => ⟨ds.length - (i + 1), by omega, rfl, hlt, w⟩, ?_⟩
    intro x H3 y3
    obtain ⟨d, ed, e3, lk3, rx⟩ := L.yld _ _ i x H3 e2 lk2 s2 y3 hlt
    have ee : Ext Hd H Hd2 H3 := e1.trans (e2.trans e3)
    refine ⟨dwipe σ vs, Hd2, d, _, (rs.mono ee).wipe vs, lk3, rx, step i d acc Hd2 ed i2 hd2 hl2, ?_⟩
    rintro τ4 H4 ⟨σ4, Hd4, e4, lk4, rs4, q4⟩ w4
    refine ⟨by rw [w4 vs hns, wipe_wipe vs vs τ fun _ h => h], σ4, Hd4, _, rs4, lk4, q4, ?_⟩
    rintro b H5 ⟨Hd5, e5, lk5, q5⟩
    have e25 : Ext Hd1 H1 Hd5 H5 := e2.trans (e3.trans (e4.trans e5))
    cases b with
    | false =>
      simp only [Bool.false_eq_true, if_false] at q5 ⊢
      exact ⟨Hd5, acc, e25, lk5, q5.1, by omega, q5.2⟩
    | true =>
      simp only [if_true] at q5 ⊢
      refine ⟨σ4, Hd5, noX, _, rs4.mono e5, lk5, q5, noX_no, ?_⟩
      rintro v H6 ⟨y, Hd6, e6, lk6, r6, hp6, q6⟩
      have L6 := lk6 A _ hp6
      cases L6 with
      | @lst xs _ eH z r =>
        have hl := r.length
        have hlt' : xs.length < sizeLine := by omega
        refine ⟨xs, eH, hlt', dupd Hd6 A (.lst (acc ++ [y])), acc ++ [y], e25.trans (e6.trans (Ext.write hp6)), ?_, dupd_same, by rw [List.length_append, List.length_singleton]; omega, q6⟩
        exact lk6.write hp6 (.lst upd_same (by rw [List.length_append, List.length_singleton]; omega) ((r.append (.cons r6 .nil)).mono (Ext.write hp6)))
  · have e : i = ds.length := by omega
    subst e
    refine .inl ⟨L.stop _ _ _ e2 lk2 s2 (Nat.le_refl _), fin _ _ ?_⟩
    have q := last acc Hd2 i2 hd2 hl2
    cases m with
    | true => exact ⟨_, Hd2, e1.trans e2, lk2, .ref A, q⟩
    | false =>
      refine ⟨.lst acc, minus Hd2 (fun b => b == A), e1.trans (e2.trans (Ext.minus _)), lk2.minus _, ?_, q⟩
      exact (Ice.ref hd2 (by simp) (.same _)).rep lk2 (.ref A)
theorem folded_iter {e : Expr} (h : noSet e = true) (env : Env) (x : Value) : foldedSetIterable e env x = pure x := folded_of h env x
theorem de_comp (hc : X.calm = true) (hN : X.N.Nodup) (hi : DI cl X tg iter tI) (ok : BlkOk X.N X.env.scope scope own) (hns : ∀ i ∈ ns, i ∈ own.map (·.2)) (hs : noSet iter = true)
    (hg : ∀ (s : Shared) (H : Hp) (C : Addr) (cs : List (Str × Addr)) (fp : List Addr), DG cl (X.blk s H scope (compEnvC scope cs C X.env) fp) tg ns tG)
    (ht : ∀ (s : Shared) (H : Hp) (C : Addr) (cs : List (Str × Addr)) (fp : List Addr), DTs cl (X.blk s H scope (compEnvC scope cs C X.env) fp) ifs tT)
    (he : ∀ (s : Shared) (H : Hp) (C : Addr) (cs : List (Str × Addr)) (fp : List Addr), DE cl (X.blk s H scope (compEnvC scope cs C X.env) fp) elt te) :
    DE cl X (.ListComp elt [⟨tg, iter, ifs, 0⟩] scope pos) (wComp tI tG tT te (own.map (·.2)) m) := fun W tk => by
  refine PE.imp (pe_lc (g := liftG X.K cl ns tG) (tt := liftTs X.K cl tT) (te := liftE X.K cl (fun _ _ _ _ => False) te) hc hN (hi W tk) ok (fun s H C cs fp => hg s H C cs fp) (fun s H C cs fp => ht s H C cs fp) (fun s H C cs fp => he s H C cs fp _ takes_no) (folded_of hs _)) ?_
  rintro τ H Q ⟨σ, Hd, Xd, Qd, rs, lk, q, hx, fin⟩
  exact comp_core rs lk hns q hx fin
end
end DL

set_option maxRecDepth 100000
namespace DL
open PySem L2

/-! ### statements -/
theorem PS.imp' {X : Cx} {e : Stmt} {t u : TS} (h : PS X e t) (i : ∀ D σ H, u D σ H → t D σ H) : PS X e u := PS.imp h i
section
variable {cl : Str → Option Addr} {X : Cx} {tg e o i c : Expr} {te to ti tc : DTE} {tG : DTG} {t u : DTS} {tI : DTI} {pos pos' tpos p : Pos} {ns : List Nat} {st : Stmt} {body rest : List Stmt}
theorem op_augD {o : BOp} : OpR X (inplaceOp (opOf o)) (r2D X.K cl (augD o)) := by
  rintro pins s σ H v u vv uu Q I rv ru ⟨x, y, Hd, Qd, lk, cx, cy, h, fin⟩
  cases o <;> cases x <;> try exact False.elim h
  all_goals cases y <;> try exact False.elim h
  · rw [cx.int] at rv; rw [cy.int] at ru
    refine iop_add pins s σ H _ _ vv uu Q I rv ru ⟨_, _, rfl, rfl, fin _ _ (LQ.here lk (.int _) h)⟩
  · obtain ⟨rfl, _, k1⟩ := cx.str
    obtain ⟨rfl, _, k2⟩ := cy.str
    refine iop_add_str pins s σ H _ _ vv uu Q I rv ru ⟨_, _, rfl, rfl, h.1, fin _ _ (LQ.here lk (.str (by rw [length_app]; exact h.1) (strOk_app k1 k2)) h.2)⟩
  · rw [cx.int] at rv; rw [cy.int] at ru
    refine iop_sub pins s σ H _ _ vv uu Q I rv ru ⟨_, _, rfl, rfl, fin _ _ (LQ.here lk (.int _) h)⟩
  · rw [cx.int] at rv; rw [cy.int] at ru
    refine iop_mul pins s σ H _ _ vv uu Q I rv ru ⟨_, _, rfl, rfl, h.1, fin _ _ (LQ.here lk (.int _) h.2)⟩
/-- the ends of a statement behind a step -/
theorem DS.imp {t u : DTS} (h : DS cl X st t) (i : ∀ E σ H, u E σ H → t E σ H) : DS cl X st u := fun W tk => PS.imp (h W tk) (by
  rintro D τ H ⟨σ, Hd, E, rs, lk, q, r⟩
  exact ⟨σ, Hd, E, rs, lk, i _ _ _ q, r⟩)
theorem ds_set (he : DE cl X e te) (hg : DG cl X tg ns tG) (hs : swapsWithSole [tg] e pos.line X.env = pure false) (hw : swappedStores [tg] e X.env = pure none) (hst : noStar tg = true) :
    DS cl X (.Assign [tg] e pos) (fun E σ H => te E.ex σ H fun x H1 => tG x σ H1 E.nx) := fun W tk => by
  refine PS.imp (ps_asg (he W tk) hg hs hw (by rw [assignEach_of hst]; rfl)) ?_
  rintro D τ H ⟨σ, Hd, E, rs, lk, q, hx, nx, rt, bk, ct⟩
  refine ⟨σ, Hd, E.ex, _, rs, lk, q, hx, ?_⟩
  rintro v H1 ⟨x, Hd1, e1, lk1, r1, q1⟩
  refine ⟨σ, Hd1, x, _, rs.mono e1, lk1, r1, q1, ?_⟩
  rintro τ2 H2 h2 _
  exact nx _ _ (h2.pre e1)
/-- name = [..], on one line -/
theorem ds_setC {elt tg iter : Expr} {ifs : List Expr} {tT : DTT} {te : DTE} {ns : List Nat} {scope : Scope} {own : List (Str × Nat)} {m : Bool} {y : Str} {j : Nat} {py : Pos} (hc : X.calm = true) (hN : X.N.Nodup) (hy : X.N[j]? = some y) (hyl : X.env.scope.names.lookup y = some .local)
    (hsw : swapsWith (.ListComp elt [⟨tg, iter, ifs, 0⟩] scope pos) (some (.Name y py)) pos'.line X.env = pure true) (hi : DI cl X tg iter tI) (ok : BlkOk X.N X.env.scope scope own) (hns : ∀ i ∈ ns, i ∈ own.map (·.2)) (hs : noSet iter = true)
    (hg : ∀ (s : Shared) (H : Hp) (C : Addr) (cs : List (Str × Addr)) (fp : List Addr), DG cl (X.blk s H scope (compEnvC scope cs C X.env) fp) tg ns tG)
    (ht : ∀ (s : Shared) (H : Hp) (C : Addr) (cs : List (Str × Addr)) (fp : List Addr), DTs cl (X.blk s H scope (compEnvC scope cs C X.env) fp) ifs tT)
    (he : ∀ (s : Shared) (H : Hp) (C : Addr) (cs : List (Str × Addr)) (fp : List Addr), DE cl (X.blk s H scope (compEnvC scope cs C X.env) fp) elt te) :
    DS cl X (.Assign [.Name y py] (.ListComp elt [⟨tg, iter, ifs, 0⟩] scope pos) pos') (fun E σ H => wComp tI tG tT te (own.map (·.2)) m E.ex σ H fun x H1 => E.nx (σ.set j (some x)) H1) := fun W tk => by
  refine PS.imp (ps_setLc (g := liftG X.K cl ns tG) (tt := liftTs X.K cl tT) (te := liftE X.K cl (fun _ _ _ _ => False) te) hc hN hy hyl hsw (hi W tk) ok (fun s H C cs fp => hg s H C cs fp) (fun s H C cs fp => ht s H C cs fp) (fun s H C cs fp => he s H C cs fp _ takes_no) (folded_of hs _)) ?_
  rintro D τ H ⟨σ, Hd, E, rs, lk, q, hx, nx, rt, bk, ct⟩
  refine comp_core rs lk hns q hx ?_
  rintro v H1 ⟨x, Hd1, e1, lk1, r1, q1⟩
  exact nx _ _ ⟨_, Hd1, e1, lk1, (rs.mono e1).set r1 j, q1⟩
theorem ds_expr (he : DE cl X e te) (hs : noComp e = true) : DS cl X (.Expr e pos) (fun E σ H => te E.ex σ H fun _ H1 => E.nx σ H1) := fun W tk => by
  refine PS.imp (ps_expr (he W tk) (swaps_of hs _ _ _)) ?_
  rintro D τ H ⟨σ, Hd, E, rs, lk, q, hx, nx, rt, bk, ct⟩
  refine ⟨σ, Hd, E.ex, _, rs, lk, q, hx, ?_⟩
  rintro v H1 ⟨x, Hd1, e1, lk1, r1, q1⟩
  exact nx _ _ ⟨σ, Hd1, e1, lk1, rs.mono e1, q1⟩
theorem ds_pass : DS cl X (.Pass pos) (fun E σ H => E.nx σ H) := fun W tk => by
  refine PS.imp ps_pass ?_
  rintro D τ H ⟨σ, Hd, E, rs, lk, q, hx, nx, rt, bk, ct⟩
  exact nx _ _ ⟨σ, Hd, Ext.refl _ _, lk, rs, q⟩
theorem ds_doc {x : Str} {j : Nat} : DS cl X (.Expr (.Constant (.str x) j pos) pos') (fun E σ H => E.nx σ H) := fun W tk => by
  refine PS.imp ps_doc ?_
  rintro D τ H ⟨σ, Hd, E, rs, lk, q, hx, nx, rt, bk, ct⟩
  exact nx _ _ ⟨σ, Hd, Ext.refl _ _, lk, rs, q⟩
theorem ds_brk : DS cl X (.Break pos) (fun E σ H => E.bk σ H) := fun W tk => by
  refine PS.imp ps_break ?_
  rintro D τ H ⟨σ, Hd, E, rs, lk, q, hx, nx, rt, bk, ct⟩
  exact bk _ _ ⟨σ, Hd, Ext.refl _ _, lk, rs, q⟩
theorem ds_cont : DS cl X (.Continue pos) (fun E σ H => E.ct σ H) := fun W tk => by
  refine PS.imp ps_continue ?_
  rintro D τ H ⟨σ, Hd, E, rs, lk, q, hx, nx, rt, bk, ct⟩
  exact ct _ _ ⟨σ, Hd, Ext.refl _ _, lk, rs, q⟩
theorem ds_ret (he : DE cl X e te) : DS cl X (.Return (some e) pos) (fun E σ H => te E.ex σ H fun x H1 => FzV x H1 E.rt) := fun W tk => by
  refine PS.imp (ps_ret (he W tk)) ?_
  rintro D τ H ⟨σ, Hd, E, rs, lk, q, hx, nx, rt, bk, ct⟩
  refine ⟨σ, Hd, E.ex, _, rs, lk, q, hx, ?_⟩
  rintro v H1 ⟨x, Hd1, e1, lk1, r1, S, x', ice, q1⟩
  exact rt _ _ ⟨x', minus Hd1 S, e1.trans (Ext.minus S), lk1.minus S, ice.rep lk1 r1, q1⟩
theorem ds_retN : DS cl X (.Return none pos) (fun E σ H => FzV .non H E.rt) := fun W tk => by
  refine PS.imp ps_retN ?_
  rintro D τ H ⟨σ, Hd, E, rs, lk, ⟨S, x', ice, q1⟩, hx, nx, rt, bk, ct⟩
  exact rt _ _ ⟨x', minus Hd S, Ext.minus S, lk.minus S, ice.rep lk .non, q1⟩
theorem db_nil : DB cl X [] (fun E σ H => E.nx σ H) := fun W tk => by
  refine PSs.imp pss_nil ?_
  rintro D τ H ⟨σ, Hd, E, rs, lk, q, hx, nx, rt, bk, ct⟩
  exact nx _ _ ⟨σ, Hd, Ext.refl _ _, lk, rs, q⟩
theorem db_cons (h1 : DS cl X st t) (h2 : DB cl X rest u) : DB cl X (st :: rest) (fun E σ H => t { E with nx := u E } σ H) := fun W tk => by
  refine PSs.imp (pss_cons (h1 W tk) (h2 W tk)) ?_
  rintro D τ H ⟨σ, Hd, E, rs, lk, q, hx, nx, rt, bk, ct⟩
  refine ⟨σ, Hd, { E with nx := u E }, rs, lk, q, hx, ?_, rt, bk, ct⟩
  rintro τ' H' ⟨σ', Hd', e', lk', rs', q'⟩
  exact ⟨σ', Hd', E, rs', lk', q', xmono e' hx, fun a b h => nx a b (h.pre e'), fun a b h => rt a b (h.pre e'), fun a b h => bk a b (h.pre e'), fun a b h => ct a b (h.pre e')⟩
theorem ds_if (hc : DT cl X c tc) (ha : DB cl X body t) (hb : DB cl X rest u) : DS cl X (.If c body rest pos) (fun E σ H => tc E.ex σ H fun x H1 => ∃ k, x = .bl k ∧ if k = true then t E σ H1 else u E σ H1) := fun W tk => by
  refine PS.imp (ps_if (hc W tk) (ha W tk) (hb W tk)) ?_
  rintro D τ H ⟨σ, Hd, E, rs, lk, q, hx, nx, rt, bk, ct⟩
  refine ⟨σ, Hd, E.ex, _, fun k H1 => if k = true then t E σ H1 else u E σ H1, rs, lk, q, fun _ _ h => h, hx, ?_⟩
  rintro k H' ⟨Hd', e', lk', q'⟩
  cases k with
  | true => exact ⟨σ, Hd', E, rs.mono e', lk', q', xmono e' hx, fun a b h => nx a b (h.pre e'), fun a b h => rt a b (h.pre e'), fun a b h => bk a b (h.pre e'), fun a b h => ct a b (h.pre e')⟩
  | false => exact ⟨σ, Hd', E, rs.mono e', lk', q', xmono e' hx, fun a b h => nx a b (h.pre e'), fun a b h => rt a b (h.pre e'), fun a b h => bk a b (h.pre e'), fun a b h => ct a b (h.pre e')⟩
theorem Fz.rep {K : PySem.W.Frag} {Hd : DH} {H : Hp} {σ : DSt} {τ : St} {P : DSt → DH → Prop} (rs : RepS K cl Hd H σ τ) (lk : Lk K cl Hd H) (h : Fz σ Hd P) : LN K cl Hd H P τ H := by
  obtain ⟨S, σ', ice, q⟩ := h
  exact ⟨σ', minus Hd S, Ext.minus S, lk.minus S, ice.rep lk rs, q⟩
theorem ds_while (hp : PassesOwn (model X.prog X.w) X.A X.env X.xe) (hc : DT cl X c tc) (hb : DB cl X body t) : DS cl X (.While c body [] pos) (fun E σ H => ∃ I : Nat → DSt → DH → Prop, (∃ m, I m σ H) ∧ ∀ m σ H, I m σ H → tc E.ex σ H fun x H1 => ∃ k, x = .bl k ∧
      if k = true then t { E with nx := fun σ' H' => Fz σ' H' fun σ' H' => ∃ m', m' < m ∧ I m' σ' H', ct := fun σ' H' => Fz σ' H' fun σ' H' => ∃ m', m' < m ∧ I m' σ' H', bk := E.nx } σ H1
      else E.nx σ H1) := fun W tk => by
  refine PS.imp (ps_while hp (hc W tk) (hb W tk)) ?_
  rintro D τ H ⟨σ, Hd, E, rs, lk, ⟨I, ⟨m0, i0⟩, step⟩, hx, nx, rt, bk, ct⟩
  refine ⟨fun m τ' H' => ∃ σ' Hd', Ext Hd H Hd' H' ∧ Lk X.K cl Hd' H' ∧ RepS X.K cl Hd' H' σ' τ' ∧ I m σ' Hd', ⟨m0, σ, Hd, Ext.refl _ _, lk, rs, i0⟩, ?_⟩
  rintro m τ1 H1 ⟨σ1, Hd1, e1, lk1, rs1, i1⟩
  refine ⟨σ1, Hd1, E.ex, _, fun k H2 => if k = true then t { E with nx := fun σ' H' => Fz σ' H' fun σ' H' => ∃ m', m' < m ∧ I m' σ' H', ct := fun σ' H' => Fz σ' H' fun σ' H' => ∃ m', m' < m ∧ I m' σ' H', bk := E.nx } σ1 H2 else E.nx σ1 H2, rs1, lk1, step m σ1 Hd1 i1, fun _ _ h => h, xmono e1 hx, ?_⟩
  rintro k H2 ⟨Hd2, e2, lk2, q2⟩
  have e12 := e1.trans e2
  cases k with
  | false => exact nx _ _ ⟨σ1, Hd2, e12, lk2, rs1.mono e2, q2⟩
  | true =>
    have back : ∀ τ' H', LN X.K cl Hd2 H2 (fun σ' H' => Fz σ' H' fun σ' H' => ∃ m', m' < m ∧ I m' σ' H') τ' H' → ∃ m', m' < m ∧ ∃ σ' Hd', Ext Hd H Hd' H' ∧ Lk X.K cl Hd' H' ∧ RepS X.K cl Hd' H' σ' τ' ∧ I m' σ' Hd' := by
      rintro τ' H' ⟨σ', Hd', e', lk', rs', f⟩
      obtain ⟨σ'', Hd'', e'', lk'', rs'', m', hm, im⟩ := Fz.rep rs' lk' f
      exact ⟨m', hm, σ'', Hd'', e12.trans (e'.trans e''), lk'', rs'', im⟩
    refine ⟨fun τ' H' => ∃ m', m' < m ∧ ∃ σ' Hd', Ext Hd H Hd' H' ∧ Lk X.K cl Hd' H' ∧ RepS X.K cl Hd' H' σ' τ' ∧ I m' σ' Hd', fun τ' H' h => h, ?_⟩
    exact ⟨σ1, Hd2, _, rs1.mono e2, lk2, q2, xmono e12 hx, back, fun a b h => rt a b (h.pre e12), fun a b h => nx a b (h.pre e12), back⟩
theorem ds_for {tgn : List Nat} (hp : PassesOwn (model X.prog X.w) X.A X.env X.xe) (hc : X.calm = true) (hi : DI cl X tg i tI) (hg : DG cl X tg tgn tG) (hb : DB cl X body t) (hs : noSet i = true) : DS cl X (.For tg i body [] pos) (fun E σ H => tI E.ex σ H fun ds st H1 => ds.length ≤ sizeLine → ∃ I : Nat → DSt → DH → Prop, I 0 σ H1 ∧ (∀ i σ H, I i σ H → st H) ∧
      (∀ i d σ H, ds[i]? = some d → I i σ H → tG d σ H fun σ2 H2 => t { E with nx := fun σ' H' => Fz σ' H' (I (i + 1)), ct := fun σ' H' => Fz σ' H' (I (i + 1)), bk := E.nx } σ2 H2) ∧
      ∀ σ H, I ds.length σ H → E.nx σ H) := fun W tk => by
  refine PS.imp (ps_for hp hc (hi W tk) hg (hb W tk) (folded_of hs _)) ?_
  rintro D τ H ⟨σ, Hd, E, rs, lk, q, hx, nx, rt, bk, ct⟩
  refine ⟨σ, Hd, E.ex, _, rs, lk, q, hx, ?_⟩
  intro ds st Hd1 J H1 e1 lk1 L hz q1
  obtain ⟨I, i0, hst, step, last⟩ := q1 hz
  refine ⟨fun i m τ' H' => m = ds.length - i ∧ i ≤ ds.length ∧ ∃ σ' Hd', Ext Hd1 H1 Hd' H' ∧ Lk X.K cl Hd' H' ∧ RepS X.K cl Hd' H' σ' τ' ∧ I i σ' Hd', ⟨ds.length, by simp, Nat.zero_le _, σ, Hd1, Ext.refl _ _, lk1, rs.mono e1, i0⟩, ?_⟩
  rintro i k τ2 H2 ⟨rfl, hi, σ2, Hd2, e2, lk2, rs2, i2⟩
  have s2 := hst _ _ _ i2
  have e12 := e1.trans e2
  by_cases hlt : i < ds.length
  · refine .inr ⟨L.go _ _ i e2 lk2 s2 hlt, fun τ' H' => ∃ σ' Hd', Ext Hd1 H1 Hd' H' ∧ Lk X.K cl Hd' H' ∧ RepS X.K cl Hd' H' σ' τ' ∧ I (i + 1) σ' Hd', fun τ' H' w => ⟨ds.length - (i + 1), by omega, rfl, hlt, w⟩, ?_⟩
    intro x H3 y3
    obtain ⟨d, ed, e3, lk3, rx⟩ := L.yld _ _ i x H3 e2 lk2 s2 y3 hlt
    refine ⟨σ2, Hd2, d, _, rs2.mono e3, lk3, rx, step i d σ2 Hd2 ed i2, ?_⟩
    rintro τ4 H4 ⟨σ4, Hd4, e4, lk4, rs4, q4⟩ _
    have e14 := e12.trans (e3.trans e4)
    have back : ∀ τ' H', LN X.K cl Hd4 H4 (fun σ' H' => Fz σ' H' (I (i + 1))) τ' H' → ∃ σ' Hd', Ext Hd1 H1 Hd' H' ∧ Lk X.K cl Hd' H' ∧ RepS X.K cl Hd' H' σ' τ' ∧ I (i + 1) σ' Hd' := by
      rintro τ' H' ⟨σ', Hd', e', lk', rs', f⟩
      obtain ⟨σ'', Hd'', e'', lk'', rs'', im⟩ := Fz.rep rs' lk' f
      exact ⟨σ'', Hd'', e2.trans (e3.trans (e4.trans (e'.trans e''))), lk'', rs'', im⟩
    exact ⟨σ4, Hd4, _, rs4, lk4, q4, xmono e14 hx, back, fun a b h => rt a b (h.pre e14), fun a b h => nx a b (h.pre e14), back⟩
  · have e : i = ds.length := by omega
    subst e
    exact .inl ⟨L.stop _ _ _ e2 lk2 s2 (Nat.le_refl _), nx _ _ ⟨σ2, Hd2, e12, lk2, rs2, last _ _ i2⟩⟩
end
end DL

set_option maxRecDepth 100000
namespace DL
open PySem L2
section
variable {cl : Str → Option Addr} {X : Cx} {tg e o i c a b : Expr} {te to ti tc : DTE} {tA : DTA} {pos pos' tpos p pt pt2 : Pos} {op : BOp}
/-! name op= e -/
theorem ds_augN {j : Nat} {x : Str} (hN : X.N.Nodup) (hi : X.N[j]? = some x) (hx : Loc X.env.scope x) (hf : X.fn x = true ∨ X.env.scope.names.lookup x = some .local) (he : DE cl X e te) :
    DS cl X (.AugAssign (.Name x pos') (opOf op) e pos) (fun E σ H => ∃ x, σ[j]? = some (some x) ∧ te E.ex σ H fun y H1 => augD op (rd H1 x) (rd H1 y) H1 fun z H2 => E.nx (σ.set j (some z)) H2) := fun W tk => by
  refine PS.imp (ps_aug hN hi hx (he W tk) (op_augD (cl := cl) (o := op)) hf) ?_
  rintro D τ H ⟨σ, Hd, E, rs, lk, ⟨d, ed, q⟩, hx, nx, rt, bk, ct⟩
  obtain ⟨v, ev, rv⟩ := rs.get ed
  refine ⟨v, ev, σ, Hd, E.ex, _, rs, lk, q, hx, ?_⟩
  rintro u H1 ⟨y, Hd1, e1, lk1, r1, q1⟩
  refine ⟨_, _, Hd1, _, lk1, (rv.mono e1).cont lk1, r1.cont lk1, q1, ?_⟩
  rintro z H2 ⟨dz, Hd2, e2, lk2, r2, q2⟩
  exact nx _ _ ⟨_, Hd2, e1.trans e2, lk2, (rs.mono (e1.trans e2)).set r2 j, q2⟩
/-! o.f op= e -/
theorem ds_augF {C f : Str} {Ca : Addr} (hc : cl C = some Ca) (c : Cls X.K Ca) (n : NoAttr X.K Ca f) (ho : DE cl X o to) (he : DE cl X e te) :
    DS cl X (.AugAssign (.Attribute o f tpos) (opOf op) e pos) (fun E σ H => to E.ex σ H fun x H1 => ∃ p fs v, x = .ref p ∧ H1 p = some (.ins C fs) ∧ fs.lookup f = some v ∧ te E.ex σ H1 fun y H2 => augD op (rd H2 v) (rd H2 y) H2 fun z H3 =>
        ∃ fs', H3 p = some (.ins C fs') ∧ fs'.length < 1000 ∧ E.nx σ (dupd H3 p (.ins C (fput f z fs')))) := fun W tk => by
  refine PS.imp (ps_fldaug (ho W tk) (he W tk) (op_augD (cl := cl) (o := op))) ?_
  rintro D τ H ⟨σ, Hd, E, rs, lk, q, hx, nx, rt, bk, ct⟩
  refine ⟨σ, Hd, E.ex, _, rs, lk, q, hx, ?_⟩
  rintro u H1 ⟨x, Hd1, e1, lk1, r1, p, fs, v, rfl, hp, hv, q1⟩
  cases r1
  have L := lk1 p _ hp
  cases L with
  | @ins Ca' dx _ l _ hc' eH rf =>
    rw [hc] at hc'; cases hc'
    obtain ⟨w, ew, rw'⟩ := rf.look hv
    refine ⟨p, Ca, dx, l, w, rfl, eH, c, n, ew, σ, Hd1, E.ex, _, rs.mono e1, lk1, q1, xmono e1 hx, ?_⟩
    rintro u2 H2 ⟨y, Hd2, e2, lk2, r2, q2⟩
    refine ⟨_, _, Hd2, _, lk2, (rw'.mono e2).cont lk2, r2.cont lk2, q2, ?_⟩
    rintro z H3 ⟨dz, Hd3, e3, lk3, r3, fs', hp3, hz, q3⟩
    have L3 := lk3 p _ hp3
    cases L3 with
    | @ins Ca'' dx' _ l' _ hc'' eH' rf' =>
      rw [hc] at hc''; cases hc''
      have e13 := e1.trans (e2.trans e3)
      refine ⟨dx', l', eH', by rw [rf'.length]; exact hz, nx _ _ ⟨σ, _, e13.trans (Ext.write hp3), lk3.write hp3 (.ins hc upd_same ((rf'.put r3).mono (Ext.write hp3))), rs.mono (e13.trans (Ext.write hp3)), q3⟩⟩
/-! o[i] op= e -/
def g2D (K : PySem.W.Frag) (cl : Str → Option Addr) : R2 := fun v u H Q => ∃ x y Hd Qd, Lk K cl Hd H ∧ Cont K cl Hd H v x ∧ Rep K cl Hd H u y ∧ getD x y Qd ∧ ∀ d v', Rep K cl Hd H v' d → Qd d → Q v' H
theorem get_D (hu : X.A.units + 1 < cLine) : PGet X (g2D X.K cl) := by
  rintro pins s τ H ov iv vv uu Q I rv ru ⟨x, y, Hd, Qd, lk, cx, ry, q, fin⟩
  cases x <;> try exact False.elim q
  · obtain ⟨k, d, rfl, h0, e, q⟩ := q
    obtain ⟨a, xs, rfl, ea, za, ra⟩ := cx.lst
    cases ry
    obtain ⟨w, ew, rw'⟩ := ra.get e
    cases rv
    obtain ⟨t, rfl⟩ := ru
    obtain ⟨its, r, pl, hz⟩ := I.list (SqL.of ea)
    obtain ⟨u, hu', ru'⟩ := r.get ew
    have hlt := (List.getElem?_eq_some_iff.mp hu').1
    have hz' : its.length ≤ 2 ^ 24 := by
      have := r.length
      have hs : sizeLine = 2 ^ 24 := rfl
      omega
    exact wpAny_getItem_list pl.isList h0 (by omega) (by simpa using hu') ⟨_, H, I, ru', fin _ _ rw' q⟩
  · obtain ⟨hk, d, e, q⟩ := q
    obtain ⟨a, o, rfl, g, ro, _⟩ := cx.dget hk (.rep ry)
    cases rv
    rw [e] at ro
    cases ro with
    | some r => exact d_getItem hu I g ru fun w' s3 I3 rw' => ⟨_, H, I3, rw', fin _ _ r q⟩
theorem ds_augS (hu : X.A.units + 1 < cLine) (hs : noSlice i = true) (ho : DE cl X o to) (hi : DE cl X i ti) (he : DE cl X e te) :
    DS cl X (.AugAssign (.Subscript o i tpos) (opOf op) e pos) (fun E σ H => to E.ex σ H fun x H1 => ti E.ex σ H1 fun k H2 => getD (rd H2 x) k fun v => te E.ex σ H2 fun y H3 => augD op (rd H3 v) (rd H3 y) H3 fun z H4 => setD x k z H4 fun H5 => E.nx σ H5) := fun W tk => by
  refine PS.imp (ps_augS (ho W tk) (hi W tk) (get_D (cl := cl) hu) (he W tk) (op_augD (cl := cl) (o := op)) (set_D (cl := cl) hu) (fun ov iv new => aug_of hs ov iv new)) ?_
  rintro D τ H ⟨σ, Hd, E, rs, lk, q, hx, nx, rt, bk, ct⟩
  refine ⟨σ, Hd, E.ex, _, rs, lk, q, hx, ?_⟩
  rintro v1 H1 ⟨x, Hd1, e1, lk1, r1, q1⟩
  refine ⟨σ, Hd1, E.ex, _, rs.mono e1, lk1, q1, xmono e1 hx, ?_⟩
  rintro v2 H2 ⟨k, Hd2, e2, lk2, r2, q2⟩
  refine ⟨_, _, Hd2, _, lk2, (r1.mono e2).cont lk2, r2, q2, ?_⟩
  intro d v3 r3 q3
  have e12 := e1.trans e2
  refine ⟨σ, Hd2, E.ex, _, rs.mono e12, lk2, q3, xmono e12 hx, ?_⟩
  rintro v4 H3 ⟨y, Hd3, e3, lk3, r4, q4⟩
  refine ⟨_, _, Hd3, _, lk3, (r3.mono e3).cont lk3, r4.cont lk3, q4, ?_⟩
  rintro v5 H4 ⟨z, Hd4, e4, lk4, r5, q5⟩
  have e24 := e3.trans e4
  refine ⟨_, _, _, Hd4, _, lk4, r1.mono (e2.trans e24), r2.mono e24, r5, q5, ?_⟩
  rintro H5 ⟨Hd5, e5, lk5, q6⟩
  have e15 := e12.trans (e24.trans e5)
  exact nx _ _ ⟨σ, Hd5, e15, lk5, rs.mono e15, q6⟩
/-! a, b = x, y -/
theorem ds_par2 {j k : Nat} {x y : Str} {px py : Pos} {kt k2 : Nat} (hc : X.calm = true) (hN : X.N.Nodup) (hi : X.N[j]? = some x) (hj : X.N[k]? = some y) (hij : j ≠ k)
    (hx : X.env.scope.names.lookup x = some .local) (hy : X.env.scope.names.lookup y = some .local) (ha : DAs cl X [a, b] tA)
    (hw : swappedStores [.Tuple [.Name x px, .Name y py] kt pt] (.Tuple [a, b] k2 pt2) X.env = pure (some [x, y])) :
    DS cl X (.Assign [.Tuple [.Name x px, .Name y py] kt pt] (.Tuple [a, b] k2 pt2) pos) (fun E σ H => tA E.ex σ H fun vs H1 => ∃ v w, vs = [v, w] ∧ E.nx ((σ.set j (some v)).set k (some w)) H1) := fun W tk => by
  refine PS.imp (ps_par hc hN hi hj hij hx hy (ha W tk) hw) ?_
  rintro D τ H ⟨σ, Hd, E, rs, lk, q, hx, nx, rt, bk, ct⟩
  refine ⟨σ, Hd, E.ex, _, rs, lk, q, hx, ?_⟩
  rintro vs H1 _ ⟨ds, Hd1, e1, lk1, r1, v, w, rfl, q1⟩
  obtain ⟨v1, v2, rfl, ra, rb⟩ := r1.two
  exact ⟨v1, v2, rfl, nx _ _ ⟨_, Hd1, e1, lk1, ((rs.mono e1).set ra j).set rb k, q1⟩⟩
end
end DL

set_option maxRecDepth 100000
namespace DL
open PySem L2
section
variable {cl : Str → Option Addr} {X : Cx} {e : Expr} {te : DTE} {tA : DTA} {pos pos' p p2 : Pos}
/-! ### {'k': v, ..} -/
def liftP (K : PySem.W.Frag) (cl : Str → Option Addr) (W : WX) (ks : List Str) (t : DTA) (τ : St) (H : Hp) (R : List (V × V) → Hp → Prop) : Prop := ∃ σ Hd X Qd, RepS K cl Hd H σ τ ∧ Lk K cl Hd H ∧ t X σ Hd Qd ∧
  (∀ cls od τ' H', LX K cl Hd H X cls od τ' H' → W cls od τ' H') ∧ ∀ v H', v.length = ks.length → LA K cl Hd H Qd v H' → R (List.zip (ks.map V.str) v) H'
def DPP (cl : Str → Option Addr) (X : Cx) (pos : Pos) (keys : List (Option Expr)) (es : List Expr) (ks : List Str) (t : DTA) : Prop := ∀ W, Takes X W → ∃ trs, PPs X pos keys es trs ∧ ∀ τ H R, liftP X.K cl W ks t τ H R → tPairs trs τ H R
theorem dpp_nil : DPP cl X pos [] [] [] (fun _ σ H Q => Q [] H) := fun W tk => ⟨[], pps_nil, by
  rintro τ H R ⟨σ, Hd, Xd, Qd, rs, lk, q, hx, fin⟩
  exact fin [] H rfl ⟨[], Hd, Ext.refl _ _, lk, .nil, q⟩⟩
theorem dpp_cons {k : Str} {ke : Expr} {keys : List (Option Expr)} {es : List Expr} {ks : List Str} (hk : PE X ke (tC (.str k))) (he : DE cl X e te) (hr : DPP cl X pos keys es ks tA) :
    DPP cl X pos (some ke :: keys) (e :: es) (k :: ks) (fun Xd σ H Q => te Xd σ H fun x H1 => tA Xd σ H1 fun xs H2 => Q (x :: xs) H2) := fun W tk => by
  obtain ⟨trs, hp, ht⟩ := hr W tk
  refine ⟨_, pps_cons hk (he W tk) hp, ?_⟩
  rintro τ H R ⟨σ, Hd, Xd, Qd, rs, lk, q, hx, fin⟩
  show liftE X.K cl W te τ H _
  refine ⟨σ, Hd, Xd, _, rs, lk, q, hx, ?_⟩
  rintro v H1 ⟨x, Hd1, e1, lk1, r1, q1⟩
  refine ht _ _ _ ⟨σ, Hd1, Xd, _, rs.mono e1, lk1, q1, xmono e1 hx, ?_⟩
  rintro vs H2 hl ⟨xs, Hd2, e2, lk2, r2, q2⟩
  exact fin (v :: vs) H2 (by simp [hl]) ⟨x :: xs, Hd2, e1.trans e2, lk2, .cons (r1.mono e2) r2, q2⟩
theorem zip_repK {K : PySem.W.Frag} {Hd : DH} {H : Hp} : ∀ {ks : List Str} {vs : List V} {ds : List D}, Reps K cl Hd H vs ds → RepK K cl Hd H (List.zip (ks.map Sum.inr) vs) (List.zip (ks.map D.str) ds)
  | [], _, _, _ => .nil
  | k :: ks, _, _, .nil => .nil
  | k :: ks, _, _, .cons r t => .cons (k := .inr k) r (zip_repK t)
theorem zip_kv : ∀ (ks : List Str) (vs : List V), List.zip (ks.map V.str) vs = (List.zip (ks.map (Sum.inr : Str → L2.Key)) vs).map fun kv => (kV kv.1, kv.2)
  | [], _ => rfl
  | k :: ks, [] => rfl
  | k :: ks, v :: vs => by
    simp only [List.map_cons, List.zip_cons_cons]
    rw [zip_kv ks vs]
    rfl
theorem de_dicS {keys : List (Option Expr)} {es : List Expr} {ks : List Str} (h : DPP cl X pos keys es ks tA) (hall : keys.all (·.isSome) = true) (hl : keys.length = es.length) (h0 : keys ≠ []) (h15 : keys.length ≤ 15) (hk : ks.length = keys.length) :
    DE cl X (.Dict keys es pos) (fun Xd σ H Q => ∀ p, H p = none → tA Xd σ (dupd H p (.dic false [])) fun vs H1 => H1 p = some (.dic false []) ∧ Q (.ref p) (dupd H1 p (.dic false (dmerge [] (List.zip (ks.map D.str) vs))))) := fun W tk => by
  obtain ⟨trs, hp, ht⟩ := h W tk
  refine PE.imp (pe_disp hp hall hl h0 h15) ?_
  rintro τ H Q ⟨σ, Hd, Xd, Qd, rs, lk, q, hx, fin⟩ a ha
  have e0 : Ext Hd H (dupd Hd a (.dic false [])) (upd H a (.dK [])) := Ext.newD ha
  have lk0 : Lk X.K cl (dupd Hd a (.dic false [])) (upd H a (.dK [])) := lk.newD ha (.dicK upd_same (Nat.zero_le _) .nil)
  refine ht _ _ _ ⟨σ, _, Xd, _, rs.mono e0, lk0, q a (lk.free ha), xmono e0 hx, ?_⟩
  rintro vs H2 hlv ⟨ds, Hd2, e2, lk2, r2, hp2, q2⟩
  have L2' := lk2 a _ hp2
  cases L2' with
  | @dicK l _ eH hz r =>
    cases r
    refine ⟨eH, List.zip (ks.map Sum.inr) vs, zip_kv ks vs, by rw [List.length_zip, List.length_map]; omega, ?_⟩
    have w : Ext Hd2 H2 (dupd Hd2 a (.dic false (dmerge [] (List.zip (ks.map D.str) ds)))) (upd H2 a (.dK (mergeK [] (List.zip (ks.map Sum.inr) vs)))) := Ext.write hp2
    refine fin _ _ ⟨.ref a, _, e0.trans (e2.trans w), lk2.write hp2 (.dicK upd_same ?_ ((RepK.merge (zip_repK r2) .nil).mono w)), .ref a, q2⟩
    have := length_mergeK (List.zip (ks.map (Sum.inr : Str → L2.Key)) vs) []
    have h2 : (List.zip (ks.map (Sum.inr : Str → L2.Key)) vs).length ≤ 15 := by rw [List.length_zip, List.length_map]; omega
    have : (15 : Nat) ≤ sizeLine := by decide
    simp only [List.length_nil] at *
    omega
/-! ### constants -/
def GcOk (K : PySem.W.Frag) (mg : Str → Option Value) (cl : Str → Option Addr) (x : Str) (d : D) : Prop := ∃ v u, mg x = some u ∧ RelV v u ∧ ∀ Hd H, Rep K cl Hd H v d
theorem de_gc {x : Str} {d : D} (hg : Gl X x) (h : GcOk X.K X.mg cl x d) (hdb : (x == ("__debug__" : Str)) = false) : DE cl X (.Name x pos) (fun _ _ H Q => Q d H) := by
  obtain ⟨v, u, hm, r, hr⟩ := h
  exact de_const (pe_glob hg hm r hdb) hr
/-! ### raise -/
/-- X(), X an own exception class without own __init__ -/
theorem pmk_own0 {C : Addr} {bmB : List Value} {B newId initId : String} {x : Str} (F : ExcBaseFacts B newId initId bmB) (q : PySem.W.excIn X.K C bmB newId = true) (gC : X.mg x = some (.ref C)) (kC : PySem.W.keepIn X.K (.ref C) = true) (r : Raises X (.ref C)) (hg : Gl X x)
    (hdb : (x == ("__debug__" : Str)) = false) : PMk X (.Call (.Name x p) [] [] pos) (fun _ H Q => Q (.ref C) none H) := by
  intro pins s σ H Q I h
  refine wpAny_Call_Name_kw (ld_glob I hg gC ?_ hdb)
  refine PySem.W.callWith_K0 I.kIn kC ?_
  show wpAny _ _ (call (.ref C) []) _ _ _
  obtain ⟨bm, N, nm, qn, bs, hdct, sn, sub, ab, col, dd, k0, k1, k2, k3, k5, mN, hC, hN, hni, T⟩ := exc_obj I.kIn q
  refine wpAny_call_exc_subT F T hC hN hni (fun h' e hm => ?_) (by show 0 ≤ sizeLine; omega)
  exact mk_of I hm r h (I.hok.gone hm.new)
theorem ds_raise0 {C : Str} {Ca : Addr} (hc : X.calm = true) (hC : cl C = some Ca) (q : PySem.W.excIn X.K Ca [.type "ValueError", .type "Exception", .type "BaseException", .type "object"] "ValueError.__new__" = true) (gC : X.mg C = some (.ref Ca)) (kC : PySem.W.keepIn X.K (.ref Ca) = true) (r : Raises X (.ref Ca)) (hg : Gl X C)
    (hdb : (C == ("__debug__" : Str)) = false) : DS cl X (.Raise (some (.Call (.Name C p) [] [] pos)) none pos') (fun E σ H => E.ex C [] σ H) := fun W tk => by
  refine PS.imp (ps_raise hc tk (pmk_own0 PySem.F.excBase_ValueError q gC kC r hg hdb)) ?_
  rintro D τ H ⟨σ, Hd, E, rs, lk, q, hx, nx, rt, bk, ct⟩
  exact hx _ _ _ _ ⟨C, [], σ, Hd, Ext.refl _ _, lk, rs, ⟨⟨Ca, hC, rfl⟩, .inl ⟨rfl, rfl⟩⟩, q⟩
/-- def __init__(self, x): self.f = x of an exception class -/
def spI (C : Addr) (f : Str) : Sp := fun vs H Q _ => ∃ a y, vs = [.ref a, y] ∧ H a = some (exo a C none) ∧ ∀ dx, H dx = none → dx ≠ a → Q .non (upd (upd H dx (exd dx [(f, y)])) a (exo a C (some dx)))
theorem init_ok {P : Program} {w : World} {K : PySem.W.Frag} {mg : Str → Option Value} {base : Heap} {nm qual sf xf f : Str} {st : Stmt} {fI C : Addr} {fd : FuncData} {k : Nat} {p1 p2 p3 p4 : Pos} (F : Fun K nm qual st fI fd) (S : FnScope [sf, xf] [sf, xf] (defScope st))
    (hb : defBody st = [.Assign [.Attribute (.Name sf p1) f p2] (.Name xf p3) p4]) (T : OexC K C) (hno : PySem.W.findIn K (.ref C) f = some none)
    (d1 : (sf == ("__debug__" : Str)) = false) (d2 : (sf == ("__classdict__" : Str)) = false) (d3 : (xf == ("__debug__" : Str)) = false) (d4 : (xf == ("__classdict__" : Str)) = false) : FnOk P w K mg base (L2.CX P w) (k + 1) fI fd [sf, xf] (spI C f) := by
  refine Fun.okX F S (fun vs H Q E ⟨a, y, e, _⟩ => by rw [e]; rfl) ?_
  rintro cdv A outer s H vs Q E hr ⟨a, y, rfl, ha, hq⟩
  rw [hb]
  have v1 : Vis (defScope st) sf := by rcases S.par sf (by simp) with h | h; exact .inl h; exact .inr (.inl h)
  have v2 : Vis (defScope st) xf := by rcases S.par xf (by simp) with h | h; exact .inl h; exact .inr (.inl h)
  refine ⟨_, pss_one (ps_ost (pe_var (i := 0) rfl v1 d1 d2) (pe_var (i := 1) rfl v2 d3 d4) (by rfl)), ?_⟩
  refine ⟨y, rfl, V.ref a, rfl, a, C, rfl, T, hno, .inl ⟨ha, fun dx n ne => ?_⟩⟩
  exact hq dx n ne
theorem ds_raise1 {C f sf xf : Str} {Ca fI : Addr} {fd : FuncData} {k : Nat} (hc : X.calm = true) (hC : cl C = some Ca) (T : OexC X.K Ca) (iC : PySem.W.findIn X.K (.ref Ca) "__init__" = some (some (.ref fI))) (tI : PySem.W.typeIn X.K (.ref fI) = some (.type "function"))
    (F1 : FnOk X.prog X.w X.K X.mg X.base (L2.CX X.prog X.w) k fI fd [sf, xf] (spI Ca f)) (hr : Room (k + 1) X.A) (hb : Binds X.K fd [sf, xf] []) (hg : Gl X C) (hm : X.mg C = some (.ref Ca)) (he : DE cl X e te) (hs : noStar e = true)
    (hdb : (C == ("__debug__" : Str)) = false) : DS cl X (.Raise (some (.Call (.Name C p) [e] [] pos)) none pos') (fun E σ H => te E.ex σ H fun x H1 => E.ex C [(f, x)] σ H1) := fun W tk => by
  have hst : ([] : List Expr).all noStar = true := rfl
  refine PS.imp (ps_raise hc tk (pmk_oex (ds := []) (dvs := []) T iC tI F1 hr hb .nil passL hg hm (pa_cons (he W tk) pa_nil (star_cons hs _ _)) hdb (star_cons hs _ _) (star_any hst _ _))) ?_
  rintro D τ H ⟨σ, Hd, E, rs, lk, q, hx, nx, rt, bk, ct⟩
  refine ⟨σ, Hd, E.ex, _, rs, lk, q, hx, ?_⟩
  rintro v H1 ⟨x, Hd1, e1, lk1, r1, q1⟩
  refine ⟨by show 1 ≤ 1000; omega, fun a ha => ⟨a, v, rfl, upd_same, fun dx n ne => ?_⟩⟩
  have nd : H1 dx = none := by rw [upd_ne ne] at n; exact n
  refine ⟨rfl, dx, [(f, v)], upd_same, ?_, nd, ?_⟩
  · rw [upd_ne ne]; exact upd_same
  · have eH : upd (del (upd (upd (upd H1 a (exo a Ca none)) dx (exd dx [(f, v)])) a (exo a Ca (some dx))) a) dx (.xd [(f, v)]) = upd H1 dx (.xd [(f, v)]) := by
      funext b
      by_cases hb : b = dx
      · subst hb; rw [upd_same, upd_same]
      · rw [upd_ne hb, upd_ne hb]
        by_cases hba : b = a
        · subst hba; rw [del_same, ha]
        · rw [del_ne hba, upd_ne hba, upd_ne hb, upd_ne hba]
    rw [eH]
    have ex : Ext Hd1 H1 Hd1 (upd H1 dx (.xd [(f, v)])) := Ext.new nd
    exact hx _ _ _ _ ⟨C, [(f, x)], σ, Hd1, e1.trans ex, lk1.new nd, rs.mono (e1.trans ex), ⟨⟨Ca, hC, rfl⟩, .inr ⟨dx, [(f, v)], by simp, rfl, upd_same, lk1.free nd, .cons (r1.mono ex) .nil⟩⟩, q1⟩
end
end DL

set_option maxRecDepth 100000
namespace DL
open PySem L2

/-! ### try -/
/-- what except clauses ask of the classes -/
def ExmOk (K : PySem.W.Frag) (cl : Str → Option Addr) (sub : Str → Str → Bool) (C : Str) (Ca : Addr) : Prop := cl C = some Ca ∧ ∀ c a, cl c = some a → PySem.W.exmOne K (.ref a) (.ref Ca) = some (sub c C)
/-- the clauses' suites, read by data -/
inductive DHs (cl : Str → Option Addr) (X : Cx) (sub : Str → Str → Bool) : List ExceptHandler → List (Str × DTS) → Prop
  | nil : DHs cl X sub [] []
  | cons {C : Str} {Ca : Addr} {t : DTS} {b₀ : Stmt} {suite : List Stmt} {np pos' : Pos} {hds : List ExceptHandler} {l : List (Str × DTS)} (hc : Names X C (.ref Ca)) (hx : ExmOk X.K cl sub C Ca)
      (hsu : ∀ (a : Addr) (oe : Obj) (pn : List (Addr × Obj)), DB cl (X.suite a ((a, oe) :: pn)) (b₀ :: suite) t) (r : DHs cl X sub hds l) :
      DHs cl X sub (.ExceptHandler (some (.Name C np)) none (b₀ :: suite) pos' :: hds) ((C, t) :: l)
/-- what the clauses do -/
def dHs (sub : Str → Str → Bool) : List (Str × DTS) → Str → List (Str × D) → Ends → DSt → DH → Prop
  | [], c, fs, E, σ, H => E.ex c fs σ H
  | (C, t) :: r, c, fs, E, σ, H => if sub c C = true then t { E with ex := noX } σ H else dHs sub r c fs E σ H
def tsOf (K : PySem.W.Frag) (cl : Str → Option Addr) (l : List (Str × DTS)) (cs : List Addr) : List (Value × (Addr → Value → Option Addr → TS)) := List.zipWith (fun p c => (Value.ref c, fun _ _ _ => liftS K cl (fun _ _ _ _ => False) p.2)) l cs
section
variable {cl : Str → Option Addr} {X : Cx} {sub : Str → Str → Bool} {body : List Stmt} {hds : List ExceptHandler} {t : DTS} {l : List (Str × DTS)} {pos pos' np : Pos} {h₀ : ExceptHandler}
theorem DHs.many : ∀ {hds : List ExceptHandler} {l : List (Str × DTS)}, DHs cl X sub hds l → ∃ cs : List Addr, HdsOk X hds (tsOf X.K cl l cs) ∧ cs.length = l.length ∧ ∀ (i : Nat) (p : Str × DTS) (c : Addr), l[i]? = some p → cs[i]? = some c → ExmOk X.K cl sub p.1 c
  | _, _, .nil => ⟨[], .nil, rfl, fun i p c h => by simp at h⟩
  | _, _, .cons (Ca := Ca) hc hx hsu r => by
    obtain ⟨cs, h, hl, k⟩ := DHs.many r
    refine ⟨Ca :: cs, .cons hc (fun a oe cls d pn _ _ => hsu a oe pn _ takes_no) h, by simp [hl], fun i p c hp hc' => ?_⟩
    cases i with
    | zero => simp at hp hc'; subst hp hc'; exact hx
    | succ j => exact k j p c (by simpa using hp) (by simpa using hc')
theorem dHs_ok {W : WX} {DD : L2.Ends} {K : PySem.W.Frag} {Hd0 : DH} {H0 : Hp} {E : Ends} (hx : ∀ cls od τ' H', LX K cl Hd0 H0 E.ex cls od τ' H' → W cls od τ' H') (nx : ∀ τ' H', LN K cl Hd0 H0 E.nx τ' H' → DD.nx τ' H') (rt : ∀ v H', LQ K cl Hd0 H0 E.rt v H' → DD.rt v H')
    (bk : ∀ τ' H', LN K cl Hd0 H0 E.bk τ' H' → DD.bk τ' H') (ct : ∀ τ' H', LN K cl Hd0 H0 E.ct τ' H' → DD.ct τ' H') {c : Str} {fs : List (Str × D)} {σ : DSt} {Hd : DH} {H : Hp} {τ : St} {cls : Value} {od : Option Addr}
    (e : Ext Hd0 H0 Hd H) (lk : Lk K cl Hd H) (rs : RepS K cl Hd H σ τ) (xr : XRep K cl Hd H cls od c fs) : ∀ {l : List (Str × DTS)} {cs : List Addr}, cs.length = l.length → (∀ (i : Nat) (p : Str × DTS) (c : Addr), l[i]? = some p → cs[i]? = some c → ExmOk K cl sub p.1 c) → dHs sub l c fs E σ Hd →
    wMany K W DD (tsOf K cl l cs) cls od τ H
  | [], [], _, _, q => hx _ _ _ _ ⟨c, fs, σ, Hd, e, lk, rs, xr, q⟩
  | (C, t) :: l, a :: cs, hl, k, q => by
    obtain ⟨hC, hs⟩ := k 0 (C, t) a (by simp) (by simp)
    obtain ⟨⟨Ca, hca, rfl⟩, _⟩ := id xr
    refine ⟨sub c C, hs c Ca hca, fun hb b _ => ?_, fun hb => ?_⟩
    · have q' : t { E with ex := noX } σ Hd := by
        unfold dHs at q
        rw [if_pos hb] at q
        exact q
      exact ⟨σ, Hd, _, rs, lk, q', noX_no, fun a b h => nx a b (h.pre e), fun a b h => rt a b (h.pre e), fun a b h => bk a b (h.pre e), fun a b h => ct a b (h.pre e)⟩
    · have q' : dHs sub l c fs E σ Hd := by
        unfold dHs at q
        rw [if_neg (by rw [hb]; simp)] at q
        exact q
      exact dHs_ok hx nx rt bk ct e lk rs xr (by simpa using hl) (fun i p c hp hc => k (i + 1) p c (by simpa using hp) (by simpa using hc)) q'
theorem ds_tryN (hs : X.stack = X.env :: X.outer) (hf : X.env.frame = some X.env.locals) (hb : ∀ pn xe, PassesOwn (model X.prog X.w) X.A X.env xe → DB cl (X.tr pn xe) body t) (hh : DHs cl X sub (h₀ :: hds) l) :
    DS cl X (.Try body (h₀ :: hds) [] [] pos) (fun E σ H => t { E with ex := fun c fs σ' H' => dHs sub l c fs E σ' H' } σ H) := fun W tk => by
  obtain ⟨cs, ho, hl, k⟩ := hh.many
  refine PS.imp (ps_try_many (tb := fun W => liftS X.K cl W t) hs hf tk (fun W' pn xe tk' hp => hb pn xe hp W' tk') ho) ?_
  rintro D τ H ⟨σ, Hd, E, rs, lk, q, hx, nx, rt, bk, ct⟩
  refine ⟨σ, Hd, _, rs, lk, q, ?_, nx, rt, bk, ct⟩
  rintro cls od τ' H' ⟨c, fs, σ', Hd', e', lk', rs', xr, q'⟩
  exact dHs_ok hx nx rt bk ct e' lk' rs' xr hl k q'
/-- except C as n -/
theorem ds_tryA {C n : Str} {Ca : Addr} {j : Nat} {b₀ : Stmt} {suite : List Stmt} {ts : Addr → Option Addr → Str → DTS} (hs : X.stack = X.env :: X.outer) (hf : X.env.frame = some X.env.locals) (hN : X.N.Nodup) (hi : X.N[j]? = some n) (hln : X.env.kindOf n = some .local) (hc : Names X C (.ref Ca)) (hx : ExmOk X.K cl sub C Ca)
    (hb : ∀ pn xe, PassesOwn (model X.prog X.w) X.A X.env xe → DB cl (X.tr pn xe) body t)
    (hsu : ∀ (a : Addr) (oe : Obj) (d : Option Addr) (pn : List (Addr × Obj)) (c : Str) (Cc : Addr), Zc (.ref Cc) d oe → (∃ vs, oe.data = .fields vs) → cl c = some Cc → DB cl (X.suite a ((a, oe) :: pn)) (b₀ :: suite) (ts a d c)) :
    DS cl X (.Try body [.ExceptHandler (some (.Name C np)) (some n) (b₀ :: suite) pos'] [] [] pos) (fun E σ H => t { E with ex := fun c fs σ' H' => if sub c C = true then ∀ a d, (fs = [] → d = none) → ts a d c { E with ex := noX, nx := fun σ' H' => E.nx (σ'.set j none) H', bk := fun σ' H' => E.bk (σ'.set j none) H', ct := fun σ' H' => E.ct (σ'.set j none) H' } (σ'.set j (some (.exn a d c fs))) H' else E.ex c fs σ' H' } σ H) := fun W tk => by
  refine PS.imp (ps_try_as (tb := fun W => liftS X.K cl W t) (ts := fun a cls d D τ H => ∃ c Cc, cl c = some Cc ∧ cls = .ref Cc ∧ liftS X.K cl (fun _ _ _ _ => False) (ts a d c) D τ H) hs hf hN hi hln hc tk (fun W' pn xe tk' hp => hb pn xe hp W' tk') ?_) ?_
  · intro a oe cls d pn hz hfl
    refine ⟨fun pins s τ H D I h => ?_⟩
    obtain ⟨c, Cc, hcc, rfl, h⟩ := h
    exact (hsu a oe d pn c Cc hz hfl hcc _ takes_no).run pins s τ H D I h
  · rintro D τ H ⟨σ, Hd, E, rs, lk, q, hx', nx, rt, bk, ct⟩
    refine ⟨σ, Hd, _, rs, lk, q, ?_, nx, rt, bk, ct⟩
    rintro cls od τ' H' ⟨c, fs, σ', Hd', e', lk', rs', xr, q'⟩
    obtain ⟨⟨Cc, hcc, rfl⟩, hd⟩ := id xr
    refine ⟨sub c C, hx.2 c Cc hcc, fun hb' a _ => ?_, fun hb' => ?_⟩
    · have q' : (if sub c C = true then _ else _) := q'
      rw [if_pos hb'] at q'
      have rx : Rep X.K cl Hd' H' (.ref a) (.exn a od c fs) ∧ (fs = [] → od = none) := by
        rcases hd with ⟨rfl, rfl⟩ | ⟨dd, l, ne, rfl, e1, e2, rf⟩
        · exact ⟨.exn0 a c, fun _ => rfl⟩
        · exact ⟨.exn e1 e2 rf, fun z => absurd z ne⟩
      refine ⟨c, Cc, hcc, rfl, σ'.set j (some (.exn a od c fs)), Hd', _, rs'.set rx.1 j, lk', q' a od rx.2, noX_no, ?_, fun a b h => rt a b (h.pre e'), ?_, ?_⟩
      · rintro τ2 H2 ⟨σ2, Hd2, e2, lk2, rs2, q2⟩
        exact nx _ _ ⟨_, Hd2, e'.trans e2, lk2, rs2.unset j, q2⟩
      · rintro τ2 H2 ⟨σ2, Hd2, e2, lk2, rs2, q2⟩
        exact bk _ _ ⟨_, Hd2, e'.trans e2, lk2, rs2.unset j, q2⟩
      · rintro τ2 H2 ⟨σ2, Hd2, e2, lk2, rs2, q2⟩
        exact ct _ _ ⟨_, Hd2, e'.trans e2, lk2, rs2.unset j, q2⟩
    · have q' : (if sub c C = true then _ else _) := q'
      rw [if_neg (by rw [hb']; simp)] at q'
      exact hx' _ _ _ _ ⟨c, fs, σ', Hd', e', lk', rs', xr, q'⟩
end
/-! ### the caught exception -/
/-- the suite that a context is, if it is one -/
def Su (cl : Str → Option Addr) (X : Cx) (cx : Option (Addr × Option Addr × Str)) : Prop := ∀ a d c, cx = some (a, d, c) → ∃ X0 oe pn Ca, X = Cx.suite X0 a ((a, oe) :: pn) ∧ Zc (.ref Ca) d oe ∧ (∃ vs, oe.data = .fields vs) ∧ cl c = some Ca
section
variable {cl : Str → Option Addr} {X : Cx} {cx : Option (Addr × Option Addr × Str)} {pos p p2 p3 : Pos} {sub : Str → Str → Bool}
theorem de_xf {j : Nat} {x f : Str} {xf : Str → List Str} (su : Su cl X cx) (T : ∀ C Ca, cl C = some Ca → xf C = [f] → XfC X.K Ca ∧ PySem.W.findIn X.K (.ref Ca) f = some none) (hN : X.N[j]? = some x) (hv : Vis X.env.scope x) (hd : (x == ("__debug__" : Str)) = false) (hcd : (x == ("__classdict__" : Str)) = false) :
    DE cl X (.Attribute (.Name x p) f pos) (fun _ σ H Q => ∃ a d C fs v, σ[j]? = some (some (.exn a d C fs)) ∧ cx = some (a, d, C) ∧ xf C = [f] ∧ fs.lookup f = some v ∧ Q v H) := fun W tk => by
  refine ⟨fun pins s τ H Q I h => ?_⟩
  obtain ⟨σ, Hd, Xd, Qd, rs, lk, ⟨a, d, C, fs, v, ej, ec, exf, el, q⟩, hx, fin⟩ := h
  obtain ⟨X0, oe, pn, Ca, rfl, hz, hf, hC⟩ := su a d C ec
  obtain ⟨T1, T2⟩ := T C Ca hC exf
  obtain ⟨w, ew, rw'⟩ := rs.get ej
  cases rw' with
  | exn0 => cases el
  | @exn _ dd _ l _ e1 e2 rf =>
    obtain ⟨u, eu, ru⟩ := rf.look el
    exact (pe_xf T1 T2 hz hf (pe_var hN hv hd hcd) (base_of rfl)).run pins s τ H Q I ⟨_, ew, rfl, rfl, dd, l, u, rfl, e1, eu, fin _ _ (LQ.here lk ru q)⟩
end
end DL

set_option maxRecDepth 100000
namespace DL
open PySem L2 PyProof.Rows HT
section
variable {prog : Program} {w : World} {A : Around} {E : Value → Shared → Prop} {s : Shared}
theorem sliceApplied_rev {sl : Addr} {vl vu vs : Value} {n : Nat} {Q : Int × Int × Nat → Shared → Prop} (hs : s.heap.IsSliceOf sl vl vu vs) (pl : IsPart vl none) (pu : IsPart vu none) (ps : IsPart vs (some (-1)))
    (h : Q ((n : Int) - 1, -1, n) s) : wpAny (model prog w) A (Builtin.Slice.sliceApplied (.ref sl) (pure (n : Int))) Q E s := by
  obtain ⟨os, hos, hcs, hds⟩ := id hs
  unfold Builtin.Slice.sliceApplied Builtin.Slice.sliceFields
  refine wpAny_bind (wpAny_bind (wpAny_field hos hds (x := vl) rfl (wpAny_bind (wpAny_field hos hds (x := vu) rfl (wpAny_bind (wpAny_field hos hds (x := vs) rfl (wpAny_pure ?_)))))))
  refine wpAny_bind (slicePart_ ps ?_)
  show wpAny _ _ (if ((-1 : Int) == 0) = true then _ else _) _ _ s
  rw [if_neg (by decide)]
  refine wpAny_bind (slicePart_ pl (wpAny_bind (slicePart_ pu (wpAny_bind (wpAny_pure ?_)))))
  have e1 : Builtin.Slice.sliceAdjust none none (-1) (n : Int) = ((n : Int) - 1, -1) := by
    unfold Builtin.Slice.sliceAdjust
    simp
  show wpAny _ _ (match Builtin.Slice.sliceAdjust none none (-1) (n : Int) with | (lo, hi) => pure (lo, (-1 : Int), Builtin.Slice.slicePlaces lo hi (-1))) _ _ s
  rw [e1]
  have e2 : Builtin.Slice.slicePlaces ((n : Int) - 1) (-1) (-1) = n := by
    unfold Builtin.Slice.slicePlaces
    simp
    try omega
  show wpAny _ _ (pure ((n : Int) - 1, (-1 : Int), Builtin.Slice.slicePlaces ((n : Int) - 1) (-1) (-1))) _ _ s
  rw [e2]
  exact wpAny_pure h
theorem fmap_mem {α β : Type} {f g : α → Option β} : ∀ {l : List α}, (∀ x ∈ l, f x = g x) → l.filterMap f = l.filterMap g
  | [], _ => rfl
  | a :: l, h => by
    rw [List.filterMap_cons, List.filterMap_cons, h a (by simp), fmap_mem fun x hx => h x (List.mem_cons_of_mem _ hx)]
theorem pick_rev (xs : Array Value) : ((List.range xs.size).filterMap fun (m : Nat) => xs[(((xs.size : Int) - 1) + (m : Int) * (-1)).toNat]?).toArray = xs.toList.reverse.toArray := by
  have e : (List.range xs.size).filterMap (fun (m : Nat) => xs[(((xs.size : Int) - 1) + (m : Int) * (-1)).toNat]?) = ((List.range xs.size).map fun k => xs.size - 1 - k).filterMap (xs[·]?) := by
    rw [List.filterMap_map]
    refine fmap_mem fun m hm => ?_
    have hm := List.mem_range.mp hm
    show xs[(((xs.size : Int) - 1) + (m : Int) * (-1)).toNat]? = xs[xs.size - 1 - m]?
    have : (((xs.size : Int) - 1) + (m : Int) * (-1)).toNat = xs.size - 1 - m := by omega
    rw [this]
  rw [e, PySem.W.krv_range, List.filterMap_reverse, PySem.W.krv_all]
theorem getItem_tuple_rev {t sl : Addr} {items : Array Value} {vl vu vs : Value} {Q : Value → Shared → Prop} (ht : IsTup s.heap t items) (hs : s.heap.IsSliceOf sl vl vu vs) (pl : IsPart vl none) (pu : IsPart vu none) (ps : IsPart vs (some (-1)))
    (h : Q (.ref s.heap.objs.size) { s with heap := s.heap.push { cls := .type "tuple", data := .seq items.toList.reverse.toArray } })
    (hsz : items.size ≤ sizeLine) : wpAny (model prog w) A (getItem (.ref t) (.ref sl)) Q E s := by
  have htake : sizeOk (.seq items.toList.reverse.toArray) := by
    show items.toList.reverse.toArray.size ≤ sizeLine
    rw [List.size_toArray, List.length_reverse, Array.length_toList]
    exact hsz
  obtain ⟨os, hos, hcs, hds⟩ := id hs
  have hTs : s.TypeIs (.ref sl) "slice" := ⟨os, hos, hcs⟩
  unfold getItem
  try with_reducible refine wpAny_holding ?_
  first | refine wpAny_bind (wpAny_pure ?_) | skip
  refine wpAny_bind (wpAny_sequenceKey ht.typeIs (by decide) ?_)
  refine wpAny_bind (wpAny_callSpecial?_slot (name := Str.ofString "__getitem__") ht.typeIs PyProof.Rows.slot_tuple_getitem
    (wpAny_call_entry PyProof.Rows.slot_tuple_getitem ht.typeIs entry_tuple_getitem ?_ (args_tuple_getitem _ _)))
  show wpAny _ _ (Builtin.Tuple.tupleItemsOf (.ref t) >>= _) _ _ s
  refine wpAny_bind (tupleItemsOf_ ht ?_)
  refine wpAny_bind (wpAny_typeOf hTs ?_)
  rw [if_pos (by decide)]
  refine wpAny_bind (sliceApplied_rev hs pl pu ps ?_)
  have hno : ¬ ((((items.size : Int) - 1) == 0 && (-1 : Int) == 1 && items.size == items.size) = true) := by
    intro q
    rw [Bool.and_eq_true, Bool.and_eq_true] at q
    exact absurd q.1.2 (by decide)
  show wpAny _ _ (if (((items.size : Int) - 1) == 0 && (-1 : Int) == 1 && items.size == items.size) = true then _ else _) _ _ s
  rw [if_neg hno, pick_rev]
  first
    | exact wpAny_bind (m := Builtin.Tuple.tupleExact _) (wpAny_newObj_type (wpAny_pure ⟨_, rfl, wpAny_pure h⟩) htake)
    | exact wpAny_bind (m := Builtin.Tuple.tupleExact _) (wpAny_newObj_type (wpAny_bind (wpAny_pure (wpAny_pure ⟨_, rfl, wpAny_pure h⟩))) htake)
    | exact wpAny_bind (wpAny_bind (m := Builtin.Tuple.tupleExact _) (wpAny_newObj_type (wpAny_pure (wpAny_pure ⟨_, rfl, wpAny_pure h⟩)) htake))
    | exact wpAny_bind (wpAny_bind (m := Builtin.Tuple.tupleExact _) (wpAny_newObj_type (wpAny_pure ⟨_, rfl, wpAny_pure h⟩) htake))
end
/-! ### xs[::-1] -/
def tRevA (K : PySem.W.Frag) (te : TE) : TE := fun σ H Q => te σ H fun x H1 => ∃ a xs, x = .ref a ∧ ((SqL K H1 a xs ∧ ∀ p, H1 p = none → Q (.ref p) (upd H1 p (.lst xs.reverse))) ∨ (SqT K H1 a xs ∧ ∀ p, H1 p = none → Q (.ref p) (upd H1 p (.tup xs.reverse))))
theorem pe_revA {X : Cx} {e : Expr} {te : TE} {k : Nat} {p1 p2 p3 pos : Pos} (he : PE X e te) : PE X (.Subscript e (.Slice none none (some (.UnaryOp .USub (.Constant (.int 1) k p1) p2)) p3) pos) (tRevA X.K te) := by
  refine ⟨fun pins s σ H Q I h => ?_⟩
  refine Subscript_ (thn (he.run pins s σ H _ I h) fun v s1 ⟨x, H1, I1, r1, q1⟩ => ?_)
  obtain ⟨a, xs, ex, hx⟩ := q1
  subst ex
  cases r1
  have hst : PO X (some (.UnaryOp .USub (.Constant (.int 1) k p1) p2)) (tPart (tUn (rU fun i => .int (-i)) (tC (.int 1)))) := po_some (pe_un un_neg pe_int)
  refine wpAny_Slice (thn (po_none.run pins s1 σ H1 (fun o H2 => o = none ∧ H2 = H1) I1 ⟨rfl, rfl⟩) fun vl s2 ⟨l, H2, I2, pl, el, e2⟩ => ?_)
  subst el e2
  refine thn (po_none.run pins s2 σ H2 (fun o H3 => o = none ∧ H3 = H2) I2 ⟨rfl, rfl⟩) fun vu s3 ⟨u, H3, I3, pu, eu, e3⟩ => ?_
  subst eu e3
  refine thn (hst.run pins s3 σ H3 (fun o H4 => o = some (-1) ∧ H4 = H3) I3 ⟨1, rfl, -1, rfl, rfl, rfl⟩) fun vs s4 ⟨o, H4, I4, ps, eo, e4⟩ => ?_
  subst eo e4
  have I5 : Inv X pins σ H4 { s4 with heap := s4.heap.push { cls := .type "slice", data := .fields #[vl, vu, vs] } } := I4.kept (t' := s4.toks) fun b ob q => Heap.get?_push_of_some _ q
  show wpAny (model X.prog X.w) X.A (subscriptTail e (.Slice none none (some (.UnaryOp .USub (.Constant (.int 1) k p1) p2)) p3) (.ref a) (.ref s4.heap.objs.size)) (EP X pins σ Q) X.xe { s4 with heap := s4.heap.push { cls := .type "slice", data := .fields #[vl, vu, vs] } }
  rcases hx with ⟨hx, q⟩ | ⟨hx, q⟩
  · obtain ⟨its, r, ht, hz⟩ := I5.list hx
    have hlen := r.length
    refine tail_any (ops := [.ref a, .ref s4.heap.objs.size]) ht.isList.typeIs (PySem.slot_list_getitem.lookup) ?_ (by with_unfolding_all rfl)
    refine wpAny_getItem_list_slice ht.isList (Heap.IsSliceOf.new _ vl vu vs) pl pu ps (by decide) ?_ (by rw [List.size_toArray]; omega)
    rw [PySem.W.krv_pick]
    refine ⟨.ref _, _, I5.laid (t' := s4.toks) (o := .lst xs.reverse) (fun b ob q => Heap.get?_push_of_some _ q) (Nat.le_refl _) ?_, rfl, q _ (I5.hok.fresh (Nat.le_refl _))⟩
    exact ⟨by rw [List.length_reverse]; exact hz, _, 0, r.reverse, Heap.get?_push_size _ rfl⟩
  · obtain ⟨its, r, ht, hz⟩ := I5.tuple hx
    have hlen := r.length
    have ht' : IsTup (s4.heap.push { cls := .type "slice", data := .fields #[vl, vu, vs] }) a its.toArray := ht
    refine tail_any (ops := [.ref a, .ref s4.heap.objs.size]) ht'.typeIs (PyProof.Rows.slot_tuple_getitem.lookup) ?_ (by with_unfolding_all rfl)
    refine getItem_tuple_rev ht' (Heap.IsSliceOf.new _ vl vu vs) pl pu ps ?_ (by rw [List.size_toArray]; omega)
    refine ⟨.ref _, _, I5.laid (t' := s4.toks) (o := .tup xs.reverse) (fun b ob q => Heap.get?_push_of_some _ q) (Nat.le_refl _) ?_, rfl, q _ (I5.hok.fresh (Nat.le_refl _))⟩
    exact ⟨by rw [List.length_reverse]; exact hz, _, r.reverse, ⟨_, Heap.get?_push_size _ rfl, rfl, _, rfl⟩⟩
theorem Reps.reverse {K : PySem.W.Frag} {cl : Str → Option Addr} {Hd : DH} {H : Hp} : ∀ {vs : List V} {ds : List D}, Reps K cl Hd H vs ds → Reps K cl Hd H vs.reverse ds.reverse
  | _, _, .nil => .nil
  | _, _, .cons r t => by
    rw [List.reverse_cons, List.reverse_cons]
    exact (Reps.reverse t).append (.cons r .nil)
theorem de_rev {cl : Str → Option Addr} {X : Cx} {a : Expr} {ta : DTE} {m : Bool} {k : Nat} {p1 p2 p3 pos : Pos} (ha : DE cl X a ta) : DE cl X (.Subscript a (.Slice none none (some (.UnaryOp .USub (.Constant (.int 1) k p1) p2)) p3) pos) (fun Xd σ H Q => ta Xd σ H fun x H1 => revD m (rd H1 x) H1 Q) := fun W tk => by
  refine PE.imp (pe_revA (ha W tk)) ?_
  rintro τ H Q ⟨σ, Hd, Xd, Qd, rs, lk, q, hx, fin⟩
  refine ⟨σ, Hd, Xd, _, rs, lk, q, hx, ?_⟩
  rintro v H1 ⟨x, Hd1, e1, lk1, r1, q1⟩
  have c := r1.cont lk1
  have fin1 : ∀ v' H', LQ X.K cl Hd1 H1 Qd v' H' → Q v' H' := fun v' H' h => fin v' H' (h.pre e1)
  generalize rd Hd1 x = y at c q1
  cases y <;> try exact False.elim q1
  · obtain ⟨a, xs, rfl, e, n, z, ra⟩ := c.tup
    exact ⟨a, xs, rfl, .inr ⟨SqT.of e, tup_ok lk1 q1 (by rw [List.length_reverse]; exact z) ra.reverse fin1⟩⟩
  · obtain ⟨a, xs, rfl, e, z, ra⟩ := c.lst
    exact ⟨a, xs, rfl, .inl ⟨SqL.of e, alc_ok lk1 q1 (fun Hd' H' p x e => .lst e (by rw [List.length_reverse]; exact z) (ra.reverse.mono x)) fin1⟩⟩
  · obtain ⟨a, xs, rfl, e, z, ra⟩ := c.stl
    exact ⟨a, xs, rfl, .inl ⟨e, alc_ok lk1 q1 (fun Hd' H' p x e => .lst e (by rw [List.length_reverse]; exact z) (ra.reverse.mono x)) fin1⟩⟩
end DL

set_option maxRecDepth 100000
namespace DL
open PySem L2
/-! ### isinstance of a caught error, with a field or without -/
def rIsED (K : PySem.W.Frag) (D a : Addr) (d : Option Addr) : List V → Hp → VK → Prop := fun xs H Q => ∃ (c : V) (cv : Value) (b : Bool), xs = [.ref a, c] ∧ (∀ u, RelV c u → u = cv) ∧ PySem.W.kitOne K (.ref D) cv = some b ∧ (∀ dd, d = some dd → ∃ fs, H dd = some (.xd fs)) ∧ Q (.bl b) H
theorem call_isED {X : Cx} {a D : Addr} {d : Option Addr} {oe : Obj} {pn : List (Addr × Obj)} (C : ExcC X.K D) (hz : Zc (.ref D) d oe) (hf : ∃ vs, oe.data = .fields vs) : CallR (X.suite a ((a, oe) :: pn)) (.builtin "isinstance") (rIsED X.K D a d) := by
  intro pins s σ H xs us Q I r h
  obtain ⟨c, cv, b, rfl, hcv, e, hd, q⟩ := h
  cases r with
  | cons rx rr =>
    cases rr with
    | cons rt rr =>
      cases rr
      cases rx
      have ec := hcv _ rt
      subst ec
      obtain ⟨hget, _⟩ := I.pin (a, oe) (List.mem_append.mpr (.inl List.mem_cons_self))
      obtain ⟨vs, hv⟩ := hf
      have J : ∃ od, PySem.W.InstAt s.heap a oe D od := by
        cases d with
        | none => exact ⟨none, hget, hz.1, by unfold PySem.W.notCls; rw [hv] <;> rfl, by rw [hz.2]; trivial⟩
        | some dd =>
          obtain ⟨fs, ea⟩ := hd dd rfl
          have hx : ObjOk X.prog X.w H s.heap dd (.xd fs) := I.hok dd _ ea
          obtain ⟨mA, hns, hr⟩ := hx
          obtain ⟨od, ho, hl⟩ := lookIn_ns hns
          exact ⟨some od, hget, hz.1, by unfold PySem.W.notCls; rw [hv] <;> rfl, by rw [hz.2]; exact ho⟩
      obtain ⟨od, J⟩ := J
      have hcl : (PySem.W.clsIn X.K D).isSome = true := by
        obtain ⟨cd, hc, _⟩ := PySem.W.any_some C.hd
        unfold PySem.W.clsIn at hc ⊢
        rw [hc]; rfl
      exact PySem.W.kia_one (PySem.W.kitx_exc hcl C.hg C.hk C.hs C.ha C.hn C.ht C.hm) I.kIn J e (fun z => nomatch z) fun tk => ⟨.bl b, H, I.kept (t' := tk) fun _ _ z => z, rfl, q⟩
/-- a class that is asked of a caught error -/
def XiOk (K : PySem.W.Frag) (mg : Str → Option Value) (cl : Str → Option Addr) (sub : Str → Str → Bool) (x : Str) : Prop :=
  ∃ (v : V) (cv : Value), ((∃ Cb, v = .ref Cb ∧ cv = .ref Cb ∧ mg x = some (.ref Cb)) ∨ ∃ n : String, v = .ty n ∧ cv = .type n ∧ mg x = none ∧ bootBuiltins x = some (.type n) ∧ x ≠ "__name__") ∧
    ∀ C Ca, cl C = some Ca → sub C "BaseException" = true → ExcC K Ca ∧ PySem.W.kitOne K (.ref Ca) cv = some (sub C x)
section
variable {cl : Str → Option Addr} {X : Cx} {cx : Option (Addr × Option Addr × Str)} {pos p p2 p3 : Pos} {sub : Str → Str → Bool}
theorem de_xi {j : Nat} {x c : Str} (su : Su cl X cx) (T : XiOk X.K X.mg cl sub c) (hg : Gl X "isinstance") (hm : X.mg "isinstance" = none) (hgc : Gl X c) (hdc : (c == ("__debug__" : Str)) = false)
    (hN : X.N[j]? = some x) (hv : Vis X.env.scope x) (hd : (x == ("__debug__" : Str)) = false) (hcd : (x == ("__classdict__" : Str)) = false) :
    DE cl X (.Call (.Name "isinstance" p) [.Name x p2, .Name c p3] [] pos) (fun _ σ H Q => ∃ a d C fs, σ[j]? = some (some (.exn a d C fs)) ∧ cx = some (a, d, C) ∧ sub C "BaseException" = true ∧ Q (.bl (sub C c)) H) := fun W tk => by
  refine ⟨fun pins s τ H Q I h => ?_⟩
  obtain ⟨σ, Hd, Xd, Qd, rs, lk, ⟨a, d, C, fs, ej, ec, exf, q⟩, hx, fin⟩ := h
  obtain ⟨X0, oe, pn, Ca, rfl, hz, hf, hC⟩ := su a d C ec
  obtain ⟨v, cv, hvc, T⟩ := T
  obtain ⟨T1, T2⟩ := T C Ca hC exf
  have he : PE (Cx.suite X0 a ((a, oe) :: pn)) (.Name c p3) (tC v) ∧ ∀ u, RelV v u → u = cv := by
    rcases hvc with ⟨Cb, rfl, rfl, h⟩ | ⟨n, rfl, rfl, h1, h2, h3⟩
    · exact ⟨pe_glob (v := .ref Cb) (u := .ref Cb) hgc h rfl hdc, fun u hu => hu⟩
    · exact ⟨pe_bltn hgc h1 h2 rfl h3 hdc, fun u hu => hu⟩
  obtain ⟨he, hcv⟩ := he
  obtain ⟨w, ew, rw'⟩ := rs.get ej
  have s1 : noStar (Expr.Name x p2) = true := rfl
  have s2 : noStar (Expr.Name c p3) = true := rfl
  have hst : [Expr.Name c p3].all noStar = true := rfl
  refine (pe_callB (call_isED T1 hz hf) hg hm rfl (pa_cons (pe_var hN hv hd hcd) (pa_cons he pa_nil (star_cons s2 _ _)) (star_cons s1 _ _)) (by decide) (by decide) (star_cons s1 _ _) (star_any hst _ _)).run pins s τ H Q I ?_
  refine ⟨w, ew, ?_⟩
  have hw : w = .ref a ∧ ∀ dd, d = some dd → ∃ fs, H dd = some (.xd fs) := by
    cases rw' with
    | exn0 => exact ⟨rfl, fun dd z => (by cases z)⟩
    | @exn _ dd _ l _ e1 e2 rf => exact ⟨rfl, fun dd' z => (by cases z; exact ⟨_, e1⟩)⟩
  obtain ⟨rfl, hdd⟩ := hw
  exact ⟨v, cv, _, rfl, hcv, T2, hdd, fin _ _ ⟨_, Hd, Ext.refl _ _, lk, .bl _, q⟩⟩
end
end DL

set_option maxRecDepth 100000
namespace DL
open PySem L2

/-! ### the tables of a program, and what they must say -/
structure Fn where
  f : Addr
  fd : FuncData
  ps : List Str
structure Tab where
  fns : List (Str × Nat) := []
  mts : List (Str × Str × Nat) := []
  mks : List (Str × Nat) := []
  flds : List (Str × Str) := []
  gcs : List Str := []
  bn : List Str := []
  pls : List Str := []
  ex0 : List Str := []
  ex1 : List (Str × Str) := []
  hnd : List Str := []
  xis : List Str := []
structure Lang (T : Tab) where
  P : Program
  w : World
  K : PySem.W.Frag
  mg : Str → Option Value
  base : Heap
  cl : Str → Option Addr
  sub : Str → Str → Bool
  gcv : Str → Option D
  fn : Str → Fn
  mt : Str → Str → Fn
  xi : Str → Fn
  sx : Str → Str × Str
  fn_ok : ∀ x n, (x, n) ∈ T.fns → mg x = some (.ref (fn x).f) ∧ PySem.W.keepIn K (.ref (fn x).f) = true ∧ Binds K (fn x).fd (fn x).ps [] ∧ (fn x).ps.length = n
  mt_ok : ∀ C m n, (C, m, n) ∈ T.mts → ∃ Ca, cl C = some Ca ∧ Cls K Ca ∧ Meth K Ca m (mt C m).f ∧ Binds K (mt C m).fd (mt C m).ps [] ∧ (mt C m).ps.length = n
  mk_ok : ∀ C n, (C, n) ∈ T.mks → ∃ Ca, cl C = some Ca ∧ mg C = some (.ref Ca) ∧ Mk K Ca (mt C "__init__").f ∧ Binds K (mt C "__init__").fd (mt C "__init__").ps [] ∧ (mt C "__init__").ps.length = n
  fld_ok : ∀ C f, (C, f) ∈ T.flds → ∃ Ca, cl C = some Ca ∧ Cls K Ca ∧ NoAttr K Ca f
  gc_ok : ∀ x, x ∈ T.gcs → ∀ d, gcv x = some d → GcOk K mg cl x d
  bn_ok : ∀ x, x ∈ T.bn → mg x = none
  pl_ok : ∀ C, C ∈ T.pls → ∃ Ca, cl C = some Ca ∧ mg C = some (.ref Ca)
  ty_ok : TyFacts K cl fun C => T.pls.contains C
  ex0_ok : ∀ C, C ∈ T.ex0 → ∃ Ca, cl C = some Ca ∧ mg C = some (.ref Ca) ∧ PySem.W.keepIn K (.ref Ca) = true ∧ PySem.W.excIn K Ca [.type "ValueError", .type "Exception", .type "BaseException", .type "object"] "ValueError.__new__" = true ∧
    PySem.W.subIn K (.ref Ca) (.type "BaseException") = some true ∧ PySem.W.typeIn K (.ref Ca) = some (.type "type")
  ex1_ok : ∀ C f, (C, f) ∈ T.ex1 → ∃ Ca, cl C = some Ca ∧ mg C = some (.ref Ca) ∧ OexC K Ca ∧ PySem.W.findIn K (.ref Ca) "__init__" = some (some (.ref (xi C).f)) ∧ PySem.W.typeIn K (.ref (xi C).f) = some (.type "function") ∧
    (xi C).ps = [(sx C).1, (sx C).2] ∧ Binds K (xi C).fd (xi C).ps [] ∧ FnOk P w K mg base (L2.CX P w) 1 (xi C).f (xi C).fd (xi C).ps (spI Ca f)
  hnd_ok : ∀ C, C ∈ T.hnd → ∃ Ca, ExmOk K cl sub C Ca ∧ mg C = some (.ref Ca)
  xf_ok : ∀ C f, (C, f) ∈ T.ex1 → ∀ Ca, cl C = some Ca → XfC K Ca ∧ PySem.W.findIn K (.ref Ca) f = some none
  xi_ok : ∀ x, x ∈ T.xis → XiOk K mg cl sub x
/-- the promises G are kept, at level k -/
structure Good {T : Tab} (L : Lang T) (G : Gam) (k : Nat) : Prop where
  pos : 1 ≤ k
  gc : G.gc = L.gcv
  sub : G.sub = L.sub
  pl : G.pl = fun C => T.pls.contains C
  xf0 : ∀ C, C ∈ T.ex0 → G.xf C = []
  xf1 : ∀ C f, (C, f) ∈ T.ex1 → G.xf C = [f]
  xf2 : ∀ C f, G.xf C = [f] → (C, f) ∈ T.ex1
  fn : ∀ x n, (x, n) ∈ T.fns → FnOk L.P L.w L.K L.mg L.base (L2.CX L.P L.w) k (L.fn x).f (L.fn x).fd (L.fn x).ps (liftF L.K L.cl n (G.fn x))
  mt : ∀ C m n, (C, m, n) ∈ T.mts → FnOk L.P L.w L.K L.mg L.base (L2.CX L.P L.w) k (L.mt C m).f (L.mt C m).fd (L.mt C m).ps (liftF L.K L.cl n (G.mt C m))
  mks : ∀ C n, (C, n) ∈ T.mks → FnOk L.P L.w L.K L.mg L.base (L2.CX L.P L.w) k (L.mt C "__init__").f (L.mt C "__init__").fd (L.mt C "__init__").ps (liftF L.K L.cl n (G.mt C "__init__"))
/-- a context of the program -/
structure Ctx {T : Tab} (L : Lang T) (N : List Str) (sc : Scope) (calm fna : Bool) (k : Nat) (cx : Option (Addr × Option Addr × Str)) (X : Cx) : Prop where
  hP : X.prog = L.P
  hw : X.w = L.w
  hK : X.K = L.K
  hm : X.mg = L.mg
  hb : X.base = L.base
  hN : X.N = N
  nd : N.Nodup
  scE : X.env.scope = sc
  kd : sc.kind = .function
  room : calm = true → Room (k + 1) X.A
  un : X.A.units + 66 < cLine
  cm : calm = true → X.calm = true
  fn : fna = true → ∀ x, X.fn x = true
  su : calm = false → Su L.cl X cx

/-! ### does the syntax read so? -/
def nmOk (x : Str) : Bool := !(x == ("__debug__" : Str)) && !(x == ("__classdict__" : Str))
def visB (sc : Scope) (x : Str) : Bool := match sc.names.lookup x with
  | some .local => true | some .cell => true | some .free => true | _ => false
def glB (sc : Scope) (x : Str) : Bool := match sc.names.lookup x with
  | some .globalImplicit => nmOk x | _ => false
def locB (sc : Scope) (fna : Bool) (x : Str) : Bool := match sc.names.lookup x with
  | some .local => true | some .cell => fna | _ => false
def opB : BOp → Operator → Bool
  | .add, .Add => true | .sub, .Sub => true | .mul, .Mult => true | .div, .FloorDiv => true | .mod, .Mod => true | .pow, .Pow => true | _, _ => false
def copB : COp → CmpOp → Bool
  | .eq, .Eq => true | .ne, .NotEq => true | .lt, .Lt => true | .le, .LtE => true | .gt, .Gt => true | .ge, .GtE => true | .isin, .In => true | .notin, .NotIn => true | .is, .Is => true | .isnot, .IsNot => true | _, _ => false
def bltNm : Blt → Str
  | .len => "len" | .int => "int" | .str => "str" | .tuple => "tuple" | .list => "list" | .sorted => "sorted" | .sum => "sum" | .min => "min" | .max => "max" | .all => "all" | .any => "any" | .abs => "abs" | .ord => "ord" | .dict => "dict" | .repr => "repr"
def tyNm : Ty → Str
  | .int => "int" | .bool => "bool" | .str => "str" | .tuple => "tuple" | .list => "list" | .dict => "dict" | .cls C => C
def tyB (T : Tab) (sc : Scope) : Ty → Expr → Bool
  | .cls C, .Name x _ => x == C && T.pls.contains C && glB sc x
  | t, .Name x _ => x == tyNm t && T.bn.contains x && glB sc x
  | _, _ => false
def tysB (T : Tab) (sc : Scope) : List Ty → List Expr → Bool
  | [], [] => true
  | t :: ts, e :: es => tyB T sc t e && tysB T sc ts es
  | _, _ => false
def keysB : List Str → List (Option Expr) → Bool
  | [], [] => true
  | k :: ks, some (.Constant (.str x) _ _) :: es => x == k && keysB ks es
  | _, _ => false
/-- may stand as a test -/
def tst : Ex → Bool
  | .ife _ _ _ => false | .and a b => tst a && tst b | .or a b => tst a && tst b | .not a => tst a | _ => true
def tgNs : Tg → List Nat
  | .nm i => [i]
  | .tp ts => tgsNs ts
  | _ => []
where tgsNs : List Tg → List Nat
  | [] => []
  | t :: ts => tgNs t ++ tgsNs ts
def bmOk : BMt → Bool
  | .append => true | .extend => true | .pop => true | .popAt => true | .get => true | .dpop => true | .join => true | _ => false
def compB (N : List Str) (sc scope : Scope) (own : List (Str × Nat)) (tg : Tg) (g : Comprehension) : Bool :=
  blkC N sc scope own && noSet g.iter && (tgNs tg).all (fun i => (own.map fun p => p.2).contains i) && decide (g.is_async = 0)
mutual
def chkE (T : Tab) (N : List Str) (sc : Scope) (calm fna : Bool) : Ex → Expr → Bool
  | .v i, e => (match e with | .Name x _ => decide (N[i]? = some x) && visB sc x && nmOk x | _ => false)
  | .non, e => (match e with | .Constant .none _ _ => true | _ => false)
  | .bl b, e => (match e with | .Constant (.bool c) _ _ => c == b | _ => false)
  | .int i, e => (match e with | .Constant (.int j) _ _ => decide (j = i) | _ => false)
  | .str s, e => (match e with | .Constant (.str x) _ _ => x == s && decide (x.length ≤ 1000) && PyData.strOk x | _ => false)
  | .gc x, e => (match e with | .Name y _ => y == x && T.gcs.contains x && glB sc y | _ => false)
  | .tup es, e => (match e with | .Tuple as _ _ => decide (as.length ≤ 1000) && chkEs T N sc calm fna es as | _ => false)
  | .lst _ es, e => (match e with | .List as _ => decide (as.length ≤ 1000) && chkEs T N sc calm fna es as | _ => false)
  | .dic0 _, e => (match e with | .Dict [] [] _ => true | _ => false)
  | .dicS ks es, e => (match e with | .Dict keys as _ => decide (keys.length = as.length) && decide (0 < keys.length) && decide (keys.length ≤ 15) && keysB ks keys && chkEs T N sc calm fna es as | _ => false)
  | .bin o _ a b, e => (match e with | .BinOp l op r _ => opB o op && chkE T N sc calm fna a l && chkE T N sc calm fna b r | _ => false)
  | .cmp o a b, e => (match e with | .Compare l [op] [r] _ => copB o op && noSet r && chkE T N sc calm fna a l && chkE T N sc calm fna b r | _ => false)
  | .chn o o' a b c, e => (match e with | .Compare l [op, op'] [r, r'] _ => copB o op && copB o' op' && noSet r' && chkE T N sc calm fna a l && chkE T N sc calm fna b r && chkE T N sc calm fna c r' | _ => false)
  | .and a b, e => (match e with | .BoolOp .And (x :: y :: rest) pos => chkE T N sc calm fna a x && (match rest with | [] => chkE T N sc calm fna b y | _ => chkE T N sc calm fna b (.BoolOp .And (y :: rest) pos)) | _ => false)
  | .or a b, e => (match e with | .BoolOp .Or (x :: y :: rest) pos => chkE T N sc calm fna a x && (match rest with | [] => chkE T N sc calm fna b y | _ => chkE T N sc calm fna b (.BoolOp .Or (y :: rest) pos)) | _ => false)
  | .not a, e => (match e with | .UnaryOp .Not x _ => chkE T N sc calm fna a x | _ => false)
  | .neg a, e => (match e with | .UnaryOp .USub x _ => chkE T N sc calm fna a x | _ => false)
  | .ife c a b, e => (match e with | .IfExp x y z _ => tst c && chkE T N sc calm fna c x && chkE T N sc calm fna a y && chkE T N sc calm fna b z | _ => false)
  | .idx a b, e => (match e with | .Subscript x y _ => noSlice y && chkE T N sc calm fna a x && chkE T N sc calm fna b y | _ => false)
  | .rev _ a, e => (match e with | .Subscript x (.Slice none none (some (.UnaryOp .USub (.Constant (.int 1) _ _) _)) _) _ => chkE T N sc calm fna a x | _ => false)
  | .slc _ a lo hi, e => (match e with | .Subscript x (.Slice l h none _) _ => chkE T N sc calm fna a x && chkO T N sc calm fna lo l && chkO T N sc calm fna hi h | _ => false)
  | .fld C a f, e => (match e with | .Attribute x g _ => g == f && T.flds.contains (C, f) && noSuper x && chkE T N sc calm fna a x | _ => false)
  | .call f es, e => (match e with | .Call (.Name x _) as [] _ => calm && x == f && T.fns.contains (f, as.length) && glB sc x && as.all noStar && chkEs T N sc calm fna es as | _ => false)
  | .meth C m o es, e => (match e with | .Call (.Attribute x g apos) as [] pos => calm && g == m && T.mts.contains (C, m, as.length + 1) && noSuper x && as.all noStar && apos.endLine == pos.line && decide (as.length < 30) && chkE T N sc calm fna o x && chkEs T N sc calm fna es as | _ => false)
  | .make C es, e => (match e with | .Call (.Name x _) as [] _ => calm && x == C && T.mks.contains (C, as.length + 1) && glB sc x && as.all noStar && chkEs T N sc calm fna es as | _ => false)
  | .blt b _ es, e => (match e with | .Call (.Name x _) as [] _ => calm && x == bltNm b && T.bn.contains x && glB sc x && as.all noStar && !as.isEmpty && chkEs T N sc calm fna es as | _ => false)
  | .bm b _ o es, e => (match e with | .Call (.Attribute x g apos) as [] pos => bmOk b && g == bmNm b && noSuper x && as.all noStar && apos.endLine == pos.line && decide (as.length < 30) && chkE T N sc calm fna o x && chkEs T N sc calm fna es as | _ => false)
  | .isi a ts, e => (match e with
    | .Call (.Name x _) [y, .Tuple as _ _] [] _ => x == ("isinstance" : Str) && T.bn.contains x && glB sc x && noStar y && decide (ts.length ≤ 100) && tysB T sc ts as && chkE T N sc calm fna a y
    | .Call (.Name x _) [y, z] [] _ => x == ("isinstance" : Str) && T.bn.contains x && glB sc x && noStar y && (match ts with | [t] => tyB T sc t z | _ => false) && chkE T N sc calm fna a y
    | _ => false)
  | .xf i f, e => (match e with | .Attribute (.Name x _) g _ => !calm && g == f && T.ex1.any (fun p => p.2 == f) && decide (N[i]? = some x) && visB sc x && nmOk x | _ => false)
  | .xi i t, e => (match e, t with | .Call (.Name f _) [.Name x _, .Name c _] [] _, .cls C => !calm && f == ("isinstance" : Str) && T.bn.contains f && glB sc f && c == C && T.xis.contains C && glB sc c && decide (N[i]? = some x) && visB sc x && nmOk x | _, _ => false)
  | .comp _ elt tg own it cs, e => (match e with
    | .ListComp x [g] scope _ => calm && compB N sc scope own tg g && chkIt T N sc calm fna it g.target g.iter && chkTg T N (relS scope sc) calm false tg g.target && chkIf T N (relS scope sc) calm false cs g.ifs && chkE T N (relS scope sc) calm false elt x
    | _ => false)
def chkEs (T : Tab) (N : List Str) (sc : Scope) (calm fna : Bool) : List Ex → List Expr → Bool
  | [], es => es.isEmpty
  | x :: xs, es => (match es with | e :: r => noStar e && chkE T N sc calm fna x e && chkEs T N sc calm fna xs r | [] => false)
def chkO (T : Tab) (N : List Str) (sc : Scope) (calm fna : Bool) : Option Ex → Option Expr → Bool
  | none, e => e.isNone
  | some x, e => (match e with | some e => chkE T N sc calm fna x e | none => false)
def chkIf (T : Tab) (N : List Str) (sc : Scope) (calm fna : Bool) : List Ex → List Expr → Bool
  | [], es => es.isEmpty
  | x :: xs, es => (match xs, es with | [], [e] => tst x && chkE T N sc calm fna x e | _, _ => false)
def chkTg (T : Tab) (N : List Str) (sc : Scope) (calm fna : Bool) : Tg → Expr → Bool
  | .nm i, e => (match e with | .Name x _ => decide (N[i]? = some x) && locB sc fna x | _ => false)
  | .tp ts, e => (match e with | .Tuple as _ _ => calm && as.all noStar && chkTgs T N sc calm fna ts as | _ => false)
  | .fld C o f, e => (match e with | .Attribute x g _ => g == f && T.flds.contains (C, f) && chkE T N sc calm fna o x | _ => false)
  | .sub o i, e => (match e with | .Subscript x y _ => noSlice y && chkE T N sc calm fna o x && chkE T N sc calm fna i y | _ => false)
def chkTgs (T : Tab) (N : List Str) (sc : Scope) (calm fna : Bool) : List Tg → List Expr → Bool
  | [], es => es.isEmpty
  | t :: ts, es => (match es with | e :: r => noStar e && chkTg T N sc calm fna t e && chkTgs T N sc calm fna ts r | [] => false)
def chkIt (T : Tab) (N : List Str) (sc : Scope) (calm fna : Bool) : It → Expr → Expr → Bool
  | .seq x, _, e => chkE T N sc calm fna x e
  | .rng a none, _, e => (match e with
    | .Call (.Name n _) [y] [] _ => n == ("range" : Str) && T.bn.contains n && glB sc n && noStar y && chkE T N sc calm fna a y
    | _ => false)
  | .rng a (some b), _, e => (match e with
    | .Call (.Name n _) [y, z] [] _ => n == ("range" : Str) && T.bn.contains n && glB sc n && noStar y && noStar z && chkE T N sc calm fna a y && chkE T N sc calm fna b z
    | _ => false)
  | .enu a, t, e => (match t, e with
    | .Tuple _ _ _, .Call (.Name n _) [y] [] _ => n == ("enumerate" : Str) && T.bn.contains n && glB sc n && noStar y && chkE T N sc calm fna a y
    | _, _ => false)
  | .zip a b, t, e => (match t, e with
    | .Tuple _ _ _, .Call (.Name n _) [y, z] [] _ => n == ("zip" : Str) && T.bn.contains n && glB sc n && noStar y && noStar z && chkE T N sc calm fna a y && chkE T N sc calm fna b z
    | _, _ => false)
end
end DL

set_option maxRecDepth 100000
namespace DL
open PySem L2

/-! ### the checker is right: expressions -/
def isBo : Expr → Bool
  | .BoolOp _ _ _ => true | _ => false
theorem andB {a b : Bool} (h : (a && b) = true) : a = true ∧ b = true := Bool.and_eq_true_iff.mp h
theorem eqS {a b : Str} (h : (a == b) = true) : a = b := beq_iff_eq.mp h
theorem nmOk_of {x : Str} (h : nmOk x = true) : (x == ("__debug__" : Str)) = false ∧ (x == ("__classdict__" : Str)) = false := by
  unfold nmOk at h
  obtain ⟨h1, h2⟩ := andB h
  exact ⟨by simpa using h1, by simpa using h2⟩
theorem vis_of {sc : Scope} {x : Str} (h : visB sc x = true) : Vis sc x := by
  unfold visB at h
  split at h <;> rename_i e
  · exact .inl e
  · exact .inr (.inl e)
  · exact .inr (.inr e)
  · cases h
theorem opB_of {o : BOp} {op : Operator} (h : opB o op = true) : op = opOf o := by
  cases o <;> cases op <;> first | rfl | cases h
theorem copB_of {o : COp} {op : CmpOp} (h : copB o op = true) : op = copOf o := by
  cases o <;> cases op <;> first | rfl | cases h
theorem mem_of {α : Type} [BEq α] [LawfulBEq α] {l : List α} {a : α} (h : l.contains a = true) : a ∈ l := by simpa using h
section
variable {T : Tab} {L : Lang T} {N : List Str} {sc : Scope} {calm fna : Bool} {k : Nat} {cx : Option (Addr × Option Addr × Str)} {X : Cx}
theorem Ctx.gl (c : Ctx L N sc calm fna k cx X) {x : Str} (h : glB sc x = true) : Gl X x ∧ (x == ("__debug__" : Str)) = false := by
  unfold glB at h
  split at h
  · rename_i e
    refine ⟨?_, (nmOk_of h).1⟩
    show X.env.scope.names.lookup x = _
    rw [c.scE]
    exact e
  · cases h
theorem Ctx.loc (c : Ctx L N sc calm fna k cx X) {x : Str} (h : locB sc fna x = true) : Loc X.env.scope x ∧ (X.fn x = true ∨ X.env.scope.names.lookup x = some .local) := by
  unfold locB at h
  rw [c.scE]
  split at h <;> rename_i e
  · exact ⟨.inl e, .inr e⟩
  · exact ⟨.inr e, .inl (c.fn h x)⟩
  · cases h
theorem Ctx.bn (c : Ctx L N sc calm fna k cx X) {x : Str} (h : T.bn.contains x = true) : X.mg x = none := by rw [c.hm]; exact L.bn_ok x (mem_of h)
theorem Ctx.fnok (c : Ctx L N sc calm fna k cx X) {j n : Nat} {f : Addr} {fd : FuncData} {ps : List Str} {sp : List D → DH → DK → DXK → Prop} (F : FnOk L.P L.w L.K L.mg L.base (L2.CX L.P L.w) j f fd ps (liftF L.K L.cl n sp)) :
    FnOk X.prog X.w X.K X.mg X.base (L2.CX X.prog X.w) j f fd ps (liftF X.K L.cl n sp) := by
  rw [c.hP, c.hw, c.hK, c.hm, c.hb]; exact F
/-- the context of a comprehension's block -/
theorem Ctx.blk (c : Ctx L N sc true fna k cx X) {scope : Scope} {own : List (Str × Nat)} (ok : BlkOk N sc scope own) (s : Shared) (H : Hp) (C : Addr) (cs : List (Str × Addr)) (fp : List Addr) :
    Ctx L N (relS scope sc) true false k cx (X.blk s H scope (compEnvC scope cs C X.env) fp) where
  hP := c.hP
  hw := c.hw
  hK := c.hK
  hm := c.hm
  hb := c.hb
  hN := c.hN
  nd := c.nd
  scE := by
    show relabel scope X.env = relS scope sc
    unfold relabel relS
    have e : ∀ n, X.env.kindOf n = sc.names.lookup n := fun n => by show X.env.scope.names.lookup n = _; rw [c.scE]
    simp only [e, c.scE]
  kd := ok.kind
  room := c.room
  un := c.un
  cm := c.cm
  fn := fun z => absurd z (by decide)
  su := fun z => absurd z (by decide)
/-- the three readings of an expression -/
def Ok3 (cl : Str → Option Addr) (X : Cx) (e : Expr) (x : Ex) (t : DTE) : Prop := DE cl X e t ∧ (tst x = true → DT cl X e t) ∧ (tst x = true → isBo e = true → DW cl X e t)
theorem ok3 {e : Expr} {x : Ex} {t u : DTE} (h : DE L.cl X e t) (i : ∀ Xd σ H Q, u Xd σ H Q → t Xd σ H Q) (he : ∀ whole, isTrue e X.env whole = (do let v ← whole; standAt e.pos; holding [v] (truthy v))) (hb : isBo e = false) : Ok3 L.cl X e x u :=
  ⟨h.imp i, fun _ => dt_val (h.imp i) he, fun _ z => by rw [hb] at z; cases z⟩
theorem DT.imp {cl : Str → Option Addr} {e : Expr} {t u : DTE} (h : DT cl X e t) (i : ∀ Xd σ H Q, u Xd σ H Q → t Xd σ H Q) : DT cl X e u := fun W tk => PT.imp (h W tk) (by
  rintro τ H Q ⟨σ, Hd, Xd, Q0, Qd, rs, lk, q, r⟩
  exact ⟨σ, Hd, Xd, Q0, Qd, rs, lk, i _ _ _ _ q, r⟩)
theorem DW.imp {cl : Str → Option Addr} {e : Expr} {t u : DTE} (h : DW cl X e t) (i : ∀ Xd σ H Q, u Xd σ H Q → t Xd σ H Q) : DW cl X e u := fun W tk => PW.imp (h W tk) (by
  rintro τ H Q ⟨σ, Hd, Xd, Q0, Qd, rs, lk, q, r⟩
  exact ⟨σ, Hd, Xd, Q0, Qd, rs, lk, i _ _ _ _ q, r⟩)
theorem DAs.imp {cl : Str → Option Addr} {es : List Expr} {t u : DTA} (h : DAs cl X es t) (i : ∀ Xd σ H Q, u Xd σ H Q → t Xd σ H Q) : DAs cl X es u := fun W tk => PA.imp (h W tk) (by
  rintro τ H Q ⟨σ, Hd, Xd, Qd, rs, lk, q, r⟩
  exact ⟨σ, Hd, Xd, Qd, rs, lk, i _ _ _ _ q, r⟩)
theorem DO.imp {cl : Str → Option Addr} {e : Option Expr} {t u : DTO} (h : DO cl X e t) (i : ∀ Xd σ H Q, u Xd σ H Q → t Xd σ H Q) : DO cl X e u := fun W tk => PO.imp (h W tk) (by
  rintro τ H Q ⟨σ, Hd, Xd, Qd, rs, lk, q, r⟩
  exact ⟨σ, Hd, Xd, Qd, rs, lk, i _ _ _ _ q, r⟩)
theorem DI.imp {cl : Str → Option Addr} {tg e : Expr} {t u : DTI} (h : DI cl X tg e t) (i : ∀ Xd σ H Q, u Xd σ H Q → t Xd σ H Q) : DI cl X tg e u := fun W tk => PI.imp (h W tk) (by
  rintro τ H R ⟨σ, Hd, Xd, Qd, rs, lk, q, r⟩
  exact ⟨σ, Hd, Xd, Qd, rs, lk, i _ _ _ _ q, r⟩)
theorem DG.imp {cl : Str → Option Addr} {tg : Expr} {ns : List Nat} {t u : DTG} (h : DG cl X tg ns t) (i : ∀ d σ H Q, u d σ H Q → t d σ H Q) : DG cl X tg ns u := PG.imp h (by
  rintro v τ H Q ⟨σ, Hd, d, Qd, rs, lk, r, q, f⟩
  exact ⟨σ, Hd, d, Qd, rs, lk, r, i _ _ _ _ q, f⟩)
theorem DGs.imp {cl : Str → Option Addr} {tg : List Expr} {n : Nat} {ns : List Nat} {t u : DTGs} (h : DGs cl X tg n ns t) (i : ∀ d σ H Q, u d σ H Q → t d σ H Q) : DGs cl X tg n ns u := PGs.imp h (by
  rintro v τ H Q ⟨σ, Hd, d, Qd, rs, lk, r, hl, q, f⟩
  exact ⟨σ, Hd, d, Qd, rs, lk, r, hl, i _ _ _ _ q, f⟩)
theorem DTs.imp {cl : Str → Option Addr} {es : List Expr} {t u : DTT} (h : DTs cl X es t) (i : ∀ σ H Q, u σ H Q → t σ H Q) : DTs cl X es u := PTs.imp h (by
  rintro τ H Q ⟨σ, Hd, Qd, rs, lk, q, f⟩
  exact ⟨σ, Hd, Qd, rs, lk, i _ _ _ q, f⟩)
theorem Ctx.names (c : Ctx L N sc calm fna k cx X) : ∀ {ts : List Ty} {es : List Expr}, tysB T sc ts es = true → NamesOk X L.cl (fun C => T.pls.contains C) es ts
  | [], [], _ => .nil
  | [], _ :: _, h => by cases h
  | _ :: _, [], h => by cases h
  | t :: ts, e :: es, h => by
    obtain ⟨h1, h2⟩ := andB h
    have r := Ctx.names c h2
    have key : ∀ (x : Str) (p : Pos) (n : String), e = .Name x p → (x == ("" : Str)) = false ∨ True → T.bn.contains x = true → glB sc x = true → bootBuiltins x = some (.type n) → x ≠ "__name__" → PE X e (tC (.ty n)) := by
      intro x p n he _ hb hg hv hn
      subst he
      obtain ⟨g1, g2⟩ := c.gl hg
      exact pe_bltn g1 (c.bn hb) hv rfl hn g2
    cases t
    case cls C =>
      cases e <;> simp only [tyB] at h1 <;> try (cases h1; done)
      rename_i x p
      obtain ⟨h1, h4⟩ := andB h1
      obtain ⟨h1, h3⟩ := andB h1
      obtain rfl := eqS h1
      obtain ⟨Ca, hC, hm⟩ := L.pl_ok x (mem_of h3)
      obtain ⟨g1, g2⟩ := c.gl h4
      exact .cons (pe_glob (v := .ref Ca) (u := .ref Ca) g1 (by rw [c.hm]; exact hm) rfl g2) (.cls hC) h3 rfl r
    all_goals
      cases e <;> simp only [tyB] at h1 <;> try (cases h1; done)
      rename_i x p
      obtain ⟨h1, h4⟩ := andB h1
      obtain ⟨h1, h3⟩ := andB h1
      obtain rfl := eqS h1
      first
        | exact .cons (key _ p "int" rfl (.inr trivial) h3 h4 rfl (by decide)) .int rfl rfl r
        | exact .cons (key _ p "bool" rfl (.inr trivial) h3 h4 rfl (by decide)) .bool rfl rfl r
        | exact .cons (key _ p "str" rfl (.inr trivial) h3 h4 rfl (by decide)) .str rfl rfl r
        | exact .cons (key _ p "tuple" rfl (.inr trivial) h3 h4 rfl (by decide)) .tuple rfl rfl r
        | exact .cons (key _ p "list" rfl (.inr trivial) h3 h4 rfl (by decide)) .list rfl rfl r
        | exact .cons (key _ p "dict" rfl (.inr trivial) h3 h4 rfl (by decide)) .dict rfl rfl r
end
end DL

set_option maxRecDepth 100000
set_option maxHeartbeats 1000000
namespace DL
open PySem L2
theorem bltNm_boot (b : Blt) : bootBuiltins (bltNm b) = some (bltV b) ∧ bltNm b ≠ "__name__" := by
  cases b <;> exact ⟨rfl, by decide⟩
theorem keys_none : ∀ {ks : List Str} {es : List (Option Expr)}, keysB ks es = true → es.all (·.isSome) = true ∧ ks.length = es.length
  | [], [], _ => ⟨rfl, rfl⟩
  | [], _ :: _, h => by cases h
  | k :: ks, [], h => by cases h
  | k :: ks, e :: es, h => by
    unfold keysB at h
    split at h
    · rename_i a1 a2; cases a1
    · rename_i a1 a2
      cases a1; cases a2
      obtain ⟨h1, h2⟩ := andB h
      obtain ⟨r1, r2⟩ := keys_none h2
      exact ⟨by simpa using r1, by simp [r2]⟩
    · cases h
theorem dpp_of {cl : Str → Option Addr} {X : Cx} {pos : Pos} : ∀ {ks : List Str} {keys : List (Option Expr)} {es : List Expr} {t : DTA}, keysB ks keys = true → keys.length = es.length → True → True
  | _, _, _, _, _, _, _ => trivial
section
variable {T : Tab} {L : Lang T} {G : Gam} {k : Nat}
def StE (L : Lang T) (G : Gam) (k : Nat) (x : Ex) : Prop := ∀ (N : List Str) (sc : Scope) (calm fna : Bool) (e : Expr), chkE T N sc calm fna x e = true → ∀ X, Ctx L N sc calm fna k G.cx X → Ok3 L.cl X e x (wE G x)
def StEs (L : Lang T) (G : Gam) (k : Nat) (xs : List Ex) : Prop := ∀ (N : List Str) (sc : Scope) (calm fna : Bool) (es : List Expr), chkEs T N sc calm fna xs es = true → ∀ X, Ctx L N sc calm fna k G.cx X →
  DAs L.cl X es (wEs G xs) ∧ ∀ (pos : Pos) (ks : List Str) (keys : List (Option Expr)), keysB ks keys = true → keys.length = es.length → DPP L.cl X pos keys es ks (wEs G xs)
def StO (L : Lang T) (G : Gam) (k : Nat) (x : Option Ex) : Prop := ∀ (N : List Str) (sc : Scope) (calm fna : Bool) (e : Option Expr), chkO T N sc calm fna x e = true → ∀ X, Ctx L N sc calm fna k G.cx X → DO L.cl X e (wO G x)
def StIf (L : Lang T) (G : Gam) (k : Nat) (x : List Ex) : Prop := ∀ (N : List Str) (sc : Scope) (calm fna : Bool) (e : List Expr), chkIf T N sc calm fna x e = true → ∀ X, Ctx L N sc calm fna k G.cx X → DTs L.cl X e (wAll G x)
def StTg (L : Lang T) (G : Gam) (k : Nat) (x : Tg) : Prop := ∀ (N : List Str) (sc : Scope) (calm fna : Bool) (e : Expr), chkTg T N sc calm fna x e = true → ∀ X, Ctx L N sc calm fna k G.cx X → DG L.cl X e (tgNs x) (wTg G x)
def StTgs (L : Lang T) (G : Gam) (k : Nat) (x : List Tg) : Prop := ∀ (N : List Str) (sc : Scope) (calm fna : Bool) (e : List Expr), chkTgs T N sc calm fna x e = true → ∀ X, Ctx L N sc calm fna k G.cx X → DGs L.cl X e e.length (tgNs.tgsNs x) (wTgs G x)
def StIt (L : Lang T) (G : Gam) (k : Nat) (x : It) : Prop := ∀ (N : List Str) (sc : Scope) (calm fna : Bool) (tg e : Expr), chkIt T N sc calm fna x tg e = true → ∀ X, Ctx L N sc calm fna k G.cx X → DI L.cl X tg e (wIt G x)
section
variable {N : List Str} {sc : Scope} {calm fna : Bool} {X : Cx} {e : Expr}
theorem okV {i : Nat} : StE L G k (.v i) := by
  intro N sc calm fna e h X c
  simp only [chkE] at h
  split at h <;> try (cases h; done)
  rename_i x p
  obtain ⟨h, h3⟩ := andB h
  obtain ⟨h1, h2⟩ := andB h
  obtain ⟨n1, n2⟩ := nmOk_of h3
  exact ok3 (de_var (by rw [c.hN]; exact of_decide_eq_true h1) (by rw [c.scE]; exact vis_of h2) n1 n2) (fun _ _ _ _ q => by rw [wE] at q; exact q) (fun _ => rfl) rfl
theorem okNon : StE L G k .non := by
  intro N sc calm fna e h X c
  simp only [chkE] at h
  split at h <;> try (cases h; done)
  exact ok3 (de_const pe_non fun _ _ => .non) (fun _ _ _ _ q => by rw [wE] at q; exact q) (fun _ => rfl) rfl
theorem okBl {b : Bool} : StE L G k (.bl b) := by
  intro N sc calm fna e h X c
  simp only [chkE] at h
  split at h <;> try (cases h; done)
  obtain rfl := beq_iff_eq.mp h
  exact ok3 (de_const pe_bl fun _ _ => .bl _) (fun _ _ _ _ q => by rw [wE] at q; exact q) (fun _ => rfl) rfl
theorem okInt {i : Int} : StE L G k (.int i) := by
  intro N sc calm fna e h X c
  simp only [chkE] at h
  split at h <;> try (cases h; done)
  obtain rfl := of_decide_eq_true h
  exact ok3 (de_const pe_int fun _ _ => .int _) (fun _ _ _ _ q => by rw [wE] at q; exact q) (fun _ => rfl) rfl
theorem okStr {s : Str} : StE L G k (.str s) := by
  intro N sc calm fna e h X c
  simp only [chkE] at h
  split at h <;> try (cases h; done)
  obtain ⟨h, h3⟩ := andB h
  obtain ⟨h1, h2⟩ := andB h
  obtain rfl := eqS h1
  exact ok3 (de_const pe_str fun _ _ => .str (Nat.le_trans (of_decide_eq_true h2) (by decide)) h3) (fun _ _ _ _ q => by rw [wE] at q; exact q) (fun _ => rfl) rfl
theorem okGc {x : Str} (gd : Good L G k) : StE L G k (.gc x) := by
  intro N sc calm fna e h X c
  simp only [chkE] at h
  split at h <;> try (cases h; done)
  rename_i y p
  obtain ⟨h, h3⟩ := andB h
  obtain ⟨h1, h2⟩ := andB h
  obtain rfl := eqS h1
  obtain ⟨g1, g2⟩ := c.gl h3
  have base : DE L.cl X (.Name y p) (wE G (.gc y)) := fun W tk => by
    refine ⟨fun pins s τ H Q I hh => ?_⟩
    obtain ⟨σ, Hd, Xd, Qd, rs, lk, q, hx, fin⟩ := hh
    rw [wE] at q
    obtain ⟨d, ed, q⟩ := q
    rw [gd.gc] at ed
    have hk : GcOk X.K X.mg L.cl y d := by rw [c.hK, c.hm]; exact L.gc_ok y (mem_of h2) d ed
    exact (de_gc g1 hk g2 W tk).run pins s τ H Q I ⟨σ, Hd, Xd, Qd, rs, lk, q, hx, fin⟩
  exact ok3 base (fun _ _ _ _ q => q) (fun _ => rfl) rfl
theorem okTup {es : List Ex} (ih : StEs L G k es) : StE L G k (.tup es) := by
  intro N sc calm fna e h X c
  simp only [chkE] at h
  split at h <;> try (cases h; done)
  obtain ⟨h1, h2⟩ := andB h
  exact ok3 (de_tup (ih _ _ _ _ _ h2 X c).1 (Nat.le_trans (of_decide_eq_true h1) (by decide))) (fun _ _ _ _ q => by rw [wE] at q; exact q) (fun _ => rfl) rfl
theorem okLst {m : Bool} {es : List Ex} (ih : StEs L G k es) : StE L G k (.lst m es) := by
  intro N sc calm fna e h X c
  simp only [chkE] at h
  split at h <;> try (cases h; done)
  obtain ⟨h1, h2⟩ := andB h
  exact ok3 (de_lst (m := m) (ih _ _ _ _ _ h2 X c).1 (Nat.le_trans (of_decide_eq_true h1) (by decide))) (fun _ _ _ _ q => by rw [wE] at q; exact q) (fun _ => rfl) rfl
theorem okDic0 {t : Bool} : StE L G k (.dic0 t) := by
  intro N sc calm fna e h X c
  simp only [chkE] at h
  split at h <;> try (cases h; done)
  exact ok3 (de_dic0 (d := t)) (fun _ _ _ _ q => by rw [wE] at q; exact q) (fun _ => rfl) rfl
theorem okDicS {ks : List Str} {es : List Ex} (ih : StEs L G k es) : StE L G k (.dicS ks es) := by
  intro N sc calm fna e h X c
  simp only [chkE] at h
  split at h <;> try (cases h; done)
  obtain ⟨h, h5⟩ := andB h
  obtain ⟨h, h4⟩ := andB h
  obtain ⟨h, h3⟩ := andB h
  obtain ⟨h1, h2⟩ := andB h
  obtain ⟨k1, k2⟩ := keys_none h4
  have hl := of_decide_eq_true h1
  have h0 := of_decide_eq_true h2
  refine ok3 (de_dicS ((ih _ _ _ _ _ h5 X c).2 _ ks _ h4 hl) k1 hl (fun z => by rw [z] at h0; simp at h0) (of_decide_eq_true h3) k2) (fun _ _ _ _ q => by rw [wE] at q; exact q) (fun _ => rfl) rfl
theorem okBin {o : BOp} {m : Bool} {a b : Ex} (ia : StE L G k a) (ib : StE L G k b) : StE L G k (.bin o m a b) := by
  intro N sc calm fna e h X c
  simp only [chkE] at h
  split at h <;> try (cases h; done)
  obtain ⟨h, h3⟩ := andB h
  obtain ⟨h1, h2⟩ := andB h
  obtain rfl := opB_of h1
  exact ok3 (de_bin (m := m) (ia _ _ _ _ _ h2 X c).1 (ib _ _ _ _ _ h3 X c).1) (fun _ _ _ _ q => by rw [wE] at q; exact q) (fun _ => rfl) rfl
theorem okCmp {o : COp} {a b : Ex} (ia : StE L G k a) (ib : StE L G k b) : StE L G k (.cmp o a b) := by
  intro N sc calm fna e h X c
  simp only [chkE] at h
  split at h <;> try (cases h; done)
  obtain ⟨h, h4⟩ := andB h
  obtain ⟨h, h3⟩ := andB h
  obtain ⟨h1, h2⟩ := andB h
  obtain rfl := copB_of h1
  exact ⟨(de_cmp c.un (ia _ _ _ _ _ h3 X c).1 (ib _ _ _ _ _ h4 X c).1 h2).imp fun _ _ _ _ q => by rw [wE] at q; exact q, fun _ => (dt_cmp c.un (ia _ _ _ _ _ h3 X c).1 (ib _ _ _ _ _ h4 X c).1 h2).imp fun _ _ _ _ q => by rw [wE] at q; exact q, fun _ z => by cases z⟩
theorem okChn {o o' : COp} {a b d : Ex} (ia : StE L G k a) (ib : StE L G k b) (id : StE L G k d) : StE L G k (.chn o o' a b d) := by
  intro N sc calm fna e h X c
  simp only [chkE] at h
  split at h <;> try (cases h; done)
  obtain ⟨h, h6⟩ := andB h
  obtain ⟨h, h5⟩ := andB h
  obtain ⟨h, h4⟩ := andB h
  obtain ⟨h, h3⟩ := andB h
  obtain ⟨h1, h2⟩ := andB h
  obtain rfl := copB_of h1
  obtain rfl := copB_of h2
  exact ⟨(de_chn c.un (ia _ _ _ _ _ h4 X c).1 (ib _ _ _ _ _ h5 X c).1 (id _ _ _ _ _ h6 X c).1 h3).imp fun _ _ _ _ q => by rw [wE] at q; exact q, fun _ => (dt_chn c.un (ia _ _ _ _ _ h4 X c).1 (ib _ _ _ _ _ h5 X c).1 (id _ _ _ _ _ h6 X c).1 h3).imp fun _ _ _ _ q => by rw [wE] at q; exact q, fun _ z => by cases z⟩
theorem okAnd {a b : Ex} (ia : StE L G k a) (ib : StE L G k b) : StE L G k (.and a b) := by
  intro N sc calm fna e h X c
  simp only [chkE] at h
  split at h <;> try (cases h; done)
  rename_i x y rest pos
  obtain ⟨h1, h2⟩ := andB h
  have A := ia _ _ _ _ _ h1 X c
  have B : DE L.cl X (.BoolOp .And (y :: rest) pos) (wE G b) ∧ (tst b = true → DW L.cl X (.BoolOp .And (y :: rest) pos) (wE G b)) := by
    cases rest with
    | nil =>
      have B := ib _ _ _ _ _ h2 X c
      exact ⟨de_one B.1, fun z => dw_and1 (B.2.1 z)⟩
    | cons z zs =>
      have B := ib _ _ _ _ _ h2 X c
      exact ⟨B.1, fun z => B.2.2 z rfl⟩
  have W : tst (.and a b) = true → DW L.cl X (.BoolOp .And (x :: y :: rest) pos) (wE G (.and a b)) := fun z => by
    obtain ⟨z1, z2⟩ := andB (by simpa only [tst] using z)
    exact (dw_and (A.2.1 z1) (B.2 z2)).imp fun _ _ _ _ q => by rw [wE] at q; exact q
  exact ⟨(de_and A.1 B.1).imp fun _ _ _ _ q => by rw [wE] at q; exact q, fun z => (W z).dt, fun z _ => W z⟩
theorem okOr {a b : Ex} (ia : StE L G k a) (ib : StE L G k b) : StE L G k (.or a b) := by
  intro N sc calm fna e h X c
  simp only [chkE] at h
  split at h <;> try (cases h; done)
  rename_i x y rest pos
  obtain ⟨h1, h2⟩ := andB h
  have A := ia _ _ _ _ _ h1 X c
  have B : DE L.cl X (.BoolOp .Or (y :: rest) pos) (wE G b) ∧ (tst b = true → DW L.cl X (.BoolOp .Or (y :: rest) pos) (wE G b)) := by
    cases rest with
    | nil =>
      have B := ib _ _ _ _ _ h2 X c
      exact ⟨de_one B.1, fun z => dw_or1 (B.2.1 z)⟩
    | cons z zs =>
      have B := ib _ _ _ _ _ h2 X c
      exact ⟨B.1, fun z => B.2.2 z rfl⟩
  have W : tst (.or a b) = true → DW L.cl X (.BoolOp .Or (x :: y :: rest) pos) (wE G (.or a b)) := fun z => by
    obtain ⟨z1, z2⟩ := andB (by simpa only [tst] using z)
    exact (dw_or (A.2.1 z1) (B.2 z2)).imp fun _ _ _ _ q => by rw [wE] at q; exact q
  exact ⟨(de_or A.1 B.1).imp fun _ _ _ _ q => by rw [wE] at q; exact q, fun z => (W z).dt, fun z _ => W z⟩
theorem okNot {a : Ex} (ia : StE L G k a) : StE L G k (.not a) := by
  intro N sc calm fna e h X c
  simp only [chkE] at h
  split at h <;> try (cases h; done)
  have A := ia _ _ _ _ _ h X c
  exact ⟨(de_not A.1).imp fun _ _ _ _ q => by rw [wE] at q; exact q, fun z => (dt_not (A.2.1 (by simpa only [tst] using z))).imp fun _ _ _ _ q => by rw [wE] at q; exact q, fun _ z => by cases z⟩
theorem okNeg {a : Ex} (ia : StE L G k a) : StE L G k (.neg a) := by
  intro N sc calm fna e h X c
  simp only [chkE] at h
  split at h <;> try (cases h; done)
  exact ok3 (de_neg (ia _ _ _ _ _ h X c).1) (fun _ _ _ _ q => by rw [wE] at q; exact q) (fun _ => rfl) rfl
theorem okIfe {d a b : Ex} (id : StE L G k d) (ia : StE L G k a) (ib : StE L G k b) : StE L G k (.ife d a b) := by
  intro N sc calm fna e h X c
  simp only [chkE] at h
  split at h <;> try (cases h; done)
  obtain ⟨h, h4⟩ := andB h
  obtain ⟨h, h3⟩ := andB h
  obtain ⟨h1, h2⟩ := andB h
  exact ⟨(de_ife ((id _ _ _ _ _ h2 X c).2.1 h1) (ia _ _ _ _ _ h3 X c).1 (ib _ _ _ _ _ h4 X c).1).imp fun _ _ _ _ q => by rw [wE] at q; exact q, fun z => by simp [tst] at z, fun z => by simp [tst] at z⟩
theorem okIdx {a b : Ex} (ia : StE L G k a) (ib : StE L G k b) : StE L G k (.idx a b) := by
  intro N sc calm fna e h X c
  simp only [chkE] at h
  split at h <;> try (cases h; done)
  obtain ⟨h, h3⟩ := andB h
  obtain ⟨h1, h2⟩ := andB h
  exact ok3 (de_idx (by have := c.un; omega) (ia _ _ _ _ _ h2 X c).1 (ib _ _ _ _ _ h3 X c).1 h1) (fun _ _ _ _ q => by rw [wE] at q; exact q) (fun _ => rfl) rfl
theorem okSlc {m : Bool} {a : Ex} {lo hi : Option Ex} (ia : StE L G k a) (il : StO L G k lo) (ih : StO L G k hi) : StE L G k (.slc m a lo hi) := by
  intro N sc calm fna e h X c
  simp only [chkE] at h
  split at h <;> try (cases h; done)
  obtain ⟨h, h3⟩ := andB h
  obtain ⟨h1, h2⟩ := andB h
  exact ok3 (de_slc (m := m) (ia _ _ _ _ _ h1 X c).1 (il _ _ _ _ _ h2 X c) (ih _ _ _ _ _ h3 X c)) (fun _ _ _ _ q => by rw [wE] at q; exact q) (fun _ => rfl) rfl
theorem okRev {m : Bool} {a : Ex} (ia : StE L G k a) : StE L G k (.rev m a) := by
  intro N sc calm fna e h X c
  simp only [chkE] at h
  split at h <;> try (cases h; done)
  exact ok3 (de_rev (m := m) (ia _ _ _ _ _ h X c).1) (fun _ _ _ _ q => by rw [wE] at q; exact q) (fun _ => rfl) rfl
theorem okFld {C f : Str} {a : Ex} (ia : StE L G k a) : StE L G k (.fld C a f) := by
  intro N sc calm fna e h X c
  simp only [chkE] at h
  split at h <;> try (cases h; done)
  obtain ⟨h, h4⟩ := andB h
  obtain ⟨h, h3⟩ := andB h
  obtain ⟨h1, h2⟩ := andB h
  obtain rfl := eqS h1
  obtain ⟨Ca, f1, f2, f3⟩ := L.fld_ok _ _ (mem_of h2)
  rw [← c.hK] at f2 f3
  exact ok3 (de_fld f1 f2 f3 (ia _ _ _ _ _ h4 X c).1 h3) (fun _ _ _ _ q => by rw [wE] at q; exact q) (fun _ => rfl) rfl
end
end
end DL

set_option maxRecDepth 100000
set_option maxHeartbeats 1000000
namespace DL
open PySem L2
section
variable {T : Tab} {L : Lang T} {G : Gam} {k : Nat}
theorem das_len {T : Tab} {N : List Str} {sc : Scope} {calm fna : Bool} : ∀ {es : List Ex} {as : List Expr}, chkEs T N sc calm fna es as = true → es.length = as.length
  | [], as, h => by simp only [chkEs] at h; cases as <;> first | rfl | cases h
  | x :: xs, as, h => by
    simp only [chkEs] at h
    split at h
    · obtain ⟨h, h2⟩ := andB h
      simp [das_len h2]
    · cases h
theorem okCall {f : Str} {es : List Ex} (gd : Good L G k) (ih : StEs L G k es) : StE L G k (.call f es) := by
  intro N sc calm fna e h X c
  simp only [chkE] at h
  split at h <;> try (cases h; done)
  rename_i x p as pos
  obtain ⟨h, h6⟩ := andB h
  obtain ⟨h, h5⟩ := andB h
  obtain ⟨h, h4⟩ := andB h
  obtain ⟨h, h3⟩ := andB h
  obtain ⟨h1, h2⟩ := andB h
  obtain rfl := eqS h2
  have hm3 := mem_of h3
  obtain ⟨f1, f2, f3, f4⟩ := L.fn_ok _ _ hm3
  obtain ⟨g1, g2⟩ := c.gl h4
  have F := c.fnok (gd.fn _ _ hm3)
  rw [← c.hm] at f1
  rw [← c.hK] at f2 f3
  have R := (c.room h1).mono (Nat.le_succ k)
  refine ok3 (t := fun Xd σ H Q => wEs G es Xd σ H fun vs H1 => G.fn x vs H1 Q fun c fs H2 => Xd c fs σ H2) ?_ (fun _ _ _ _ q => by rw [wE] at q; exact q) (fun _ => rfl) rfl
  cases as with
  | nil =>
    have hl := das_len h6
    cases es with
    | nil => exact (de_call0 (dsp := G.fn x) F R g1 f1 f2 f3 g2).imp fun _ _ _ _ q => by rw [wEs] at q; exact q
    | cons a b => simp at hl
  | cons a as => exact de_call1 (dsp := G.fn x) F rfl R g1 f1 f2 f3 h5 (ih _ _ _ _ _ h6 X c).1 g2
theorem okMeth {C m : Str} {o : Ex} {es : List Ex} (gd : Good L G k) (io : StE L G k o) (ih : StEs L G k es) : StE L G k (.meth C m o es) := by
  intro N sc calm fna e h X c
  simp only [chkE] at h
  split at h <;> try (cases h; done)
  rename_i x g apos as pos
  obtain ⟨h, h9⟩ := andB h
  obtain ⟨h, h8⟩ := andB h
  obtain ⟨h, h7⟩ := andB h
  obtain ⟨h, h6⟩ := andB h
  obtain ⟨h, h5⟩ := andB h
  obtain ⟨h, h4⟩ := andB h
  obtain ⟨h, h3⟩ := andB h
  obtain ⟨h1, h2⟩ := andB h
  obtain rfl := eqS h2
  have hm3 := mem_of h3
  obtain ⟨Ca, f1, f2, f3, f4, f5⟩ := L.mt_ok _ _ _ hm3
  have F := c.fnok (gd.mt _ _ _ hm3)
  rw [← c.hK] at f2 f3 f4
  have R := (c.room h1).mono (Nat.le_succ k)
  refine ok3 (t := fun Xd σ H Q => wE G o Xd σ H fun x H1 => (∃ fs, rd H1 x = .ins C fs ∧ fs.lookup g = none) ∧ wEs G es Xd σ H1 fun vs H2 => G.mt C g (x :: vs) H2 Q fun c fs H3 => Xd c fs σ H3) ?_ (fun _ _ _ _ q => by rw [wE] at q; exact q) (fun _ => rfl) rfl
  cases as with
  | nil =>
    have hl := das_len h9
    cases es with
    | nil => exact (de_meth0 (dsp := G.mt C g) f1 (io _ _ _ _ _ h8 X c).1 f2 f3 F R f4 h4 h6).imp fun Xd σ H Q q => by simpa only [wEs] using q
    | cons a b => simp at hl
  | cons a as => exact de_meth1 (dsp := G.mt C g) f1 (io _ _ _ _ _ h8 X c).1 f2 f3 F rfl R f4 h5 (ih _ _ _ _ _ h9 X c).1 h4 h6 (of_decide_eq_true h7)
theorem okMake {C : Str} {es : List Ex} (gd : Good L G k) (ih : StEs L G k es) : StE L G k (.make C es) := by
  intro N sc calm fna e h X c
  simp only [chkE] at h
  split at h <;> try (cases h; done)
  rename_i x p as pos
  obtain ⟨h, h6⟩ := andB h
  obtain ⟨h, h5⟩ := andB h
  obtain ⟨h, h4⟩ := andB h
  obtain ⟨h, h3⟩ := andB h
  obtain ⟨h1, h2⟩ := andB h
  obtain rfl := eqS h2
  have hm3 := mem_of h3
  obtain ⟨Ca, f1, f2, f3, f4, f5⟩ := L.mk_ok _ _ hm3
  obtain ⟨g1, g2⟩ := c.gl h4
  have F := c.fnok (gd.mks _ _ hm3)
  rw [← c.hm] at f2
  rw [← c.hK] at f3 f4
  refine ok3 (t := fun Xd σ H Q => wEs G es Xd σ H fun vs H1 => ∀ p, H1 p = none → G.mt x "__init__" (.ref p :: vs) (dupd H1 p (.ins x [])) (fun v H2 => v = .non ∧ FzV (.ref p) H2 Q) fun c fs H3 => Xd c fs σ H3) ?_ (fun _ _ _ _ q => by rw [wE] at q; exact q) (fun _ => rfl) rfl
  cases as with
  | nil =>
    have hl := das_len h6
    cases es with
    | nil => exact (de_make0 (dsp := G.mt x "__init__") f1 f3 F (c.room h1) g1 f2 f4 g2).imp fun _ _ _ _ q => by rw [wEs] at q; exact q
    | cons a b => simp at hl
  | cons a as => exact de_make1 (dsp := G.mt x "__init__") f1 f3 F rfl (c.room h1) g1 f2 f4 h5 (ih _ _ _ _ _ h6 X c).1 g2
theorem okBlt {b : Blt} {m : Bool} {es : List Ex} (ih : StEs L G k es) : StE L G k (.blt b m es) := by
  intro N sc calm fna e h X c
  simp only [chkE] at h
  split at h <;> try (cases h; done)
  rename_i x p as pos
  obtain ⟨h, h7⟩ := andB h
  obtain ⟨h, h6⟩ := andB h
  obtain ⟨h, h5⟩ := andB h
  obtain ⟨h, h4⟩ := andB h
  obtain ⟨h, h3⟩ := andB h
  obtain ⟨h1, h2⟩ := andB h
  obtain rfl := eqS h2
  obtain ⟨g1, g2⟩ := c.gl h4
  obtain ⟨b1, b2⟩ := bltNm_boot b
  cases as with
  | nil => cases h6
  | cons a as => exact ok3 (de_bltF (m := m) (c.cm h1) c.un g1 (c.bn h3) b1 b2 g2 (ih _ _ _ _ _ h7 X c).1 h5) (fun _ _ _ _ q => by rw [wE] at q; exact q) (fun _ => rfl) rfl
theorem okBm {b : BMt} {m : Bool} {o : Ex} {es : List Ex} (io : StE L G k o) (ih : StEs L G k es) : StE L G k (.bm b m o es) := by
  intro N sc calm fna e h X c
  simp only [chkE] at h
  split at h <;> try (cases h; done)
  rename_i x g apos as pos
  obtain ⟨h, h8⟩ := andB h
  obtain ⟨h, h7⟩ := andB h
  obtain ⟨h, h6⟩ := andB h
  obtain ⟨h, h5⟩ := andB h
  obtain ⟨h, h4⟩ := andB h
  obtain ⟨h, h3⟩ := andB h
  obtain ⟨h1, h2⟩ := andB h
  obtain rfl := eqS h2
  have O := (io _ _ _ _ _ h7 X c).1
  have key : PlainAttrs (bmT b) ∧ Slot (bmT b) (bmNm b) (bmId b) ∧ typeOf (.builtin (bmId b)) = pure (.type "method_descriptor") := by
    cases b <;> first
      | (cases h1; done)
      | exact ⟨PySem.F.plainAttrs_list, PySem.F.slot_list_append, PySem.F.type_list_append⟩
      | exact ⟨PySem.F.plainAttrs_list, PySem.F.slot_list_extend, PySem.F.type_list_extend⟩
      | exact ⟨PySem.F.plainAttrs_list, PySem.F.slot_list_pop, PySem.F.type_list_pop⟩
      | exact ⟨PySem.F.plainAttrs_dict, PySem.F.slot_dict_get, PySem.F.type_dict_get⟩
      | exact ⟨PySem.F.plainAttrs_dict, PySem.F.slot_dict_pop, PySem.F.type_dict_pop⟩
      | exact ⟨PySem.F.plainAttrs_str, PySem.F.slot_str_join, PySem.F.type_str_join⟩
  obtain ⟨k1, k2, k3⟩ := key
  refine ok3 (t := fun Xd σ H Q => wE G o Xd σ H fun x H1 => bmTy b (rd H1 x) = true ∧ wEs G es Xd σ H1 fun vs H2 => bmD b m x vs H2 Q) ?_ (fun _ _ _ _ q => by rw [wE] at q; exact q) (fun _ => rfl) rfl
  cases as with
  | nil =>
    have hl := das_len h8
    cases es with
    | nil => exact (de_bm0 (m := m) rfl rfl k1 k2 k3 c.un O h3 h5).imp fun Xd σ H Q q => by simpa only [wEs] using q
    | cons a b => simp at hl
  | cons a as => exact de_bm1 (m := m) rfl rfl k1 k2 k3 c.un O (ih _ _ _ _ _ h8 X c).1 h3 h4 h5 (of_decide_eq_true h6)
theorem okIsi {a : Ex} {ts : List Ty} (gd : Good L G k) (ia : StE L G k a) : StE L G k (.isi a ts) := by
  intro N sc calm fna e h X c
  have F := L.ty_ok
  rw [← c.hK] at F
  simp only [chkE] at h
  split at h
  · rename_i x p y as j p2 pos
    obtain ⟨h, h7⟩ := andB h
    obtain ⟨h, h6⟩ := andB h
    obtain ⟨h, h5⟩ := andB h
    obtain ⟨h, h4⟩ := andB h
    obtain ⟨h, h3⟩ := andB h
    obtain ⟨h1, h2⟩ := andB h
    obtain rfl := eqS h1
    obtain ⟨g1, g2⟩ := c.gl h3
    exact ok3 (de_isiT F g1 (c.bn h2) (ia _ _ _ _ _ h7 X c).1 h4 (c.names h6) (of_decide_eq_true h5)) (fun _ _ _ _ q => by rw [wE] at q; rw [gd.pl] at q; exact q) (fun _ => rfl) rfl
  · rename_i x p y z pos _
    obtain ⟨h, h7⟩ := andB h
    obtain ⟨h, h6⟩ := andB h
    obtain ⟨h, h4⟩ := andB h
    obtain ⟨h, h3⟩ := andB h
    obtain ⟨h1, h2⟩ := andB h
    obtain rfl := eqS h1
    obtain ⟨g1, g2⟩ := c.gl h3
    cases ts with
    | nil => cases h6
    | cons t ts =>
      cases ts with
      | nil =>
        have h6' : tyB T sc t z = true := h6
        have hn : tysB T sc [t] [z] = true := by simp only [tysB, h6', Bool.and_self]
        exact ok3 (de_isi1 F g1 (c.bn h2) (ia _ _ _ _ _ h7 X c).1 h4 (c.names hn)) (fun _ _ _ _ q => by rw [wE] at q; rw [gd.pl] at q; exact q) (fun _ => rfl) rfl
      | cons _ _ => cases h6
  · cases h
theorem okXf {i : Nat} {f : Str} (gd : Good L G k) : StE L G k (.xf i f) := by
  intro N sc calm fna e h X c
  simp only [chkE] at h
  split at h <;> try (cases h; done)
  rename_i x p g pos
  obtain ⟨h, h6⟩ := andB h
  obtain ⟨h, h5⟩ := andB h
  obtain ⟨h, h4⟩ := andB h
  obtain ⟨h, h3⟩ := andB h
  obtain ⟨h1, h2⟩ := andB h
  obtain rfl := eqS h2
  obtain ⟨n1, n2⟩ := nmOk_of h6
  have hc : calm = false := by cases calm <;> first | rfl | cases h1
  have xf : ∀ C Ca, L.cl C = some Ca → G.xf C = [g] → XfC X.K Ca ∧ PySem.W.findIn X.K (.ref Ca) g = some none := fun C Ca hC hx => by
    rw [c.hK]; exact L.xf_ok C g (gd.xf2 C g hx) Ca hC
  exact ok3 (de_xf (c.su hc) xf (by rw [c.hN]; exact of_decide_eq_true h4) (by rw [c.scE]; exact vis_of h5) n1 n2) (fun _ _ _ _ q => by rw [wE] at q; exact q) (fun _ => rfl) rfl
theorem okXi {i : Nat} {t : Ty} (gd : Good L G k) : StE L G k (.xi i t) := by
  intro N sc calm fna e h X c
  simp only [chkE] at h
  split at h <;> try (cases h; done)
  rename_i f p x p2 c0 p3 pos C
  obtain ⟨h, h9⟩ := andB h
  obtain ⟨h, h8⟩ := andB h
  obtain ⟨h, h7⟩ := andB h
  obtain ⟨h, h6⟩ := andB h
  obtain ⟨h, h5⟩ := andB h
  obtain ⟨h, h4⟩ := andB h
  obtain ⟨h, h3⟩ := andB h
  obtain ⟨h, h2⟩ := andB h
  obtain ⟨h0, h1⟩ := andB h
  obtain rfl := eqS h1
  obtain rfl := eqS h4
  obtain ⟨n1, n2⟩ := nmOk_of h9
  have hc : calm = false := by cases calm <;> first | rfl | cases h0
  obtain ⟨g1, g2⟩ := c.gl h3
  obtain ⟨g3, g4⟩ := c.gl h6
  have T := L.xi_ok c0 (mem_of h5)
  rw [← c.hK, ← c.hm] at T
  exact ok3 (de_xi (c.su hc) T g1 (c.bn h2) g3 g4 (by rw [c.hN]; exact of_decide_eq_true h7) (by rw [c.scE]; exact vis_of h8) n1 n2) (fun _ _ _ _ q => by
    rw [wE] at q
    rw [gd.sub] at q
    exact q) (fun _ => rfl) rfl
theorem compB_of {N : List Str} {sc scope : Scope} {own : List (Str × Nat)} {tg : Tg} {g : Comprehension} (h : compB N sc scope own tg g = true) : BlkOk N sc scope own ∧ noSet g.iter = true ∧ (∀ i ∈ tgNs tg, i ∈ own.map (·.2)) ∧ g.is_async = 0 := by
  unfold compB at h
  obtain ⟨h, h4⟩ := andB h
  obtain ⟨h, h3⟩ := andB h
  obtain ⟨h1, h2⟩ := andB h
  refine ⟨blkOk_by h1, h2, fun i hi => ?_, of_decide_eq_true h4⟩
  have := List.all_eq_true.mp h3 i hi
  simpa using this
theorem okComp {m : Bool} {elt : Ex} {tg : Tg} {own : List (Str × Nat)} {it : It} {cs : List Ex} (ie : StE L G k elt) (ig : StTg L G k tg) (ii : StIt L G k it) (ic : StIf L G k cs) : StE L G k (.comp m elt tg own it cs) := by
  intro N sc calm fna e h X c
  simp only [chkE] at h
  split at h <;> try (cases h; done)
  rename_i x g scope pos
  obtain ⟨h, h6⟩ := andB h
  obtain ⟨h, h5⟩ := andB h
  obtain ⟨h, h4⟩ := andB h
  obtain ⟨h, h3⟩ := andB h
  obtain ⟨h1, h2⟩ := andB h
  obtain ⟨b1, b2, b3, b4⟩ := compB_of h2
  obtain ⟨gt, gi, gf, ga⟩ := g
  simp only at b2 b3 b4 h3 h4 h5
  subst b4 h1
  have ok : BlkOk X.N X.env.scope scope own := by rw [c.hN, c.scE]; exact b1
  exact ok3 (de_comp (m := m) (c.cm rfl) (by rw [c.hN]; exact c.nd) (ii _ _ _ _ _ _ h3 X c) ok b3 b2 (fun s H C cs' fp => ig _ _ _ _ _ h4 _ (c.blk b1 s H C cs' fp)) (fun s H C cs' fp => ic _ _ _ _ _ h5 _ (c.blk b1 s H C cs' fp))
    (fun s H C cs' fp => (ie _ _ _ _ _ h6 _ (c.blk b1 s H C cs' fp)).1)) (fun _ _ _ _ q => by rw [wE] at q; exact q) (fun _ => rfl) rfl
/-! lists of expressions -/
theorem okEs0 : StEs L G k [] := by
  intro N sc calm fna es h X c
  simp only [chkEs] at h
  cases es with
  | nil =>
    refine ⟨da_nil.imp fun _ _ _ _ q => by rw [wEs] at q; exact q, fun pos ks keys hk hl => ?_⟩
    cases keys with
    | nil =>
      have e := (keys_none hk).2
      cases ks with
      | nil =>
        intro W tk
        obtain ⟨trs, h1, h2⟩ := (dpp_nil (cl := L.cl) (X := X) (pos := pos)) W tk
        refine ⟨trs, h1, ?_⟩
        rintro τ H R ⟨σ, Hd, Xd, Qd, rs, lk, q, r⟩
        rw [wEs] at q
        exact h2 _ _ _ ⟨σ, Hd, Xd, Qd, rs, lk, q, r⟩
      | cons a b => simp at e
    | cons a b => simp at hl
  | cons a b => cases h
theorem okEs1 {x : Ex} {xs : List Ex} (ix : StE L G k x) (ixs : StEs L G k xs) : StEs L G k (x :: xs) := by
  intro N sc calm fna es h X c
  simp only [chkEs] at h
  split at h
  · rename_i e r
    obtain ⟨h, h3⟩ := andB h
    obtain ⟨h1, h2⟩ := andB h
    have A := (ix _ _ _ _ _ h2 X c).1
    have B := ixs _ _ _ _ _ h3 X c
    refine ⟨(da_cons A B.1 h1).imp fun _ _ _ _ q => by rw [wEs] at q; exact q, fun pos ks keys hk hl => ?_⟩
    cases keys with
    | nil => simp at hl
    | cons a as =>
      cases ks with
      | nil => cases hk
      | cons kk ks =>
        unfold keysB at hk
        split at hk
        · rename_i a1 a2; cases a1
        · rename_i a1 a2
          cases a1; cases a2
          obtain ⟨q1, q2⟩ := andB hk
          obtain rfl := eqS q1
          intro W tk
          obtain ⟨trs, z1, z2⟩ := (dpp_cons pe_str A (B.2 pos ks _ q2 (by simpa using hl))) W tk
          refine ⟨trs, z1, ?_⟩
          rintro τ H R ⟨σ, Hd, Xd, Qd, rs, lk, q, r⟩
          rw [wEs] at q
          exact z2 _ _ _ ⟨σ, Hd, Xd, Qd, rs, lk, q, r⟩
        · cases hk
  · cases h
theorem okO0 : StO L G k none := by
  intro N sc calm fna e h X c
  simp only [chkO] at h
  cases e with
  | none => exact do_none.imp fun _ _ _ _ q => by rw [wO] at q; exact q
  | some e => cases h
theorem okO1 {x : Ex} (ix : StE L G k x) : StO L G k (some x) := by
  intro N sc calm fna e h X c
  simp only [chkO] at h
  cases e with
  | none => cases h
  | some e => exact (do_some (ix _ _ _ _ _ h X c).1).imp fun _ _ _ _ q => by rw [wO] at q; exact q
theorem okIf0 : StIf L G k [] := by
  intro N sc calm fna e h X c
  simp only [chkIf] at h
  cases e with
  | nil => exact dts_nil.imp fun _ _ _ q => by rw [wAll] at q; exact q
  | cons a b => cases h
theorem okIf1 {x : Ex} {xs : List Ex} (ix : StE L G k x) : StIf L G k (x :: xs) := by
  intro N sc calm fna e h X c
  simp only [chkIf] at h
  split at h
  · obtain ⟨h1, h2⟩ := andB h
    exact (dts_one ((ix _ _ _ _ _ h2 X c).2.1 h1)).imp fun _ _ _ q => by simpa only [wAll] using q
  · cases h
/-! targets -/
theorem okNm {i : Nat} : StTg L G k (.nm i) := by
  intro N sc calm fna e h X c
  simp only [chkTg] at h
  split at h <;> try (cases h; done)
  obtain ⟨h1, h2⟩ := andB h
  obtain ⟨l1, l2⟩ := c.loc h2
  exact (dg_name (by rw [c.hN]; exact c.nd) (by rw [c.hN]; exact of_decide_eq_true h1) l1 l2).imp fun _ _ _ _ q => by rw [wTg] at q; exact q
theorem tgs_len {N : List Str} {sc : Scope} {calm fna : Bool} : ∀ {ts : List Tg} {as : List Expr}, chkTgs T N sc calm fna ts as = true → ts.length = as.length
  | [], as, h => by simp only [chkTgs] at h; cases as <;> first | rfl | cases h
  | t :: ts, as, h => by
    simp only [chkTgs] at h
    split at h
    · obtain ⟨h, h2⟩ := andB h
      simp [tgs_len h2]
    · cases h
theorem okTp {ts : List Tg} (ih : StTgs L G k ts) : StTg L G k (.tp ts) := by
  intro N sc calm fna e h X c
  simp only [chkTg] at h
  split at h <;> try (cases h; done)
  obtain ⟨h, h3⟩ := andB h
  obtain ⟨h1, h2⟩ := andB h
  have hl := tgs_len h3
  refine DG.imp (dg_tup (c.cm h1) (ih _ _ _ _ _ h3 X c) h2 rfl) fun d σ H Q q => ?_
  rw [wTg] at q
  obtain ⟨xs, e1, e2, q⟩ := q
  exact ⟨xs, e1, by rw [e2, hl], q⟩
theorem okTgs0 : StTgs L G k [] := by
  intro N sc calm fna e h X c
  simp only [chkTgs] at h
  cases e with
  | nil =>
    refine dgs_nil.imp fun d σ H Q q => ?_
    cases d with
    | nil => simp only [wTgs] at q; exact ⟨rfl, q⟩
    | cons a b => simp only [wTgs] at q
  | cons a b => cases h
theorem okTgs1 {t : Tg} {ts : List Tg} (it : StTg L G k t) (its : StTgs L G k ts) : StTgs L G k (t :: ts) := by
  intro N sc calm fna e h X c
  simp only [chkTgs] at h
  split at h
  · obtain ⟨h, h3⟩ := andB h
    obtain ⟨h1, h2⟩ := andB h
    refine (dgs_cons (it _ _ _ _ _ h2 X c) (its _ _ _ _ _ h3 X c) h1).imp fun d σ H Q q => ?_
    cases d with
    | nil => simp only [wTgs] at q
    | cons a b => simp only [wTgs] at q; exact ⟨a, b, rfl, q⟩
  · cases h
theorem okTF {C f : Str} {o : Ex} (io : StE L G k o) : StTg L G k (.fld C o f) := by
  intro N sc calm fna e h X c
  simp only [chkTg] at h
  split at h <;> try (cases h; done)
  obtain ⟨h, h3⟩ := andB h
  obtain ⟨h1, h2⟩ := andB h
  obtain rfl := eqS h1
  obtain ⟨Ca, f1, f2, f3⟩ := L.fld_ok _ _ (mem_of h2)
  rw [← c.hK] at f2 f3
  exact (dg_fld f1 f2 f3 (io _ _ _ _ _ h3 X c).1).imp fun d σ H Q q => by rw [wTg] at q; exact q
theorem okTS {o i : Ex} (io : StE L G k o) (ii : StE L G k i) : StTg L G k (.sub o i) := by
  intro N sc calm fna e h X c
  simp only [chkTg] at h
  split at h <;> try (cases h; done)
  obtain ⟨h, h3⟩ := andB h
  obtain ⟨h1, h2⟩ := andB h
  exact (dg_sub (by have := c.un; omega) h1 (io _ _ _ _ _ h2 X c).1 (ii _ _ _ _ _ h3 X c).1).imp fun d σ H Q q => by rw [wTg] at q; exact q
/-! iterables -/
theorem okSeq {x : Ex} (ix : StE L G k x) : StIt L G k (.seq x) := by
  intro N sc calm fna tg e h X c
  simp only [chkIt] at h
  exact (di_seq (ix _ _ _ _ _ h X c).1).imp fun _ _ _ _ q => by rw [wIt] at q; exact q
theorem okRng1 {a : Ex} (ia : StE L G k a) : StIt L G k (.rng a none) := by
  intro N sc calm fna tg e h X c
  simp only [chkIt] at h
  split at h <;> try (cases h; done)
  · obtain ⟨h, h5⟩ := andB h
    obtain ⟨h, h4⟩ := andB h
    obtain ⟨h, h3⟩ := andB h
    obtain ⟨h1, h2⟩ := andB h
    obtain rfl := eqS h1
    obtain ⟨g1, g2⟩ := c.gl h3
    exact (di_rng1 g1 (c.bn h2) (ia _ _ _ _ _ h5 X c).1 h4).imp fun _ _ _ _ q => by rw [wIt] at q; exact q
theorem okRng2 {a b : Ex} (ia : StE L G k a) (ib : StE L G k b) : StIt L G k (.rng a (some b)) := by
  intro N sc calm fna tg e h X c
  simp only [chkIt] at h
  split at h <;> try (cases h; done)
  · obtain ⟨h, h7⟩ := andB h
    obtain ⟨h, h6⟩ := andB h
    obtain ⟨h, h5⟩ := andB h
    obtain ⟨h, h4⟩ := andB h
    obtain ⟨h, h3⟩ := andB h
    obtain ⟨h1, h2⟩ := andB h
    obtain rfl := eqS h1
    obtain ⟨g1, g2⟩ := c.gl h3
    exact (di_rng2 g1 (c.bn h2) (ia _ _ _ _ _ h6 X c).1 (ib _ _ _ _ _ h7 X c).1 h4 h5).imp fun _ _ _ _ q => by rw [wIt] at q; exact q
theorem okEnu {a : Ex} (ia : StE L G k a) : StIt L G k (.enu a) := by
  intro N sc calm fna tg e h X c
  simp only [chkIt] at h
  split at h <;> try (cases h; done)
  obtain ⟨h, h5⟩ := andB h
  obtain ⟨h, h4⟩ := andB h
  obtain ⟨h, h3⟩ := andB h
  obtain ⟨h1, h2⟩ := andB h
  obtain rfl := eqS h1
  obtain ⟨g1, g2⟩ := c.gl h3
  exact (di_enu g1 (c.bn h2) (ia _ _ _ _ _ h5 X c).1 h4).imp fun _ _ _ _ q => by rw [wIt] at q; exact q
theorem okZip {a b : Ex} (ia : StE L G k a) (ib : StE L G k b) : StIt L G k (.zip a b) := by
  intro N sc calm fna tg e h X c
  simp only [chkIt] at h
  split at h <;> try (cases h; done)
  obtain ⟨h, h7⟩ := andB h
  obtain ⟨h, h6⟩ := andB h
  obtain ⟨h, h5⟩ := andB h
  obtain ⟨h, h4⟩ := andB h
  obtain ⟨h, h3⟩ := andB h
  obtain ⟨h1, h2⟩ := andB h
  obtain rfl := eqS h1
  obtain ⟨g1, g2⟩ := c.gl h3
  exact (di_zip g1 (c.bn h2) (ia _ _ _ _ _ h6 X c).1 (ib _ _ _ _ _ h7 X c).1 h4 h5).imp fun _ _ _ _ q => by rw [wIt] at q; exact q
mutual
theorem okE (gd : Good L G k) : ∀ x : Ex, StE L G k x
  | .v _ => okV
  | .non => okNon
  | .bl _ => okBl
  | .int _ => okInt
  | .str _ => okStr
  | .gc _ => okGc gd
  | .tup es => okTup (okEs gd es)
  | .lst _ es => okLst (okEs gd es)
  | .dic0 _ => okDic0
  | .dicS _ es => okDicS (okEs gd es)
  | .bin _ _ a b => okBin (okE gd a) (okE gd b)
  | .cmp _ a b => okCmp (okE gd a) (okE gd b)
  | .chn _ _ a b c => okChn (okE gd a) (okE gd b) (okE gd c)
  | .and a b => okAnd (okE gd a) (okE gd b)
  | .or a b => okOr (okE gd a) (okE gd b)
  | .not a => okNot (okE gd a)
  | .neg a => okNeg (okE gd a)
  | .ife c a b => okIfe (okE gd c) (okE gd a) (okE gd b)
  | .idx a b => okIdx (okE gd a) (okE gd b)
  | .slc _ a lo hi => okSlc (okE gd a) (okO gd lo) (okO gd hi)
  | .rev _ a => okRev (okE gd a)
  | .fld _ a _ => okFld (okE gd a)
  | .call _ es => okCall gd (okEs gd es)
  | .meth _ _ o es => okMeth gd (okE gd o) (okEs gd es)
  | .make _ es => okMake gd (okEs gd es)
  | .blt _ _ es => okBlt (okEs gd es)
  | .bm _ _ o es => okBm (okE gd o) (okEs gd es)
  | .isi a _ => okIsi gd (okE gd a)
  | .xf _ _ => okXf gd
  | .xi _ _ => okXi gd
  | .comp _ elt tg _ it cs => okComp (okE gd elt) (okTg gd tg) (okIt gd it) (okIf gd cs)
theorem okEs (gd : Good L G k) : ∀ x : List Ex, StEs L G k x
  | [] => okEs0
  | x :: xs => okEs1 (okE gd x) (okEs gd xs)
theorem okO (gd : Good L G k) : ∀ x : Option Ex, StO L G k x
  | none => okO0
  | some x => okO1 (okE gd x)
theorem okIf (gd : Good L G k) : ∀ x : List Ex, StIf L G k x
  | [] => okIf0
  | x :: xs => okIf1 (okE gd x)
theorem okTg (gd : Good L G k) : ∀ x : Tg, StTg L G k x
  | .nm _ => okNm
  | .tp ts => okTp (okTgs gd ts)
  | .fld _ o _ => okTF (okE gd o)
  | .sub o i => okTS (okE gd o) (okE gd i)
theorem okTgs (gd : Good L G k) : ∀ x : List Tg, StTgs L G k x
  | [] => okTgs0
  | t :: ts => okTgs1 (okTg gd t) (okTgs gd ts)
theorem okIt (gd : Good L G k) : ∀ x : It, StIt L G k x
  | .seq x => okSeq (okE gd x)
  | .rng a none => okRng1 (okE gd a)
  | .rng a (some b) => okRng2 (okE gd a) (okE gd b)
  | .enu a => okEnu (okE gd a)
  | .zip a b => okZip (okE gd a) (okE gd b)
end
end
end DL

set_option maxRecDepth 100000
set_option maxHeartbeats 1000000
namespace DL
open PySem L2

/-! ### how a target and a value are stored -/
def swM (t v : Expr) : Option (List Expr × List Expr) := match [t], v with
  | [.Tuple ts _ _], .Tuple vs _ _ | [.List ts _], .Tuple vs _ _ => some (ts, vs)
  | _, _ => none
def swNames (sc : Scope) (ts : List Expr) : List Str := ts.filterMap fun
    | .Name id pos => if sc.names.lookup id == some .local && pos.line == (ts.head?.map (·.pos.line)).getD 0 then some id else none
    | _ => none
def anyStar (vs : List Expr) : Bool := vs.any fun | .Starred .. => true | _ => false
/-- the stores are plain, from the left -/
def nsB (sc : Scope) (t v : Expr) : Bool := match swM t v with
  | none => true
  | some (ts, vs) => !(ts.length == 2 || ts.length == 3) || vs.length != ts.length || (swNames sc ts).length != ts.length || vs.all (foldedForSure 8)
/-- a, b = x, y with local names: the stores are swapped -/
def parB (sc : Scope) (t v : Expr) : Bool := match swM t v with
  | none => false
  | some (ts, vs) => ts.length == 2 && vs.length == 2 && !anyStar vs && (swNames sc ts).length == 2 && (swNames sc ts).eraseDups.length == 2 && !vs.all (foldedForSure 8) && !vs.all (constantsAlone 8)
theorem sw_eq (t v : Expr) (env : Env) : swappedStores [t] v env = (match swM t v with
    | some (ts, vs) => (if (!(ts.length == 2 || ts.length == 3) || vs.length != ts.length || env.blockKind != .function) = true then pure none else
        if anyStar vs = true then pure none else
          if ((swNames env.scope ts).length != ts.length || (swNames env.scope ts).eraseDups.length != (swNames env.scope ts).length) = true then pure none else
            if vs.all (foldedForSure 8) = true then pure none else
              (do if vs.all (constantsAlone 8) = true then unsupported "assign.tuple-of-constant-expressions:order-of-the-stores"
                  pure (some (swNames env.scope ts))))
    | none => pure none) := by
  cases v
  case Tuple vs k2 p2 => cases t <;> rfl
  all_goals cases t <;> rfl
theorem blk_fn {env : Env} (h : env.scope.kind = .function) : env.blockKind = .function := by unfold Env.blockKind; rw [h]; rfl
theorem ns_of {sc : Scope} {t v : Expr} {env : Env} (hs : env.scope = sc) (h : nsB sc t v = true) : swappedStores [t] v env = pure none := by
  rw [sw_eq]
  unfold nsB at h
  rw [hs]
  cases hm : swM t v with
  | none => rfl
  | some p =>
    obtain ⟨ts, vs⟩ := p
    rw [hm] at h
    simp only [Bool.or_eq_true] at h
    show (if _ then _ else _) = _
    by_cases c1 : (!(ts.length == 2 || ts.length == 3) || vs.length != ts.length || env.blockKind != .function) = true
    · rw [if_pos c1]
    · rw [if_neg c1]
      by_cases c2 : anyStar vs = true
      · rw [if_pos c2]
      · rw [if_neg c2]
        by_cases c3 : ((swNames sc ts).length != ts.length || (swNames sc ts).eraseDups.length != (swNames sc ts).length) = true
        · rw [if_pos c3]
        · rw [if_neg c3]
          have c4 : vs.all (foldedForSure 8) = true := by
            rcases h with ((h | h) | h) | h
            · exact absurd (by rw [h]; simp) c1
            · exact absurd (by rw [h]; simp) c1
            · exact absurd (by rw [h]; simp) c3
            · exact h
          rw [if_pos c4]
theorem par_of {sc : Scope} {t v : Expr} {env : Env} {ts vs : List Expr} (hs : env.scope = sc) (hk : sc.kind = .function) (hm : swM t v = some (ts, vs)) (h : parB sc t v = true) : swappedStores [t] v env = pure (some (swNames sc ts)) := by
  rw [sw_eq, hm, hs]
  unfold parB at h
  rw [hm] at h
  simp only [Bool.and_eq_true, Bool.not_eq_true', beq_iff_eq] at h
  obtain ⟨⟨⟨⟨⟨⟨h1, h2⟩, h3⟩, h4⟩, h5⟩, h6⟩, h7⟩ := h
  have hb : env.blockKind = .function := blk_fn (by rw [hs]; exact hk)
  show (if _ then _ else _) = _
  rw [if_neg (by rw [h1, h2, hb]; decide), if_neg (by rw [h3]; decide), if_neg (by rw [h4, h5, h1]; decide), if_neg (by rw [h6]; decide)]
  show (do if vs.all (constantsAlone 8) = true then unsupported "assign.tuple-of-constant-expressions:order-of-the-stores"
           pure (some (swNames sc ts))) = _
  rw [h7]
  rfl
def swB (sc : Scope) (t v : Expr) : Bool := match t, v with
  | .Name y py, .ListComp _ _ s p => sc.names.lookup y == some .local && py.line == p.line && !(s.names.any fun (n, k) => n == y && (k == .local || k == .cell))
  | _, _ => false
def noSD : Expr → Bool
  | .SetComp _ _ _ _ => false | .DictComp _ _ _ _ _ => false | _ => true
theorem sw_of {sc : Scope} {t v : Expr} {env : Env} (hs : env.scope = sc) (hk : sc.kind = .function) (hn : noSD v = true) (line : Nat) : swapsWithSole [t] v line env = pure (swB sc t v) := by
  have hb : env.blockKind = .function := blk_fn (by rw [hs]; exact hk)
  show swapsWith v (some t) line env = _
  cases v
  case ListComp elt gs s p =>
    cases t
    case Name y py =>
      show (pure _ : Sem Bool) = _
      rw [hb]
      show (pure (ScopeKind.function == ScopeKind.function && env.scope.names.lookup y == some .local && py.line == p.line && !(s.names.any fun (n, k) => n == y && (k == .local || k == .cell))) : Sem Bool) = _
      rw [hs]
      have e : (ScopeKind.function == ScopeKind.function) = true := by decide
      rw [e, Bool.true_and]
      rfl
    all_goals rfl
  case SetComp => cases hn
  case DictComp => cases hn
  all_goals (cases t <;> rfl)
end DL

set_option maxRecDepth 100000
set_option maxHeartbeats 1000000
namespace DL
open PySem L2

/-! ### the checker of statements -/
def nm2 : Tg → Option (Nat × Nat)
  | .tp [.nm i, .nm j] => some (i, j) | _ => none
def tup2 : Ex → Option (Ex × Ex)
  | .tup [a, b] => some (a, b) | _ => none
def isCp : Ex → Bool
  | .comp _ _ _ _ _ _ => true | _ => false
/-- a, b = x, y -/
def chkPar (T : Tab) (N : List Str) (sc : Scope) (calm fna : Bool) (tg : Tg) (e : Ex) (t v : Expr) : Bool := match tg, e, t, v with
  | .tp [.nm i, .nm j], .tup [a, b], .Tuple [.Name x px, .Name y py] _ _, .Tuple [u, w] _ _ => calm && decide (N[i]? = some x) && decide (N[j]? = some y) && decide (i ≠ j) && decide (sc.names.lookup x = some .local) && decide (sc.names.lookup y = some .local) &&
      parB sc t v && decide (swNames sc [.Name x px, .Name y py] = [x, y]) && noStar u && noStar w && chkE T N sc calm fna a u && chkE T N sc calm fna b w
  | _, _, _, _ => false
def isDoc : Stmt → Bool
  | .Expr (.Constant (.str _) _ _) _ => true | .Pass _ => true | _ => false
mutual
def chkS (T : Tab) (N : List Str) (sc : Scope) (calm fna : Bool) : Cmd → Stmt → Bool
  | .set tg e, s => (match s with
    | .Assign [t] v _ => (noStar t && noSD v && nsB sc t v && !swB sc t v && chkTg T N sc calm fna tg t && chkE T N sc calm fna e v) ||
        (calm && swB sc t v && isCp e && chkTg T N sc calm fna tg t && chkE T N sc calm fna e v) || chkPar T N sc calm fna tg e t v
    | _ => false)
  | .aug tg o e, s => (match s with
    | .AugAssign t op v _ => opB o op && chkE T N sc calm fna e v && (match tg with
      | .nm i => chkTg T N sc calm fna (.nm i) t
      | .fld C o f => chkTg T N sc calm fna (.fld C o f) t
      | .sub o i => chkTg T N sc calm fna (.sub o i) t
      | .tp _ => false)
    | _ => false)
  | .expr e, s => (match s with | .Expr v _ => noComp v && chkE T N sc calm fna e v | _ => false)
  | .ret e, s => (match s with | .Return (some v) _ => chkE T N sc calm fna e v | _ => false)
  | .retN, s => (match s with | .Return none _ => true | _ => false)
  | .ife c a b, s => (match s with | .If v p q _ => tst c && chkE T N sc calm fna c v && chkB T N sc calm fna a p && chkB T N sc calm fna b q | _ => false)
  | .while c body, s => (match s with | .While v p [] _ => tst c && chkE T N sc calm fna c v && chkB T N sc calm fna body p | _ => false)
  | .for tg it body, s => (match s with | .For t i p [] _ => calm && noSet i && chkIt T N sc calm fna it t i && chkTg T N sc calm fna tg t && chkB T N sc calm fna body p | _ => false)
  | .raise C es, s => (match s with
    | .Raise (some (.Call (.Name x _) as [] _)) none _ => calm && x == C && glB sc x && (match as, es with
      | [], [] => T.ex0.contains x
      | [a], [e] => T.ex1.any (fun p => p.1 == x) && noStar a && chkE T N sc calm fna e a
      | _, _ => false)
    | _ => false)
  | .try body hs, s => (match s with | .Try p hd [] [] _ => calm && chkB T N sc calm fna body p && chkHs T N sc fna hs hd | _ => false)
  | .pass, s => isDoc s
  | .brk, s => (match s with | .Break _ => true | _ => false)
  | .cont, s => (match s with | .Continue _ => true | _ => false)
def chkB (T : Tab) (N : List Str) (sc : Scope) (calm fna : Bool) : List Cmd → List Stmt → Bool
  | [], ss => ss.isEmpty
  | c :: cs, ss => (match ss with | s :: r => chkS T N sc calm fna c s && chkB T N sc calm fna cs r | [] => false)
def chkHs (T : Tab) (N : List Str) (sc : Scope) (fna : Bool) : List (List Str × Option Nat × List Cmd) → List ExceptHandler → Bool
  | [], _ => false
  | (Cs, n, suite) :: r, hd => (match Cs, hd with
    | [C], .ExceptHandler (some (.Name x _)) nm (b₀ :: p) _ :: hr => x == C && T.hnd.contains x && glB sc x && chkB T N sc false fna suite (b₀ :: p) &&
      (match n, nm with
        | none, none => (hr.isEmpty && r.isEmpty) || (chkHs T N sc fna r hr && r.all fun h => h.2.1.isNone)
        | some i, some y => decide (N[i]? = some y) && decide (sc.names.lookup y = some .local) && hr.isEmpty && r.isEmpty
        | _, _ => false)
    | _, _ => false)
end
/-- the frame of a statement's context -/
structure SC (X : Cx) : Prop where
  stk : X.stack = X.env :: X.outer
  fr : X.env.frame = some X.env.locals
  po : PassesOwn (model X.prog X.w) X.A X.env X.xe
section
variable {T : Tab} {L : Lang T} {k : Nat}
def StS (L : Lang T) (k : Nat) (c : Cmd) : Prop := ∀ (G : Gam), Good L G k → ∀ (N : List Str) (sc : Scope) (calm fna : Bool) (s : Stmt), chkS T N sc calm fna c s = true → (calm = true → G.cx = none) → ∀ X, Ctx L N sc calm fna k G.cx X → SC X → DS L.cl X s (wS G c)
def StB (L : Lang T) (k : Nat) (c : List Cmd) : Prop := ∀ (G : Gam), Good L G k → ∀ (N : List Str) (sc : Scope) (calm fna : Bool) (s : List Stmt), chkB T N sc calm fna c s = true → (calm = true → G.cx = none) → ∀ X, Ctx L N sc calm fna k G.cx X → SC X → DB L.cl X s (wB G c)
theorem okAug {tg : Tg} {o : BOp} {e : Ex} : StS L k (.aug tg o e) := by
  intro G gd N sc calm fna s h hcx X c hs
  simp only [chkS] at h
  split at h <;> try (cases h; done)
  obtain ⟨h, h3⟩ := andB h
  obtain ⟨h1, h2⟩ := andB h
  obtain rfl := opB_of h1
  have E := (okE gd e _ _ _ _ _ h2 X c).1
  cases tg with
  | nm i =>
    simp only [chkTg] at h3
    split at h3 <;> try (cases h3; done)
    obtain ⟨q1, q2⟩ := andB h3
    obtain ⟨l1, l2⟩ := c.loc q2
    exact (ds_augN (by rw [c.hN]; exact c.nd) (by rw [c.hN]; exact of_decide_eq_true q1) l1 l2 E).imp fun D σ H q => by simpa only [wS] using q
  | fld C o f =>
    simp only [chkTg] at h3
    split at h3 <;> try (cases h3; done)
    obtain ⟨h3, q3⟩ := andB h3
    obtain ⟨q1, q2⟩ := andB h3
    obtain rfl := eqS q1
    obtain ⟨Ca, f1, f2, f3⟩ := L.fld_ok _ _ (mem_of q2)
    rw [← c.hK] at f2 f3
    exact (ds_augF f1 f2 f3 (okE gd o _ _ _ _ _ q3 X c).1 E).imp fun D σ H q => by simpa only [wS] using q
  | sub o i =>
    simp only [chkTg] at h3
    split at h3 <;> try (cases h3; done)
    obtain ⟨h3, q3⟩ := andB h3
    obtain ⟨q1, q2⟩ := andB h3
    exact (ds_augS (by have := c.un; omega) q1 (okE gd o _ _ _ _ _ q2 X c).1 (okE gd i _ _ _ _ _ q3 X c).1 E).imp fun D σ H q => by simpa only [wS] using q
  | tp ts => cases h3
theorem okExpr {e : Ex} : StS L k (.expr e) := by
  intro G gd N sc calm fna s h hcx X c hs
  simp only [chkS] at h
  split at h <;> try (cases h; done)
  obtain ⟨h1, h2⟩ := andB h
  exact (ds_expr (okE gd e _ _ _ _ _ h2 X c).1 h1).imp fun D σ H q => by simpa only [wS] using q
theorem okRet {e : Ex} : StS L k (.ret e) := by
  intro G gd N sc calm fna s h hcx X c hs
  simp only [chkS] at h
  split at h <;> try (cases h; done)
  exact (ds_ret (okE gd e _ _ _ _ _ h X c).1).imp fun D σ H q => by simpa only [wS] using q
theorem okRetN : StS L k .retN := by
  intro G gd N sc calm fna s h hcx X c hs
  simp only [chkS] at h
  split at h <;> try (cases h; done)
  exact ds_retN.imp fun D σ H q => by simpa only [wS] using q
theorem okPass : StS L k .pass := by
  intro G gd N sc calm fna s h hcx X c hs
  simp only [chkS] at h
  unfold isDoc at h
  split at h <;> try (cases h; done)
  · exact ds_doc.imp fun D σ H q => by simpa only [wS] using q
  · exact ds_pass.imp fun D σ H q => by simpa only [wS] using q
theorem okBrk : StS L k .brk := by
  intro G gd N sc calm fna s h hcx X c hs
  simp only [chkS] at h
  split at h <;> try (cases h; done)
  exact ds_brk.imp fun D σ H q => by simpa only [wS] using q
theorem okCont : StS L k .cont := by
  intro G gd N sc calm fna s h hcx X c hs
  simp only [chkS] at h
  split at h <;> try (cases h; done)
  exact ds_cont.imp fun D σ H q => by simpa only [wS] using q
theorem okIfS {d : Ex} {a b : List Cmd} (ia : StB L k a) (ib : StB L k b) : StS L k (.ife d a b) := by
  intro G gd N sc calm fna s h hcx X c hs
  simp only [chkS] at h
  split at h <;> try (cases h; done)
  obtain ⟨h, h4⟩ := andB h
  obtain ⟨h, h3⟩ := andB h
  obtain ⟨h1, h2⟩ := andB h
  exact (ds_if ((okE gd d _ _ _ _ _ h2 X c).2.1 h1) (ia G gd _ _ _ _ _ h3 hcx X c hs) (ib G gd _ _ _ _ _ h4 hcx X c hs)).imp fun D σ H q => by simpa only [wS] using q
theorem okWhile {d : Ex} {a : List Cmd} (ia : StB L k a) : StS L k (.while d a) := by
  intro G gd N sc calm fna s h hcx X c hs
  simp only [chkS] at h
  split at h <;> try (cases h; done)
  obtain ⟨h, h3⟩ := andB h
  obtain ⟨h1, h2⟩ := andB h
  exact (ds_while hs.po ((okE gd d _ _ _ _ _ h2 X c).2.1 h1) (ia G gd _ _ _ _ _ h3 hcx X c hs)).imp fun D σ H q => by simpa only [wS] using q
theorem okFor {tg : Tg} {it : It} {a : List Cmd} (ia : StB L k a) : StS L k (.for tg it a) := by
  intro G gd N sc calm fna s h hcx X c hs
  simp only [chkS] at h
  split at h <;> try (cases h; done)
  obtain ⟨h, h5⟩ := andB h
  obtain ⟨h, h4⟩ := andB h
  obtain ⟨h, h3⟩ := andB h
  obtain ⟨h1, h2⟩ := andB h
  exact (ds_for hs.po (c.cm h1) (okIt gd it _ _ _ _ _ _ h3 X c) (okTg gd tg _ _ _ _ _ h4 X c) (ia G gd _ _ _ _ _ h5 hcx X c hs) h2).imp fun D σ H q => by simpa only [wS] using q
theorem okB0 : StB L k [] := by
  intro G gd N sc calm fna s h hcx X c hs W tk
  simp only [chkB] at h
  cases s with
  | nil =>
    refine PSs.imp (db_nil (cl := L.cl) W tk) ?_
    rintro D τ H ⟨σ, Hd, E, rs, lk, q, r⟩
    exact ⟨σ, Hd, E, rs, lk, by simpa only [wB] using q, r⟩
  | cons a b => cases h
theorem okB1 {a : Cmd} {b : List Cmd} (ia : StS L k a) (ib : StB L k b) : StB L k (a :: b) := by
  intro G gd N sc calm fna s h hcx X c hs W tk
  simp only [chkB] at h
  split at h <;> try (cases h; done)
  obtain ⟨h1, h2⟩ := andB h
  refine PSs.imp (db_cons (ia G gd _ _ _ _ _ h1 hcx X c hs) (ib G gd _ _ _ _ _ h2 hcx X c hs) W tk) ?_
  rintro D τ H ⟨σ, Hd, E, rs, lk, q, r⟩
  exact ⟨σ, Hd, E, rs, lk, by simpa only [wB] using q, r⟩
theorem okRaise {C : Str} {es : List Ex} : StS L k (.raise C es) := by
  intro G gd N sc calm fna s h hcx X c hs
  simp only [chkS] at h
  split at h <;> try (cases h; done)
  rename_i x p as pos pos'
  obtain ⟨h, h4⟩ := andB h
  obtain ⟨h, h3⟩ := andB h
  obtain ⟨h1, h2⟩ := andB h
  obtain rfl := eqS h2
  obtain ⟨g1, g2⟩ := c.gl h3
  split at h4
  · obtain ⟨Ca, q1, q2, q3, q4, q5, q6⟩ := L.ex0_ok x (mem_of h4)
    have hx := gd.xf0 x (mem_of h4)
    rw [← c.hm] at q2
    rw [← c.hK] at q3 q4 q5 q6
    refine (ds_raise0 (c.cm h1) q1 q4 q2 q3 (raises_own q5 q6) g1 g2).imp fun D σ H q => ?_
    simp only [wS, wEs] at q
    rw [hx] at q
    exact q.2
  · rename_i a e
    obtain ⟨h4, z3⟩ := andB h4
    obtain ⟨z1, z2⟩ := andB h4
    obtain ⟨pr, hp, he⟩ := List.any_eq_true.mp z1
    obtain ⟨C', f⟩ := pr
    obtain rfl : C' = x := eqS he
    obtain ⟨Ca, q1, q2, q3, q4, q5, q6, q7, q8⟩ := L.ex1_ok C' f hp
    have hx := gd.xf1 C' f hp
    rw [q6] at q7 q8
    rw [← c.hP, ← c.hw, ← c.hK, ← c.hm, ← c.hb] at q8
    rw [← c.hm] at q2
    rw [← c.hK] at q3 q4 q5 q7
    have R := (c.room h1).mono (j := 2) (by have := gd.pos; omega)
    refine (ds_raise1 (c.cm h1) q1 q3 q4 q5 q8 R q7 g1 q2 (okE gd e _ _ _ _ _ z3 X c).1 z2 g2).imp fun D σ H q => ?_
    simp only [wS, wEs, hx, List.length_cons, List.length_nil, List.zip_cons_cons, List.zip_nil_right, true_and] at q
    exact q
  · cases h4
theorem okSet {tg : Tg} {e : Ex} : StS L k (.set tg e) := by
  intro G gd N sc calm fna s h hcx X c hs
  simp only [chkS] at h
  split at h <;> try (cases h; done)
  rename_i t v pos
  rcases Bool.or_eq_true_iff.mp h with h | h
  · rcases Bool.or_eq_true_iff.mp h with h | h
    · obtain ⟨h, h6⟩ := andB h
      obtain ⟨h, h5⟩ := andB h
      obtain ⟨h, h4⟩ := andB h
      obtain ⟨h, h3⟩ := andB h
      obtain ⟨h1, h2⟩ := andB h
      have h4' : swB sc t v = false := by simpa using h4
      exact (ds_set (okE gd e _ _ _ _ _ h6 X c).1 (okTg gd tg _ _ _ _ _ h5 X c) (by rw [sw_of c.scE c.kd h2, h4']) (ns_of c.scE h3) h1).imp fun D σ H q => by simpa only [wS] using q
    · simp only [Bool.and_eq_true] at h
      obtain ⟨⟨⟨⟨h1, h2⟩, h3⟩, h4⟩, h5⟩ := h
      rename_i hor1 hor2
      clear hor1 hor2
      cases e <;> try (cases h3; done)
      rename_i m elt tg' own it cs
      simp only [chkE] at h5
      split at h5 <;> try (cases h5; done)
      rename_i x g scope p2
      simp only [Bool.and_eq_true] at h5
      obtain ⟨⟨⟨⟨⟨q1, q2⟩, q3⟩, q4⟩, q5⟩, q6⟩ := h5
      obtain ⟨b1, b2, b3, b4⟩ := compB_of q2
      obtain ⟨gt, gi, gf, ga⟩ := g
      have b4 : ga = 0 := b4
      subst b4 h1
      have sw := sw_of (t := t) (v := .ListComp x [⟨gt, gi, gf, 0⟩] scope p2) c.scE c.kd rfl pos.line
      rw [h2] at sw
      cases t <;> try (cases h2; done)
      rename_i y py
      cases tg <;> simp only [chkTg] at h4 <;> try (cases h4; done)
      rename_i j
      obtain ⟨l1, l2⟩ := andB h4
      have hyl : sc.names.lookup y = some .local := by
        unfold swB at h2
        simp only [Bool.and_eq_true] at h2
        exact beq_iff_eq.mp h2.1.1
      have ok : BlkOk X.N X.env.scope scope own := by rw [c.hN, c.scE]; exact b1
      exact (ds_setC (m := m) (c.cm rfl) (by rw [c.hN]; exact c.nd) (by rw [c.hN]; exact of_decide_eq_true l1) (by rw [c.scE]; exact hyl) sw (okIt gd it _ _ _ _ _ _ q3 X c) ok b3 b2 (fun s H C cs' fp => okTg gd tg' _ _ _ _ _ q4 _ (c.blk b1 s H C cs' fp))
        (fun s H C cs' fp => okIf gd cs _ _ _ _ _ q5 _ (c.blk b1 s H C cs' fp)) (fun s H C cs' fp => (okE gd elt _ _ _ _ _ q6 _ (c.blk b1 s H C cs' fp)).1)).imp fun D σ H q => by
          simp only [wS, wE, wTg] at q
          exact q
  · unfold chkPar at h
    split at h <;> try (cases h; done)
    rename_i i j a b x px y py kt pt u w k2 pt2 _
    obtain ⟨h, z12⟩ := andB h
    obtain ⟨h, z11⟩ := andB h
    obtain ⟨h, z10⟩ := andB h
    obtain ⟨h, z9⟩ := andB h
    obtain ⟨h, z8⟩ := andB h
    obtain ⟨h, z7⟩ := andB h
    obtain ⟨h, z6⟩ := andB h
    obtain ⟨h, z5⟩ := andB h
    obtain ⟨h, z4⟩ := andB h
    obtain ⟨h, z3⟩ := andB h
    obtain ⟨z1, z2⟩ := andB h
    have A : DAs L.cl X [u, w] (fun Xd σ H Q => wE G a Xd σ H fun x H1 => wE G b Xd σ H1 fun y H2 => Q [x, y] H2) :=
      (da_cons (okE gd a _ _ _ _ _ z11 X c).1 (da_cons (okE gd b _ _ _ _ _ z12 X c).1 da_nil z10) z9)
    have hm : swM (.Tuple [.Name x px, .Name y py] kt pt) (.Tuple [u, w] k2 pt2) = some ([.Name x px, .Name y py], [u, w]) := rfl
    have hp := par_of (env := X.env) c.scE c.kd hm z7
    have hn : swNames sc [.Name x px, .Name y py] = [x, y] := of_decide_eq_true z8
    rw [hn] at hp
    exact (ds_par2 (c.cm z1) (by rw [c.hN]; exact c.nd) (by rw [c.hN]; exact of_decide_eq_true z2) (by rw [c.hN]; exact of_decide_eq_true z3) (of_decide_eq_true z4) (by rw [c.scE]; exact of_decide_eq_true z5) (by rw [c.scE]; exact of_decide_eq_true z6) A hp).imp fun D σ H q => by
      simpa [wS, wE, wEs, wTg, wTgs, tupOf, and_assoc] using q
end
end DL

set_option maxRecDepth 100000
set_option maxHeartbeats 1000000
namespace DL
open PySem L2
section
variable {T : Tab} {L : Lang T} {k : Nat} {N : List Str} {sc : Scope} {calm fna : Bool} {cx : Option (Addr × Option Addr × Str)} {X : Cx}
theorem Ctx.tr (c : Ctx L N sc calm fna k cx X) (hc : calm = true) (pn : List (Addr × Obj)) (xe : Value → Shared → Prop) : Ctx L N sc calm fna k cx (X.tr pn xe) where
  hP := c.hP
  hw := c.hw
  hK := c.hK
  hm := c.hm
  hb := c.hb
  hN := c.hN
  nd := c.nd
  scE := c.scE
  kd := c.kd
  room := c.room
  un := c.un
  cm := c.cm
  fn := c.fn
  su := fun z => by rw [hc] at z; cases z
theorem SC.tr (s : SC X) {pn : List (Addr × Obj)} {xe : Value → Shared → Prop} (h : PassesOwn (model X.prog X.w) X.A X.env xe) : SC (X.tr pn xe) := ⟨s.stk, s.fr, h⟩
theorem Ctx.suite {cx' : Option (Addr × Option Addr × Str)} (c : Ctx L N sc calm fna k cx X) (a : Addr) (pn : List (Addr × Obj)) (h : Su L.cl (X.suite a pn) cx') : Ctx L N sc false fna k cx' (X.suite a pn) where
  hP := c.hP
  hw := c.hw
  hK := c.hK
  hm := c.hm
  hb := c.hb
  hN := c.hN
  nd := c.nd
  scE := c.scE
  kd := c.kd
  room := fun z => by cases z
  un := c.un
  cm := fun z => by cases z
  fn := c.fn
  su := fun _ => h
theorem SC.suite (s : SC X) {a : Addr} {pn : List (Addr × Obj)} : SC (X.suite a pn) := ⟨s.stk, s.fr, PassesOwn.never⟩
def allNo (hs : List (List Str × Option Nat × List Cmd)) : Bool := hs.all fun h => h.2.1.isNone
def StHs (L : Lang T) (k : Nat) (hs : List (List Str × Option Nat × List Cmd)) : Prop := ∀ (G : Gam), Good L G k → G.cx = none → ∀ (N : List Str) (sc : Scope) (fna : Bool) (hd : List ExceptHandler), chkHs T N sc fna hs hd = true → ∀ X, Ctx L N sc true fna k G.cx X → SC X →
  (allNo hs = true → ∃ l, DHs L.cl X G.sub hd l ∧ ∀ c fs D σ H, wHs G hs c fs D σ H = dHs G.sub l c fs D σ H) ∧
  (allNo hs = false → ∃ C i y x np pos' b₀ p suite, hs = [([C], some i, suite)] ∧ hd = [.ExceptHandler (some (.Name x np)) (some y) (b₀ :: p) pos'] ∧ x = C ∧ T.hnd.contains C = true ∧ glB sc C = true ∧ N[i]? = some y ∧ sc.names.lookup y = some .local ∧
    ∀ (a : Addr) (oe : Obj) (d : Option Addr) (pn : List (Addr × Obj)) (c : Str) (Cc : Addr), Zc (.ref Cc) d oe → (∃ vs, oe.data = .fields vs) → L.cl c = some Cc → DB L.cl (X.suite a ((a, oe) :: pn)) (b₀ :: p) (wB { G with cx := some (a, d, c) } suite))
theorem Good.inn {G : Gam} (gd : Good L G k) (cx : Option (Addr × Option Addr × Str)) : Good L { G with cx := cx } k := ⟨gd.pos, gd.gc, gd.sub, gd.pl, gd.xf0, gd.xf1, gd.xf2, gd.fn, gd.mt, gd.mks⟩
theorem Ctx.names' (c : Ctx L N sc calm fna k cx X) {C : Str} (h : T.hnd.contains C = true) (g : glB sc C = true) : ∃ Ca, Names X C (.ref Ca) ∧ ExmOk X.K L.cl L.sub C Ca := by
  obtain ⟨Ca, h1, h2⟩ := L.hnd_ok C (mem_of h)
  obtain ⟨g1, g2⟩ := c.gl g
  rw [← c.hK] at h1
  rw [← c.hm] at h2
  exact ⟨Ca, ⟨g1, g2, .inl h2⟩, h1⟩
theorem okHs {C : Str} {n : Option Nat} {suite : List Cmd} {r : List (List Str × Option Nat × List Cmd)} (ib : StB L k suite) (ir : StHs L k r) : StHs L k (([C], n, suite) :: r) := by
  intro G gd hcx N sc fna hd h X c hs
  simp only [chkHs] at h
  split at h <;> try (cases h; done)
  rename_i C' x np nm b₀ p pos' hr e1
  cases e1
  simp only [Bool.and_eq_true] at h
  obtain ⟨⟨⟨⟨h1, h2⟩, h3⟩, h4⟩, h5⟩ := h
  obtain rfl := eqS h1
  obtain ⟨Ca, nm1, ex1⟩ := c.names' h2 h3
  rw [← gd.sub] at ex1
  split at h5
  · -- no name
    refine ⟨fun ha => ?_, fun ha => ?_⟩
    · have D0 : ∀ (a : Addr) (oe : Obj) (pn : List (Addr × Obj)), DB L.cl (X.suite a ((a, oe) :: pn)) (b₀ :: p) (wB G suite) := fun a oe pn =>
        ib G gd _ _ _ _ _ h4 (fun z => by cases z) _ (c.suite (cx' := G.cx) a _ (fun _ _ _ z => by rw [hcx] at z; cases z)) hs.suite
      rcases Bool.or_eq_true_iff.mp h5 with h5 | h5
      · obtain ⟨z1, z2⟩ := andB h5
        have z1 : hr = [] := by simpa using z1
        have z2 : r = [] := by simpa using z2
        subst z1 z2
        refine ⟨[(x, wB G suite)], .cons nm1 ex1 D0 .nil, fun c fs D σ H => ?_⟩
        simp only [wHs, List.any_cons, List.any_nil, Bool.or_false, dHs]
      · have ha' : allNo r = true := by
          unfold allNo at ha ⊢
          rw [List.all_cons] at ha
          exact (andB ha).2
        obtain ⟨l, d1, d2⟩ := (ir G gd hcx _ _ _ _ (andB h5).1 X c hs).1 ha'
        refine ⟨(x, wB G suite) :: l, .cons nm1 ex1 D0 d1, fun c fs D σ H => ?_⟩
        simp only [wHs, List.any_cons, List.any_nil, Bool.or_false, dHs, d2]
    · have ha' : allNo r = false := by
        unfold allNo at ha ⊢
        rw [List.all_cons] at ha
        simpa using ha
      rcases Bool.or_eq_true_iff.mp h5 with h5 | h5
      · obtain ⟨z1, z2⟩ := andB h5
        have z2 : r = [] := by simpa using z2
        subst z2
        cases ha'
      · have z := (andB h5).2
        unfold allNo at ha'
        rw [z] at ha'; cases ha'
  · -- a name
    rename_i i y
    simp only [Bool.and_eq_true] at h5
    obtain ⟨⟨⟨q1, q2⟩, q3⟩, q4⟩ := h5
    have z1 : hr = [] := by simpa using q3
    have z2 : r = [] := by simpa using q4
    subst z1 z2
    refine ⟨fun ha => (by cases ha), fun _ => ⟨x, i, y, x, np, pos', b₀, p, suite, rfl, rfl, rfl, h2, h3, of_decide_eq_true q1, of_decide_eq_true q2, ?_⟩⟩
    intro a oe d pn c' Cc hz hf hcc
    exact ib _ (gd.inn _) _ _ _ _ _ h4 (fun z => by cases z) _ (c.suite (cx' := some (a, d, c')) a _ (fun a' d' c'' z => by cases z; exact ⟨X, oe, pn, Cc, rfl, hz, hf, hcc⟩)) hs.suite
  · cases h5
theorem okTry {body : List Cmd} {hs : List (List Str × Option Nat × List Cmd)} (ib : StB L k body) (ih : StHs L k hs) : StS L k (.try body hs) := by
  intro G gd N sc calm fna s h hcx X c hsc
  simp only [chkS] at h
  split at h <;> try (cases h; done)
  obtain ⟨h, h3⟩ := andB h
  obtain ⟨h1, h2⟩ := andB h
  subst h1
  have hcx' := hcx rfl
  have B : ∀ pn xe, PassesOwn (model X.prog X.w) X.A X.env xe → DB L.cl (X.tr pn xe) _ (wB G body) := fun pn xe hp => ib G gd _ _ _ _ _ h2 hcx _ (c.tr rfl pn xe) (hsc.tr hp)
  obtain ⟨H1, H2⟩ := ih G gd hcx' _ _ _ _ h3 X c hsc
  cases ha : allNo hs with
  | true =>
    obtain ⟨l, d1, d2⟩ := H1 ha
    cases d1 with
    | nil =>
      exfalso
      cases hs with
      | nil => simp only [chkHs] at h3; cases h3
      | cons a b => obtain ⟨a1, a2, a3⟩ := a; simp only [chkHs] at h3; first | (cases h3; done) | (split at h3 <;> first | (rename_i z; cases z; done) | cases h3)
    | cons hc hx hsu r =>
      refine (ds_tryN hsc.stk hsc.fr B (.cons hc hx hsu r)).imp fun D σ H q => ?_
      simp only [wS, d2] at q
      exact q
  | false =>
    obtain ⟨C, i, y, x, np, pos', b₀, p, suite, rfl, rfl, rfl, q2, q3, q4, q5, q6⟩ := H2 ha
    obtain ⟨Ca, nm1, ex1⟩ := c.names' q2 q3
    rw [← gd.sub] at ex1
    refine (ds_tryA (ts := fun a d c => wB { G with cx := some (a, d, c) } suite) hsc.stk hsc.fr (by rw [c.hN]; exact c.nd) (by rw [c.hN]; exact q4) (by show X.env.scope.names.lookup y = _; rw [c.scE]; exact q5) nm1 ex1 B q6).imp fun D σ H q => ?_
    simp only [wS, wHs, List.any_cons, List.any_nil, Bool.or_false] at q
    exact q
theorem okHs0 : StHs L k [] := fun G gd hcx N sc fna hd h => by simp only [chkHs] at h; cases h
theorem okHsX {Cs : List Str} {n : Option Nat} {suite : List Cmd} {r : List (List Str × Option Nat × List Cmd)} (ib : StB L k suite) (ir : StHs L k r) : StHs L k ((Cs, n, suite) :: r) := by
  cases Cs with
  | nil => exact fun G gd hcx N sc fna hd h => by simp only [chkHs] at h; cases h
  | cons C Cs =>
    cases Cs with
    | nil => exact okHs ib ir
    | cons _ _ => exact fun G gd hcx N sc fna hd h => by simp only [chkHs] at h; cases h
mutual
theorem okS : ∀ c : Cmd, StS L k c
  | .set _ _ => okSet
  | .aug _ _ _ => okAug
  | .expr _ => okExpr
  | .ret _ => okRet
  | .retN => okRetN
  | .ife _ a b => okIfS (okB a) (okB b)
  | .while _ a => okWhile (okB a)
  | .for _ _ a => okFor (okB a)
  | .raise _ _ => okRaise
  | .try a hs => okTry (okB a) (okHl hs)
  | .pass => okPass
  | .brk => okBrk
  | .cont => okCont
theorem okB : ∀ c : List Cmd, StB L k c
  | [] => okB0
  | a :: b => okB1 (okS a) (okB b)
theorem okHl : ∀ hs : List (List Str × Option Nat × List Cmd), StHs L k hs
  | [] => okHs0
  | (Cs, n, suite) :: r => okHsX (okB suite) (okHl r)
end
/-- THE RULE for a def -/
theorem def_ok {G : Gam} (gd : Good L G k) (hcx : G.cx = none) {x qual : Str} {st : Stmt} {f : Addr} {fd : FuncData} {N ps : List Str} {body : List Cmd} {sp : List D → DH → DK → DXK → Prop} (F : Fun L.K x qual st f fd) (S : FnScope N ps (defScope st))
    (hchk : chkB T N (defScope st) true true body (defBody st) = true) (sat : Sat G N.length body sp) : FnOk L.P L.w L.K L.mg L.base (L2.CX L.P L.w) (k + 2) f fd ps (liftF L.K L.cl ps.length sp) := by
  refine Fun.okX F S (fun vs H Q E ⟨ds, Hd, Qd, Ed, hl, r, _⟩ => by rw [r.length, hl]) ?_
  rintro cdv A outer s H vs Q E hr ⟨ds, Hd, Qd, Ed, hl, r, lk, hsp, hQ, hE⟩
  let X := cxOf (L2.CX L.P L.w) L.P L.w L.K L.mg L.base N qual (defScope st) f cdv A outer s H E
  have c : Ctx L N (defScope st) true true k G.cx X := ⟨rfl, rfl, rfl, rfl, rfl, rfl, S.nd, rfl, S.kind, fun _ => hr, by have h0 : X.A.units + 16 * (k + 1) + 200 < cLine := hr.un; omega, fun _ => rfl, fun _ _ => rfl, fun z => by cases z⟩
  have sc : SC X := ⟨rfl, rfl, passes_of (X := X) rfl⟩
  have tk : Takes X (fun cls d _ H => E cls d H) := takes_of (X := X) rfl rfl rfl rfl
  refine ⟨_, okB body G gd N (defScope st) true true (defBody st) hchk (fun _ => hcx) X c sc _ tk, ?_⟩
  refine ⟨ds.map some ++ List.replicate (N.length - ds.length) none, Hd, _, ?_, lk, sat ds Hd Qd Ed hsp, ?_, ?_, hQ, ?_, ?_⟩
  · have := r.length
    show RepS _ _ _ _ _ (L2.start N vs)
    unfold L2.start
    rw [this]
    exact RepS.start _ r
  · rintro cls od τ' H' ⟨c, fs, σ, Hd', e, lk', rs, xr, q⟩
    exact hE _ _ _ ⟨c, fs, Hd', e, lk', xr, q⟩
  · rintro τ' H' ⟨σ, Hd', e, lk', rs, S', d', ice, q⟩
    exact hQ _ _ ⟨d', minus Hd' S', e.trans (Ext.minus S'), lk'.minus S', ice.rep lk' .non, q⟩
  · rintro τ' H' ⟨σ, Hd', e, lk', rs, q⟩
    exact False.elim q
  · rintro τ' H' ⟨σ, Hd', e, lk', rs, q⟩
    exact False.elim q
end
end DL

set_option maxRecDepth 100000
set_option maxHeartbeats 1000000
namespace DL
open PySem L2

/-! ### the tables of a program, from what its top has written -/
/-- where a class stands -/
def clsAt (K : PySem.W.Frag) (names : List Str) (C : Str) : Option Addr := if names.contains C then (match PySem.W.nsIn K mainGlobals C with | some (some (.ref a)) => some a | _ => none) else none
/-- a def of the text -/
def FnAt (K : PySem.W.Frag) (x : Str) (st : Stmt) (ps : List Str) : Prop := ∃ f fd, PySem.W.nsIn K mainGlobals x = some (some (.ref f)) ∧ Fun K x x st f fd ∧ ∀ us : List Value, us.length = ps.length → bindArgs fd ⟨us, []⟩ = pure (ps.zip us)
theorem FnAt.of {K : PySem.W.Frag} {x : Str} {st : Stmt} {ps : List Str} {f : Addr} {oc kV dc pm cd ct : Value} {od an : Option Addr} {sl : Array (Option Value)}
    (hb : ∀ (kV doc pm : Value) (an : Option Addr) (cdv ct : Value) (us : List Value), us.length = ps.length → bindArgs (PySem.W.fnOf x x (defArgs st) (defBody st) (defScope st) .none kV doc pm an cdv ct) ⟨us, []⟩ = pure (ps.zip us))
    (a : PySem.W.nsIn K mainGlobals x = some (some (.ref f))) (l : K.lookup f = some ⟨oc, od, .func (PySem.W.fnOf x x (defArgs st) (defBody st) (defScope st) .none kV dc pm an cd ct), sl⟩) (c : PySem.W.codeIn K cd x = true) (k : PySem.W.keepIn K (.ref f) = true) : FnAt K x st ps :=
  ⟨f, _, a, fun_mk l c k, hb _ _ _ _ _ _⟩
def MtAt (K : PySem.W.Frag) (C m qual : Str) (st : Stmt) (ps : List Str) : Prop := ∃ Ca f fd, PySem.W.nsIn K mainGlobals C = some (some (.ref Ca)) ∧ PySem.W.findIn K (.ref Ca) m = some (some (.ref f)) ∧ PySem.W.isFn K (.ref f) = true ∧ Fun K m qual st f fd ∧ Binds K fd ps []
theorem MtAt.of {K : PySem.W.Frag} {C m qual : Str} {st : Stmt} {ps : List Str} {Ca f : Addr} {oc kV dc pm cd ct : Value} {od an : Option Addr} {sl : Array (Option Value)}
    (hb : ∀ (kV doc pm : Value) (an : Option Addr) (cdv ct : Value) (us : List Value), us.length = ps.length → bindArgs (PySem.W.fnOf m qual (defArgs st) (defBody st) (defScope st) .none kV doc pm an cdv ct) ⟨us, []⟩ = pure (ps.zip us))
    (n : PySem.W.nsIn K mainGlobals C = some (some (.ref Ca))) (a : PySem.W.findIn K (.ref Ca) m = some (some (.ref f))) (i : PySem.W.isFn K (.ref f) = true) (l : K.lookup f = some ⟨oc, od, .func (PySem.W.fnOf m qual (defArgs st) (defBody st) (defScope st) .none kV dc pm an cd ct), sl⟩) (c : PySem.W.codeIn K cd qual = true) (k : PySem.W.keepIn K (.ref f) = true) : MtAt K C m qual st ps :=
  ⟨Ca, f, _, n, a, i, fun_mk l c k, (fun_mk l c k).binds hb⟩
/-- what a text says of its defs -/
structure FnI where
  x : Str
  st : Stmt
  ps : List Str
structure MtI where
  C : Str
  m : Str
  qual : Str
  st : Stmt
  ps : List Str
theorem all_nil {α : Type} {P : α → Prop} : ∀ x ∈ ([] : List α), P x := fun _ h => by cases h
theorem all_cons {α : Type} {P : α → Prop} {a : α} {l : List α} (h : P a) (t : ∀ x ∈ l, P x) : ∀ x ∈ a :: l, P x := fun x hx => by
  rcases List.mem_cons.mp hx with e | e
  · rw [e]; exact h
  · exact t x e
instance : Inhabited Fn := ⟨⟨0, default, []⟩⟩
open Classical in
noncomputable def fnTab (K : PySem.W.Frag) (l : List FnI) (x : Str) : Fn := match l.find? (fun e => e.x == x) with
  | some e => if h : FnAt K e.x e.st e.ps then ⟨h.choose, h.choose_spec.choose, e.ps⟩ else default
  | none => default
open Classical in
noncomputable def mtTab (K : PySem.W.Frag) (l : List MtI) (C m : Str) : Fn := match l.find? (fun e => e.C == C && e.m == m) with
  | some e => if h : MtAt K e.C e.m e.qual e.st e.ps then ⟨h.choose_spec.choose, h.choose_spec.choose_spec.choose, e.ps⟩ else default
  | none => default
theorem fnTab_ok {K : PySem.W.Frag} {l : List FnI} (h : ∀ e ∈ l, FnAt K e.x e.st e.ps) {x : Str} {e : FnI} (he : l.find? (fun e => e.x == x) = some e) :
    e.x = x ∧ (fnTab K l x).ps = e.ps ∧ PySem.W.nsIn K mainGlobals x = some (some (.ref (fnTab K l x).f)) ∧ Fun K x x e.st (fnTab K l x).f (fnTab K l x).fd ∧ ∀ us : List Value, us.length = e.ps.length → bindArgs (fnTab K l x).fd ⟨us, []⟩ = pure (e.ps.zip us) := by
  have hx : e.x = x := beq_iff_eq.mp (List.find?_some (p := fun e : FnI => e.x == x) he)
  have hm := List.mem_of_find?_eq_some he
  have hF := h e hm
  unfold fnTab
  rw [he]
  simp only [dif_pos hF]
  obtain ⟨q1, q2, q3⟩ := hF.choose_spec.choose_spec
  subst hx
  exact ⟨by first | rfl | trivial, by first | rfl | trivial, q1, q2, q3⟩
theorem mtTab_ok {K : PySem.W.Frag} {l : List MtI} (h : ∀ e ∈ l, MtAt K e.C e.m e.qual e.st e.ps) {C m : Str} {e : MtI} (he : l.find? (fun e => e.C == C && e.m == m) = some e) :
    e.C = C ∧ e.m = m ∧ (mtTab K l C m).ps = e.ps ∧ ∃ Ca, PySem.W.nsIn K mainGlobals C = some (some (.ref Ca)) ∧ PySem.W.findIn K (.ref Ca) m = some (some (.ref (mtTab K l C m).f)) ∧ PySem.W.isFn K (.ref (mtTab K l C m).f) = true ∧
      Fun K m e.qual e.st (mtTab K l C m).f (mtTab K l C m).fd ∧ Binds K (mtTab K l C m).fd e.ps [] := by
  have hx : (e.C == C && e.m == m) = true := List.find?_some (p := fun e : MtI => e.C == C && e.m == m) he
  rw [Bool.and_eq_true, beq_iff_eq, beq_iff_eq] at hx
  obtain ⟨h1, h2⟩ := hx
  have hm := List.mem_of_find?_eq_some he
  have hF := h e hm
  unfold mtTab
  rw [he]
  simp only [dif_pos hF]
  obtain ⟨q1, q2, q3, q4, q5⟩ := hF.choose_spec.choose_spec.choose_spec
  subst h1 h2
  exact ⟨by first | rfl | trivial, by first | rfl | trivial, by first | rfl | trivial, hF.choose, q1, q2, q3, q4, q5⟩
/-! ### what is asked of the written part, as flags -/
def atB (K : PySem.W.Frag) (C : Str) (p : Addr → Bool) : Bool := match PySem.W.nsIn K mainGlobals C with | some (some (.ref a)) => p a | _ => false
def clsB (K : PySem.W.Frag) (a : Addr) : Bool := PySem.W.plainGet K a Str.empty && PySem.W.hasDictIn K a && PySem.W.plainOver K a && decide (PySem.W.findIn K (.ref a) "__setattr__" = some (some (.builtin "object.__setattr__")))
theorem clsB_ok {K : PySem.W.Frag} {a : Addr} (h : clsB K a = true) : Cls K a := by
  unfold clsB at h
  simp only [Bool.and_eq_true, decide_eq_true_eq] at h
  exact ⟨h.1.1.1, h.1.1.2, h.1.2, h.2⟩
def noneB (K : PySem.W.Frag) (x : Str) : Bool := match PySem.W.nsIn K mainGlobals x with | some none => true | _ => false
def exC0B (K : PySem.W.Frag) (a : Addr) : Bool := PySem.W.keepIn K (.ref a) && PySem.W.excIn K a [.type "ValueError", .type "Exception", .type "BaseException", .type "object"] "ValueError.__new__" && decide (PySem.W.subIn K (.ref a) (.type "BaseException") = some true) && decide (PySem.W.typeIn K (.ref a) = some (.type "type"))
def tysOk (K : PySem.W.Frag) (pls : List Str) : Bool :=
  decide (PySem.W.specialIn K (.builtin "object.__class__") "__get__" = some (some (.builtin "getset_descriptor.__get__"))) && decide (PySem.W.takesIn K (.builtin "object.__class__") = some true) &&
  pls.all fun C => atB K C fun a => clsB K a && decide (PySem.W.findIn K (.ref a) "__class__" = some (some (.builtin "object.__class__"))) && decide (PySem.W.mroIn K a (.type "object") = some true) &&
    (["int", "bool", "str", "tuple", "list", "dict"].all fun t => decide (PySem.W.kitOne K (.ref a) (.type t) = some false)) && (["NoneType", "int", "bool", "str", "tuple", "list", "dict"].all fun t => decide (PySem.W.kitOne K (.type t) (.ref a) = some false)) &&
    pls.all fun C' => atB K C' fun b => decide (PySem.W.kitOne K (.ref a) (.ref b) = some (decide (C = C')))
def exmB (K : PySem.W.Frag) (cls : List Str) (sub : Str → Str → Bool) (C : Str) : Bool := atB K C fun b => cls.all fun c => match PySem.W.nsIn K mainGlobals c with | some (some (.ref a)) => decide (PySem.W.exmOne K (.ref a) (.ref b) = some (sub c C)) | _ => true
theorem atB_ok {K : PySem.W.Frag} {C : Str} {p : Addr → Bool} (h : atB K C p = true) : ∃ a, PySem.W.nsIn K mainGlobals C = some (some (.ref a)) ∧ p a = true := by
  unfold atB at h
  split at h
  · rename_i a e; exact ⟨a, e, h⟩
  · cases h
theorem clsAt_of {K : PySem.W.Frag} {names : List Str} {C : Str} {a : Addr} (h : names.contains C = true) (e : PySem.W.nsIn K mainGlobals C = some (some (.ref a))) : clsAt K names C = some a := by
  unfold clsAt
  rw [if_pos h, e]
theorem clsAt_inv {K : PySem.W.Frag} {names : List Str} {C : Str} {a : Addr} (h : clsAt K names C = some a) : names.contains C = true ∧ PySem.W.nsIn K mainGlobals C = some (some (.ref a)) := by
  unfold clsAt at h
  split at h
  · rename_i hc
    refine ⟨hc, ?_⟩
    split at h
    · rename_i b e; cases h; exact e
    · cases h
  · cases h
theorem tysOk_ok {K : PySem.W.Frag} {pls names : List Str} (h : tysOk K pls = true) : TyFacts K (clsAt K names) fun C => pls.contains C := by
  unfold tysOk at h
  simp only [Bool.and_eq_true, decide_eq_true_eq] at h
  obtain ⟨⟨h1, h2⟩, h3⟩ := h
  have key : ∀ C, pls.contains C = true → ∀ Ca, PySem.W.nsIn K mainGlobals C = some (some (.ref Ca)) → _ := fun C hC Ca e => by
    have z := List.all_eq_true.mp h3 C (by simpa using hC)
    unfold atB at z
    rw [e] at z
    exact z
  simp only [Bool.and_eq_true, decide_eq_true_eq] at key
  refine ⟨fun C Ca hc hp => ?_, h1, h2, fun C Ca t hc hp ht => ?_, fun C Ca C' Cb hc hp hc' hp' => ?_, fun C Ca t hc hp ht => ?_⟩
  · obtain ⟨⟨⟨⟨⟨k1, k2⟩, k3⟩, k4⟩, k5⟩, k6⟩ := key C hp Ca (clsAt_inv hc).2
    exact ⟨clsB_ok k1, k2, k3⟩
  · obtain ⟨⟨⟨⟨⟨k1, k2⟩, k3⟩, k4⟩, k5⟩, k6⟩ := key C hp Ca (clsAt_inv hc).2
    exact of_decide_eq_true (List.all_eq_true.mp k4 t ht)
  · obtain ⟨⟨⟨⟨⟨k1, k2⟩, k3⟩, k4⟩, k5⟩, k6⟩ := key C hp Ca (clsAt_inv hc).2
    have z := List.all_eq_true.mp k6 C' (by simpa using hp')
    unfold atB at z
    rw [(clsAt_inv hc').2] at z
    exact of_decide_eq_true z
  · obtain ⟨⟨⟨⟨⟨k1, k2⟩, k3⟩, k4⟩, k5⟩, k6⟩ := key C hp Ca (clsAt_inv hc).2
    exact of_decide_eq_true (List.all_eq_true.mp k5 t ht)
/-- an own exception class with its own __init__ -/
def oexB (K : PySem.W.Frag) (C : Addr) : Bool := match K.lookup C with
  | some ⟨.type "type", _, .cls cd, sl⟩ => (match cd.mro, sl.toList with
    | .ref C' :: bm, [_, _, _, _, some (.builtin n), _] => C' == C && n == "ValueError.__new__" && !cd.hasDel && cd.hasDict && PySem.HandSPX.refsVE bm
    | _, _ => false)
  | _ => false
theorem oexB_ok {K : PySem.W.Frag} {C : Addr} (q : oexB K C = true) : ∃ nm q N bs bm sn sub ab col dd k0 k1 k2 k3 k5, K.lookup C = some (excClassObj nm q C N bs bm true sn sub ab col dd k0 k1 k2 k3 k5 "ValueError.__new__") ∧ PySem.HandSPX.refsVE bm = true := by
  unfold oexB at q
  split at q
  · rename_i dd cd sl ho
    split at q
    · rename_i C' bm k0 k1 k2 k3 n k5 hm hs
      simp only [Bool.and_eq_true, beq_iff_eq, Bool.not_eq_true'] at q
      obtain ⟨⟨⟨⟨rfl, rfl⟩, hdel⟩, hdd⟩, ht⟩ := q
      obtain ⟨nm, bs, mro, ns, qn, hd, sn, sub, ab, col, del⟩ := cd
      dsimp only at hm hdel hdd
      subst hm hdel hdd
      have hsl : sl = #[k0, k1, k2, k3, some (.builtin "ValueError.__new__"), k5] := by
        obtain ⟨l⟩ := sl
        simp only at hs
        rw [hs]
      subst hsl
      exact ⟨nm, qn, ns, bs, bm, sn, sub, ab, col, dd, k0, k1, k2, k3, k5, ho, ht⟩
    · cases q
  · cases q
/-- def __init__(self, x): self.f = x -/
def iniB (st : Stmt) (sf xf f : Str) : Bool := match defBody st with
  | [.Assign [.Attribute (.Name a _) g _] (.Name b _) _] => a == sf && b == xf && g == f && nmOk sf && nmOk xf
  | _ => false
theorem iniB_ok {st : Stmt} {sf xf f : Str} (h : iniB st sf xf f = true) : (∃ p1 p2 p3 p4, defBody st = [.Assign [.Attribute (.Name sf p1) f p2] (.Name xf p3) p4]) ∧ nmOk sf = true ∧ nmOk xf = true := by
  unfold iniB at h
  split at h
  · rename_i a p1 g p2 b p3 p4 e
    simp only [Bool.and_eq_true] at h
    obtain ⟨⟨⟨⟨h1, h2⟩, h3⟩, h4⟩, h5⟩ := h
    obtain rfl := eqS h1
    obtain rfl := eqS h2
    obtain rfl := eqS h3
    exact ⟨⟨p1, p2, p3, p4, e⟩, h4, h5⟩
  · cases h
def scB (N P : List Str) (sc : Scope) : Bool := (match sc.kind with | .function => true | _ => false) && !sc.isCoroutine && !sc.isGenerator && decide N.Nodup && decide (N.take P.length = P) &&
  (P.all fun x => match sc.names.lookup x with | some .local => true | some .cell => true | _ => false) && sc.names.all fun y => decide (y.2 ≠ .free)
theorem scB_ok {N P : List Str} {sc : Scope} (h : scB N P sc = true) : FnScope N P sc := by
  unfold scB at h
  simp only [Bool.and_eq_true, Bool.not_eq_true', decide_eq_true_eq] at h
  obtain ⟨⟨⟨⟨⟨⟨h1, h2⟩, h3⟩, h4⟩, h5⟩, h6⟩, h7⟩ := h
  refine ⟨?_, h2, h3, h4, h5, fun x hx => ?_, fun y hy => of_decide_eq_true (List.all_eq_true.mp h7 y hy)⟩
  · split at h1
    · assumption
    · cases h1
  · have z := List.all_eq_true.mp h6 x hx
    split at z
    · exact .inl ‹_›
    · exact .inr ‹_›
    · cases z
def iniE (e : MtI) (f : Str) : Bool := match e.ps with | [sf, xf] => iniB e.st sf xf f && scB [sf, xf] [sf, xf] (defScope e.st) | _ => false
def ex1B (K : PySem.W.Frag) (a : Addr) (f : Str) : Bool := oexB K a && decide (PySem.W.findIn K (.ref a) "__setattr__" = some (some (.builtin "object.__setattr__"))) && decide (PySem.W.subIn K (.ref a) (.type "BaseException") = some true) &&
  decide (PySem.W.typeIn K (.ref a) = some (.type "type")) && PySem.W.keepIn K (.ref a) && decide (PySem.W.findIn K (.ref a) f = some none) && xfB K a && (match PySem.W.findIn K (.ref a) "__init__" with | some (some (.ref fI)) => decide (PySem.W.typeIn K (.ref fI) = some (.type "function")) | _ => false)
/-- all that is asked of the written part, beside the defs -/
structure Src where
  T : Tab
  fns : List FnI
  mts : List MtI
  names : List Str
  subT : List (Str × List Str)
  gcs : List (Str × D)
def Src.sub (S : Src) (c C : Str) : Bool := c == C || ((S.subT.lookup c).getD []).contains C
/-- data that stands in the written part as a constant -/
def gcB : D → Value → Bool
  | .int i, .int j _ => i == j
  | .str s, .str t _ => s == t && decide (s.length ≤ 1000) && PyData.strOk s
  | _, _ => false
def excCB (K : PySem.W.Frag) (a : Addr) : Bool := decide (PySem.W.findIn K (.ref a) "__getattribute__" = some (some (.builtin "BaseException.__getattribute__"))) && decide (PySem.W.findIn K (.ref a) "__getattr__" = some none) &&
  decide (PySem.W.subIn K (.ref a) (.type "BaseException") = some true) && PySem.W.hasDictIn K a && decide (PySem.W.findIn K (.ref a) "__class__" = some (some (.builtin "object.__class__"))) &&
  decide (PySem.W.specialIn K (.builtin "object.__class__") "__get__" = some (some (.builtin "getset_descriptor.__get__"))) && decide (PySem.W.takesIn K (.builtin "object.__class__") = some true) && decide (PySem.W.mroIn K a (.type "object") = some true)
theorem excCB_ok {K : PySem.W.Frag} {a : Addr} (h : excCB K a = true) : ExcC K a := by
  unfold excCB at h
  simp only [Bool.and_eq_true, decide_eq_true_eq] at h
  obtain ⟨⟨⟨⟨⟨⟨⟨h1, h2⟩, h3⟩, h4⟩, h5⟩, h6⟩, h7⟩, h8⟩ := h
  exact ⟨h1, h2, h3, h4, h5, h6, h7, h8⟩
/-- what is asked of a class that a caught error is held against -/
def xiAll (K : PySem.W.Frag) (names : List Str) (sub : Str → Str → Bool) (cv : Value) (x : Str) : Bool := names.all fun c => !sub c "BaseException" || match PySem.W.nsIn K mainGlobals c with | some (some (.ref a)) => excCB K a && decide (PySem.W.kitOne K (.ref a) cv = some (sub c x)) | _ => true
def xiB (K : PySem.W.Frag) (names : List Str) (sub : Str → Str → Bool) (x : Str) : Bool := match PySem.W.nsIn K mainGlobals x with
  | some (some (.ref b)) => xiAll K names sub (.ref b) x
  | some none => (match bootBuiltins x with | some (.type n) => decide (x ≠ "__name__") && xiAll K names sub (.type n) x | _ => false)
  | _ => false
theorem xiAll_ok {K : PySem.W.Frag} {names : List Str} {sub : Str → Str → Bool} {cv : Value} {x : Str} (h : xiAll K names sub cv x = true) : ∀ C Ca, clsAt K names C = some Ca → sub C "BaseException" = true → ExcC K Ca ∧ PySem.W.kitOne K (.ref Ca) cv = some (sub C x) := by
  intro C Ca hc hs
  obtain ⟨c1, c2⟩ := clsAt_inv hc
  have z := List.all_eq_true.mp h C (by simpa using c1)
  rw [hs, c2] at z
  simp only [Bool.not_true, Bool.false_or, Bool.and_eq_true, decide_eq_true_eq] at z
  exact ⟨excCB_ok z.1, z.2⟩
def Src.okB (S : Src) (K : PySem.W.Frag) : Bool :=
  (S.T.flds.all fun p => S.names.contains p.1 && atB K p.1 fun a => clsB K a && decide (PySem.W.findIn K (.ref a) p.2 = some none)) &&
  (S.T.bn.all fun x => noneB K x) && (S.T.pls.all fun C => S.names.contains C && atB K C fun _ => true) && tysOk K S.T.pls &&
  (S.T.ex0.all fun C => S.names.contains C && atB K C fun a => exC0B K a) &&
  (S.T.hnd.all fun C => S.names.contains C && exmB K S.names S.sub C) &&
  (S.T.gcs.all fun x => match S.gcs.lookup x, PySem.W.nsIn K mainGlobals x with | some d, some (some v) => gcB d v | none, _ => true | _, _ => false) &&
  (S.T.mts.all fun p => S.names.contains p.1 && atB K p.1 fun a => clsB K a) &&
  (S.T.mks.all fun p => S.names.contains p.1 && atB K p.1 fun a => PySem.W.makesIn K a && PySem.W.keepIn K (.ref a)) &&
  (S.T.ex1.all fun p => S.names.contains p.1 && atB K p.1 fun a => ex1B K a p.2) &&
  S.T.xis.all fun x => xiB K S.names S.sub x
/-- the lists of defs fit the table -/
def Src.fitB (S : Src) : Bool :=
  (S.T.fns.all fun p => match S.fns.find? (fun e => e.x == p.1) with | some e => e.ps.length == p.2 | none => false) &&
  (S.T.mts.all fun p => match S.mts.find? (fun e => e.C == p.1 && e.m == p.2.1) with | some e => e.ps.length == p.2.2 | none => false) &&
  (S.T.mks.all fun p => match S.mts.find? (fun e => e.C == p.1 && e.m == ("__init__" : Str)) with | some e => e.ps.length == p.2 | none => false) && S.T.ex1.all fun p => match S.mts.find? (fun e => e.C == p.1 && e.m == ("__init__" : Str)) with | some e => iniE e p.2 | none => false
theorem sub_nil {α : Type} {l : List α} {P : Prop} (h : l.isEmpty = true) {a : α} (m : a ∈ l) : P := by cases l <;> first | (cases m; done) | cases h
theorem fmem {α : Type} {l : List α} {p : α → Bool} (h : l.all p = true) {a : α} (m : a ∈ l) : p a = true := List.all_eq_true.mp h a m
noncomputable def mkLang (S : Src) (P : Program) (w : World) (K : PySem.W.Frag) (mg : Str → Option Value) (base h0 : Heap) (KX : K.In h0) (G : h0.Ns mainGlobals mg) (hf : ∀ e ∈ S.fns, FnAt K e.x e.st e.ps) (hm : ∀ e ∈ S.mts, MtAt K e.C e.m e.qual e.st e.ps)
    (ok : S.okB K = true) (fit : S.fitB = true) : Lang S.T where
  P := P
  w := w
  K := K
  mg := mg
  base := base
  cl := clsAt K S.names
  sub := S.sub
  gcv := fun x => S.gcs.lookup x
  fn := fnTab K S.fns
  mt := mtTab K S.mts
  xi := fun C => mtTab K S.mts C "__init__"
  sx := fun C => match (mtTab K S.mts C "__init__").ps with | [a, b] => (a, b) | _ => ("", "")
  fn_ok := fun x n hx => by
    unfold Src.fitB at fit
    simp only [Bool.and_eq_true] at fit
    have z := fmem fit.1.1.1 hx
    split at z
    · rename_i e he
      obtain ⟨h1, h2, h3, h4, h5⟩ := fnTab_ok hf he
      refine ⟨PySem.W.mg_of KX G h3, h4.kp, ?_, ?_⟩
      · rw [h2]; exact Binds.all h5
      · rw [h2]; exact beq_iff_eq.mp z
    · cases z
  mt_ok := fun C m n hx => by
    unfold Src.fitB at fit
    simp only [Bool.and_eq_true] at fit
    unfold Src.okB at ok
    simp only [Bool.and_eq_true] at ok
    have z := fmem fit.1.1.2 hx
    obtain ⟨z2, z3⟩ := andB (fmem ok.1.1.1.2 hx)
    split at z
    · rename_i e he
      obtain ⟨h1, h2, h3, Ca, h4, h5, h6, h7, h8⟩ := mtTab_ok hm he
      obtain ⟨a, q1, q2⟩ := atB_ok z3
      rw [h4] at q1; cases q1
      refine ⟨Ca, clsAt_of z2 h4, clsB_ok q2, ⟨h5, h6, h7.kp⟩, ?_, ?_⟩
      · rw [h3]; exact h8
      · rw [h3]; exact beq_iff_eq.mp z
    · cases z
  mk_ok := fun C n hx => by
    unfold Src.fitB at fit
    simp only [Bool.and_eq_true] at fit
    unfold Src.okB at ok
    simp only [Bool.and_eq_true] at ok
    have z := fmem fit.1.2 hx
    obtain ⟨z2, z3⟩ := andB (fmem ok.1.1.2 hx)
    split at z
    · rename_i e he
      obtain ⟨h1, h2, h3, Ca, h4, h5, h6, h7, h8⟩ := mtTab_ok hm he
      obtain ⟨a, q1, q2⟩ := atB_ok z3
      rw [h4] at q1; cases q1
      obtain ⟨q2, q3⟩ := andB q2
      refine ⟨Ca, clsAt_of z2 h4, PySem.W.mg_of KX G h4, ⟨q2, h5, h6, q3⟩, ?_, ?_⟩
      · rw [h3]; exact h8
      · rw [h3]; exact beq_iff_eq.mp z
    · cases z
  fld_ok := fun C f hx => by
    unfold Src.okB at ok
    simp only [Bool.and_eq_true] at ok
    obtain ⟨z2, z3⟩ := andB (fmem ok.1.1.1.1.1.1.1.1.1.1 hx)
    obtain ⟨a, q1, q2⟩ := atB_ok z3
    obtain ⟨q2, q3⟩ := andB q2
    have q3 : PySem.W.findIn K (.ref a) f = some none := of_decide_eq_true q3
    exact ⟨a, clsAt_of z2 q1, clsB_ok q2, q3⟩
  gc_ok := fun x hx d hd => by
    unfold Src.okB at ok
    simp only [Bool.and_eq_true] at ok
    have z := fmem ok.1.1.1.1.2 hx
    have hd : S.gcs.lookup x = some d := hd
    rw [hd] at z
    split at z
    · rename_i d' v e1 e2
      cases e1
      have hmg := PySem.W.mg_of KX G e2
      unfold gcB at z
      split at z
      · obtain rfl := beq_iff_eq.mp z
        exact ⟨.int _, _, hmg, ⟨_, rfl⟩, fun _ _ => .int _⟩
      · obtain ⟨z, z3⟩ := andB z
        obtain ⟨z1, z2⟩ := andB z
        obtain rfl := eqS z1
        exact ⟨.str _, _, hmg, ⟨_, rfl⟩, fun _ _ => .str (Nat.le_trans (of_decide_eq_true z2) (by decide)) z3⟩
      · cases z
    · rename_i e1; cases e1
    · cases z
  bn_ok := fun x hx => by
    unfold Src.okB at ok
    simp only [Bool.and_eq_true] at ok
    have z := fmem ok.1.1.1.1.1.1.1.1.1.2 hx
    unfold noneB at z
    split at z
    · rename_i e; exact PySem.W.mg_none_of KX G e
    · cases z
  pl_ok := fun C hx => by
    unfold Src.okB at ok
    simp only [Bool.and_eq_true] at ok
    obtain ⟨z2, z3⟩ := andB (fmem ok.1.1.1.1.1.1.1.1.2 hx)
    obtain ⟨a, q1, _⟩ := atB_ok z3
    exact ⟨a, clsAt_of z2 q1, PySem.W.mg_of KX G q1⟩
  ty_ok := by
    unfold Src.okB at ok
    simp only [Bool.and_eq_true] at ok
    exact tysOk_ok ok.1.1.1.1.1.1.1.2
  ex0_ok := fun C hx => by
    unfold Src.okB at ok
    simp only [Bool.and_eq_true] at ok
    obtain ⟨z2, z3⟩ := andB (fmem ok.1.1.1.1.1.1.2 hx)
    obtain ⟨a, q1, q2⟩ := atB_ok z3
    unfold exC0B at q2
    simp only [Bool.and_eq_true, decide_eq_true_eq] at q2
    exact ⟨a, clsAt_of z2 q1, PySem.W.mg_of KX G q1, q2.1.1.1, q2.1.1.2, q2.1.2, q2.2⟩
  ex1_ok := fun C f hx => by
    unfold Src.fitB at fit
    simp only [Bool.and_eq_true] at fit
    unfold Src.okB at ok
    simp only [Bool.and_eq_true] at ok
    have z := fmem fit.2 hx
    obtain ⟨z2, z3⟩ := andB (fmem ok.1.2 hx)
    split at z
    · rename_i e he
      obtain ⟨h1, h2, h3, Ca, h4, h5, h6, h7, h8⟩ := mtTab_ok hm he
      obtain ⟨a, q1, q2⟩ := atB_ok z3
      rw [h4] at q1; cases q1
      obtain ⟨eC, em, eq, est, eps⟩ := e
      unfold iniE at z
      split at z
      · rename_i sf xf eps'
        have eps'' : eps = [sf, xf] := eps'
        subst eps''
        obtain ⟨w1, w2⟩ := andB z
        obtain ⟨⟨p1, p2, p3, p4, hb⟩, n1, n2⟩ := iniB_ok w1
        unfold ex1B at q2
        simp only [Bool.and_eq_true, decide_eq_true_eq] at q2
        obtain ⟨⟨⟨⟨⟨⟨⟨k1, k2⟩, k3⟩, k4⟩, k5⟩, k6⟩, k7⟩, k8⟩ := q2
        rw [h5] at k8
        have k8 := of_decide_eq_true k8
        have T : OexC K Ca := ⟨oexB_ok k1, k2, k3, k4, k5⟩
        have h3 : (mtTab K S.mts C "__init__").ps = [sf, xf] := h3
        refine ⟨Ca, clsAt_of z2 h4, PySem.W.mg_of KX G h4, T, h5, k8, ?_, ?_, ?_⟩
        · show (mtTab K S.mts C "__init__").ps = [(match (mtTab K S.mts C "__init__").ps with | [a, b] => (a, b) | _ => ("", "")).1, (match (mtTab K S.mts C "__init__").ps with | [a, b] => (a, b) | _ => ("", "")).2]
          rw [h3]
        · show Binds K (mtTab K S.mts C "__init__").fd (mtTab K S.mts C "__init__").ps []
          rw [h3]; exact h8
        · show FnOk P w K mg base (L2.CX P w) 1 (mtTab K S.mts C "__init__").f (mtTab K S.mts C "__init__").fd (mtTab K S.mts C "__init__").ps (spI Ca f)
          rw [h3]
          exact init_ok (k := 0) h7 (scB_ok w2) hb T k6 (nmOk_of n1).1 (nmOk_of n1).2 (nmOk_of n2).1 (nmOk_of n2).2
      · cases z
    · cases z
  hnd_ok := fun C hx => by
    unfold Src.okB at ok
    simp only [Bool.and_eq_true] at ok
    obtain ⟨z2, z3⟩ := andB (fmem ok.1.1.1.1.1.2 hx)
    obtain ⟨b, q1, q2⟩ := atB_ok z3
    refine ⟨b, ⟨clsAt_of z2 q1, fun c a hc => ?_⟩, PySem.W.mg_of KX G q1⟩
    obtain ⟨c1, c2⟩ := clsAt_inv hc
    have z := fmem q2 (a := c) (by simpa using c1)
    rw [c2] at z
    exact of_decide_eq_true z
  xf_ok := fun C f hx Ca hC => by
    unfold Src.okB at ok
    simp only [Bool.and_eq_true] at ok
    obtain ⟨z2, z3⟩ := andB (fmem ok.1.2 hx)
    obtain ⟨a, q1, q2⟩ := atB_ok z3
    have e := (clsAt_inv hC).2
    rw [q1] at e; cases e
    unfold ex1B at q2
    simp only [Bool.and_eq_true, decide_eq_true_eq] at q2
    exact ⟨xfB_ok q2.1.2, q2.1.1.2⟩
  xi_ok := fun x hx => by
    unfold Src.okB at ok
    simp only [Bool.and_eq_true] at ok
    have z := fmem ok.2 hx
    unfold xiB at z
    split at z
    · rename_i b e
      exact ⟨.ref b, .ref b, .inl ⟨b, rfl, rfl, PySem.W.mg_of KX G e⟩, xiAll_ok z⟩
    · rename_i e
      split at z
      · rename_i n e2
        obtain ⟨z1, z2⟩ := andB z
        exact ⟨.ty n, .type n, .inr ⟨n, rfl, rfl, PySem.W.mg_none_of KX G e, e2, of_decide_eq_true z1⟩, xiAll_ok z2⟩
      · cases z
    · cases z
end DL

set_option maxRecDepth 100000
set_option maxHeartbeats 1000000
namespace DL
open PySem L2

abbrev DSp := List D → DH → DK → DXK → Prop
def noSp : DSp := fun _ _ _ _ => False
def xfOf (T : Tab) (C : Str) : List Str := match T.ex1.lookup C with | some f => [f] | none => []
/-- nothing is promised as yet -/
def baseG (T : Tab) (sub : Str → Str → Bool) (gcv : Str → Option D) : Gam := { fn := fun _ => noSp, mt := fun _ _ => noSp, gc := gcv, xf := xfOf T, sub := sub, pl := fun C => T.pls.contains C }
def Gam.setFn (G : Gam) (x : Str) (sp : DSp) : Gam := { G with fn := fun y => if y = x then sp else G.fn y }
def Gam.setMt (G : Gam) (C m : Str) (sp : DSp) : Gam := { G with mt := fun D y => if D = C ∧ y = m then sp else G.mt D y }
def xfB (T : Tab) : Bool := (T.ex0.all fun C => (T.ex1.lookup C).isNone) && T.ex1.all fun p => decide (T.ex1.lookup p.1 = some p.2)
section
variable {T : Tab} {L : Lang T} {G : Gam} {k j : Nat}
theorem noFn {P : Program} {w : World} {K : PySem.W.Frag} {mg : Str → Option Value} {base : Heap} {CX : CXT} {cl : Str → Option Addr} {f : Addr} {fd : FuncData} {ps : List Str} {n : Nat} : FnOk P w K mg base CX k f fd ps (liftF K cl n noSp) :=
  ⟨fun vs H Q E ⟨_, _, _, _, _, _, _, h, _⟩ => h.elim, fun A outer s H args us vs Q E hr he hb hv ⟨_, _, _, _, _, _, _, h, _⟩ => h.elim⟩
theorem good0 (hx : xfB T = true) (hk : 1 ≤ k) : Good L (baseG T L.sub L.gcv) k := by
  obtain ⟨h1, h2⟩ := andB hx
  refine ⟨hk, rfl, rfl, rfl, fun C hC => ?_, fun C f hC => ?_, fun C f hC => ?_, fun _ _ _ => noFn, fun _ _ _ _ => noFn, fun _ _ _ => noFn⟩
  · have z := fmem h1 hC
    show xfOf T C = []
    unfold xfOf
    split
    · rename_i f e; rw [e] at z; cases z
    · rfl
  · have z := of_decide_eq_true (fmem h2 hC)
    show xfOf T C = [f]
    unfold xfOf
    rw [z]
  · have hC : xfOf T C = [f] := hC
    unfold xfOf at hC
    split at hC
    · rename_i g e
      simp only [List.cons.injEq, and_true] at hC
      subst hC
      exact PySem.mem_of_lookup e
    · cases hC
theorem Good.mono (gd : Good L G j) (h : j ≤ k) : Good L G k := ⟨Nat.le_trans gd.pos h, gd.gc, gd.sub, gd.pl, gd.xf0, gd.xf1, gd.xf2, fun x n hx => (gd.fn x n hx).mono h, fun C m n hx => (gd.mt C m n hx).mono h, fun C n hx => (gd.mks C n hx).mono h⟩
theorem Good.addFn (gd : Good L G k) {x : Str} {n : Nat} {sp : DSp} (F : FnOk L.P L.w L.K L.mg L.base (L2.CX L.P L.w) j (L.fn x).f (L.fn x).fd (L.fn x).ps (liftF L.K L.cl n sp)) (hn : (L.fn x).ps.length = n) (h : j ≤ k) : Good L (G.setFn x sp) k := by
  refine ⟨gd.pos, gd.gc, gd.sub, gd.pl, gd.xf0, gd.xf1, gd.xf2, fun y m hy => ?_, gd.mt, gd.mks⟩
  by_cases e : y = x
  · subst e
    have hm := (L.fn_ok _ _ hy).2.2.2
    have : m = n := by rw [← hm, hn]
    subst this
    show FnOk _ _ _ _ _ _ _ _ _ _ (liftF L.K L.cl m (if y = y then sp else G.fn y))
    rw [if_pos rfl]
    exact F.mono h
  · show FnOk _ _ _ _ _ _ _ _ _ _ (liftF L.K L.cl m (if y = x then sp else G.fn y))
    rw [if_neg e]
    exact gd.fn y m hy
theorem Good.addMt (gd : Good L G k) {C m : Str} {n : Nat} {sp : DSp} (F : FnOk L.P L.w L.K L.mg L.base (L2.CX L.P L.w) j (L.mt C m).f (L.mt C m).fd (L.mt C m).ps (liftF L.K L.cl n sp)) (hn : (L.mt C m).ps.length = n) (h : j ≤ k) : Good L (G.setMt C m sp) k := by
  refine ⟨gd.pos, gd.gc, gd.sub, gd.pl, gd.xf0, gd.xf1, gd.xf2, gd.fn, fun C' m' n' hy => ?_, fun C' n' hy => ?_⟩
  · by_cases e : C' = C ∧ m' = m
    · obtain ⟨rfl, rfl⟩ := e
      obtain ⟨_, _, _, _, _, hm⟩ := L.mt_ok _ _ _ hy
      have : n' = n := by rw [← hm, hn]
      subst this
      show FnOk _ _ _ _ _ _ _ _ _ _ (liftF L.K L.cl n' (if C' = C' ∧ m' = m' then sp else G.mt C' m'))
      rw [if_pos ⟨rfl, rfl⟩]
      exact F.mono h
    · show FnOk _ _ _ _ _ _ _ _ _ _ (liftF L.K L.cl n' (if C' = C ∧ m' = m then sp else G.mt C' m'))
      rw [if_neg e]
      exact gd.mt _ _ _ hy
  · by_cases e : C' = C ∧ ("__init__" : Str) = m
    · obtain ⟨rfl, rfl⟩ := e
      obtain ⟨_, _, _, _, _, hm⟩ := L.mk_ok _ _ hy
      have : n' = n := by rw [← hm, hn]
      subst this
      show FnOk _ _ _ _ _ _ _ _ _ _ (liftF L.K L.cl n' (if C' = C' ∧ ("__init__" : Str) = "__init__" then sp else G.mt C' "__init__"))
      rw [if_pos ⟨rfl, rfl⟩]
      exact F.mono h
    · show FnOk _ _ _ _ _ _ _ _ _ _ (liftF L.K L.cl n' (if C' = C ∧ ("__init__" : Str) = m then sp else G.mt C' "__init__"))
      rw [if_neg e]
      exact gd.mks _ _ hy
/-- the defs of a text, as the table has them -/
structure Texts (L : Lang T) (S : Src) : Prop where
  fn : ∀ (x : Str) (e : FnI), S.fns.find? (fun e => e.x == x) = some e → (L.fn x).ps = e.ps ∧ Fun L.K x x e.st (L.fn x).f (L.fn x).fd
  mt : ∀ (C m : Str) (e : MtI), S.mts.find? (fun e => e.C == C && e.m == m) = some e → (L.mt C m).ps = e.ps ∧ Fun L.K m e.qual e.st (L.mt C m).f (L.mt C m).fd
def FnP (L : Lang T) (j : Nat) (x : Str) (n : Nat) (sp : DSp) : Prop := FnOk L.P L.w L.K L.mg L.base (L2.CX L.P L.w) j (L.fn x).f (L.fn x).fd (L.fn x).ps (liftF L.K L.cl n sp) ∧ (L.fn x).ps.length = n
def MtP (L : Lang T) (j : Nat) (C m : Str) (n : Nat) (sp : DSp) : Prop := FnOk L.P L.w L.K L.mg L.base (L2.CX L.P L.w) j (L.mt C m).f (L.mt C m).fd (L.mt C m).ps (liftF L.K L.cl n sp) ∧ (L.mt C m).ps.length = n
theorem fnP {S : Src} (tx : Texts L S) (gd : Good L G k) (hcx : G.cx = none) {x : Str} {N ps : List Str} {st : Stmt} {body : List Cmd} {sp : DSp} (he : S.fns.find? (fun e => e.x == x) = some ⟨x, st, ps⟩) (Sc : FnScope N ps (defScope st))
    (hchk : chkB T N (defScope st) true true body (defBody st) = true) (sat : Sat G N.length body sp) : FnP L (k + 2) x ps.length sp := by
  obtain ⟨h1, h2⟩ := tx.fn x _ he
  refine ⟨?_, by rw [h1]⟩
  rw [h1]
  exact def_ok gd hcx h2 Sc hchk sat
theorem mtP {S : Src} (tx : Texts L S) (gd : Good L G k) (hcx : G.cx = none) {C m qual : Str} {N ps : List Str} {st : Stmt} {body : List Cmd} {sp : DSp} (he : S.mts.find? (fun e => e.C == C && e.m == m) = some ⟨C, m, qual, st, ps⟩) (Sc : FnScope N ps (defScope st))
    (hchk : chkB T N (defScope st) true true body (defBody st) = true) (sat : Sat G N.length body sp) : MtP L (k + 2) C m ps.length sp := by
  obtain ⟨h1, h2⟩ := tx.mt C m _ he
  refine ⟨?_, by rw [h1]⟩
  rw [h1]
  exact def_ok gd hcx h2 Sc hchk sat
theorem Good.fnp (gd : Good L G k) {x : Str} {n : Nat} {sp : DSp} (F : FnP L j x n sp) (h : j ≤ k) : Good L (G.setFn x sp) k := gd.addFn F.1 F.2 h
theorem Good.mtp (gd : Good L G k) {C m : Str} {n : Nat} {sp : DSp} (F : MtP L j C m n sp) (h : j ≤ k) : Good L (G.setMt C m sp) k := gd.addMt F.1 F.2 h
end
theorem texts_mk {S : Src} {P : Program} {w : World} {K : PySem.W.Frag} {mg : Str → Option Value} {base h0 : Heap} (KX : K.In h0) (G : h0.Ns mainGlobals mg) (hf : ∀ e ∈ S.fns, FnAt K e.x e.st e.ps) (hm : ∀ e ∈ S.mts, MtAt K e.C e.m e.qual e.st e.ps)
    (ok : S.okB K = true) (fit : S.fitB = true) : Texts (mkLang S P w K mg base h0 KX G hf hm ok fit) S where
  fn := fun x e he => let z := fnTab_ok hf he; ⟨z.2.1, z.2.2.2.1⟩
  mt := fun C m e he => let z := mtTab_ok hm he; ⟨z.2.2.1, by obtain ⟨_, _, _, Ca, _, _, _, h, _⟩ := z; exact h⟩
/-- what a law promises -/
def spLaw (n : Nat) : DSp := fun ds H Q _ => ∃ ns : List Int, ds = [.stl (ns.map D.int)] ∧ ns.length ≤ n ∧ (∀ a, H a = none) ∧ ∀ H', Q (.bl true) H'
theorem ints_reps {K : PySem.W.Frag} {cl : Str → Option Addr} {Hd : DH} {H : Hp} : ∀ ns : List Int, Reps K cl Hd H (ns.map V.int) (ns.map D.int)
  | [] => .nil
  | n :: ns => .cons (.int n) (ints_reps ns)
theorem law_done {l : PySem.W.OpenLaw} {q : Program} {loose : List Str} {XP : (Str → Option Value) → Heap → Prop} {YP : World → Heap → Prop} {d : DefRec} {K : Params → PySem.W.Frag} {S : Src} {k : Nat} {x : Str} {st : Stmt} (hn : l.most = some 63) (hdf : d.params.defaults = []) (hk : k ≤ 300)
    (hd : Room k callerA) (hY : ∀ (w : World) (h : Heap), YP w h → (K w.params).In h) (hx : S.fns.find? (fun e => e.x == d.name) = some ⟨d.name, st, [x]⟩) (fit : S.fitB = true)
    (F : ∀ (p : Params), (∀ e ∈ S.fns, FnAt (K p) e.x e.st e.ps) ∧ (∀ e ∈ S.mts, MtAt (K p) e.C e.m e.qual e.st e.ps) ∧ S.okB (K p) = true)
    (R : ∀ (L : Lang S.T), Texts L S → L.sub = S.sub → L.gcv = (fun x => S.gcs.lookup x) → FnP L k d.name 1 (spLaw 63)) :
    PySem.W.WalkO q loose XP YP l.row.toRowW d [] (fun f vs => PySem.call f vs) := by
  refine L2.walk_of (n := 63) (k := k) (x := x) (CX := fun w => L2.CX l.prog w) (sp := fun w => liftF (K w.params) (clsAt (K w.params) S.names) 1 (spLaw 63)) hn (by decide) hdf hd hY (fun w mg fa h KX G hfa => ?_) ?_ ?_
  · obtain ⟨f1, f2, f3⟩ := F w.params
    obtain ⟨t1, t2, t3, t4, t5⟩ := fnTab_ok f1 hx
    have e := hfa.symm.trans (PySem.W.mg_of KX G t3)
    cases e
    refine ⟨(fnTab (K w.params) S.fns d.name).fd, fun s u => .of_eq (t5 [u] rfl), fun base KB GB => ?_⟩
    have r := (R (mkLang S l.prog w (K w.params) mg base h KX G f1 f2 f3 fit) (texts_mk KX G f1 f2 f3 fit) rfl rfl).1
    have t2' : (fnTab (K w.params) S.fns d.name).ps = [x] := t2
    have r' : FnOk l.prog w (K w.params) mg base (L2.CX l.prog w) k (fnTab (K w.params) S.fns d.name).f (fnTab (K w.params) S.fns d.name).fd (fnTab (K w.params) S.fns d.name).ps (liftF (K w.params) (clsAt (K w.params) S.names) 1 (spLaw 63)) := r
    rw [t2'] at r'
    exact r'
  · intro w H a ns hl hO hS
    refine ⟨[.stl (ns.map D.int)], fun _ => none, fun d _ => d = .bl true, fun _ _ _ => False, rfl, .cons ?_ .nil, fun b d z => (by cases z), ⟨ns, rfl, hl, fun _ => rfl, fun _ => rfl⟩, ?_, ?_⟩
    · have hz : (ns.map V.int).length ≤ sizeLine := by rw [List.length_map]; exact Nat.le_trans hl (by decide)
      rcases hS with hS | hS
      · exact .stl hS rfl hz (ints_reps ns)
      · exact .stlK (fun H' => .inr hS) hz (ints_reps ns)
    · rintro v H' ⟨d, Hd', e, lk, r, rfl⟩
      cases r
      rfl
    · rintro cls od H' ⟨c, fs, Hd', e, lk, xr, z⟩
      exact z
  · rintro w H s e s' ⟨_, _, _, _, _, _, _, _, _, _, _, _, z⟩
    exact z
end DL

set_option maxRecDepth 100000
namespace DL
open PySem

/-! ### heaps -/
theorem dupd_comm {H : DH} {a b : Addr} {x y : D} (h : a ≠ b) : dupd (dupd H a x) b y = dupd (dupd H b y) a x := by
  funext c; unfold dupd
  by_cases h1 : c = b
  · subst h1; rw [if_pos rfl, if_neg (Ne.symm h), if_pos rfl]
  · rw [if_neg h1, if_neg h1]
theorem minus_at {H : DH} {p a : Addr} : minus H (fun b => b == p) a = if a = p then none else H a := by
  unfold minus
  by_cases e : a = p
  · subst e; simp
  · simp [e]

section
variable {H : DH}
theorem rd_int {i : Int} : rd H (.int i) = .int i := rfl
theorem rd_bl {i : Bool} : rd H (.bl i) = .bl i := rfl
theorem rd_str {i : Str} : rd H (.str i) = .str i := rfl
theorem rd_non : rd H .non = .non := rfl
theorem rd_tup {i : List D} : rd H (.tup i) = .tup i := rfl
theorem rd_lst {i : List D} : rd H (.lst i) = .lst i := rfl
theorem rd_stl {i : List D} : rd H (.stl i) = .stl i := rfl
theorem leD_ii {i j : Int} {Q : Bool → Prop} : leD (.int i) (.int j) Q = Q (decide (i ≤ j)) := rfl
theorem ltD_ii {i j : Int} {Q : Bool → Prop} : ltD (.int i) (.int j) Q = Q (decide (i < j)) := rfl
theorem gtD_ii {i j : Int} {Q : Bool → Prop} : gtD (.int i) (.int j) Q = Q (decide (j < i)) := rfl
theorem addD_ii {m : Bool} {i j : Int} {Q : DK} : addD m (.int i) (.int j) H Q = Q (.int (i + j)) H := rfl
theorem mulD_ii {m : Bool} {i j : Int} {Q : DK} : mulD m (.int i) (.int j) H Q = (L2.CMul i j ∧ Q (.int (i * j)) H) := rfl
theorem deq_ii {i j : Int} : deq (.int i) (.int j) = decide (i = j) := by
  show PyData.eqv (.int i) (.int j) = _
  simp only [PyData.eqv]
  by_cases h : i = j <;> simp [h]
theorem eqD_ii {i j : Int} {Q : Bool → Prop} : eqD (.int i) (.int j) Q = Q (decide (i = j)) := by
  unfold eqD; rw [deq_ii]
  exact propext ⟨fun h => h.2.2.2, fun h => ⟨rfl, rfl, .inl (Nat.zero_le _), h⟩⟩
theorem len_tup {xs : List D} {m : Bool} {Q : DK} : bltD .len m [.tup xs] H Q = Q (.int xs.length) H := rfl
theorem len_lst {xs : List D} {m : Bool} {Q : DK} : bltD .len m [.lst xs] H Q = Q (.int xs.length) H := rfl
theorem len_str {s : Str} {m : Bool} {Q : DK} : bltD .len m [.str s] H Q = Q (.int s.length) H := rfl
theorem all_lst {bs : List Bool} {xs : List D} {m : Bool} {Q : DK} (h : toBs xs = some bs) (q : Q (.bl (bs.all id)) H) : bltD .all m [.lst xs] H Q := ⟨bs, h, q⟩
theorem int_int {i : Int} {m : Bool} {Q : DK} : bltD .int m [.int i] H Q = Q (.int i) H := rfl
theorem int_bl {b : Bool} {m : Bool} {Q : DK} : bltD .int m [.bl b] H Q = Q (.int (b2i b)) H := rfl
theorem tuple_lst {xs : List D} {m : Bool} {Q : DK} : bltD .tuple m [.lst xs] H Q = Q (.tup xs) H := rfl
theorem tuple_tup {xs : List D} {m : Bool} {Q : DK} : bltD .tuple m [.tup xs] H Q = Q (.tup xs) H := rfl
end
/-! ### comprehensions -/
/-- a comprehension without tests whose items change nothing -/
theorem comp_map {G : Gam} {m : Bool} {elt : Ex} {tg : Tg} {own : List (Str × Nat)} {it : It} {X : DXS} {σ : DSt} {H : DH} {Q : DK} {ds : List D} {st : DH → Prop} (f : D → D)
    (hi : ∀ K : List D → (DH → Prop) → DH → Prop, K ds st H → wIt G it X σ H K)
    (hst : ∀ p acc, H p = none → st (dupd H p (.lst acc)))
    (he : ∀ d ∈ ds, ∀ (p : Addr) acc (K : DSt → DH → Prop), H p = none → (∀ σ2, (∀ K2 : DK, K2 (f d) (dupd H p (.lst acc)) → wE G elt noX σ2 (dupd H p (.lst acc)) K2) → K σ2 (dupd H p (.lst acc))) → wTg G tg d (dwipe σ (own.map (·.2))) (dupd H p (.lst acc)) K)
    (q : alc m (.lst (ds.map f)) H Q) : wE G (.comp m elt tg own it []) X σ H Q := by
  rw [wE]
  refine hi _ fun hz p hp => ⟨fun i acc H' => H' = dupd H p (.lst acc) ∧ acc = (ds.take i).map f, ⟨rfl, by simp⟩, ?_, ?_, ?_⟩
  · rintro i acc H' ⟨rfl, -⟩
    exact hst p acc hp
  · rintro i d acc H' hd ⟨rfl, ha⟩ hp' hl
    refine he d (List.mem_of_getElem? hd) p acc _ hp fun σ2 h2 => ?_
    rw [wAll]
    rw [if_pos rfl]
    refine h2 _ ⟨dupd_same, ?_, ?_⟩
    · rw [dupd_dupd]
    · rw [ha, List.take_succ, hd]; simp
  · rintro acc H' ⟨rfl, ha⟩ hp' hl
    rw [List.take_length] at ha
    subst ha
    unfold alc at q
    split at q
    · rename_i hm; rw [if_pos hm]; exact q p hp
    · rename_i hm; rw [if_neg hm, minus_dupd hp]; exact q
/-- a comprehension without tests, its items one after the other, with an invariant of the heap -/
theorem comp_step {G : Gam} {m : Bool} {elt : Ex} {tg : Tg} {own : List (Str × Nat)} {it : It} {X : DXS} {σ : DSt} {H : DH} {Q : DK} {ds : List D} {st : DH → Prop} (J : Addr → Nat → List D → DH → Prop)
    (hi : ∀ K : List D → (DH → Prop) → DH → Prop, K ds st H → wIt G it X σ H K)
    (h0 : ∀ p, H p = none → J p 0 [] (dupd H p (.lst [])))
    (hst : ∀ p i acc H', H p = none → J p i acc H' → st H')
    (he : ∀ i d p acc H', ds[i]? = some d → H p = none → J p i acc H' → H' p = some (.lst acc) → ∀ K : DSt → DH → Prop, (∀ σ2 H2, (wE G elt noX σ2 H2 fun y H4 => H4 p = some (.lst acc) ∧ J p (i + 1) (acc ++ [y]) (dupd H4 p (.lst (acc ++ [y])))) → K σ2 H2) → wTg G tg d (dwipe σ (own.map (·.2))) H' K)
    (q : ∀ p acc H', H p = none → J p ds.length acc H' → H' p = some (.lst acc) → if m = true then Q (.ref p) H' else Q (.lst acc) (minus H' fun b => b == p)) : wE G (.comp m elt tg own it []) X σ H Q := by
  rw [wE]
  refine hi _ fun hz p hp => ⟨J p, h0 p hp, fun i acc H' => hst p i acc H' hp, ?_, fun acc H' hj hp' _ => q p acc H' hp hj hp'⟩
  intro i d acc H' hd hj hp' hl
  refine he i d p acc H' hd hp hj hp' _ fun σ2 H2 h => ?_
  rw [wAll]
  rw [if_pos rfl]
  exact h
end DL

set_option maxRecDepth 100000
namespace DL
open PySem
section
variable {G : Gam}
theorem wE_v (i : Nat) {X : DXS} {σ : DSt} {H : DH} {Q : DK} : wE G (.v i) X σ H Q = (∃ d, σ[i]? = some (some d) ∧ Q d H) := by rw [wE]
theorem wE_non {X : DXS} {σ : DSt} {H : DH} {Q : DK} : wE G (.non) X σ H Q = (Q .non H) := by rw [wE]
theorem wE_bl (b : Bool) {X : DXS} {σ : DSt} {H : DH} {Q : DK} : wE G (.bl b) X σ H Q = (Q (.bl b) H) := by rw [wE]
theorem wE_int (i : Int) {X : DXS} {σ : DSt} {H : DH} {Q : DK} : wE G (.int i) X σ H Q = (Q (.int i) H) := by rw [wE]
theorem wE_str (s : Str) {X : DXS} {σ : DSt} {H : DH} {Q : DK} : wE G (.str s) X σ H Q = (Q (.str s) H) := by rw [wE]
theorem wE_gc (x : Str) {X : DXS} {σ : DSt} {H : DH} {Q : DK} : wE G (.gc x) X σ H Q = (∃ d, G.gc x = some d ∧ Q d H) := by rw [wE]
theorem wE_tup (es : List Ex) {X : DXS} {σ : DSt} {H : DH} {Q : DK} : wE G (.tup es) X σ H Q = (wEs G es X σ H fun vs H1 => Q (.tup vs) H1) := by rw [wE]
theorem wE_lst (m : Bool) (es : List Ex) {X : DXS} {σ : DSt} {H : DH} {Q : DK} : wE G (.lst m es) X σ H Q = (wEs G es X σ H fun vs H1 => alc m (.lst vs) H1 Q) := by rw [wE]
theorem wE_dic0 (t : Bool) {X : DXS} {σ : DSt} {H : DH} {Q : DK} : wE G (.dic0 t) X σ H Q = (alc true (.dic t []) H Q) := by rw [wE]
theorem wE_dicS (ks : List Str) (es : List Ex) {X : DXS} {σ : DSt} {H : DH} {Q : DK} : wE G (.dicS ks es) X σ H Q = (∀ p, H p = none → wEs G es X σ (dupd H p (.dic false [])) fun vs H1 => H1 p = some (.dic false []) ∧ Q (.ref p) (dupd H1 p (.dic false (dmerge [] (List.zip (ks.map D.str) vs))))) := by rw [wE]
theorem wE_bin (o : BOp) (m : Bool) (a : Ex) (b : Ex) {X : DXS} {σ : DSt} {H : DH} {Q : DK} : wE G (.bin o m a b) X σ H Q = (wE G a X σ H fun x H1 => wE G b X σ H1 fun y H2 => binD o m (rd H2 x) (rd H2 y) H2 Q) := by rw [wE]
theorem wE_cmp (o : COp) (a : Ex) (b : Ex) {X : DXS} {σ : DSt} {H : DH} {Q : DK} : wE G (.cmp o a b) X σ H Q = (wE G a X σ H fun x H1 => wE G b X σ H1 fun y H2 => cmpD o (rd H2 x) (rd H2 y) fun c => Q (.bl c) H2) := by rw [wE]
theorem wE_chn (o : COp) (o' : COp) (a : Ex) (b : Ex) (c : Ex) {X : DXS} {σ : DSt} {H : DH} {Q : DK} : wE G (.chn o o' a b c) X σ H Q = (wE G a X σ H fun x H1 => wE G b X σ H1 fun y H2 => cmpD o (rd H2 x) (rd H2 y) fun k =>
      if k = true then wE G c X σ H2 fun z H3 => cmpD o' (rd H3 y) (rd H3 z) fun k => Q (.bl k) H3 else Q (.bl false) H2) := by rw [wE]
theorem wE_and (a : Ex) (b : Ex) {X : DXS} {σ : DSt} {H : DH} {Q : DK} : wE G (.and a b) X σ H Q = (wE G a X σ H fun x H1 => ∃ c, x = .bl c ∧ if c = true then wE G b X σ H1 Q else Q (.bl false) H1) := by rw [wE]
theorem wE_or (a : Ex) (b : Ex) {X : DXS} {σ : DSt} {H : DH} {Q : DK} : wE G (.or a b) X σ H Q = (wE G a X σ H fun x H1 => ∃ c, x = .bl c ∧ if c = true then Q (.bl true) H1 else wE G b X σ H1 Q) := by rw [wE]
theorem wE_not (a : Ex) {X : DXS} {σ : DSt} {H : DH} {Q : DK} : wE G (.not a) X σ H Q = (wE G a X σ H fun x H1 => ∃ c, x = .bl c ∧ Q (.bl (!c)) H1) := by rw [wE]
theorem wE_neg (a : Ex) {X : DXS} {σ : DSt} {H : DH} {Q : DK} : wE G (.neg a) X σ H Q = (wE G a X σ H fun x H1 => ∃ i, x = .int i ∧ Q (.int (-i)) H1) := by rw [wE]
theorem wE_ife (c : Ex) (a : Ex) (b : Ex) {X : DXS} {σ : DSt} {H : DH} {Q : DK} : wE G (.ife c a b) X σ H Q = (wE G c X σ H fun x H1 => ∃ k, x = .bl k ∧ if k = true then wE G a X σ H1 Q else wE G b X σ H1 Q) := by rw [wE]
theorem wE_idx (a : Ex) (b : Ex) {X : DXS} {σ : DSt} {H : DH} {Q : DK} : wE G (.idx a b) X σ H Q = (wE G a X σ H fun x H1 => wE G b X σ H1 fun y H2 => idxD (rd H2 x) (rd H2 y) fun d => Q d H2) := by rw [wE]
theorem wE_slc (m : Bool) (a : Ex) (lo : Option Ex) (hi : Option Ex) {X : DXS} {σ : DSt} {H : DH} {Q : DK} : wE G (.slc m a lo hi) X σ H Q = (wE G a X σ H fun x H1 => wO G lo X σ H1 fun l H2 => wO G hi X σ H2 fun h H3 => slcD m (rd H3 x) l h H3 Q) := by rw [wE]
theorem wE_rev (m : Bool) (a : Ex) {X : DXS} {σ : DSt} {H : DH} {Q : DK} : wE G (.rev m a) X σ H Q = (wE G a X σ H fun x H1 => revD m (rd H1 x) H1 Q) := by rw [wE]
theorem wE_fld (C : Str) (a : Ex) (f : Str) {X : DXS} {σ : DSt} {H : DH} {Q : DK} : wE G (.fld C a f) X σ H Q = (wE G a X σ H fun x H1 => ∃ fs d, rd H1 x = .ins C fs ∧ fs.lookup f = some d ∧ Q d H1) := by rw [wE]
theorem wE_call (f : Str) (es : List Ex) {X : DXS} {σ : DSt} {H : DH} {Q : DK} : wE G (.call f es) X σ H Q = (wEs G es X σ H fun vs H1 => G.fn f vs H1 Q fun c fs H2 => X c fs σ H2) := by rw [wE]
theorem wE_meth (C : Str) (m : Str) (o : Ex) (es : List Ex) {X : DXS} {σ : DSt} {H : DH} {Q : DK} : wE G (.meth C m o es) X σ H Q = (wE G o X σ H fun x H1 => (∃ fs, rd H1 x = .ins C fs ∧ fs.lookup m = none) ∧ wEs G es X σ H1 fun vs H2 => G.mt C m (x :: vs) H2 Q fun c fs H3 => X c fs σ H3) := by rw [wE]
theorem wE_make (C : Str) (es : List Ex) {X : DXS} {σ : DSt} {H : DH} {Q : DK} : wE G (.make C es) X σ H Q = (wEs G es X σ H fun vs H1 => ∀ p, H1 p = none → G.mt C "__init__" (.ref p :: vs) (dupd H1 p (.ins C [])) (fun v H2 => v = .non ∧ FzV (.ref p) H2 Q) fun c fs H3 => X c fs σ H3) := by rw [wE]
theorem wE_blt (b : Blt) (m : Bool) (es : List Ex) {X : DXS} {σ : DSt} {H : DH} {Q : DK} : wE G (.blt b m es) X σ H Q = (wEs G es X σ H fun vs H1 => bltD b m vs H1 Q) := by rw [wE]
theorem wE_bm (b : BMt) (m : Bool) (o : Ex) (es : List Ex) {X : DXS} {σ : DSt} {H : DH} {Q : DK} : wE G (.bm b m o es) X σ H Q = (wE G o X σ H fun x H1 => bmTy b (rd H1 x) = true ∧ wEs G es X σ H1 fun vs H2 => bmD b m x vs H2 Q) := by rw [wE]
theorem wE_isi (a : Ex) (ts : List Ty) {X : DXS} {σ : DSt} {H : DH} {Q : DK} : wE G (.isi a ts) X σ H Q = (wE G a X σ H fun x H1 => isiOk G.pl (rd H1 x) = true ∧ Q (.bl (ts.any fun t => tyD (rd H1 x) t)) H1) := by rw [wE]
theorem wE_xf (i : Nat) (f : Str) {X : DXS} {σ : DSt} {H : DH} {Q : DK} : wE G (.xf i f) X σ H Q = (∃ a d C fs v, σ[i]? = some (some (.exn a d C fs)) ∧ G.cx = some (a, d, C) ∧ G.xf C = [f] ∧ fs.lookup f = some v ∧ Q v H) := by rw [wE]
theorem wE_xi (i : Nat) (t : Ty) {X : DXS} {σ : DSt} {H : DH} {Q : DK} : wE G (.xi i t) X σ H Q = (∃ a d C fs, σ[i]? = some (some (.exn a d C fs)) ∧ G.cx = some (a, d, C) ∧ G.sub C "BaseException" = true ∧ Q (.bl (isX G.sub C t)) H) := by rw [wE]
theorem wTg_nm (i : Nat) {d : D} {σ : DSt} {H : DH} {Q : DSt → DH → Prop} : wTg G (.nm i) d σ H Q = (Q (σ.set i (some d)) H) := by rw [wTg]
theorem wTg_tp (ts : List Tg) {d : D} {σ : DSt} {H : DH} {Q : DSt → DH → Prop} : wTg G (.tp ts) d σ H Q = (∃ xs, tupOf d = some xs ∧ xs.length = ts.length ∧ wTgs G ts xs σ H Q) := by rw [wTg]
theorem wTg_fld (C : Str) (o : Ex) (f : Str) {d : D} {σ : DSt} {H : DH} {Q : DSt → DH → Prop} : wTg G (.fld C o f) d σ H Q = (wE G o noX σ H fun x H1 => ∃ p fs, x = .ref p ∧ H1 p = some (.ins C fs) ∧ fs.length < 1000 ∧ Q σ (dupd H1 p (.ins C (fput f d fs)))) := by rw [wTg]
theorem wTg_sub (o : Ex) (i : Ex) {d : D} {σ : DSt} {H : DH} {Q : DSt → DH → Prop} : wTg G (.sub o i) d σ H Q = (wE G o noX σ H fun x H1 => wE G i noX σ H1 fun y H2 => setD x y d H2 fun H3 => Q σ H3) := by rw [wTg]
theorem wIt_seq (e : Ex) {X : DXS} {σ : DSt} {H : DH} {Q : List D → (DH → Prop) → DH → Prop} : wIt G (.seq e) X σ H Q = (wE G e X σ H fun x H1 => ∃ ds, seqOf (rd H1 x) = some ds ∧ Q ds (fun H => seqOf (rd H x) = some ds) H1) := by rw [wIt]
theorem wIt_rng0 (a : Ex) {X : DXS} {σ : DSt} {H : DH} {Q : List D → (DH → Prop) → DH → Prop} : wIt G (.rng a none) X σ H Q = (wE G a X σ H fun x H1 => ∃ i, x = .int i ∧ i ≤ 2 ^ 24 ∧ -(2 ^ 62) ≤ i ∧ Q (rangeD 0 i.toNat) (fun _ => True) H1) := by rw [wIt]
theorem wIt_rng1 (a : Ex) (b : Ex) {X : DXS} {σ : DSt} {H : DH} {Q : List D → (DH → Prop) → DH → Prop} : wIt G (.rng a (some b)) X σ H Q = (wE G a X σ H fun x H1 => wE G b X σ H1 fun y H2 => ∃ i j, x = .int i ∧ y = .int j ∧ -(2 ^ 62) ≤ i ∧ i < 2 ^ 62 ∧ -(2 ^ 62) ≤ j ∧ j < 2 ^ 62 ∧ j - i ≤ 2 ^ 24 ∧ Q (rangeD i (j - i).toNat) (fun _ => True) H2) := by rw [wIt]
theorem wIt_enu (e : Ex) {X : DXS} {σ : DSt} {H : DH} {Q : List D → (DH → Prop) → DH → Prop} : wIt G (.enu e) X σ H Q = (wE G e X σ H fun x H1 => ∃ ds, litOf (rd H1 x) = some ds ∧ Q (enumD 0 ds) (fun H => litOf (rd H x) = some ds) H1) := by rw [wIt]
theorem wIt_zip (a : Ex) (b : Ex) {X : DXS} {σ : DSt} {H : DH} {Q : List D → (DH → Prop) → DH → Prop} : wIt G (.zip a b) X σ H Q = (wE G a X σ H fun x H1 => wE G b X σ H1 fun y H2 => ∃ ds es, litOf (rd H2 x) = some ds ∧ litOf (rd H2 y) = some es ∧ isTup (rd H2 x) = isTup (rd H2 y) ∧ Q (zipD ds es) (fun H => litOf (rd H x) = some ds ∧ litOf (rd H y) = some es) H2) := by rw [wIt]
theorem wS_set (tg : Tg) (e : Ex) {D : Ends} {σ : DSt} {H : DH} : wS G (.set tg e) D σ H = (wE G e D.ex σ H fun x H1 => wTg G tg x σ H1 D.nx) := by rw [wS]
theorem wS_expr (e : Ex) {D : Ends} {σ : DSt} {H : DH} : wS G (.expr e) D σ H = (wE G e D.ex σ H fun _ H1 => D.nx σ H1) := by rw [wS]
theorem wS_ret (e : Ex) {D : Ends} {σ : DSt} {H : DH} : wS G (.ret e) D σ H = (wE G e D.ex σ H fun x H1 => FzV x H1 D.rt) := by rw [wS]
theorem wS_retN {D : Ends} {σ : DSt} {H : DH} : wS G (.retN) D σ H = (FzV .non H D.rt) := by rw [wS]
theorem wS_ife (c : Ex) (a : List Cmd) (b : List Cmd) {D : Ends} {σ : DSt} {H : DH} : wS G (.ife c a b) D σ H = (wE G c D.ex σ H fun x H1 => ∃ k, x = .bl k ∧ if k = true then wB G a D σ H1 else wB G b D σ H1) := by rw [wS]
theorem wS_raise (C : Str) (es : List Ex) {D : Ends} {σ : DSt} {H : DH} : wS G (.raise C es) D σ H = (wEs G es D.ex σ H fun vs H1 => vs.length = (G.xf C).length ∧ D.ex C (List.zip (G.xf C) vs) σ H1) := by rw [wS]
theorem wS_try (body : List Cmd) (hs : List (List Str × Option Nat × List Cmd)) {D : Ends} {σ : DSt} {H : DH} : wS G (.try body hs) D σ H = (wB G body { D with ex := fun c fs σ' H' => wHs G hs c fs D σ' H' } σ H) := by rw [wS]
theorem wS_pass {D : Ends} {σ : DSt} {H : DH} : wS G (.pass) D σ H = (D.nx σ H) := by rw [wS]
theorem wS_brk {D : Ends} {σ : DSt} {H : DH} : wS G (.brk) D σ H = (D.bk σ H) := by rw [wS]
theorem wS_cont {D : Ends} {σ : DSt} {H : DH} : wS G (.cont) D σ H = (D.ct σ H) := by rw [wS]
theorem wS_augN (i : Nat) (o : BOp) (e : Ex) {D : Ends} {σ : DSt} {H : DH} : wS G (.aug (.nm i) o e) D σ H = (∃ x, σ[i]? = some (some x) ∧ wE G e D.ex σ H fun y H1 => augD o (rd H1 x) (rd H1 y) H1 fun z H2 => D.nx (σ.set i (some z)) H2) := by rw [wS]
theorem wS_augF (C : Str) (a : Ex) (f : Str) (o : BOp) (e : Ex) {D : Ends} {σ : DSt} {H : DH} : wS G (.aug (.fld C a f) o e) D σ H = (wE G a D.ex σ H fun x H1 => ∃ p fs v, x = .ref p ∧ H1 p = some (.ins C fs) ∧ fs.lookup f = some v ∧ wE G e D.ex σ H1 fun y H2 => augD o (rd H2 v) (rd H2 y) H2 fun z H3 => ∃ fs', H3 p = some (.ins C fs') ∧ fs'.length < 1000 ∧ D.nx σ (dupd H3 p (.ins C (fput f z fs')))) := by rw [wS]
theorem wS_augS (a i : Ex) (o : BOp) (e : Ex) {D : Ends} {σ : DSt} {H : DH} : wS G (.aug (.sub a i) o e) D σ H = (wE G a D.ex σ H fun x H1 => wE G i D.ex σ H1 fun k H2 => getD (rd H2 x) k fun v => wE G e D.ex σ H2 fun y H3 => augD o (rd H3 v) (rd H3 y) H3 fun z H4 => setD x k z H4 fun H5 => D.nx σ H5) := by rw [wS]
end
end DL

set_option maxRecDepth 100000
namespace Ir
open PySem L2 DL

def top (i : Nat) : Stmt := PySem.Challenge.pw_leastroads_k31_whole_rows_there_and_back.main.body.getD i (.Pass ⟨0, 0, 0, 0⟩)
def tab : Tab where
  fns := [(("is_row" : Str), 1), (("check_row" : Str), 1), (("is_sign" : Str), 1), (("is_short_string" : Str), 1), (("is_parcel_deep" : Str), 2), (("is_parcel" : Str), 1), (("whole" : Str), 1), (("bytes_of" : Str), 1), (("row_of" : Str), 1), (("parcel_of" : Str), 1), (("raw_mark" : Str), 1), (("seal_of" : Str), 1), (("sealed" : Str), 1), (("_law_pool" : Str), 1), (("_law_draw" : Str), 2), (("_law_deep" : Str), 0), (("_law_flag" : Str), 2), (("_law_whole" : Str), 1), (("_law_bytes" : Str), 1), (("_law_number" : Str), 1), (("_law_parcel" : Str), 2), (("_law_nested" : Str), 2), (("_law_same" : Str), 2), (("_law_is_parcel" : Str), 2), (("_law_word" : Str), 2), (("_law_first" : Str), 1), (("_law_is" : Str), 2), (("_law_sign" : Str), 1), (("_law_read_whole" : Str), 2), (("_law_read" : Str), 3), (("_law_read_string" : Str), 4), (("_law_told" : Str), 1), (("_law_read_by" : Str), 1), (("_law_spoilt" : Str), 2), (("_law_right" : Str), 1), (("_law_second" : Str), 1), (("law" : Str), 1)]
  mts := [(("RowReader" : Str), ("next_byte" : Str), 1), (("RowReader" : Str), ("read_whole" : Str), 1), (("RowReader" : Str), ("read_string" : Str), 1), (("RowReader" : Str), ("read_several" : Str), 2), (("RowReader" : Str), ("read_parcel" : Str), 2)]
  mks := [(("RowReader" : Str), 2)]
  flds := [(("RowReader" : Str), ("row" : Str)), (("RowReader" : Str), ("at" : Str))]
  gcs := ["NOTHING", "NO", "YES", "NUMBER", "BELOW", "STRING", "SEVERAL", "MOST_DEEP", "MOST_SIGNS", "FIRST_SIGN", "LAST_SIGN", "NO_SIGN", "SIGNS", "BASE", "BYTES", "MULTIPLIER", "MODULUS", "SEAL_BYTES"]
  bn := ["len", "int", "str", "bool", "tuple", "sum", "min", "all", "abs", "ord", "repr", "isinstance", "range", "zip"]
  pls := ["RowReader"]
  ex0 := ["NoParcel", "NoRow"]
  ex1 := [(("BadRow" : Str), ("place" : Str))]
  hnd := ["RoadError", "BadRow"]
  xis := ["NoParcel", "ValueError", "RoadError"]
/-! is_row -/
def N_is_row : List Str := ["thing", "byte"]
def st_is_row : Stmt := top 24
def ir_is_row : List Cmd := [.ife (.not (.isi (.v 0) [.tuple])) [.ret (.bl false)] [], .ret (.blt .all false [.comp false (.and (.isi (.v 1) [.int]) (.and (.not (.isi (.v 1) [.bool])) (.chn .le .lt (.int 0) (.v 1) (.gc "BYTES")))) (.nm 1) [("byte", 1)] (.seq (.v 0)) []])]
theorem chk_is_row : chkB tab N_is_row (defScope st_is_row) true true ir_is_row (defBody st_is_row) = true := by decide +kernel
/-! check_row -/
def N_check_row : List Str := ["thing"]
def st_check_row : Stmt := top 25
def ir_check_row : List Cmd := [.ife (.not (.call "is_row" [.v 0])) [.raise "NoRow" []] []]
theorem chk_check_row : chkB tab N_check_row (defScope st_check_row) true true ir_check_row (defBody st_check_row) = true := by decide +kernel
/-! is_sign -/
def N_is_sign : List Str := ["number"]
def st_is_sign : Stmt := top 26
def ir_is_sign : List Cmd := [.ret (.and (.chn .le .le (.gc "FIRST_SIGN") (.v 0) (.gc "LAST_SIGN")) (.cmp .ne (.v 0) (.gc "NO_SIGN")))]
theorem chk_is_sign : chkB tab N_is_sign (defScope st_is_sign) true true ir_is_sign (defBody st_is_sign) = true := by decide +kernel
/-! is_short_string -/
def N_is_short_string : List Str := ["thing", "sign"]
def st_is_short_string : Stmt := top 27
def ir_is_short_string : List Cmd := [.ife (.or (.not (.isi (.v 0) [.str])) (.not (.chn .le .le (.int 1) (.blt .len false [.v 0]) (.gc "MOST_SIGNS")))) [.ret (.bl false)] [], .ret (.blt .all false [.comp false (.call "is_sign" [.blt .ord false [.v 1]]) (.nm 1) [("sign", 1)] (.seq (.v 0)) []])]
theorem chk_is_short_string : chkB tab N_is_short_string (defScope st_is_short_string) true true ir_is_short_string (defBody st_is_short_string) = true := by decide +kernel
/-! is_parcel_deep -/
def N_is_parcel_deep : List Str := ["thing", "left", "item"]
def st_is_parcel_deep : Stmt := top 28
def ir_is_parcel_deep : List Cmd := [.ife (.isi (.v 0) [.tuple]) [.ret (.and (.cmp .gt (.v 1) (.int 0)) (.blt .all false [.comp false (.call "is_parcel_deep" [.v 2, .bin .sub false (.v 1) (.int 1)]) (.nm 2) [("item", 2)] (.seq (.v 0)) []]))] [], .ret (.or (.cmp .is (.v 0) .non) (.or (.isi (.v 0) [.int]) (.call "is_short_string" [.v 0])))]
theorem chk_is_parcel_deep : chkB tab N_is_parcel_deep (defScope st_is_parcel_deep) true true ir_is_parcel_deep (defBody st_is_parcel_deep) = true := by decide +kernel
/-! is_parcel -/
def N_is_parcel : List Str := ["thing"]
def st_is_parcel : Stmt := top 29
def ir_is_parcel : List Cmd := [.ret (.call "is_parcel_deep" [.v 0, .gc "MOST_DEEP"])]
theorem chk_is_parcel : chkB tab N_is_parcel (defScope st_is_parcel) true true ir_is_parcel (defBody st_is_parcel) = true := by decide +kernel
/-! whole -/
def N_whole : List Str := ["number", "found"]
def st_whole : Stmt := top 30
def ir_whole : List Cmd := [.set (.nm 1) (.lst true []), .while (.cmp .ge (.v 0) (.gc "BASE")) [.expr (.bm .append false (.v 1) [.bin .add false (.gc "BASE") (.bin .mod false (.v 0) (.gc "BASE"))]), .set (.nm 0) (.bin .div false (.v 0) (.gc "BASE"))], .ret (.bin .add false (.v 1) (.lst false [.v 0]))]
theorem chk_whole : chkB tab N_whole (defScope st_whole) true true ir_whole (defBody st_whole) = true := by decide +kernel
/-! bytes_of -/
def N_bytes_of : List Str := ["parcel", "found", "item", "sign"]
def st_bytes_of : Stmt := top 31
def ir_bytes_of : List Cmd := [.ife (.cmp .is (.v 0) .non) [.ret (.lst false [.gc "NOTHING"])] [], .ife (.isi (.v 0) [.bool]) [.ret (.lst false [.ife (.v 0) (.gc "YES") (.gc "NO")])] [], .ife (.isi (.v 0) [.int]) [.ret (.ife (.cmp .ge (.v 0) (.int 0)) (.bin .add false (.lst false [.gc "NUMBER"]) (.call "whole" [.v 0])) (.bin .add false (.lst false [.gc "BELOW"]) (.call "whole" [.bin .sub false (.neg (.int 1)) (.v 0)])))] [], .ife (.isi (.v 0) [.str]) [.ret (.bin .add false (.bin .add false (.lst false [.gc "STRING"]) (.call "whole" [.blt .len false [.v 0]])) (.comp false (.blt .ord false [.v 3]) (.nm 3) [("sign", 3)] (.seq (.v 0)) []))] [], .set (.nm 1) (.bin .add true (.lst false [.gc "SEVERAL"]) (.call "whole" [.blt .len false [.v 0]])), .for (.nm 2) (.seq (.v 0)) [.expr (.bm .extend false (.v 1) [.call "bytes_of" [.v 2]])], .ret (.v 1)]
theorem chk_bytes_of : chkB tab N_bytes_of (defScope st_bytes_of) true true ir_bytes_of (defBody st_bytes_of) = true := by decide +kernel
/-! row_of -/
def N_row_of : List Str := ["parcel"]
def st_row_of : Stmt := top 32
def ir_row_of : List Cmd := [.ife (.not (.call "is_parcel" [.v 0])) [.raise "NoParcel" []] [], .ret (.blt .tuple false [.call "bytes_of" [.v 0]])]
theorem chk_row_of : chkB tab N_row_of (defScope st_row_of) true true ir_row_of (defBody st_row_of) = true := by decide +kernel
/-! RowReader.__init__ -/
def N_RowReader_init : List Str := ["self", "row"]
def st_RowReader_init : Stmt := inClass (top 33) 0
def ir_RowReader_init : List Cmd := [.set (.fld "RowReader" (.v 0) "row") (.v 1), .set (.fld "RowReader" (.v 0) "at") (.int 0)]
theorem chk_RowReader_init : chkB tab N_RowReader_init (defScope st_RowReader_init) true true ir_RowReader_init (defBody st_RowReader_init) = true := by decide +kernel
/-! RowReader.next_byte -/
def N_RowReader_next_byte : List Str := ["self"]
def st_RowReader_next_byte : Stmt := inClass (top 33) 1
def ir_RowReader_next_byte : List Cmd := [.ife (.cmp .eq (.fld "RowReader" (.v 0) "at") (.blt .len false [.fld "RowReader" (.v 0) "row"])) [.raise "BadRow" [.fld "RowReader" (.v 0) "at"]] [], .aug (.fld "RowReader" (.v 0) "at") .add (.int 1), .ret (.idx (.fld "RowReader" (.v 0) "row") (.bin .sub false (.fld "RowReader" (.v 0) "at") (.int 1)))]
theorem chk_RowReader_next_byte : chkB tab N_RowReader_next_byte (defScope st_RowReader_next_byte) true true ir_RowReader_next_byte (defBody st_RowReader_next_byte) = true := by decide +kernel
/-! RowReader.read_whole -/
def N_RowReader_read_whole : List Str := ["self", "begin", "found", "worth", "byte"]
def st_RowReader_read_whole : Stmt := inClass (top 33) 2
def ir_RowReader_read_whole : List Cmd := [.set (.nm 1) (.fld "RowReader" (.v 0) "at"), .set (.tp [(.nm 2), (.nm 3)]) (.tup [.int 0, .int 1]), .while (.cmp .lt (.fld "RowReader" (.v 0) "at") (.blt .len false [.fld "RowReader" (.v 0) "row"])) [.set (.nm 4) (.idx (.fld "RowReader" (.v 0) "row") (.fld "RowReader" (.v 0) "at")), .aug (.fld "RowReader" (.v 0) "at") .add (.int 1), .aug (.nm 2) .add (.bin .mul false (.bin .mod false (.v 4) (.gc "BASE")) (.v 3)), .aug (.nm 3) .mul (.gc "BASE"), .ife (.cmp .lt (.v 4) (.gc "BASE")) [.ife (.and (.cmp .eq (.v 4) (.int 0)) (.cmp .gt (.bin .sub false (.fld "RowReader" (.v 0) "at") (.v 1)) (.int 1))) [.raise "BadRow" [.v 1]] [], .ret (.v 2)] []], .raise "BadRow" [.v 1]]
theorem chk_RowReader_read_whole : chkB tab N_RowReader_read_whole (defScope st_RowReader_read_whole) true true ir_RowReader_read_whole (defBody st_RowReader_read_whole) = true := by decide +kernel
/-! RowReader.read_string -/
def N_RowReader_read_string : List Str := ["self", "begin", "many", "found", "turn", "byte"]
def st_RowReader_read_string : Stmt := inClass (top 33) 3
def ir_RowReader_read_string : List Cmd := [.set (.nm 1) (.fld "RowReader" (.v 0) "at"), .set (.nm 2) (.meth "RowReader" "read_whole" (.v 0) []), .ife (.not (.chn .le .le (.int 1) (.v 2) (.gc "MOST_SIGNS"))) [.raise "BadRow" [.v 1]] [], .set (.nm 3) (.str ""), .for (.nm 4) (.rng (.v 2) none) [.set (.nm 5) (.meth "RowReader" "next_byte" (.v 0) []), .ife (.not (.call "is_sign" [.v 5])) [.raise "BadRow" [.bin .sub false (.fld "RowReader" (.v 0) "at") (.int 1)]] [], .aug (.nm 3) .add (.idx (.gc "SIGNS") (.bin .sub false (.v 5) (.gc "FIRST_SIGN")))], .ret (.v 3)]
theorem chk_RowReader_read_string : chkB tab N_RowReader_read_string (defScope st_RowReader_read_string) true true ir_RowReader_read_string (defBody st_RowReader_read_string) = true := by decide +kernel
/-! RowReader.read_several -/
def N_RowReader_read_several : List Str := ["self", "left", "many", "found"]
def st_RowReader_read_several : Stmt := inClass (top 33) 4
def ir_RowReader_read_several : List Cmd := [.set (.nm 2) (.meth "RowReader" "read_whole" (.v 0) []), .set (.nm 3) (.lst true []), .while (.cmp .lt (.blt .len false [.v 3]) (.v 2)) [.expr (.bm .append false (.v 3) [.meth "RowReader" "read_parcel" (.v 0) [.v 1]])], .ret (.blt .tuple false [.v 3])]
theorem chk_RowReader_read_several : chkB tab N_RowReader_read_several (defScope st_RowReader_read_several) true true ir_RowReader_read_several (defBody st_RowReader_read_several) = true := by decide +kernel
/-! RowReader.read_parcel -/
def N_RowReader_read_parcel : List Str := ["self", "left", "begin", "sort"]
def st_RowReader_read_parcel : Stmt := inClass (top 33) 5
def ir_RowReader_read_parcel : List Cmd := [.set (.nm 2) (.fld "RowReader" (.v 0) "at"), .set (.nm 3) (.meth "RowReader" "next_byte" (.v 0) []), .ife (.or (.cmp .gt (.v 3) (.gc "SEVERAL")) (.and (.cmp .eq (.v 3) (.gc "SEVERAL")) (.cmp .eq (.v 1) (.int 0)))) [.raise "BadRow" [.v 2]] [], .ife (.cmp .eq (.v 3) (.gc "NOTHING")) [.ret .non] [], .ife (.cmp .isin (.v 3) (.tup [.gc "NO", .gc "YES"])) [.ret (.cmp .eq (.v 3) (.gc "YES"))] [], .ife (.cmp .eq (.v 3) (.gc "STRING")) [.ret (.meth "RowReader" "read_string" (.v 0) [])] [], .ife (.cmp .eq (.v 3) (.gc "SEVERAL")) [.ret (.meth "RowReader" "read_several" (.v 0) [.bin .sub false (.v 1) (.int 1)])] [], .ret (.ife (.cmp .eq (.v 3) (.gc "NUMBER")) (.meth "RowReader" "read_whole" (.v 0) []) (.bin .sub false (.neg (.int 1)) (.meth "RowReader" "read_whole" (.v 0) [])))]
theorem chk_RowReader_read_parcel : chkB tab N_RowReader_read_parcel (defScope st_RowReader_read_parcel) true true ir_RowReader_read_parcel (defBody st_RowReader_read_parcel) = true := by decide +kernel
/-! parcel_of -/
def N_parcel_of : List Str := ["row", "reader", "found"]
def st_parcel_of : Stmt := top 34
def ir_parcel_of : List Cmd := [.expr (.call "check_row" [.v 0]), .set (.nm 1) (.make "RowReader" [.v 0]), .set (.nm 2) (.meth "RowReader" "read_parcel" (.v 1) [.gc "MOST_DEEP"]), .ife (.cmp .lt (.fld "RowReader" (.v 1) "at") (.blt .len false [.v 0])) [.raise "BadRow" [.fld "RowReader" (.v 1) "at"]] [], .ret (.v 2)]
theorem chk_parcel_of : chkB tab N_parcel_of (defScope st_parcel_of) true true ir_parcel_of (defBody st_parcel_of) = true := by decide +kernel
/-! raw_mark -/
def N_raw_mark : List Str := ["row", "found", "byte"]
def st_raw_mark : Stmt := top 35
def ir_raw_mark : List Cmd := [.set (.nm 1) (.int 1), .for (.nm 2) (.seq (.v 0)) [.set (.nm 1) (.bin .mod false (.bin .add false (.bin .add false (.bin .mul false (.v 1) (.gc "MULTIPLIER")) (.v 2)) (.int 1)) (.gc "MODULUS"))], .ret (.v 1)]
theorem chk_raw_mark : chkB tab N_raw_mark (defScope st_raw_mark) true true ir_raw_mark (defBody st_raw_mark) = true := by decide +kernel
/-! seal_of -/
def N_seal_of : List Str := ["row", "number", "found", "turn"]
def st_seal_of : Stmt := top 36
def ir_seal_of : List Cmd := [.set (.nm 1) (.call "raw_mark" [.v 0]), .set (.nm 2) (.lst true []), .for (.nm 3) (.rng (.gc "SEAL_BYTES") none) [.expr (.bm .append false (.v 2) [.bin .mod false (.v 1) (.gc "BYTES")]), .set (.nm 1) (.bin .div false (.v 1) (.gc "BYTES"))], .ret (.blt .tuple false [.v 2])]
theorem chk_seal_of : chkB tab N_seal_of (defScope st_seal_of) true true ir_seal_of (defBody st_seal_of) = true := by decide +kernel
/-! sealed -/
def N_sealed : List Str := ["parcel", "row"]
def st_sealed : Stmt := top 37
def ir_sealed : List Cmd := [.set (.nm 1) (.call "row_of" [.v 0]), .ret (.bin .add false (.v 1) (.call "seal_of" [.v 1]))]
theorem chk_sealed : chkB tab N_sealed (defScope st_sealed) true true ir_sealed (defBody st_sealed) = true := by decide +kernel
/-! _law_pool -/
def N__law_pool : List Str := ["_law_script", "_law_seed", "_law_cell"]
def st__law_pool : Stmt := top 39
def ir__law_pool : List Cmd := [.set (.nm 1) (.bin .add false (.bin .add false (.bin .mod false (.blt .int false [.blt .sum false [.slc false (.v 0) none (some (.int 1))]]) (.int 1000003)) (.blt .len false [.v 0])) (.int 1)), .for (.nm 2) (.seq (.slc false (.v 0) none (some (.int 63)))) [.set (.nm 1) (.bin .mod false (.blt .int false [.bin .add false (.bin .add false (.bin .mul false (.v 1) (.int 48271)) (.bin .mod false (.blt .int false [.v 2]) (.int 2147483629))) (.int 11)]) (.int 2147483647))], .ret (.lst true [.v 1, .int 0, .comp true (.blt .abs false [.v 2]) (.nm 2) [("_law_cell", 2)] (.seq (.slc false (.v 0) none (some (.int 63)))) [.cmp .ge (.blt .abs false [.v 2]) (.bin .pow false (.int 10) (.int 18))]])]
theorem chk__law_pool : chkB tab N__law_pool (defScope st__law_pool) true true ir__law_pool (defBody st__law_pool) = true := by decide +kernel
/-! _law_draw -/
def N__law_draw : List Str := ["_law_pool_here", "_law_many", "_law_cells", "_law_mixed", "_law_digit"]
def st__law_draw : Stmt := top 40
def ir__law_draw : List Cmd := [.set (.sub (.v 0) (.int 1)) (.bin .add false (.idx (.v 0) (.int 1)) (.int 1)), .set (.nm 2) (.idx (.v 0) (.int 2)), .ife (.cmp .gt (.blt .len false [.v 2]) (.int 0)) [.set (.nm 4) (.bin .mod false (.blt .int false [.idx (.v 2) (.int 0)]) (.v 1)), .set (.sub (.v 2) (.int 0)) (.bin .div false (.blt .int false [.idx (.v 2) (.int 0)]) (.v 1)), .ife (.cmp .eq (.idx (.v 2) (.int 0)) (.int 0)) [.expr (.bm .popAt false (.v 2) [.int 0])] [], .ret (.v 4)] [], .set (.nm 3) (.bin .mod false (.blt .int false [.bin .mul false (.bin .add false (.idx (.v 0) (.int 0)) (.bin .mul false (.int 7919) (.idx (.v 0) (.int 1)))) (.int 48271)]) (.int 2147483647)), .set (.nm 3) (.bin .mod false (.blt .int false [.bin .mul false (.v 3) (.bin .add false (.bin .div false (.v 3) (.int 1009)) (.int 69621))]) (.int 2147483647)), .set (.nm 3) (.bin .mod false (.blt .int false [.bin .mul false (.v 3) (.bin .add false (.bin .div false (.v 3) (.int 2003)) (.int 40692))]) (.int 2147483399)), .ret (.bin .mod false (.blt .int false [.bin .div false (.v 3) (.int 16)]) (.v 1))]
theorem chk__law_draw : chkB tab N__law_draw (defScope st__law_draw) true true ir__law_draw (defBody st__law_draw) = true := by decide +kernel
/-! _law_deep -/
def N__law_deep : List Str := ["_law_thing", "_law_turn"]
def st__law_deep : Stmt := top 41
def ir__law_deep : List Cmd := [.set (.nm 0) (.lst false [.non]), .for (.nm 1) (.rng (.int 35) none) [.set (.nm 0) (.lst false [.v 0])], .ret (.v 0)]
theorem chk__law_deep : chkB tab N__law_deep (defScope st__law_deep) true true ir__law_deep (defBody st__law_deep) = true := by decide +kernel
/-! _law_flag -/
def N__law_flag : List Str := ["_law_thing", "_law_due"]
def st__law_flag : Stmt := top 42
def ir__law_flag : List Cmd := [.ret (.and (.isi (.v 0) [.bool]) (.cmp .eq (.v 0) (.v 1)))]
theorem chk__law_flag : chkB tab N__law_flag (defScope st__law_flag) true true ir__law_flag (defBody st__law_flag) = true := by decide +kernel
/-! _law_whole -/
def N__law_whole : List Str := ["_law_number_here", "_law_found"]
def st__law_whole : Stmt := top 43
def ir__law_whole : List Cmd := [.set (.nm 1) (.lst true []), .while (.cmp .gt (.v 0) (.int 127)) [.expr (.bm .append false (.v 1) [.bin .add false (.bin .mod false (.v 0) (.int 128)) (.int 128)]), .set (.nm 0) (.bin .div false (.v 0) (.int 128))], .ret (.bin .add false (.v 1) (.lst false [.v 0]))]
theorem chk__law_whole : chkB tab N__law_whole (defScope st__law_whole) true true ir__law_whole (defBody st__law_whole) = true := by decide +kernel
/-! _law_bytes -/
def N__law_bytes : List Str := ["_law_parcel_here", "_law_found", "_law_part", "_law_sign_here"]
def st__law_bytes : Stmt := top 44
def ir__law_bytes : List Cmd := [.ife (.cmp .is (.v 0) .non) [.ret (.lst false [.int 0])] [], .ife (.isi (.v 0) [.bool]) [.ret (.lst false [.bin .add false (.int 1) (.blt .int false [.v 0])])] [], .ife (.isi (.v 0) [.int]) [.ret (.ife (.cmp .ge (.v 0) (.int 0)) (.bin .add false (.lst false [.int 3]) (.call "_law_whole" [.v 0])) (.bin .add false (.lst false [.int 4]) (.call "_law_whole" [.bin .sub false (.bin .sub false (.int 0) (.int 1)) (.v 0)])))] [], .ife (.isi (.v 0) [.str]) [.ret (.bin .add false (.bin .add false (.lst false [.int 5]) (.call "_law_whole" [.blt .len false [.v 0]])) (.comp false (.blt .ord false [.v 3]) (.nm 3) [("_law_sign_here", 3)] (.seq (.v 0)) []))] [], .set (.nm 1) (.bin .add true (.lst false [.int 6]) (.call "_law_whole" [.blt .len false [.v 0]])), .for (.nm 2) (.seq (.v 0)) [.expr (.bm .extend false (.v 1) [.call "_law_bytes" [.v 2]])], .ret (.v 1)]
theorem chk__law_bytes : chkB tab N__law_bytes (defScope st__law_bytes) true true ir__law_bytes (defBody st__law_bytes) = true := by decide +kernel
/-! _law_number -/
def N__law_number : List Str := ["_law_pool_here", "_law_kind", "_law_found", "_law_turn", "_law_great"]
def st__law_number : Stmt := top 45
def ir__law_number : List Cmd := [.set (.nm 1) (.call "_law_draw" [.v 0, .int 7]), .ife (.cmp .lt (.v 1) (.int 3)) [.set (.nm 4) (.bin .sub false (.bin .pow false (.int 10) (.int 20)) (.int 1)), .ret (.idx (.lst false [.int 0, .int 1, .neg (.int 1), .int 127, .int 128, .neg (.int 128), .neg (.int 129), .int 300, .int 16383, .int 16384, .neg (.int 16385), .v 4, .neg (.v 4)]) (.call "_law_draw" [.v 0, .int 13]))] [], .set (.nm 2) (.call "_law_draw" [.v 0, .int 1000]), .for (.nm 3) (.rng (.call "_law_draw" [.v 0, .int 6]) none) [.set (.nm 2) (.bin .add false (.bin .mul false (.v 2) (.int 1000)) (.call "_law_draw" [.v 0, .int 1000]))], .ret (.ife (.cmp .lt (.v 1) (.int 6)) (.v 2) (.bin .sub false (.int 0) (.v 2)))]
theorem chk__law_number : chkB tab N__law_number (defScope st__law_number) true true ir__law_number (defBody st__law_number) = true := by decide +kernel
/-! _law_parcel -/
def N__law_parcel : List Str := ["_law_pool_here", "_law_deep_here", "_law_kind", "_law_many", "_law_turn", "_law_at"]
def st__law_parcel : Stmt := top 46
def ir__law_parcel : List Cmd := [.set (.nm 2) (.call "_law_draw" [.v 0, .int 10]), .ife (.cmp .lt (.v 2) (.int 3)) [.ret (.idx (.lst false [.non, .bl true, .bl false]) (.v 2))] [], .ife (.cmp .lt (.v 2) (.int 5)) [.ret (.call "_law_number" [.v 0])] [], .ife (.cmp .lt (.v 2) (.int 7)) [.set (.nm 3) (.ife (.cmp .eq (.call "_law_draw" [.v 0, .int 8]) (.int 0)) (.int 20) (.bin .add false (.int 1) (.call "_law_draw" [.v 0, .int 6]))), .ret (.bm .join false (.str "") [.comp false (.idx (.str " ~a0Zb'") (.call "_law_draw" [.v 0, .int 7])) (.nm 5) [("_law_at", 5)] (.rng (.v 3) none) []])] [], .ife (.cmp .eq (.v 1) (.int 0)) [.ret (.int 7)] [], .ife (.cmp .eq (.call "_law_draw" [.v 0, .int 90]) (.int 0)) [.ret (.blt .tuple false [.comp false (.call "_law_draw" [.v 0, .int 300]) (.nm 4) [("_law_turn", 4)] (.rng (.bin .add false (.int 100) (.call "_law_draw" [.v 0, .int 200])) none) []])] [], .ret (.blt .tuple false [.comp false (.call "_law_parcel" [.v 0, .bin .sub false (.v 1) (.int 1)]) (.nm 4) [("_law_turn", 4)] (.rng (.call "_law_draw" [.v 0, .int 5]) none) []])]
theorem chk__law_parcel : chkB tab N__law_parcel (defScope st__law_parcel) true true ir__law_parcel (defBody st__law_parcel) = true := by decide +kernel
/-! _law_nested -/
def N__law_nested : List Str := ["_law_many", "_law_inner", "_law_found", "_law_turn"]
def st__law_nested : Stmt := top 47
def ir__law_nested : List Cmd := [.set (.nm 2) (.v 1), .for (.nm 3) (.rng (.v 0) none) [.set (.nm 2) (.tup [.v 2])], .ret (.v 2)]
theorem chk__law_nested : chkB tab N__law_nested (defScope st__law_nested) true true ir__law_nested (defBody st__law_nested) = true := by decide +kernel
/-! _law_same -/
def N__law_same : List Str := ["_law_one", "_law_other", "_law_first_here", "_law_later"]
def st__law_same : Stmt := top 48
def ir__law_same : List Cmd := [.ife (.or (.isi (.v 0) [.tuple]) (.isi (.v 1) [.tuple])) [.ife (.or (.not (.isi (.v 0) [.tuple])) (.or (.not (.isi (.v 1) [.tuple])) (.cmp .ne (.blt .len false [.v 0]) (.blt .len false [.v 1])))) [.ret (.bl false)] [], .ret (.blt .all false [.comp false (.call "_law_same" [.v 2, .v 3]) (.tp [(.nm 2), (.nm 3)]) [("_law_first_here", 2), ("_law_later", 3)] (.zip (.v 0) (.v 1)) []])] [], .ife (.or (.cmp .ne (.isi (.v 0) [.bool]) (.isi (.v 1) [.bool])) (.cmp .ne (.isi (.v 0) [.str]) (.isi (.v 1) [.str]))) [.ret (.bl false)] [], .ret (.cmp .eq (.v 0) (.v 1))]
theorem chk__law_same : chkB tab N__law_same (defScope st__law_same) true true ir__law_same (defBody st__law_same) = true := by decide +kernel
/-! _law_is_parcel -/
def N__law_is_parcel : List Str := ["_law_thing", "_law_left", "_law_part", "_law_sign_here"]
def st__law_is_parcel : Stmt := top 49
def ir__law_is_parcel : List Cmd := [.ife (.isi (.v 0) [.tuple]) [.ret (.and (.cmp .gt (.v 1) (.int 0)) (.blt .all false [.comp false (.call "_law_is_parcel" [.v 2, .bin .sub false (.v 1) (.int 1)]) (.nm 2) [("_law_part", 2)] (.seq (.v 0)) []]))] [], .ife (.isi (.v 0) [.str]) [.ret (.and (.chn .le .le (.int 1) (.blt .len false [.v 0]) (.int 20)) (.blt .all false [.comp false (.chn .le .le (.str " ") (.v 3) (.str "~")) (.nm 3) [("_law_sign_here", 3)] (.seq (.v 0)) []]))] [], .ret (.or (.cmp .is (.v 0) .non) (.isi (.v 0) [.int]))]
theorem chk__law_is_parcel : chkB tab N__law_is_parcel (defScope st__law_is_parcel) true true ir__law_is_parcel (defBody st__law_is_parcel) = true := by decide +kernel
/-! _law_word -/
def N__law_word : List Str := ["_law_which", "_law_thing", "_law_word_here", "e"]
def st__law_word : Stmt := top 50
def ir__law_word : List Cmd := [.set (.nm 2) (.str "let"), .try [.ife (.cmp .eq (.v 0) (.int 0)) [.expr (.call "row_of" [.v 1])] [.expr (.call "sealed" [.v 1])]] [(["RoadError"], some 3, [.set (.nm 2) (.ife (.and (.xi 3 (.cls "NoParcel")) (.xi 3 (.cls "ValueError"))) (.str "parcel") (.str "other"))])], .ret (.v 2)]
theorem chk__law_word : chkB tab N__law_word (defScope st__law_word) true true ir__law_word (defBody st__law_word) = true := by decide +kernel
/-! _law_first -/
def N__law_first : List Str := ["_law_script", "_law_pool_here", "_law_turn", "_law_parcel_here", "_law_row", "_law_odd", "_law_thing", "_law_one", "_law_due", "_law_words", "_law_which"]
def st__law_first : Stmt := top 51
def ir__law_first : List Cmd := [.set (.nm 1) (.call "_law_pool" [.v 0]), .for (.nm 2) (.rng (.int 4) none) [.set (.nm 3) (.call "_law_parcel" [.v 1, .int 3]), .ife (.cmp .eq (.call "_law_draw" [.v 1, .int 6]) (.int 0)) [.set (.nm 3) (.call "_law_nested" [.bin .sub false (.idx (.lst false [.int 20, .int 19, .int 5]) (.call "_law_draw" [.v 1, .int 3])) (.bin .mul false (.blt .int false [.isi (.v 3) [.tuple]]) (.int 4)), .v 3])] [], .set (.nm 4) (.call "row_of" [.v 3]), .ife (.or (.cmp .ne (.v 4) (.blt .tuple false [.call "_law_bytes" [.v 3]])) (.or (.not (.isi (.v 4) [.tuple])) (.not (.call "_law_same" [.call "parcel_of" [.v 4], .v 3])))) [.ret (.bl false)] [], .set (.nm 5) (.lst false [.str "", .bin .mul false (.str "a") (.int 21), .bin .mul false (.str "a") (.int 20), .str "a\n", .lst false [], .lst false [.int 1], .dic0 false, .call "_law_deep" []]), .set (.nm 5) (.bin .add false (.v 5) (.lst false [.call "_law_nested" [.int 21, .int 0], .call "_law_nested" [.int 20, .tup []], .call "_law_nested" [.int 20, .int 0]])), .set (.nm 5) (.bin .add false (.v 5) (.lst false [.tup [.int 1, .lst false []], .tup [.str "", .int 1]])), .set (.nm 6) (.idx (.v 5) (.call "_law_draw" [.v 1, .int 13])), .for (.nm 7) (.seq (.lst false [.v 3, .v 6, .tup [.v 6, .v 3]])) [.set (.nm 8) (.call "_law_is_parcel" [.v 7, .int 20]), .set (.nm 9) (.comp false (.call "_law_word" [.v 10, .v 7]) (.nm 10) [("_law_which", 10)] (.rng (.int 2) none) []), .ife (.or (.not (.call "_law_flag" [.call "is_parcel" [.v 7], .v 8])) (.cmp .ne (.v 9) (.bin .mul false (.lst false [.idx (.lst false [.str "parcel", .str "let"]) (.blt .int false [.v 8])]) (.int 2)))) [.ret (.bl false)] []]], .ret (.bl true)]
theorem chk__law_first : chkB tab N__law_first (defScope st__law_first) true true ir__law_first (defBody st__law_first) = true := by decide +kernel
/-! _law_is -/
def N__law_is : List Str := ["_law_told_here", "_law_due"]
def st__law_is : Stmt := top 52
def ir__law_is : List Cmd := [.ret (.cmp .eq (.blt .repr false [.v 0]) (.blt .repr false [.v 1]))]
theorem chk__law_is : chkB tab N__law_is (defScope st__law_is) true true ir__law_is (defBody st__law_is) = true := by decide +kernel
/-! _law_sign -/
def N__law_sign : List Str := ["_law_byte", "_law_signs"]
def st__law_sign : Stmt := top 53
def ir__law_sign : List Cmd := [.set (.nm 1) (.str " !\"#$&'()*+,-./0123456789:;<=>?@ABCDEFGHIJKLMNOPQRSTUVWXYZ[\\]^_"), .set (.nm 1) (.bin .add false (.v 1) (.str "`abcdefghijklmnopqrstuvwxyz{|}~")), .ret (.idx (.v 1) (.bin .sub false (.bin .sub false (.v 0) (.int 32)) (.blt .int false [.cmp .gt (.v 0) (.int 37)])))]
theorem chk__law_sign : chkB tab N__law_sign (defScope st__law_sign) true true ir__law_sign (defBody st__law_sign) = true := by decide +kernel
/-! _law_read_whole -/
def N__law_read_whole : List Str := ["_law_row", "_law_at", "_law_behind", "_law_found", "_law_byte"]
def st__law_read_whole : Stmt := top 54
def ir__law_read_whole : List Cmd := [.for (.nm 2) (.rng (.bin .add false (.v 1) (.int 1)) (some (.bin .add false (.blt .len false [.v 0]) (.int 1)))) [.ife (.cmp .lt (.idx (.v 0) (.bin .sub false (.v 2) (.int 1))) (.int 128)) [.ife (.and (.cmp .eq (.idx (.v 0) (.bin .sub false (.v 2) (.int 1))) (.int 0)) (.cmp .gt (.bin .sub false (.v 2) (.v 1)) (.int 1))) [.ret (.tup [.non, .v 1])] [], .set (.nm 3) (.int 0), .for (.nm 4) (.seq (.rev false (.slc false (.v 0) (some (.v 1)) (some (.v 2))))) [.set (.nm 3) (.bin .add false (.bin .mul false (.v 3) (.int 128)) (.bin .mod false (.blt .int false [.v 4]) (.int 128)))], .ret (.tup [.v 3, .v 2])] []], .ret (.tup [.non, .v 1])]
theorem chk__law_read_whole : chkB tab N__law_read_whole (defScope st__law_read_whole) true true ir__law_read_whole (defBody st__law_read_whole) = true := by decide +kernel
/-! _law_read -/
def N__law_read : List Str := ["_law_row", "_law_at", "_law_left", "_law_sort", "_law_found", "_law_number_here", "_law_here", "_law_part"]
def st__law_read : Stmt := top 55
def ir__law_read : List Cmd := [.ife (.cmp .ge (.v 1) (.blt .len false [.v 0])) [.ret (.tup [.non, .blt .len false [.v 0]])] [], .set (.nm 3) (.idx (.v 0) (.v 1)), .ife (.or (.cmp .gt (.v 3) (.int 6)) (.and (.cmp .eq (.v 3) (.int 6)) (.cmp .eq (.v 2) (.int 0)))) [.ret (.tup [.non, .v 1])] [], .ife (.cmp .lt (.v 3) (.int 3)) [.ret (.tup [.tup [.idx (.lst false [.non, .bl false, .bl true]) (.v 3)], .bin .add false (.v 1) (.int 1)])] [], .set (.tp [(.nm 5), (.nm 6)]) (.call "_law_read_whole" [.v 0, .bin .add false (.v 1) (.int 1)]), .ife (.cmp .is (.v 5) .non) [.ret (.tup [.non, .v 6])] [], .ife (.cmp .lt (.v 3) (.int 5)) [.ret (.tup [.tup [.ife (.cmp .eq (.v 3) (.int 3)) (.v 5) (.bin .sub false (.bin .sub false (.int 0) (.int 1)) (.v 5))], .v 6])] [], .ife (.cmp .eq (.v 3) (.int 5)) [.ret (.call "_law_read_string" [.v 0, .bin .add false (.v 1) (.int 1), .v 5, .v 6])] [], .set (.nm 4) (.lst true []), .while (.cmp .lt (.blt .len false [.v 4]) (.v 5)) [.set (.tp [(.nm 7), (.nm 6)]) (.call "_law_read" [.v 0, .v 6, .bin .sub false (.v 2) (.int 1)]), .ife (.cmp .is (.v 7) .non) [.ret (.tup [.non, .v 6])] [], .expr (.bm .append false (.v 4) [.idx (.v 7) (.int 0)])], .ret (.tup [.tup [.blt .tuple false [.v 4]], .v 6])]
theorem chk__law_read : chkB tab N__law_read (defScope st__law_read) true true ir__law_read (defBody st__law_read) = true := by decide +kernel
/-! _law_read_string -/
def N__law_read_string : List Str := ["_law_row", "_law_begin", "_law_many", "_law_here", "_law_at", "_law_byte"]
def st__law_read_string : Stmt := top 56
def ir__law_read_string : List Cmd := [.ife (.not (.chn .le .le (.int 1) (.v 2) (.int 20))) [.ret (.tup [.non, .v 1])] [], .for (.nm 4) (.rng (.v 3) (some (.bin .add false (.v 3) (.v 2)))) [.ife (.or (.cmp .ge (.v 4) (.blt .len false [.v 0])) (.or (.not (.chn .le .le (.int 32) (.idx (.v 0) (.v 4)) (.int 126))) (.cmp .eq (.idx (.v 0) (.v 4)) (.int 37)))) [.ret (.tup [.non, .blt .min false [.v 4, .blt .len false [.v 0]]])] []], .ret (.tup [.tup [.bm .join false (.str "") [.comp false (.call "_law_sign" [.v 5]) (.nm 5) [("_law_byte", 5)] (.seq (.slc false (.v 0) (some (.v 3)) (some (.bin .add false (.v 3) (.v 2))))) []]], .bin .add false (.v 3) (.v 2)])]
theorem chk__law_read_string : chkB tab N__law_read_string (defScope st__law_read_string) true true ir__law_read_string (defBody st__law_read_string) = true := by decide +kernel
/-! _law_told -/
def N__law_told : List Str := ["_law_row", "_law_found", "_law_here"]
def st__law_told : Stmt := top 57
def ir__law_told : List Cmd := [.set (.tp [(.nm 1), (.nm 2)]) (.call "_law_read" [.v 0, .int 0, .int 20]), .ife (.cmp .is (.v 1) .non) [.ret (.v 2)] [], .ret (.ife (.cmp .eq (.v 2) (.blt .len false [.v 0])) (.v 1) (.v 2))]
theorem chk__law_told : chkB tab N__law_told (defScope st__law_told) true true ir__law_told (defBody st__law_told) = true := by decide +kernel
/-! _law_read_by -/
def N__law_read_by : List Str := ["_law_row", "_law_found", "e"]
def st__law_read_by : Stmt := top 58
def ir__law_read_by : List Cmd := [.set (.nm 1) .non, .try [.set (.nm 1) (.tup [.call "parcel_of" [.v 0]])] [(["BadRow"], some 2, [.set (.nm 1) (.ife (.and (.xi 2 (.cls "RoadError")) (.xi 2 (.cls "ValueError"))) (.xf 2 "place") .non)])], .ret (.v 1)]
theorem chk__law_read_by : chkB tab N__law_read_by (defScope st__law_read_by) true true ir__law_read_by (defBody st__law_read_by) = true := by decide +kernel
/-! _law_spoilt -/
def N__law_spoilt : List Str := ["_law_pool_here", "_law_row", "_law_at", "_law_byte", "_law_some"]
def st__law_spoilt : Stmt := top 59
def ir__law_spoilt : List Cmd := [.set (.nm 2) (.call "_law_draw" [.v 0, .bin .add false (.blt .len false [.v 1]) (.int 1)]), .set (.nm 3) (.idx (.lst false [.int 0, .int 1, .int 3, .int 4, .int 5, .int 6, .int 7, .int 20, .int 21, .int 127, .int 128, .int 129, .int 255, .int 32, .int 31, .int 37]) (.call "_law_draw" [.v 0, .int 16])), .set (.nm 4) (.lst false [.slc false (.v 1) none (some (.v 2)), .bin .add false (.bin .add false (.slc false (.v 1) none (some (.v 2))) (.tup [.v 3])) (.slc false (.v 1) (some (.v 2)) none), .bin .add false (.bin .add false (.slc false (.v 1) none (some (.v 2))) (.tup [.v 3])) (.slc false (.v 1) (some (.bin .add false (.v 2) (.int 1))) none)]), .set (.nm 4) (.bin .add false (.v 4) (.lst false [.bin .add false (.slc false (.v 1) none (some (.v 2))) (.slc false (.v 1) (some (.bin .add false (.v 2) (.int 1))) none), .bin .add false (.v 1) (.tup [.v 3])])), .ret (.idx (.v 4) (.call "_law_draw" [.v 0, .int 5]))]
theorem chk__law_spoilt : chkB tab N__law_spoilt (defScope st__law_spoilt) true true ir__law_spoilt (defBody st__law_spoilt) = true := by decide +kernel
/-! _law_right -/
def N__law_right : List Str := ["_law_row", "_law_due", "_law_told_here"]
def st__law_right : Stmt := top 60
def ir__law_right : List Cmd := [.set (.tp [(.nm 1), (.nm 2)]) (.tup [.call "_law_told" [.v 0], .call "_law_read_by" [.v 0]]), .ife (.not (.isi (.v 1) [.tuple])) [.ret (.call "_law_is" [.v 2, .v 1])] [], .ret (.and (.isi (.v 2) [.tuple]) (.and (.call "_law_same" [.v 2, .v 1]) (.cmp .eq (.call "row_of" [.idx (.v 2) (.int 0)]) (.v 0))))]
theorem chk__law_right : chkB tab N__law_right (defScope st__law_right) true true ir__law_right (defBody st__law_right) = true := by decide +kernel
/-! _law_second -/
def N__law_second : List Str := ["_law_script", "_law_pool_here", "_law_turn", "_law_row", "_law_again", "_law_few", "_law_drawn", "_law_deep_here", "_law_at"]
def st__law_second : Stmt := top 61
def ir__law_second : List Cmd := [.set (.nm 1) (.call "_law_pool" [.v 0]), .for (.nm 2) (.rng (.int 4) none) [.set (.nm 3) (.blt .tuple false [.call "_law_bytes" [.call "_law_parcel" [.v 1, .int 3]]]), .for (.nm 4) (.rng (.bin .add false (.int 1) (.call "_law_draw" [.v 1, .int 4])) none) [.ife (.not (.call "_law_right" [.v 3])) [.ret (.bl false)] [], .set (.nm 3) (.call "_law_spoilt" [.v 1, .v 3])], .set (.nm 5) (.lst false [.int 0, .int 1, .int 2, .int 3, .int 4, .int 5, .int 6, .int 6, .int 6, .int 7, .int 65, .int 128, .int 130]), .set (.nm 6) (.blt .tuple false [.comp false (.idx (.v 5) (.call "_law_draw" [.v 1, .int 13])) (.nm 8) [("_law_at", 8)] (.rng (.call "_law_draw" [.v 1, .int 12]) none) []]), .ife (.or (.not (.call "_law_right" [.v 3])) (.not (.call "_law_right" [.v 6]))) [.ret (.bl false)] [], .set (.nm 7) (.blt .tuple false [.call "_law_bytes" [.call "_law_nested" [.bin .add false (.int 18) (.call "_law_draw" [.v 1, .int 5]), .idx (.lst false [.int 0, .tup [], .str "ab"]) (.call "_law_draw" [.v 1, .int 3])]]]), .ife (.or (.not (.call "_law_right" [.v 7])) (.not (.call "_law_right" [.call "_law_spoilt" [.v 1, .v 7]]))) [.ret (.bl false)] []], .ret (.call "_law_right" [.tup []])]
theorem chk__law_second : chkB tab N__law_second (defScope st__law_second) true true ir__law_second (defBody st__law_second) = true := by decide +kernel
/-! law -/
def N_law : List Str := ["_law_script"]
def st_law : Stmt := top 62
def ir_law : List Cmd := [.ret (.and (.call "_law_first" [.v 0]) (.call "_law_second" [.v 0]))]
theorem chk_law : chkB tab N_law (defScope st_law) true true ir_law (defBody st_law) = true := by decide +kernel
def st_BadRow_init : Stmt := inClass (top 4) 0
def ps_BadRow_init : List Str := ["self", "place"]
theorem bd_BadRow_init : ∀ (kV doc pm : Value) (an : Option Addr) (cdv ct : Value) (us : List Value), us.length = ps_BadRow_init.length → bindArgs (PySem.W.fnOf "__init__" "BadRow.__init__" (defArgs st_BadRow_init) (defBody st_BadRow_init) (defScope st_BadRow_init) .none kV doc pm an cdv ct) ⟨us, []⟩ = pure (ps_BadRow_init.zip us) := fun _ _ _ _ _ _ us hl => match us, hl with | [_, _], _ => rfl
def ps_is_row : List Str := ["thing"]
theorem bd_is_row : ∀ (kV doc pm : Value) (an : Option Addr) (cdv ct : Value) (us : List Value), us.length = ps_is_row.length → bindArgs (PySem.W.fnOf "is_row" "is_row" (defArgs st_is_row) (defBody st_is_row) (defScope st_is_row) .none kV doc pm an cdv ct) ⟨us, []⟩ = pure (ps_is_row.zip us) := fun _ _ _ _ _ _ us hl => match us, hl with | [_], _ => rfl
theorem sc_is_row : FnScope N_is_row ps_is_row (defScope st_is_row) := ⟨rfl, rfl, rfl, by decide +kernel, rfl, by decide +kernel, by decide +kernel⟩
def ps_check_row : List Str := ["thing"]
theorem bd_check_row : ∀ (kV doc pm : Value) (an : Option Addr) (cdv ct : Value) (us : List Value), us.length = ps_check_row.length → bindArgs (PySem.W.fnOf "check_row" "check_row" (defArgs st_check_row) (defBody st_check_row) (defScope st_check_row) .none kV doc pm an cdv ct) ⟨us, []⟩ = pure (ps_check_row.zip us) := fun _ _ _ _ _ _ us hl => match us, hl with | [_], _ => rfl
theorem sc_check_row : FnScope N_check_row ps_check_row (defScope st_check_row) := ⟨rfl, rfl, rfl, by decide +kernel, rfl, by decide +kernel, by decide +kernel⟩
def ps_is_sign : List Str := ["number"]
theorem bd_is_sign : ∀ (kV doc pm : Value) (an : Option Addr) (cdv ct : Value) (us : List Value), us.length = ps_is_sign.length → bindArgs (PySem.W.fnOf "is_sign" "is_sign" (defArgs st_is_sign) (defBody st_is_sign) (defScope st_is_sign) .none kV doc pm an cdv ct) ⟨us, []⟩ = pure (ps_is_sign.zip us) := fun _ _ _ _ _ _ us hl => match us, hl with | [_], _ => rfl
theorem sc_is_sign : FnScope N_is_sign ps_is_sign (defScope st_is_sign) := ⟨rfl, rfl, rfl, by decide +kernel, rfl, by decide +kernel, by decide +kernel⟩
def ps_is_short_string : List Str := ["thing"]
theorem bd_is_short_string : ∀ (kV doc pm : Value) (an : Option Addr) (cdv ct : Value) (us : List Value), us.length = ps_is_short_string.length → bindArgs (PySem.W.fnOf "is_short_string" "is_short_string" (defArgs st_is_short_string) (defBody st_is_short_string) (defScope st_is_short_string) .none kV doc pm an cdv ct) ⟨us, []⟩ = pure (ps_is_short_string.zip us) := fun _ _ _ _ _ _ us hl => match us, hl with | [_], _ => rfl
theorem sc_is_short_string : FnScope N_is_short_string ps_is_short_string (defScope st_is_short_string) := ⟨rfl, rfl, rfl, by decide +kernel, rfl, by decide +kernel, by decide +kernel⟩
def ps_is_parcel_deep : List Str := ["thing", "left"]
theorem bd_is_parcel_deep : ∀ (kV doc pm : Value) (an : Option Addr) (cdv ct : Value) (us : List Value), us.length = ps_is_parcel_deep.length → bindArgs (PySem.W.fnOf "is_parcel_deep" "is_parcel_deep" (defArgs st_is_parcel_deep) (defBody st_is_parcel_deep) (defScope st_is_parcel_deep) .none kV doc pm an cdv ct) ⟨us, []⟩ = pure (ps_is_parcel_deep.zip us) := fun _ _ _ _ _ _ us hl => match us, hl with | [_, _], _ => rfl
theorem sc_is_parcel_deep : FnScope N_is_parcel_deep ps_is_parcel_deep (defScope st_is_parcel_deep) := ⟨rfl, rfl, rfl, by decide +kernel, rfl, by decide +kernel, by decide +kernel⟩
def ps_is_parcel : List Str := ["thing"]
theorem bd_is_parcel : ∀ (kV doc pm : Value) (an : Option Addr) (cdv ct : Value) (us : List Value), us.length = ps_is_parcel.length → bindArgs (PySem.W.fnOf "is_parcel" "is_parcel" (defArgs st_is_parcel) (defBody st_is_parcel) (defScope st_is_parcel) .none kV doc pm an cdv ct) ⟨us, []⟩ = pure (ps_is_parcel.zip us) := fun _ _ _ _ _ _ us hl => match us, hl with | [_], _ => rfl
theorem sc_is_parcel : FnScope N_is_parcel ps_is_parcel (defScope st_is_parcel) := ⟨rfl, rfl, rfl, by decide +kernel, rfl, by decide +kernel, by decide +kernel⟩
def ps_whole : List Str := ["number"]
theorem bd_whole : ∀ (kV doc pm : Value) (an : Option Addr) (cdv ct : Value) (us : List Value), us.length = ps_whole.length → bindArgs (PySem.W.fnOf "whole" "whole" (defArgs st_whole) (defBody st_whole) (defScope st_whole) .none kV doc pm an cdv ct) ⟨us, []⟩ = pure (ps_whole.zip us) := fun _ _ _ _ _ _ us hl => match us, hl with | [_], _ => rfl
theorem sc_whole : FnScope N_whole ps_whole (defScope st_whole) := ⟨rfl, rfl, rfl, by decide +kernel, rfl, by decide +kernel, by decide +kernel⟩
def ps_bytes_of : List Str := ["parcel"]
theorem bd_bytes_of : ∀ (kV doc pm : Value) (an : Option Addr) (cdv ct : Value) (us : List Value), us.length = ps_bytes_of.length → bindArgs (PySem.W.fnOf "bytes_of" "bytes_of" (defArgs st_bytes_of) (defBody st_bytes_of) (defScope st_bytes_of) .none kV doc pm an cdv ct) ⟨us, []⟩ = pure (ps_bytes_of.zip us) := fun _ _ _ _ _ _ us hl => match us, hl with | [_], _ => rfl
theorem sc_bytes_of : FnScope N_bytes_of ps_bytes_of (defScope st_bytes_of) := ⟨rfl, rfl, rfl, by decide +kernel, rfl, by decide +kernel, by decide +kernel⟩
def ps_row_of : List Str := ["parcel"]
theorem bd_row_of : ∀ (kV doc pm : Value) (an : Option Addr) (cdv ct : Value) (us : List Value), us.length = ps_row_of.length → bindArgs (PySem.W.fnOf "row_of" "row_of" (defArgs st_row_of) (defBody st_row_of) (defScope st_row_of) .none kV doc pm an cdv ct) ⟨us, []⟩ = pure (ps_row_of.zip us) := fun _ _ _ _ _ _ us hl => match us, hl with | [_], _ => rfl
theorem sc_row_of : FnScope N_row_of ps_row_of (defScope st_row_of) := ⟨rfl, rfl, rfl, by decide +kernel, rfl, by decide +kernel, by decide +kernel⟩
def ps_RowReader_init : List Str := ["self", "row"]
theorem bd_RowReader_init : ∀ (kV doc pm : Value) (an : Option Addr) (cdv ct : Value) (us : List Value), us.length = ps_RowReader_init.length → bindArgs (PySem.W.fnOf "__init__" "RowReader.__init__" (defArgs st_RowReader_init) (defBody st_RowReader_init) (defScope st_RowReader_init) .none kV doc pm an cdv ct) ⟨us, []⟩ = pure (ps_RowReader_init.zip us) := fun _ _ _ _ _ _ us hl => match us, hl with | [_, _], _ => rfl
theorem sc_RowReader_init : FnScope N_RowReader_init ps_RowReader_init (defScope st_RowReader_init) := ⟨rfl, rfl, rfl, by decide +kernel, rfl, by decide +kernel, by decide +kernel⟩
def ps_RowReader_next_byte : List Str := ["self"]
theorem bd_RowReader_next_byte : ∀ (kV doc pm : Value) (an : Option Addr) (cdv ct : Value) (us : List Value), us.length = ps_RowReader_next_byte.length → bindArgs (PySem.W.fnOf "next_byte" "RowReader.next_byte" (defArgs st_RowReader_next_byte) (defBody st_RowReader_next_byte) (defScope st_RowReader_next_byte) .none kV doc pm an cdv ct) ⟨us, []⟩ = pure (ps_RowReader_next_byte.zip us) := fun _ _ _ _ _ _ us hl => match us, hl with | [_], _ => rfl
theorem sc_RowReader_next_byte : FnScope N_RowReader_next_byte ps_RowReader_next_byte (defScope st_RowReader_next_byte) := ⟨rfl, rfl, rfl, by decide +kernel, rfl, by decide +kernel, by decide +kernel⟩
def ps_RowReader_read_whole : List Str := ["self"]
theorem bd_RowReader_read_whole : ∀ (kV doc pm : Value) (an : Option Addr) (cdv ct : Value) (us : List Value), us.length = ps_RowReader_read_whole.length → bindArgs (PySem.W.fnOf "read_whole" "RowReader.read_whole" (defArgs st_RowReader_read_whole) (defBody st_RowReader_read_whole) (defScope st_RowReader_read_whole) .none kV doc pm an cdv ct) ⟨us, []⟩ = pure (ps_RowReader_read_whole.zip us) := fun _ _ _ _ _ _ us hl => match us, hl with | [_], _ => rfl
theorem sc_RowReader_read_whole : FnScope N_RowReader_read_whole ps_RowReader_read_whole (defScope st_RowReader_read_whole) := ⟨rfl, rfl, rfl, by decide +kernel, rfl, by decide +kernel, by decide +kernel⟩
def ps_RowReader_read_string : List Str := ["self"]
theorem bd_RowReader_read_string : ∀ (kV doc pm : Value) (an : Option Addr) (cdv ct : Value) (us : List Value), us.length = ps_RowReader_read_string.length → bindArgs (PySem.W.fnOf "read_string" "RowReader.read_string" (defArgs st_RowReader_read_string) (defBody st_RowReader_read_string) (defScope st_RowReader_read_string) .none kV doc pm an cdv ct) ⟨us, []⟩ = pure (ps_RowReader_read_string.zip us) := fun _ _ _ _ _ _ us hl => match us, hl with | [_], _ => rfl
theorem sc_RowReader_read_string : FnScope N_RowReader_read_string ps_RowReader_read_string (defScope st_RowReader_read_string) := ⟨rfl, rfl, rfl, by decide +kernel, rfl, by decide +kernel, by decide +kernel⟩
def ps_RowReader_read_several : List Str := ["self", "left"]
theorem bd_RowReader_read_several : ∀ (kV doc pm : Value) (an : Option Addr) (cdv ct : Value) (us : List Value), us.length = ps_RowReader_read_several.length → bindArgs (PySem.W.fnOf "read_several" "RowReader.read_several" (defArgs st_RowReader_read_several) (defBody st_RowReader_read_several) (defScope st_RowReader_read_several) .none kV doc pm an cdv ct) ⟨us, []⟩ = pure (ps_RowReader_read_several.zip us) := fun _ _ _ _ _ _ us hl => match us, hl with | [_, _], _ => rfl
theorem sc_RowReader_read_several : FnScope N_RowReader_read_several ps_RowReader_read_several (defScope st_RowReader_read_several) := ⟨rfl, rfl, rfl, by decide +kernel, rfl, by decide +kernel, by decide +kernel⟩
def ps_RowReader_read_parcel : List Str := ["self", "left"]
theorem bd_RowReader_read_parcel : ∀ (kV doc pm : Value) (an : Option Addr) (cdv ct : Value) (us : List Value), us.length = ps_RowReader_read_parcel.length → bindArgs (PySem.W.fnOf "read_parcel" "RowReader.read_parcel" (defArgs st_RowReader_read_parcel) (defBody st_RowReader_read_parcel) (defScope st_RowReader_read_parcel) .none kV doc pm an cdv ct) ⟨us, []⟩ = pure (ps_RowReader_read_parcel.zip us) := fun _ _ _ _ _ _ us hl => match us, hl with | [_, _], _ => rfl
theorem sc_RowReader_read_parcel : FnScope N_RowReader_read_parcel ps_RowReader_read_parcel (defScope st_RowReader_read_parcel) := ⟨rfl, rfl, rfl, by decide +kernel, rfl, by decide +kernel, by decide +kernel⟩
def ps_parcel_of : List Str := ["row"]
theorem bd_parcel_of : ∀ (kV doc pm : Value) (an : Option Addr) (cdv ct : Value) (us : List Value), us.length = ps_parcel_of.length → bindArgs (PySem.W.fnOf "parcel_of" "parcel_of" (defArgs st_parcel_of) (defBody st_parcel_of) (defScope st_parcel_of) .none kV doc pm an cdv ct) ⟨us, []⟩ = pure (ps_parcel_of.zip us) := fun _ _ _ _ _ _ us hl => match us, hl with | [_], _ => rfl
theorem sc_parcel_of : FnScope N_parcel_of ps_parcel_of (defScope st_parcel_of) := ⟨rfl, rfl, rfl, by decide +kernel, rfl, by decide +kernel, by decide +kernel⟩
def ps_raw_mark : List Str := ["row"]
theorem bd_raw_mark : ∀ (kV doc pm : Value) (an : Option Addr) (cdv ct : Value) (us : List Value), us.length = ps_raw_mark.length → bindArgs (PySem.W.fnOf "raw_mark" "raw_mark" (defArgs st_raw_mark) (defBody st_raw_mark) (defScope st_raw_mark) .none kV doc pm an cdv ct) ⟨us, []⟩ = pure (ps_raw_mark.zip us) := fun _ _ _ _ _ _ us hl => match us, hl with | [_], _ => rfl
theorem sc_raw_mark : FnScope N_raw_mark ps_raw_mark (defScope st_raw_mark) := ⟨rfl, rfl, rfl, by decide +kernel, rfl, by decide +kernel, by decide +kernel⟩
def ps_seal_of : List Str := ["row"]
theorem bd_seal_of : ∀ (kV doc pm : Value) (an : Option Addr) (cdv ct : Value) (us : List Value), us.length = ps_seal_of.length → bindArgs (PySem.W.fnOf "seal_of" "seal_of" (defArgs st_seal_of) (defBody st_seal_of) (defScope st_seal_of) .none kV doc pm an cdv ct) ⟨us, []⟩ = pure (ps_seal_of.zip us) := fun _ _ _ _ _ _ us hl => match us, hl with | [_], _ => rfl
theorem sc_seal_of : FnScope N_seal_of ps_seal_of (defScope st_seal_of) := ⟨rfl, rfl, rfl, by decide +kernel, rfl, by decide +kernel, by decide +kernel⟩
def ps_sealed : List Str := ["parcel"]
theorem bd_sealed : ∀ (kV doc pm : Value) (an : Option Addr) (cdv ct : Value) (us : List Value), us.length = ps_sealed.length → bindArgs (PySem.W.fnOf "sealed" "sealed" (defArgs st_sealed) (defBody st_sealed) (defScope st_sealed) .none kV doc pm an cdv ct) ⟨us, []⟩ = pure (ps_sealed.zip us) := fun _ _ _ _ _ _ us hl => match us, hl with | [_], _ => rfl
theorem sc_sealed : FnScope N_sealed ps_sealed (defScope st_sealed) := ⟨rfl, rfl, rfl, by decide +kernel, rfl, by decide +kernel, by decide +kernel⟩
def ps__law_pool : List Str := ["_law_script"]
theorem bd__law_pool : ∀ (kV doc pm : Value) (an : Option Addr) (cdv ct : Value) (us : List Value), us.length = ps__law_pool.length → bindArgs (PySem.W.fnOf "_law_pool" "_law_pool" (defArgs st__law_pool) (defBody st__law_pool) (defScope st__law_pool) .none kV doc pm an cdv ct) ⟨us, []⟩ = pure (ps__law_pool.zip us) := fun _ _ _ _ _ _ us hl => match us, hl with | [_], _ => rfl
theorem sc__law_pool : FnScope N__law_pool ps__law_pool (defScope st__law_pool) := ⟨rfl, rfl, rfl, by decide +kernel, rfl, by decide +kernel, by decide +kernel⟩
def ps__law_draw : List Str := ["_law_pool_here", "_law_many"]
theorem bd__law_draw : ∀ (kV doc pm : Value) (an : Option Addr) (cdv ct : Value) (us : List Value), us.length = ps__law_draw.length → bindArgs (PySem.W.fnOf "_law_draw" "_law_draw" (defArgs st__law_draw) (defBody st__law_draw) (defScope st__law_draw) .none kV doc pm an cdv ct) ⟨us, []⟩ = pure (ps__law_draw.zip us) := fun _ _ _ _ _ _ us hl => match us, hl with | [_, _], _ => rfl
theorem sc__law_draw : FnScope N__law_draw ps__law_draw (defScope st__law_draw) := ⟨rfl, rfl, rfl, by decide +kernel, rfl, by decide +kernel, by decide +kernel⟩
def ps__law_deep : List Str := []
theorem bd__law_deep : ∀ (kV doc pm : Value) (an : Option Addr) (cdv ct : Value) (us : List Value), us.length = ps__law_deep.length → bindArgs (PySem.W.fnOf "_law_deep" "_law_deep" (defArgs st__law_deep) (defBody st__law_deep) (defScope st__law_deep) .none kV doc pm an cdv ct) ⟨us, []⟩ = pure (ps__law_deep.zip us) := fun _ _ _ _ _ _ us hl => match us, hl with | [], _ => rfl
theorem sc__law_deep : FnScope N__law_deep ps__law_deep (defScope st__law_deep) := ⟨rfl, rfl, rfl, by decide +kernel, rfl, by decide +kernel, by decide +kernel⟩
def ps__law_flag : List Str := ["_law_thing", "_law_due"]
theorem bd__law_flag : ∀ (kV doc pm : Value) (an : Option Addr) (cdv ct : Value) (us : List Value), us.length = ps__law_flag.length → bindArgs (PySem.W.fnOf "_law_flag" "_law_flag" (defArgs st__law_flag) (defBody st__law_flag) (defScope st__law_flag) .none kV doc pm an cdv ct) ⟨us, []⟩ = pure (ps__law_flag.zip us) := fun _ _ _ _ _ _ us hl => match us, hl with | [_, _], _ => rfl
theorem sc__law_flag : FnScope N__law_flag ps__law_flag (defScope st__law_flag) := ⟨rfl, rfl, rfl, by decide +kernel, rfl, by decide +kernel, by decide +kernel⟩
def ps__law_whole : List Str := ["_law_number_here"]
theorem bd__law_whole : ∀ (kV doc pm : Value) (an : Option Addr) (cdv ct : Value) (us : List Value), us.length = ps__law_whole.length → bindArgs (PySem.W.fnOf "_law_whole" "_law_whole" (defArgs st__law_whole) (defBody st__law_whole) (defScope st__law_whole) .none kV doc pm an cdv ct) ⟨us, []⟩ = pure (ps__law_whole.zip us) := fun _ _ _ _ _ _ us hl => match us, hl with | [_], _ => rfl
theorem sc__law_whole : FnScope N__law_whole ps__law_whole (defScope st__law_whole) := ⟨rfl, rfl, rfl, by decide +kernel, rfl, by decide +kernel, by decide +kernel⟩
def ps__law_bytes : List Str := ["_law_parcel_here"]
theorem bd__law_bytes : ∀ (kV doc pm : Value) (an : Option Addr) (cdv ct : Value) (us : List Value), us.length = ps__law_bytes.length → bindArgs (PySem.W.fnOf "_law_bytes" "_law_bytes" (defArgs st__law_bytes) (defBody st__law_bytes) (defScope st__law_bytes) .none kV doc pm an cdv ct) ⟨us, []⟩ = pure (ps__law_bytes.zip us) := fun _ _ _ _ _ _ us hl => match us, hl with | [_], _ => rfl
theorem sc__law_bytes : FnScope N__law_bytes ps__law_bytes (defScope st__law_bytes) := ⟨rfl, rfl, rfl, by decide +kernel, rfl, by decide +kernel, by decide +kernel⟩
def ps__law_number : List Str := ["_law_pool_here"]
theorem bd__law_number : ∀ (kV doc pm : Value) (an : Option Addr) (cdv ct : Value) (us : List Value), us.length = ps__law_number.length → bindArgs (PySem.W.fnOf "_law_number" "_law_number" (defArgs st__law_number) (defBody st__law_number) (defScope st__law_number) .none kV doc pm an cdv ct) ⟨us, []⟩ = pure (ps__law_number.zip us) := fun _ _ _ _ _ _ us hl => match us, hl with | [_], _ => rfl
theorem sc__law_number : FnScope N__law_number ps__law_number (defScope st__law_number) := ⟨rfl, rfl, rfl, by decide +kernel, rfl, by decide +kernel, by decide +kernel⟩
def ps__law_parcel : List Str := ["_law_pool_here", "_law_deep_here"]
theorem bd__law_parcel : ∀ (kV doc pm : Value) (an : Option Addr) (cdv ct : Value) (us : List Value), us.length = ps__law_parcel.length → bindArgs (PySem.W.fnOf "_law_parcel" "_law_parcel" (defArgs st__law_parcel) (defBody st__law_parcel) (defScope st__law_parcel) .none kV doc pm an cdv ct) ⟨us, []⟩ = pure (ps__law_parcel.zip us) := fun _ _ _ _ _ _ us hl => match us, hl with | [_, _], _ => rfl
theorem sc__law_parcel : FnScope N__law_parcel ps__law_parcel (defScope st__law_parcel) := ⟨rfl, rfl, rfl, by decide +kernel, rfl, by decide +kernel, by decide +kernel⟩
def ps__law_nested : List Str := ["_law_many", "_law_inner"]
theorem bd__law_nested : ∀ (kV doc pm : Value) (an : Option Addr) (cdv ct : Value) (us : List Value), us.length = ps__law_nested.length → bindArgs (PySem.W.fnOf "_law_nested" "_law_nested" (defArgs st__law_nested) (defBody st__law_nested) (defScope st__law_nested) .none kV doc pm an cdv ct) ⟨us, []⟩ = pure (ps__law_nested.zip us) := fun _ _ _ _ _ _ us hl => match us, hl with | [_, _], _ => rfl
theorem sc__law_nested : FnScope N__law_nested ps__law_nested (defScope st__law_nested) := ⟨rfl, rfl, rfl, by decide +kernel, rfl, by decide +kernel, by decide +kernel⟩
def ps__law_same : List Str := ["_law_one", "_law_other"]
theorem bd__law_same : ∀ (kV doc pm : Value) (an : Option Addr) (cdv ct : Value) (us : List Value), us.length = ps__law_same.length → bindArgs (PySem.W.fnOf "_law_same" "_law_same" (defArgs st__law_same) (defBody st__law_same) (defScope st__law_same) .none kV doc pm an cdv ct) ⟨us, []⟩ = pure (ps__law_same.zip us) := fun _ _ _ _ _ _ us hl => match us, hl with | [_, _], _ => rfl
theorem sc__law_same : FnScope N__law_same ps__law_same (defScope st__law_same) := ⟨rfl, rfl, rfl, by decide +kernel, rfl, by decide +kernel, by decide +kernel⟩
def ps__law_is_parcel : List Str := ["_law_thing", "_law_left"]
theorem bd__law_is_parcel : ∀ (kV doc pm : Value) (an : Option Addr) (cdv ct : Value) (us : List Value), us.length = ps__law_is_parcel.length → bindArgs (PySem.W.fnOf "_law_is_parcel" "_law_is_parcel" (defArgs st__law_is_parcel) (defBody st__law_is_parcel) (defScope st__law_is_parcel) .none kV doc pm an cdv ct) ⟨us, []⟩ = pure (ps__law_is_parcel.zip us) := fun _ _ _ _ _ _ us hl => match us, hl with | [_, _], _ => rfl
theorem sc__law_is_parcel : FnScope N__law_is_parcel ps__law_is_parcel (defScope st__law_is_parcel) := ⟨rfl, rfl, rfl, by decide +kernel, rfl, by decide +kernel, by decide +kernel⟩
def ps__law_word : List Str := ["_law_which", "_law_thing"]
theorem bd__law_word : ∀ (kV doc pm : Value) (an : Option Addr) (cdv ct : Value) (us : List Value), us.length = ps__law_word.length → bindArgs (PySem.W.fnOf "_law_word" "_law_word" (defArgs st__law_word) (defBody st__law_word) (defScope st__law_word) .none kV doc pm an cdv ct) ⟨us, []⟩ = pure (ps__law_word.zip us) := fun _ _ _ _ _ _ us hl => match us, hl with | [_, _], _ => rfl
theorem sc__law_word : FnScope N__law_word ps__law_word (defScope st__law_word) := ⟨rfl, rfl, rfl, by decide +kernel, rfl, by decide +kernel, by decide +kernel⟩
def ps__law_first : List Str := ["_law_script"]
theorem bd__law_first : ∀ (kV doc pm : Value) (an : Option Addr) (cdv ct : Value) (us : List Value), us.length = ps__law_first.length → bindArgs (PySem.W.fnOf "_law_first" "_law_first" (defArgs st__law_first) (defBody st__law_first) (defScope st__law_first) .none kV doc pm an cdv ct) ⟨us, []⟩ = pure (ps__law_first.zip us) := fun _ _ _ _ _ _ us hl => match us, hl with | [_], _ => rfl
theorem sc__law_first : FnScope N__law_first ps__law_first (defScope st__law_first) := ⟨rfl, rfl, rfl, by decide +kernel, rfl, by decide +kernel, by decide +kernel⟩
def ps__law_is : List Str := ["_law_told_here", "_law_due"]
theorem bd__law_is : ∀ (kV doc pm : Value) (an : Option Addr) (cdv ct : Value) (us : List Value), us.length = ps__law_is.length → bindArgs (PySem.W.fnOf "_law_is" "_law_is" (defArgs st__law_is) (defBody st__law_is) (defScope st__law_is) .none kV doc pm an cdv ct) ⟨us, []⟩ = pure (ps__law_is.zip us) := fun _ _ _ _ _ _ us hl => match us, hl with | [_, _], _ => rfl
theorem sc__law_is : FnScope N__law_is ps__law_is (defScope st__law_is) := ⟨rfl, rfl, rfl, by decide +kernel, rfl, by decide +kernel, by decide +kernel⟩
def ps__law_sign : List Str := ["_law_byte"]
theorem bd__law_sign : ∀ (kV doc pm : Value) (an : Option Addr) (cdv ct : Value) (us : List Value), us.length = ps__law_sign.length → bindArgs (PySem.W.fnOf "_law_sign" "_law_sign" (defArgs st__law_sign) (defBody st__law_sign) (defScope st__law_sign) .none kV doc pm an cdv ct) ⟨us, []⟩ = pure (ps__law_sign.zip us) := fun _ _ _ _ _ _ us hl => match us, hl with | [_], _ => rfl
theorem sc__law_sign : FnScope N__law_sign ps__law_sign (defScope st__law_sign) := ⟨rfl, rfl, rfl, by decide +kernel, rfl, by decide +kernel, by decide +kernel⟩
def ps__law_read_whole : List Str := ["_law_row", "_law_at"]
theorem bd__law_read_whole : ∀ (kV doc pm : Value) (an : Option Addr) (cdv ct : Value) (us : List Value), us.length = ps__law_read_whole.length → bindArgs (PySem.W.fnOf "_law_read_whole" "_law_read_whole" (defArgs st__law_read_whole) (defBody st__law_read_whole) (defScope st__law_read_whole) .none kV doc pm an cdv ct) ⟨us, []⟩ = pure (ps__law_read_whole.zip us) := fun _ _ _ _ _ _ us hl => match us, hl with | [_, _], _ => rfl
theorem sc__law_read_whole : FnScope N__law_read_whole ps__law_read_whole (defScope st__law_read_whole) := ⟨rfl, rfl, rfl, by decide +kernel, rfl, by decide +kernel, by decide +kernel⟩
def ps__law_read : List Str := ["_law_row", "_law_at", "_law_left"]
theorem bd__law_read : ∀ (kV doc pm : Value) (an : Option Addr) (cdv ct : Value) (us : List Value), us.length = ps__law_read.length → bindArgs (PySem.W.fnOf "_law_read" "_law_read" (defArgs st__law_read) (defBody st__law_read) (defScope st__law_read) .none kV doc pm an cdv ct) ⟨us, []⟩ = pure (ps__law_read.zip us) := fun _ _ _ _ _ _ us hl => match us, hl with | [_, _, _], _ => rfl
theorem sc__law_read : FnScope N__law_read ps__law_read (defScope st__law_read) := ⟨rfl, rfl, rfl, by decide +kernel, rfl, by decide +kernel, by decide +kernel⟩
def ps__law_read_string : List Str := ["_law_row", "_law_begin", "_law_many", "_law_here"]
theorem bd__law_read_string : ∀ (kV doc pm : Value) (an : Option Addr) (cdv ct : Value) (us : List Value), us.length = ps__law_read_string.length → bindArgs (PySem.W.fnOf "_law_read_string" "_law_read_string" (defArgs st__law_read_string) (defBody st__law_read_string) (defScope st__law_read_string) .none kV doc pm an cdv ct) ⟨us, []⟩ = pure (ps__law_read_string.zip us) := fun _ _ _ _ _ _ us hl => match us, hl with | [_, _, _, _], _ => rfl
theorem sc__law_read_string : FnScope N__law_read_string ps__law_read_string (defScope st__law_read_string) := ⟨rfl, rfl, rfl, by decide +kernel, rfl, by decide +kernel, by decide +kernel⟩
def ps__law_told : List Str := ["_law_row"]
theorem bd__law_told : ∀ (kV doc pm : Value) (an : Option Addr) (cdv ct : Value) (us : List Value), us.length = ps__law_told.length → bindArgs (PySem.W.fnOf "_law_told" "_law_told" (defArgs st__law_told) (defBody st__law_told) (defScope st__law_told) .none kV doc pm an cdv ct) ⟨us, []⟩ = pure (ps__law_told.zip us) := fun _ _ _ _ _ _ us hl => match us, hl with | [_], _ => rfl
theorem sc__law_told : FnScope N__law_told ps__law_told (defScope st__law_told) := ⟨rfl, rfl, rfl, by decide +kernel, rfl, by decide +kernel, by decide +kernel⟩
def ps__law_read_by : List Str := ["_law_row"]
theorem bd__law_read_by : ∀ (kV doc pm : Value) (an : Option Addr) (cdv ct : Value) (us : List Value), us.length = ps__law_read_by.length → bindArgs (PySem.W.fnOf "_law_read_by" "_law_read_by" (defArgs st__law_read_by) (defBody st__law_read_by) (defScope st__law_read_by) .none kV doc pm an cdv ct) ⟨us, []⟩ = pure (ps__law_read_by.zip us) := fun _ _ _ _ _ _ us hl => match us, hl with | [_], _ => rfl
theorem sc__law_read_by : FnScope N__law_read_by ps__law_read_by (defScope st__law_read_by) := ⟨rfl, rfl, rfl, by decide +kernel, rfl, by decide +kernel, by decide +kernel⟩
def ps__law_spoilt : List Str := ["_law_pool_here", "_law_row"]
theorem bd__law_spoilt : ∀ (kV doc pm : Value) (an : Option Addr) (cdv ct : Value) (us : List Value), us.length = ps__law_spoilt.length → bindArgs (PySem.W.fnOf "_law_spoilt" "_law_spoilt" (defArgs st__law_spoilt) (defBody st__law_spoilt) (defScope st__law_spoilt) .none kV doc pm an cdv ct) ⟨us, []⟩ = pure (ps__law_spoilt.zip us) := fun _ _ _ _ _ _ us hl => match us, hl with | [_, _], _ => rfl
theorem sc__law_spoilt : FnScope N__law_spoilt ps__law_spoilt (defScope st__law_spoilt) := ⟨rfl, rfl, rfl, by decide +kernel, rfl, by decide +kernel, by decide +kernel⟩
def ps__law_right : List Str := ["_law_row"]
theorem bd__law_right : ∀ (kV doc pm : Value) (an : Option Addr) (cdv ct : Value) (us : List Value), us.length = ps__law_right.length → bindArgs (PySem.W.fnOf "_law_right" "_law_right" (defArgs st__law_right) (defBody st__law_right) (defScope st__law_right) .none kV doc pm an cdv ct) ⟨us, []⟩ = pure (ps__law_right.zip us) := fun _ _ _ _ _ _ us hl => match us, hl with | [_], _ => rfl
theorem sc__law_right : FnScope N__law_right ps__law_right (defScope st__law_right) := ⟨rfl, rfl, rfl, by decide +kernel, rfl, by decide +kernel, by decide +kernel⟩
def ps__law_second : List Str := ["_law_script"]
theorem bd__law_second : ∀ (kV doc pm : Value) (an : Option Addr) (cdv ct : Value) (us : List Value), us.length = ps__law_second.length → bindArgs (PySem.W.fnOf "_law_second" "_law_second" (defArgs st__law_second) (defBody st__law_second) (defScope st__law_second) .none kV doc pm an cdv ct) ⟨us, []⟩ = pure (ps__law_second.zip us) := fun _ _ _ _ _ _ us hl => match us, hl with | [_], _ => rfl
theorem sc__law_second : FnScope N__law_second ps__law_second (defScope st__law_second) := ⟨rfl, rfl, rfl, by decide +kernel, rfl, by decide +kernel, by decide +kernel⟩
def ps_law : List Str := ["_law_script"]
theorem bd_law : ∀ (kV doc pm : Value) (an : Option Addr) (cdv ct : Value) (us : List Value), us.length = ps_law.length → bindArgs (PySem.W.fnOf "law" "law" (defArgs st_law) (defBody st_law) (defScope st_law) .none kV doc pm an cdv ct) ⟨us, []⟩ = pure (ps_law.zip us) := fun _ _ _ _ _ _ us hl => match us, hl with | [_], _ => rfl
theorem sc_law : FnScope N_law ps_law (defScope st_law) := ⟨rfl, rfl, rfl, by decide +kernel, rfl, by decide +kernel, by decide +kernel⟩
def fns : List FnI := [⟨"is_row", st_is_row, ps_is_row⟩, ⟨"check_row", st_check_row, ps_check_row⟩, ⟨"is_sign", st_is_sign, ps_is_sign⟩, ⟨"is_short_string", st_is_short_string, ps_is_short_string⟩, ⟨"is_parcel_deep", st_is_parcel_deep, ps_is_parcel_deep⟩, ⟨"is_parcel", st_is_parcel, ps_is_parcel⟩, ⟨"whole", st_whole, ps_whole⟩, ⟨"bytes_of", st_bytes_of, ps_bytes_of⟩, ⟨"row_of", st_row_of, ps_row_of⟩, ⟨"parcel_of", st_parcel_of, ps_parcel_of⟩, ⟨"raw_mark", st_raw_mark, ps_raw_mark⟩, ⟨"seal_of", st_seal_of, ps_seal_of⟩, ⟨"sealed", st_sealed, ps_sealed⟩, ⟨"_law_pool", st__law_pool, ps__law_pool⟩, ⟨"_law_draw", st__law_draw, ps__law_draw⟩, ⟨"_law_deep", st__law_deep, ps__law_deep⟩, ⟨"_law_flag", st__law_flag, ps__law_flag⟩, ⟨"_law_whole", st__law_whole, ps__law_whole⟩, ⟨"_law_bytes", st__law_bytes, ps__law_bytes⟩, ⟨"_law_number", st__law_number, ps__law_number⟩, ⟨"_law_parcel", st__law_parcel, ps__law_parcel⟩, ⟨"_law_nested", st__law_nested, ps__law_nested⟩, ⟨"_law_same", st__law_same, ps__law_same⟩, ⟨"_law_is_parcel", st__law_is_parcel, ps__law_is_parcel⟩, ⟨"_law_word", st__law_word, ps__law_word⟩, ⟨"_law_first", st__law_first, ps__law_first⟩, ⟨"_law_is", st__law_is, ps__law_is⟩, ⟨"_law_sign", st__law_sign, ps__law_sign⟩, ⟨"_law_read_whole", st__law_read_whole, ps__law_read_whole⟩, ⟨"_law_read", st__law_read, ps__law_read⟩, ⟨"_law_read_string", st__law_read_string, ps__law_read_string⟩, ⟨"_law_told", st__law_told, ps__law_told⟩, ⟨"_law_read_by", st__law_read_by, ps__law_read_by⟩, ⟨"_law_spoilt", st__law_spoilt, ps__law_spoilt⟩, ⟨"_law_right", st__law_right, ps__law_right⟩, ⟨"_law_second", st__law_second, ps__law_second⟩, ⟨"law", st_law, ps_law⟩]
def mts : List MtI := [⟨"BadRow", "__init__", "BadRow.__init__", st_BadRow_init, ps_BadRow_init⟩, ⟨"RowReader", "__init__", "RowReader.__init__", st_RowReader_init, ps_RowReader_init⟩, ⟨"RowReader", "next_byte", "RowReader.next_byte", st_RowReader_next_byte, ps_RowReader_next_byte⟩, ⟨"RowReader", "read_whole", "RowReader.read_whole", st_RowReader_read_whole, ps_RowReader_read_whole⟩, ⟨"RowReader", "read_string", "RowReader.read_string", st_RowReader_read_string, ps_RowReader_read_string⟩, ⟨"RowReader", "read_several", "RowReader.read_several", st_RowReader_read_several, ps_RowReader_read_several⟩, ⟨"RowReader", "read_parcel", "RowReader.read_parcel", st_RowReader_read_parcel, ps_RowReader_read_parcel⟩]
def src : Src where
  T := tab
  fns := fns
  mts := mts
  names := ["RoadError", "NoParcel", "NoRow", "BadRow", "RowReader"]
  subT := [(("RoadError" : Str), ["ValueError", "Exception", "BaseException"]), (("NoParcel" : Str), ["RoadError", "ValueError", "Exception", "BaseException"]), (("NoRow" : Str), ["RoadError", "ValueError", "Exception", "BaseException"]), (("BadRow" : Str), ["RoadError", "ValueError", "Exception", "BaseException"])]
  gcs := [(("NOTHING" : Str), D.int (0)), (("NO" : Str), D.int (1)), (("YES" : Str), D.int (2)), (("NUMBER" : Str), D.int (3)), (("BELOW" : Str), D.int (4)), (("STRING" : Str), D.int (5)), (("SEVERAL" : Str), D.int (6)), (("MOST_DEEP" : Str), D.int (20)), (("MOST_SIGNS" : Str), D.int (20)), (("FIRST_SIGN" : Str), D.int (32)), (("LAST_SIGN" : Str), D.int (126)), (("NO_SIGN" : Str), D.int (37)), (("BASE" : Str), D.int (128)), (("BYTES" : Str), D.int (256)), (("MULTIPLIER" : Str), D.int (1000003)), (("MODULUS" : Str), D.int (2305843009213693951)), (("SEAL_BYTES" : Str), D.int (4)), (("SIGNS" : Str), D.str " !\"#$ &'()*+,-./0123456789:;<=>?@ABCDEFGHIJKLMNOPQRSTUVWXYZ[\\]^_`abcdefghijklmnopqrstuvwxyz{|}~")]
theorem fit : src.fitB = true := by decide +kernel
theorem xfb : xfB tab = true := by decide +kernel
theorem fns_ok {K : PySem.W.Frag} (h_is_row : FnAt K "is_row" st_is_row ps_is_row) (h_check_row : FnAt K "check_row" st_check_row ps_check_row) (h_is_sign : FnAt K "is_sign" st_is_sign ps_is_sign) (h_is_short_string : FnAt K "is_short_string" st_is_short_string ps_is_short_string) (h_is_parcel_deep : FnAt K "is_parcel_deep" st_is_parcel_deep ps_is_parcel_deep) (h_is_parcel : FnAt K "is_parcel" st_is_parcel ps_is_parcel) (h_whole : FnAt K "whole" st_whole ps_whole) (h_bytes_of : FnAt K "bytes_of" st_bytes_of ps_bytes_of) (h_row_of : FnAt K "row_of" st_row_of ps_row_of) (h_parcel_of : FnAt K "parcel_of" st_parcel_of ps_parcel_of) (h_raw_mark : FnAt K "raw_mark" st_raw_mark ps_raw_mark) (h_seal_of : FnAt K "seal_of" st_seal_of ps_seal_of) (h_sealed : FnAt K "sealed" st_sealed ps_sealed) (h__law_pool : FnAt K "_law_pool" st__law_pool ps__law_pool) (h__law_draw : FnAt K "_law_draw" st__law_draw ps__law_draw) (h__law_deep : FnAt K "_law_deep" st__law_deep ps__law_deep) (h__law_flag : FnAt K "_law_flag" st__law_flag ps__law_flag) (h__law_whole : FnAt K "_law_whole" st__law_whole ps__law_whole) (h__law_bytes : FnAt K "_law_bytes" st__law_bytes ps__law_bytes) (h__law_number : FnAt K "_law_number" st__law_number ps__law_number) (h__law_parcel : FnAt K "_law_parcel" st__law_parcel ps__law_parcel) (h__law_nested : FnAt K "_law_nested" st__law_nested ps__law_nested) (h__law_same : FnAt K "_law_same" st__law_same ps__law_same) (h__law_is_parcel : FnAt K "_law_is_parcel" st__law_is_parcel ps__law_is_parcel) (h__law_word : FnAt K "_law_word" st__law_word ps__law_word) (h__law_first : FnAt K "_law_first" st__law_first ps__law_first) (h__law_is : FnAt K "_law_is" st__law_is ps__law_is) (h__law_sign : FnAt K "_law_sign" st__law_sign ps__law_sign) (h__law_read_whole : FnAt K "_law_read_whole" st__law_read_whole ps__law_read_whole) (h__law_read : FnAt K "_law_read" st__law_read ps__law_read) (h__law_read_string : FnAt K "_law_read_string" st__law_read_string ps__law_read_string) (h__law_told : FnAt K "_law_told" st__law_told ps__law_told) (h__law_read_by : FnAt K "_law_read_by" st__law_read_by ps__law_read_by) (h__law_spoilt : FnAt K "_law_spoilt" st__law_spoilt ps__law_spoilt) (h__law_right : FnAt K "_law_right" st__law_right ps__law_right) (h__law_second : FnAt K "_law_second" st__law_second ps__law_second) (h_law : FnAt K "law" st_law ps_law) : ∀ e ∈ src.fns, FnAt K e.x e.st e.ps := all_cons (a := (⟨"is_row", st_is_row, ps_is_row⟩ : FnI)) (P := fun e : FnI => FnAt K e.x e.st e.ps) h_is_row (all_cons (a := (⟨"check_row", st_check_row, ps_check_row⟩ : FnI)) (P := fun e : FnI => FnAt K e.x e.st e.ps) h_check_row (all_cons (a := (⟨"is_sign", st_is_sign, ps_is_sign⟩ : FnI)) (P := fun e : FnI => FnAt K e.x e.st e.ps) h_is_sign (all_cons (a := (⟨"is_short_string", st_is_short_string, ps_is_short_string⟩ : FnI)) (P := fun e : FnI => FnAt K e.x e.st e.ps) h_is_short_string (all_cons (a := (⟨"is_parcel_deep", st_is_parcel_deep, ps_is_parcel_deep⟩ : FnI)) (P := fun e : FnI => FnAt K e.x e.st e.ps) h_is_parcel_deep (all_cons (a := (⟨"is_parcel", st_is_parcel, ps_is_parcel⟩ : FnI)) (P := fun e : FnI => FnAt K e.x e.st e.ps) h_is_parcel (all_cons (a := (⟨"whole", st_whole, ps_whole⟩ : FnI)) (P := fun e : FnI => FnAt K e.x e.st e.ps) h_whole (all_cons (a := (⟨"bytes_of", st_bytes_of, ps_bytes_of⟩ : FnI)) (P := fun e : FnI => FnAt K e.x e.st e.ps) h_bytes_of (all_cons (a := (⟨"row_of", st_row_of, ps_row_of⟩ : FnI)) (P := fun e : FnI => FnAt K e.x e.st e.ps) h_row_of (all_cons (a := (⟨"parcel_of", st_parcel_of, ps_parcel_of⟩ : FnI)) (P := fun e : FnI => FnAt K e.x e.st e.ps) h_parcel_of (all_cons (a := (⟨"raw_mark", st_raw_mark, ps_raw_mark⟩ : FnI)) (P := fun e : FnI => FnAt K e.x e.st e.ps) h_raw_mark (all_cons (a := (⟨"seal_of", st_seal_of, ps_seal_of⟩ : FnI)) (P := fun e : FnI => FnAt K e.x e.st e.ps) h_seal_of (all_cons (a := (⟨"sealed", st_sealed, ps_sealed⟩ : FnI)) (P := fun e : FnI => FnAt K e.x e.st e.ps) h_sealed (all_cons (a := (⟨"_law_pool", st__law_pool, ps__law_pool⟩ : FnI)) (P := fun e : FnI => FnAt K e.x e.st e.ps) h__law_pool (all_cons (a := (⟨"_law_draw", st__law_draw, ps__law_draw⟩ : FnI)) (P := fun e : FnI => FnAt K e.x e.st e.ps) h__law_draw (all_cons (a := (⟨"_law_deep", st__law_deep, ps__law_deep⟩ : FnI)) (P := fun e : FnI => FnAt K e.x e.st e.ps) h__law_deep (all_cons (a := (⟨"_law_flag", st__law_flag, ps__law_flag⟩ : FnI)) (P := fun e : FnI => FnAt K e.x e.st e.ps) h__law_flag (all_cons (a := (⟨"_law_whole", st__law_whole, ps__law_whole⟩ : FnI)) (P := fun e : FnI => FnAt K e.x e.st e.ps) h__law_whole (all_cons (a := (⟨"_law_bytes", st__law_bytes, ps__law_bytes⟩ : FnI)) (P := fun e : FnI => FnAt K e.x e.st e.ps) h__law_bytes (all_cons (a := (⟨"_law_number", st__law_number, ps__law_number⟩ : FnI)) (P := fun e : FnI => FnAt K e.x e.st e.ps) h__law_number (all_cons (a := (⟨"_law_parcel", st__law_parcel, ps__law_parcel⟩ : FnI)) (P := fun e : FnI => FnAt K e.x e.st e.ps) h__law_parcel (all_cons (a := (⟨"_law_nested", st__law_nested, ps__law_nested⟩ : FnI)) (P := fun e : FnI => FnAt K e.x e.st e.ps) h__law_nested (all_cons (a := (⟨"_law_same", st__law_same, ps__law_same⟩ : FnI)) (P := fun e : FnI => FnAt K e.x e.st e.ps) h__law_same (all_cons (a := (⟨"_law_is_parcel", st__law_is_parcel, ps__law_is_parcel⟩ : FnI)) (P := fun e : FnI => FnAt K e.x e.st e.ps) h__law_is_parcel (all_cons (a := (⟨"_law_word", st__law_word, ps__law_word⟩ : FnI)) (P := fun e : FnI => FnAt K e.x e.st e.ps) h__law_word (all_cons (a := (⟨"_law_first", st__law_first, ps__law_first⟩ : FnI)) (P := fun e : FnI => FnAt K e.x e.st e.ps) h__law_first (all_cons (a := (⟨"_law_is", st__law_is, ps__law_is⟩ : FnI)) (P := fun e : FnI => FnAt K e.x e.st e.ps) h__law_is (all_cons (a := (⟨"_law_sign", st__law_sign, ps__law_sign⟩ : FnI)) (P := fun e : FnI => FnAt K e.x e.st e.ps) h__law_sign (all_cons (a := (⟨"_law_read_whole", st__law_read_whole, ps__law_read_whole⟩ : FnI)) (P := fun e : FnI => FnAt K e.x e.st e.ps) h__law_read_whole (all_cons (a := (⟨"_law_read", st__law_read, ps__law_read⟩ : FnI)) (P := fun e : FnI => FnAt K e.x e.st e.ps) h__law_read (all_cons (a := (⟨"_law_read_string", st__law_read_string, ps__law_read_string⟩ : FnI)) (P := fun e : FnI => FnAt K e.x e.st e.ps) h__law_read_string (all_cons (a := (⟨"_law_told", st__law_told, ps__law_told⟩ : FnI)) (P := fun e : FnI => FnAt K e.x e.st e.ps) h__law_told (all_cons (a := (⟨"_law_read_by", st__law_read_by, ps__law_read_by⟩ : FnI)) (P := fun e : FnI => FnAt K e.x e.st e.ps) h__law_read_by (all_cons (a := (⟨"_law_spoilt", st__law_spoilt, ps__law_spoilt⟩ : FnI)) (P := fun e : FnI => FnAt K e.x e.st e.ps) h__law_spoilt (all_cons (a := (⟨"_law_right", st__law_right, ps__law_right⟩ : FnI)) (P := fun e : FnI => FnAt K e.x e.st e.ps) h__law_right (all_cons (a := (⟨"_law_second", st__law_second, ps__law_second⟩ : FnI)) (P := fun e : FnI => FnAt K e.x e.st e.ps) h__law_second (all_cons (a := (⟨"law", st_law, ps_law⟩ : FnI)) (P := fun e : FnI => FnAt K e.x e.st e.ps) h_law (all_nil)))))))))))))))))))))))))))))))))))))
theorem mts_ok {K : PySem.W.Frag} (h_BadRow_init : MtAt K "BadRow" "__init__" "BadRow.__init__" st_BadRow_init ps_BadRow_init) (h_RowReader_init : MtAt K "RowReader" "__init__" "RowReader.__init__" st_RowReader_init ps_RowReader_init) (h_RowReader_next_byte : MtAt K "RowReader" "next_byte" "RowReader.next_byte" st_RowReader_next_byte ps_RowReader_next_byte) (h_RowReader_read_whole : MtAt K "RowReader" "read_whole" "RowReader.read_whole" st_RowReader_read_whole ps_RowReader_read_whole) (h_RowReader_read_string : MtAt K "RowReader" "read_string" "RowReader.read_string" st_RowReader_read_string ps_RowReader_read_string) (h_RowReader_read_several : MtAt K "RowReader" "read_several" "RowReader.read_several" st_RowReader_read_several ps_RowReader_read_several) (h_RowReader_read_parcel : MtAt K "RowReader" "read_parcel" "RowReader.read_parcel" st_RowReader_read_parcel ps_RowReader_read_parcel) : ∀ e ∈ src.mts, MtAt K e.C e.m e.qual e.st e.ps := all_cons (a := (⟨"BadRow", "__init__", "BadRow.__init__", st_BadRow_init, ps_BadRow_init⟩ : MtI)) (P := fun e : MtI => MtAt K e.C e.m e.qual e.st e.ps) h_BadRow_init (all_cons (a := (⟨"RowReader", "__init__", "RowReader.__init__", st_RowReader_init, ps_RowReader_init⟩ : MtI)) (P := fun e : MtI => MtAt K e.C e.m e.qual e.st e.ps) h_RowReader_init (all_cons (a := (⟨"RowReader", "next_byte", "RowReader.next_byte", st_RowReader_next_byte, ps_RowReader_next_byte⟩ : MtI)) (P := fun e : MtI => MtAt K e.C e.m e.qual e.st e.ps) h_RowReader_next_byte (all_cons (a := (⟨"RowReader", "read_whole", "RowReader.read_whole", st_RowReader_read_whole, ps_RowReader_read_whole⟩ : MtI)) (P := fun e : MtI => MtAt K e.C e.m e.qual e.st e.ps) h_RowReader_read_whole (all_cons (a := (⟨"RowReader", "read_string", "RowReader.read_string", st_RowReader_read_string, ps_RowReader_read_string⟩ : MtI)) (P := fun e : MtI => MtAt K e.C e.m e.qual e.st e.ps) h_RowReader_read_string (all_cons (a := (⟨"RowReader", "read_several", "RowReader.read_several", st_RowReader_read_several, ps_RowReader_read_several⟩ : MtI)) (P := fun e : MtI => MtAt K e.C e.m e.qual e.st e.ps) h_RowReader_read_several (all_cons (a := (⟨"RowReader", "read_parcel", "RowReader.read_parcel", st_RowReader_read_parcel, ps_RowReader_read_parcel⟩ : MtI)) (P := fun e : MtI => MtAt K e.C e.m e.qual e.st e.ps) h_RowReader_read_parcel (all_nil)))))))
end Ir

set_option maxRecDepth 100000
set_option maxHeartbeats 1000000
namespace Sp
open PySem DL Ir
def gcv (x : Str) : Option D := src.gcs.lookup x
def isByte : D → Bool
  | .int i => decide (0 ≤ i) && decide (i < 256)
  | _ => false
def isRow : D → Bool
  | .tup xs => xs.all isByte
  | _ => false
/-- nothing that is read through the heap -/
def flat : D → Bool
  | .ref _ => false | .exn _ _ _ _ => false | .ins _ _ => false | .stp _ => false | _ => true
def spIsRow : DSp := fun ds H Q _ => ∃ d, ds = [d] ∧ ((∃ xs, d = .tup xs ∧ xs.all flat = true) ∨ isiOk (fun _ => false) (rd H d) = true ∧ tyD (rd H d) .tuple = false) ∧ Q (.bl (isRow d)) H
theorem toBs_map (f : D → Bool) : ∀ xs : List D, toBs (xs.map fun x => .bl (f x)) = some (xs.map f)
  | [] => rfl
  | x :: xs => by simp only [List.map, toBs, toBs_map f xs]; rfl
theorem flat_isi {G : Gam} {H : DH} {d : D} (h : flat d = true) : rd H d = d ∧ isiOk G.pl d = true := by
  cases d <;> first | (cases h; done) | exact ⟨rfl, rfl⟩
theorem isi_mono {pl : Str → Bool} {d : D} (h : isiOk (fun _ => false) d = true) : isiOk pl d = true := by
  cases d <;> first | (cases h; done) | rfl
theorem gc_BYTES : gcv "BYTES" = some (.int 256) := rfl
theorem Fz0 {d : D} {H : DH} {Q : DK} (h : Q d H) : FzV d H Q := FzV.here h
theorem sat_is_row {G : Gam} (hg : G.gc = gcv) : Sat G N_is_row.length ir_is_row spIsRow := by
  rintro vs H Q E ⟨d, rfl, h, q⟩
  unfold ir_is_row
  simp only [wE_v, wE_non, wE_bl, wE_int, wE_str, wE_gc, wE_tup, wE_lst, wE_dic0, wE_dicS, wE_bin, wE_cmp, wE_chn, wE_and, wE_or, wE_not, wE_neg, wE_ife, wE_idx, wE_slc, wE_rev, wE_fld, wE_call, wE_meth, wE_make, wE_blt, wE_bm, wE_isi, wE_xf, wE_xi, wTg_nm, wTg_tp, wTg_fld, wTg_sub, wIt_seq, wIt_rng0, wIt_rng1, wIt_enu, wIt_zip, wS_set, wS_expr, wS_ret, wS_retN, wS_ife, wS_raise, wS_try, wS_pass, wS_brk, wS_cont, wS_augN, wS_augF, wS_augS, wEs, wO, wAll, wTgs, wB, List.cons_append, List.nil_append, List.getElem?_cons_zero, List.getElem?_cons_succ, List.set_cons_zero, List.set_cons_succ, Option.some.injEq, exists_eq_left', D.bl.injEq, D.int.injEq, List.map_cons, List.map_nil, List.length_cons, List.length_nil, List.replicate, List.append_eq, Nat.reduceAdd, Nat.reduceSub, Nat.zero_add, Nat.add_zero, Nat.sub_zero, List.any_cons, List.any_nil, Bool.or_false, rd_int, rd_bl, rd_str, rd_non, rd_tup, rd_lst, rd_stl, reduceIte, Bool.not_true, Bool.not_false, Bool.false_eq_true, Nat.sub_self, binD, cmpD, alc_f, dwipe, leD_ii, ltD_ii, gtD_ii, addD_ii, mulD_ii, eqD_ii, len_tup, len_lst, len_str, int_int, int_bl, tuple_lst, tuple_tup, N_is_row]
  rcases h with ⟨xs, rfl, hf⟩ | ⟨h1, h2⟩
  · refine ⟨rfl, ?_⟩
    simp only [wE_v, wE_non, wE_bl, wE_int, wE_str, wE_gc, wE_tup, wE_lst, wE_dic0, wE_dicS, wE_bin, wE_cmp, wE_chn, wE_and, wE_or, wE_not, wE_neg, wE_ife, wE_idx, wE_slc, wE_rev, wE_fld, wE_call, wE_meth, wE_make, wE_blt, wE_bm, wE_isi, wE_xf, wE_xi, wTg_nm, wTg_tp, wTg_fld, wTg_sub, wIt_seq, wIt_rng0, wIt_rng1, wIt_enu, wIt_zip, wS_set, wS_expr, wS_ret, wS_retN, wS_ife, wS_raise, wS_try, wS_pass, wS_brk, wS_cont, wS_augN, wS_augF, wS_augS, wEs, wO, wAll, wTgs, wB, List.cons_append, List.nil_append, List.getElem?_cons_zero, List.getElem?_cons_succ, List.set_cons_zero, List.set_cons_succ, Option.some.injEq, exists_eq_left', D.bl.injEq, D.int.injEq, List.map_cons, List.map_nil, List.length_cons, List.length_nil, List.replicate, List.append_eq, Nat.reduceAdd, Nat.reduceSub, Nat.zero_add, Nat.add_zero, Nat.sub_zero, List.any_cons, List.any_nil, Bool.or_false, rd_int, rd_bl, rd_str, rd_non, rd_tup, rd_lst, rd_stl, reduceIte, Bool.not_true, Bool.not_false, Bool.false_eq_true, Nat.sub_self, binD, cmpD, alc_f, dwipe, leD_ii, ltD_ii, gtD_ii, addD_ii, mulD_ii, eqD_ii, len_tup, len_lst, len_str, int_int, int_bl, tuple_lst, tuple_tup, tyD]
    refine comp_map (ds := xs) (st := fun _ => seqOf (.tup xs) = some xs) (fun d => .bl (isByte d)) ?_ (fun _ _ _ => rfl) ?_ ?_
    · intro K hK
      simp only [wE_v, wE_non, wE_bl, wE_int, wE_str, wE_gc, wE_tup, wE_lst, wE_dic0, wE_dicS, wE_bin, wE_cmp, wE_chn, wE_and, wE_or, wE_not, wE_neg, wE_ife, wE_idx, wE_slc, wE_rev, wE_fld, wE_call, wE_meth, wE_make, wE_blt, wE_bm, wE_isi, wE_xf, wE_xi, wTg_nm, wTg_tp, wTg_fld, wTg_sub, wIt_seq, wIt_rng0, wIt_rng1, wIt_enu, wIt_zip, wS_set, wS_expr, wS_ret, wS_retN, wS_ife, wS_raise, wS_try, wS_pass, wS_brk, wS_cont, wS_augN, wS_augF, wS_augS, wEs, wO, wAll, wTgs, wB, List.cons_append, List.nil_append, List.getElem?_cons_zero, List.getElem?_cons_succ, List.set_cons_zero, List.set_cons_succ, Option.some.injEq, exists_eq_left', D.bl.injEq, D.int.injEq, List.map_cons, List.map_nil, List.length_cons, List.length_nil, List.replicate, List.append_eq, Nat.reduceAdd, Nat.reduceSub, Nat.zero_add, Nat.add_zero, Nat.sub_zero, List.any_cons, List.any_nil, Bool.or_false, rd_int, rd_bl, rd_str, rd_non, rd_tup, rd_lst, rd_stl, reduceIte, Bool.not_true, Bool.not_false, Bool.false_eq_true, Nat.sub_self, binD, cmpD, alc_f, dwipe, leD_ii, ltD_ii, gtD_ii, addD_ii, mulD_ii, eqD_ii, len_tup, len_lst, len_str, int_int, int_bl, tuple_lst, tuple_tup]
      exact ⟨xs, rfl, hK⟩
    · intro d hd p acc K hp hK
      simp only [wE_v, wE_non, wE_bl, wE_int, wE_str, wE_gc, wE_tup, wE_lst, wE_dic0, wE_dicS, wE_bin, wE_cmp, wE_chn, wE_and, wE_or, wE_not, wE_neg, wE_ife, wE_idx, wE_slc, wE_rev, wE_fld, wE_call, wE_meth, wE_make, wE_blt, wE_bm, wE_isi, wE_xf, wE_xi, wTg_nm, wTg_tp, wTg_fld, wTg_sub, wIt_seq, wIt_rng0, wIt_rng1, wIt_enu, wIt_zip, wS_set, wS_expr, wS_ret, wS_retN, wS_ife, wS_raise, wS_try, wS_pass, wS_brk, wS_cont, wS_augN, wS_augF, wS_augS, wEs, wO, wAll, wTgs, wB, List.cons_append, List.nil_append, List.getElem?_cons_zero, List.getElem?_cons_succ, List.set_cons_zero, List.set_cons_succ, Option.some.injEq, exists_eq_left', D.bl.injEq, D.int.injEq, List.map_cons, List.map_nil, List.length_cons, List.length_nil, List.replicate, List.append_eq, Nat.reduceAdd, Nat.reduceSub, Nat.zero_add, Nat.add_zero, Nat.sub_zero, List.any_cons, List.any_nil, Bool.or_false, rd_int, rd_bl, rd_str, rd_non, rd_tup, rd_lst, rd_stl, reduceIte, Bool.not_true, Bool.not_false, Bool.false_eq_true, Nat.sub_self, binD, cmpD, alc_f, dwipe, leD_ii, ltD_ii, gtD_ii, addD_ii, mulD_ii, eqD_ii, len_tup, len_lst, len_str, int_int, int_bl, tuple_lst, tuple_tup]
      refine hK _ fun K2 hK2 => ?_
      have hfd := List.all_eq_true.mp hf d hd
      obtain ⟨e1, e2⟩ := flat_isi (G := G) (H := dupd H p (.lst acc)) hfd
      simp only [wE_v, wE_non, wE_bl, wE_int, wE_str, wE_gc, wE_tup, wE_lst, wE_dic0, wE_dicS, wE_bin, wE_cmp, wE_chn, wE_and, wE_or, wE_not, wE_neg, wE_ife, wE_idx, wE_slc, wE_rev, wE_fld, wE_call, wE_meth, wE_make, wE_blt, wE_bm, wE_isi, wE_xf, wE_xi, wTg_nm, wTg_tp, wTg_fld, wTg_sub, wIt_seq, wIt_rng0, wIt_rng1, wIt_enu, wIt_zip, wS_set, wS_expr, wS_ret, wS_retN, wS_ife, wS_raise, wS_try, wS_pass, wS_brk, wS_cont, wS_augN, wS_augF, wS_augS, wEs, wO, wAll, wTgs, wB, List.cons_append, List.nil_append, List.getElem?_cons_zero, List.getElem?_cons_succ, List.set_cons_zero, List.set_cons_succ, Option.some.injEq, exists_eq_left', D.bl.injEq, D.int.injEq, List.map_cons, List.map_nil, List.length_cons, List.length_nil, List.replicate, List.append_eq, Nat.reduceAdd, Nat.reduceSub, Nat.zero_add, Nat.add_zero, Nat.sub_zero, List.any_cons, List.any_nil, Bool.or_false, rd_int, rd_bl, rd_str, rd_non, rd_tup, rd_lst, rd_stl, reduceIte, Bool.not_true, Bool.not_false, Bool.false_eq_true, Nat.sub_self, binD, cmpD, alc_f, dwipe, leD_ii, ltD_ii, gtD_ii, addD_ii, mulD_ii, eqD_ii, len_tup, len_lst, len_str, int_int, int_bl, tuple_lst, tuple_tup, hg, gc_BYTES, e1]
      refine ⟨e2, ?_⟩
      cases d <;> simp only [tyD, Bool.false_eq_true, reduceIte, Bool.not_true, Bool.not_false] <;> try exact hK2
      · exact ⟨rfl, hK2⟩
      · refine ⟨rfl, ?_⟩
        rw [leD_ii]
        rename_i i
        by_cases h0 : 0 ≤ i
        · rw [if_pos (decide_eq_true h0), ltD_ii]
          simpa only [isByte, h0, decide_true, Bool.true_and] using hK2
        · rw [if_neg (by simp [h0])]
          simpa only [isByte, h0, decide_false, Bool.false_and] using hK2
    · rw [alc_f]
      refine all_lst (toBs_map isByte xs) (Fz0 ?_)
      simpa only [isRow, List.all_map, Function.id_comp] using q
  · refine ⟨isi_mono h1, ?_⟩
    rw [h2]
    simp only [wE_v, wE_non, wE_bl, wE_int, wE_str, wE_gc, wE_tup, wE_lst, wE_dic0, wE_dicS, wE_bin, wE_cmp, wE_chn, wE_and, wE_or, wE_not, wE_neg, wE_ife, wE_idx, wE_slc, wE_rev, wE_fld, wE_call, wE_meth, wE_make, wE_blt, wE_bm, wE_isi, wE_xf, wE_xi, wTg_nm, wTg_tp, wTg_fld, wTg_sub, wIt_seq, wIt_rng0, wIt_rng1, wIt_enu, wIt_zip, wS_set, wS_expr, wS_ret, wS_retN, wS_ife, wS_raise, wS_try, wS_pass, wS_brk, wS_cont, wS_augN, wS_augF, wS_augS, wEs, wO, wAll, wTgs, wB, List.cons_append, List.nil_append, List.getElem?_cons_zero, List.getElem?_cons_succ, List.set_cons_zero, List.set_cons_succ, Option.some.injEq, exists_eq_left', D.bl.injEq, D.int.injEq, List.map_cons, List.map_nil, List.length_cons, List.length_nil, List.replicate, List.append_eq, Nat.reduceAdd, Nat.reduceSub, Nat.zero_add, Nat.add_zero, Nat.sub_zero, List.any_cons, List.any_nil, Bool.or_false, rd_int, rd_bl, rd_str, rd_non, rd_tup, rd_lst, rd_stl, reduceIte, Bool.not_true, Bool.not_false, Bool.false_eq_true, Nat.sub_self, binD, cmpD, alc_f, dwipe, leD_ii, ltD_ii, gtD_ii, addD_ii, mulD_ii, eqD_ii, len_tup, len_lst, len_str, int_int, int_bl, tuple_lst, tuple_tup]
    refine Fz0 ?_
    cases d <;> first | exact q | (cases h2; done)
def spCheckRow : DSp := fun ds H Q E => ∃ d, ds = [d] ∧ ((∃ xs, d = .tup xs ∧ xs.all flat = true) ∨ isiOk (fun _ => false) (rd H d) = true ∧ tyD (rd H d) .tuple = false) ∧ (isRow d = true → Q .non H) ∧ (isRow d = false → E "NoRow" [] H)
theorem sat_check_row {G : Gam} (hx : G.xf "NoRow" = []) (h1 : G.fn "is_row" = spIsRow) : Sat G N_check_row.length ir_check_row spCheckRow := by
  rintro vs H Q E ⟨d, rfl, h, q1, q2⟩
  unfold ir_check_row
  simp only [wE_v, wE_non, wE_bl, wE_int, wE_str, wE_gc, wE_tup, wE_lst, wE_dic0, wE_dicS, wE_bin, wE_cmp, wE_chn, wE_and, wE_or, wE_not, wE_neg, wE_ife, wE_idx, wE_slc, wE_rev, wE_fld, wE_call, wE_meth, wE_make, wE_blt, wE_bm, wE_isi, wE_xf, wE_xi, wTg_nm, wTg_tp, wTg_fld, wTg_sub, wIt_seq, wIt_rng0, wIt_rng1, wIt_enu, wIt_zip, wS_set, wS_expr, wS_ret, wS_retN, wS_ife, wS_raise, wS_try, wS_pass, wS_brk, wS_cont, wS_augN, wS_augF, wS_augS, wEs, wO, wAll, wTgs, wB, List.cons_append, List.nil_append, List.getElem?_cons_zero, List.getElem?_cons_succ, List.set_cons_zero, List.set_cons_succ, Option.some.injEq, exists_eq_left', D.bl.injEq, D.int.injEq, List.map_cons, List.map_nil, List.length_cons, List.length_nil, List.replicate, List.append_eq, Nat.reduceAdd, Nat.reduceSub, Nat.zero_add, Nat.add_zero, Nat.sub_zero, List.any_cons, List.any_nil, Bool.or_false, rd_int, rd_bl, rd_str, rd_non, rd_tup, rd_lst, rd_stl, reduceIte, Bool.not_true, Bool.not_false, Bool.false_eq_true, Nat.sub_self, binD, cmpD, alc_f, dwipe, leD_ii, ltD_ii, gtD_ii, addD_ii, mulD_ii, eqD_ii, len_tup, len_lst, len_str, int_int, int_bl, tuple_lst, tuple_tup, N_check_row, h1]
  refine ⟨d, rfl, h, _, rfl, ?_⟩
  cases e : isRow d
  · simp only [wE_v, wE_non, wE_bl, wE_int, wE_str, wE_gc, wE_tup, wE_lst, wE_dic0, wE_dicS, wE_bin, wE_cmp, wE_chn, wE_and, wE_or, wE_not, wE_neg, wE_ife, wE_idx, wE_slc, wE_rev, wE_fld, wE_call, wE_meth, wE_make, wE_blt, wE_bm, wE_isi, wE_xf, wE_xi, wTg_nm, wTg_tp, wTg_fld, wTg_sub, wIt_seq, wIt_rng0, wIt_rng1, wIt_enu, wIt_zip, wS_set, wS_expr, wS_ret, wS_retN, wS_ife, wS_raise, wS_try, wS_pass, wS_brk, wS_cont, wS_augN, wS_augF, wS_augS, wEs, wO, wAll, wTgs, wB, List.cons_append, List.nil_append, List.getElem?_cons_zero, List.getElem?_cons_succ, List.set_cons_zero, List.set_cons_succ, Option.some.injEq, exists_eq_left', D.bl.injEq, D.int.injEq, List.map_cons, List.map_nil, List.length_cons, List.length_nil, List.replicate, List.append_eq, Nat.reduceAdd, Nat.reduceSub, Nat.zero_add, Nat.add_zero, Nat.sub_zero, List.any_cons, List.any_nil, Bool.or_false, rd_int, rd_bl, rd_str, rd_non, rd_tup, rd_lst, rd_stl, reduceIte, Bool.not_true, Bool.not_false, Bool.false_eq_true, Nat.sub_self, binD, cmpD, alc_f, dwipe, leD_ii, ltD_ii, gtD_ii, addD_ii, mulD_ii, eqD_ii, len_tup, len_lst, len_str, int_int, int_bl, tuple_lst, tuple_tup, hx]
    exact ⟨trivial, q2 e⟩
  · simp only [wE_v, wE_non, wE_bl, wE_int, wE_str, wE_gc, wE_tup, wE_lst, wE_dic0, wE_dicS, wE_bin, wE_cmp, wE_chn, wE_and, wE_or, wE_not, wE_neg, wE_ife, wE_idx, wE_slc, wE_rev, wE_fld, wE_call, wE_meth, wE_make, wE_blt, wE_bm, wE_isi, wE_xf, wE_xi, wTg_nm, wTg_tp, wTg_fld, wTg_sub, wIt_seq, wIt_rng0, wIt_rng1, wIt_enu, wIt_zip, wS_set, wS_expr, wS_ret, wS_retN, wS_ife, wS_raise, wS_try, wS_pass, wS_brk, wS_cont, wS_augN, wS_augF, wS_augS, wEs, wO, wAll, wTgs, wB, List.cons_append, List.nil_append, List.getElem?_cons_zero, List.getElem?_cons_succ, List.set_cons_zero, List.set_cons_succ, Option.some.injEq, exists_eq_left', D.bl.injEq, D.int.injEq, List.map_cons, List.map_nil, List.length_cons, List.length_nil, List.replicate, List.append_eq, Nat.reduceAdd, Nat.reduceSub, Nat.zero_add, Nat.add_zero, Nat.sub_zero, List.any_cons, List.any_nil, Bool.or_false, rd_int, rd_bl, rd_str, rd_non, rd_tup, rd_lst, rd_stl, reduceIte, Bool.not_true, Bool.not_false, Bool.false_eq_true, Nat.sub_self, binD, cmpD, alc_f, dwipe, leD_ii, ltD_ii, gtD_ii, addD_ii, mulD_ii, eqD_ii, len_tup, len_lst, len_str, int_int, int_bl, tuple_lst, tuple_tup]
    exact Fz0 (q1 e)
def isSign (i : Int) : Bool := decide (32 ≤ i) && decide (i ≤ 126) && decide (i ≠ 37)
def spIsSign : DSp := fun ds H Q _ => ∃ i, ds = [.int i] ∧ Q (.bl (isSign i)) H
theorem gc_FIRST : gcv "FIRST_SIGN" = some (.int 32) := rfl
theorem gc_LAST : gcv "LAST_SIGN" = some (.int 126) := rfl
theorem gc_NOSIGN : gcv "NO_SIGN" = some (.int 37) := rfl
theorem sat_is_sign {G : Gam} (hg : G.gc = gcv) : Sat G N_is_sign.length ir_is_sign spIsSign := by
  rintro vs H Q E ⟨i, rfl, q⟩
  unfold ir_is_sign
  simp only [wE_v, wE_non, wE_bl, wE_int, wE_str, wE_gc, wE_tup, wE_lst, wE_dic0, wE_dicS, wE_bin, wE_cmp, wE_chn, wE_and, wE_or, wE_not, wE_neg, wE_ife, wE_idx, wE_slc, wE_rev, wE_fld, wE_call, wE_meth, wE_make, wE_blt, wE_bm, wE_isi, wE_xf, wE_xi, wTg_nm, wTg_tp, wTg_fld, wTg_sub, wIt_seq, wIt_rng0, wIt_rng1, wIt_enu, wIt_zip, wS_set, wS_expr, wS_ret, wS_retN, wS_ife, wS_raise, wS_try, wS_pass, wS_brk, wS_cont, wS_augN, wS_augF, wS_augS, wEs, wO, wAll, wTgs, wB, List.cons_append, List.nil_append, List.getElem?_cons_zero, List.getElem?_cons_succ, List.set_cons_zero, List.set_cons_succ, Option.some.injEq, exists_eq_left', D.bl.injEq, D.int.injEq, List.map_cons, List.map_nil, List.length_cons, List.length_nil, List.replicate, List.append_eq, Nat.reduceAdd, Nat.reduceSub, Nat.zero_add, Nat.add_zero, Nat.sub_zero, List.any_cons, List.any_nil, Bool.or_false, rd_int, rd_bl, rd_str, rd_non, rd_tup, rd_lst, rd_stl, reduceIte, Bool.not_true, Bool.not_false, Bool.false_eq_true, Nat.sub_self, binD, cmpD, alc_f, dwipe, leD_ii, ltD_ii, gtD_ii, addD_ii, mulD_ii, eqD_ii, len_tup, len_lst, len_str, int_int, int_bl, tuple_lst, tuple_tup, N_is_sign, hg, gc_FIRST, gc_LAST, gc_NOSIGN]
  by_cases a : 32 ≤ i
  · rw [if_pos (by simp [a])]
    by_cases b : i ≤ 126
    · simp only [wE_v, wE_non, wE_bl, wE_int, wE_str, wE_gc, wE_tup, wE_lst, wE_dic0, wE_dicS, wE_bin, wE_cmp, wE_chn, wE_and, wE_or, wE_not, wE_neg, wE_ife, wE_idx, wE_slc, wE_rev, wE_fld, wE_call, wE_meth, wE_make, wE_blt, wE_bm, wE_isi, wE_xf, wE_xi, wTg_nm, wTg_tp, wTg_fld, wTg_sub, wIt_seq, wIt_rng0, wIt_rng1, wIt_enu, wIt_zip, wS_set, wS_expr, wS_ret, wS_retN, wS_ife, wS_raise, wS_try, wS_pass, wS_brk, wS_cont, wS_augN, wS_augF, wS_augS, wEs, wO, wAll, wTgs, wB, List.cons_append, List.nil_append, List.getElem?_cons_zero, List.getElem?_cons_succ, List.set_cons_zero, List.set_cons_succ, Option.some.injEq, exists_eq_left', D.bl.injEq, D.int.injEq, List.map_cons, List.map_nil, List.length_cons, List.length_nil, List.replicate, List.append_eq, Nat.reduceAdd, Nat.reduceSub, Nat.zero_add, Nat.add_zero, Nat.sub_zero, List.any_cons, List.any_nil, Bool.or_false, rd_int, rd_bl, rd_str, rd_non, rd_tup, rd_lst, rd_stl, reduceIte, Bool.not_true, Bool.not_false, Bool.false_eq_true, Nat.sub_self, binD, cmpD, alc_f, dwipe, leD_ii, ltD_ii, gtD_ii, addD_ii, mulD_ii, eqD_ii, len_tup, len_lst, len_str, int_int, int_bl, tuple_lst, tuple_tup, b, decide_true]
      refine Fz0 ?_
      simpa [isSign, a, b] using q
    · simp only [wE_v, wE_non, wE_bl, wE_int, wE_str, wE_gc, wE_tup, wE_lst, wE_dic0, wE_dicS, wE_bin, wE_cmp, wE_chn, wE_and, wE_or, wE_not, wE_neg, wE_ife, wE_idx, wE_slc, wE_rev, wE_fld, wE_call, wE_meth, wE_make, wE_blt, wE_bm, wE_isi, wE_xf, wE_xi, wTg_nm, wTg_tp, wTg_fld, wTg_sub, wIt_seq, wIt_rng0, wIt_rng1, wIt_enu, wIt_zip, wS_set, wS_expr, wS_ret, wS_retN, wS_ife, wS_raise, wS_try, wS_pass, wS_brk, wS_cont, wS_augN, wS_augF, wS_augS, wEs, wO, wAll, wTgs, wB, List.cons_append, List.nil_append, List.getElem?_cons_zero, List.getElem?_cons_succ, List.set_cons_zero, List.set_cons_succ, Option.some.injEq, exists_eq_left', D.bl.injEq, D.int.injEq, List.map_cons, List.map_nil, List.length_cons, List.length_nil, List.replicate, List.append_eq, Nat.reduceAdd, Nat.reduceSub, Nat.zero_add, Nat.add_zero, Nat.sub_zero, List.any_cons, List.any_nil, Bool.or_false, rd_int, rd_bl, rd_str, rd_non, rd_tup, rd_lst, rd_stl, reduceIte, Bool.not_true, Bool.not_false, Bool.false_eq_true, Nat.sub_self, binD, cmpD, alc_f, dwipe, leD_ii, ltD_ii, gtD_ii, addD_ii, mulD_ii, eqD_ii, len_tup, len_lst, len_str, int_int, int_bl, tuple_lst, tuple_tup, b, decide_false]
      refine Fz0 ?_
      simpa [isSign, a, b] using q
  · rw [if_neg (by simp [a])]
    refine Fz0 ?_
    simpa [isSign, a] using q
def chr (c : Nat) : D := .str ⟨#[c]⟩
def isShort : D → Bool
  | .str s => decide (1 ≤ s.length) && decide (s.length ≤ 20) && s.cps.toList.all fun c => isSign c
  | _ => false
def sgn : D → D
  | .str t => .bl (isSign (t.cps.getD 0 0 : Nat))
  | _ => .bl false
theorem toBs_maps : ∀ l : List Nat, toBs (l.map (sgn ∘ fun c => .str ⟨#[c]⟩)) = some (l.map fun c => isSign (c : Nat))
  | [] => rfl
  | c :: l => by rw [List.map_cons, List.map_cons, ← Option.map_some, ← toBs_maps l]; rfl
def spShort : DSp := fun ds H Q _ => ∃ d, ds = [d] ∧ (flat d = true ∨ ∃ a t k, d = .ref a ∧ rd H d = .dic t k) ∧ Q (.bl (isShort d)) H
theorem gc_MOSTS : gcv "MOST_SIGNS" = some (.int 20) := rfl
theorem sat_short {G : Gam} (hg : G.gc = gcv) (h1 : G.fn "is_sign" = spIsSign) : Sat G N_is_short_string.length ir_is_short_string spShort := by
  rintro vs H Q E ⟨d, rfl, h, q⟩
  unfold ir_is_short_string
  rcases h with h | ⟨a, t, k, rfl, e⟩
  rotate_left
  · simp only [wE_v, wE_non, wE_bl, wE_int, wE_str, wE_gc, wE_tup, wE_lst, wE_dic0, wE_dicS, wE_bin, wE_cmp, wE_chn, wE_and, wE_or, wE_not, wE_neg, wE_ife, wE_idx, wE_slc, wE_rev, wE_fld, wE_call, wE_meth, wE_make, wE_blt, wE_bm, wE_isi, wE_xf, wE_xi, wTg_nm, wTg_tp, wTg_fld, wTg_sub, wIt_seq, wIt_rng0, wIt_rng1, wIt_enu, wIt_zip, wS_set, wS_expr, wS_ret, wS_retN, wS_ife, wS_raise, wS_try, wS_pass, wS_brk, wS_cont, wS_augN, wS_augF, wS_augS, wEs, wO, wAll, wTgs, wB, List.cons_append, List.nil_append, List.getElem?_cons_zero, List.getElem?_cons_succ, List.set_cons_zero, List.set_cons_succ, Option.some.injEq, exists_eq_left', D.bl.injEq, D.int.injEq, List.map_cons, List.map_nil, List.length_cons, List.length_nil, List.replicate, List.append_eq, Nat.reduceAdd, Nat.reduceSub, Nat.zero_add, Nat.add_zero, Nat.sub_zero, List.any_cons, List.any_nil, Bool.or_false, rd_int, rd_bl, rd_str, rd_non, rd_tup, rd_lst, rd_stl, reduceIte, Bool.not_true, Bool.not_false, Bool.false_eq_true, Nat.sub_self, binD, cmpD, alc_f, dwipe, leD_ii, ltD_ii, gtD_ii, addD_ii, mulD_ii, eqD_ii, len_tup, len_lst, len_str, int_int, int_bl, tuple_lst, tuple_tup, N_is_short_string, e, tyD]
    exact ⟨rfl, Fz0 q⟩
  obtain ⟨e1, e2⟩ := flat_isi (G := G) (H := H) h
  simp only [wE_v, wE_non, wE_bl, wE_int, wE_str, wE_gc, wE_tup, wE_lst, wE_dic0, wE_dicS, wE_bin, wE_cmp, wE_chn, wE_and, wE_or, wE_not, wE_neg, wE_ife, wE_idx, wE_slc, wE_rev, wE_fld, wE_call, wE_meth, wE_make, wE_blt, wE_bm, wE_isi, wE_xf, wE_xi, wTg_nm, wTg_tp, wTg_fld, wTg_sub, wIt_seq, wIt_rng0, wIt_rng1, wIt_enu, wIt_zip, wS_set, wS_expr, wS_ret, wS_retN, wS_ife, wS_raise, wS_try, wS_pass, wS_brk, wS_cont, wS_augN, wS_augF, wS_augS, wEs, wO, wAll, wTgs, wB, List.cons_append, List.nil_append, List.getElem?_cons_zero, List.getElem?_cons_succ, List.set_cons_zero, List.set_cons_succ, Option.some.injEq, exists_eq_left', D.bl.injEq, D.int.injEq, List.map_cons, List.map_nil, List.length_cons, List.length_nil, List.replicate, List.append_eq, Nat.reduceAdd, Nat.reduceSub, Nat.zero_add, Nat.add_zero, Nat.sub_zero, List.any_cons, List.any_nil, Bool.or_false, rd_int, rd_bl, rd_str, rd_non, rd_tup, rd_lst, rd_stl, reduceIte, Bool.not_true, Bool.not_false, Bool.false_eq_true, Nat.sub_self, binD, cmpD, alc_f, dwipe, leD_ii, ltD_ii, gtD_ii, addD_ii, mulD_ii, eqD_ii, len_tup, len_lst, len_str, int_int, int_bl, tuple_lst, tuple_tup, N_is_short_string, hg, gc_MOSTS, e1]
  refine ⟨e2, ?_⟩
  cases d with
  | str s =>
    simp only [wE_v, wE_non, wE_bl, wE_int, wE_str, wE_gc, wE_tup, wE_lst, wE_dic0, wE_dicS, wE_bin, wE_cmp, wE_chn, wE_and, wE_or, wE_not, wE_neg, wE_ife, wE_idx, wE_slc, wE_rev, wE_fld, wE_call, wE_meth, wE_make, wE_blt, wE_bm, wE_isi, wE_xf, wE_xi, wTg_nm, wTg_tp, wTg_fld, wTg_sub, wIt_seq, wIt_rng0, wIt_rng1, wIt_enu, wIt_zip, wS_set, wS_expr, wS_ret, wS_retN, wS_ife, wS_raise, wS_try, wS_pass, wS_brk, wS_cont, wS_augN, wS_augF, wS_augS, wEs, wO, wAll, wTgs, wB, List.cons_append, List.nil_append, List.getElem?_cons_zero, List.getElem?_cons_succ, List.set_cons_zero, List.set_cons_succ, Option.some.injEq, exists_eq_left', D.bl.injEq, D.int.injEq, List.map_cons, List.map_nil, List.length_cons, List.length_nil, List.replicate, List.append_eq, Nat.reduceAdd, Nat.reduceSub, Nat.zero_add, Nat.add_zero, Nat.sub_zero, List.any_cons, List.any_nil, Bool.or_false, rd_int, rd_bl, rd_str, rd_non, rd_tup, rd_lst, rd_stl, reduceIte, Bool.not_true, Bool.not_false, Bool.false_eq_true, Nat.sub_self, binD, cmpD, alc_f, dwipe, leD_ii, ltD_ii, gtD_ii, addD_ii, mulD_ii, eqD_ii, len_tup, len_lst, len_str, int_int, int_bl, tuple_lst, tuple_tup, tyD]
    by_cases a : 1 ≤ s.length
    · rw [if_pos (decide_eq_true (by omega))]
      by_cases b : s.length ≤ 20
      · rw [if_neg (by rw [decide_eq_true (by omega)]; simp)]
        refine comp_map (ds := chars s) (st := fun _ => seqOf (.str s) = some (chars s)) sgn ?_ (fun _ _ _ => rfl) ?_ ?_
        · intro K hK
          simp only [wE_v, wE_non, wE_bl, wE_int, wE_str, wE_gc, wE_tup, wE_lst, wE_dic0, wE_dicS, wE_bin, wE_cmp, wE_chn, wE_and, wE_or, wE_not, wE_neg, wE_ife, wE_idx, wE_slc, wE_rev, wE_fld, wE_call, wE_meth, wE_make, wE_blt, wE_bm, wE_isi, wE_xf, wE_xi, wTg_nm, wTg_tp, wTg_fld, wTg_sub, wIt_seq, wIt_rng0, wIt_rng1, wIt_enu, wIt_zip, wS_set, wS_expr, wS_ret, wS_retN, wS_ife, wS_raise, wS_try, wS_pass, wS_brk, wS_cont, wS_augN, wS_augF, wS_augS, wEs, wO, wAll, wTgs, wB, List.cons_append, List.nil_append, List.getElem?_cons_zero, List.getElem?_cons_succ, List.set_cons_zero, List.set_cons_succ, Option.some.injEq, exists_eq_left', D.bl.injEq, D.int.injEq, List.map_cons, List.map_nil, List.length_cons, List.length_nil, List.replicate, List.append_eq, Nat.reduceAdd, Nat.reduceSub, Nat.zero_add, Nat.add_zero, Nat.sub_zero, List.any_cons, List.any_nil, Bool.or_false, rd_int, rd_bl, rd_str, rd_non, rd_tup, rd_lst, rd_stl, reduceIte, Bool.not_true, Bool.not_false, Bool.false_eq_true, Nat.sub_self, binD, cmpD, alc_f, dwipe, leD_ii, ltD_ii, gtD_ii, addD_ii, mulD_ii, eqD_ii, len_tup, len_lst, len_str, int_int, int_bl, tuple_lst, tuple_tup]
          exact ⟨chars s, rfl, hK⟩
        · intro d hd p acc K hp hK
          obtain ⟨c, -, rfl⟩ := List.mem_map.mp hd
          simp only [wE_v, wE_non, wE_bl, wE_int, wE_str, wE_gc, wE_tup, wE_lst, wE_dic0, wE_dicS, wE_bin, wE_cmp, wE_chn, wE_and, wE_or, wE_not, wE_neg, wE_ife, wE_idx, wE_slc, wE_rev, wE_fld, wE_call, wE_meth, wE_make, wE_blt, wE_bm, wE_isi, wE_xf, wE_xi, wTg_nm, wTg_tp, wTg_fld, wTg_sub, wIt_seq, wIt_rng0, wIt_rng1, wIt_enu, wIt_zip, wS_set, wS_expr, wS_ret, wS_retN, wS_ife, wS_raise, wS_try, wS_pass, wS_brk, wS_cont, wS_augN, wS_augF, wS_augS, wEs, wO, wAll, wTgs, wB, List.cons_append, List.nil_append, List.getElem?_cons_zero, List.getElem?_cons_succ, List.set_cons_zero, List.set_cons_succ, Option.some.injEq, exists_eq_left', D.bl.injEq, D.int.injEq, List.map_cons, List.map_nil, List.length_cons, List.length_nil, List.replicate, List.append_eq, Nat.reduceAdd, Nat.reduceSub, Nat.zero_add, Nat.add_zero, Nat.sub_zero, List.any_cons, List.any_nil, Bool.or_false, rd_int, rd_bl, rd_str, rd_non, rd_tup, rd_lst, rd_stl, reduceIte, Bool.not_true, Bool.not_false, Bool.false_eq_true, Nat.sub_self, binD, cmpD, alc_f, dwipe, leD_ii, ltD_ii, gtD_ii, addD_ii, mulD_ii, eqD_ii, len_tup, len_lst, len_str, int_int, int_bl, tuple_lst, tuple_tup]
          refine hK _ fun K2 hK2 => ?_
          simp only [wE_v, wE_non, wE_bl, wE_int, wE_str, wE_gc, wE_tup, wE_lst, wE_dic0, wE_dicS, wE_bin, wE_cmp, wE_chn, wE_and, wE_or, wE_not, wE_neg, wE_ife, wE_idx, wE_slc, wE_rev, wE_fld, wE_call, wE_meth, wE_make, wE_blt, wE_bm, wE_isi, wE_xf, wE_xi, wTg_nm, wTg_tp, wTg_fld, wTg_sub, wIt_seq, wIt_rng0, wIt_rng1, wIt_enu, wIt_zip, wS_set, wS_expr, wS_ret, wS_retN, wS_ife, wS_raise, wS_try, wS_pass, wS_brk, wS_cont, wS_augN, wS_augF, wS_augS, wEs, wO, wAll, wTgs, wB, List.cons_append, List.nil_append, List.getElem?_cons_zero, List.getElem?_cons_succ, List.set_cons_zero, List.set_cons_succ, Option.some.injEq, exists_eq_left', D.bl.injEq, D.int.injEq, List.map_cons, List.map_nil, List.length_cons, List.length_nil, List.replicate, List.append_eq, Nat.reduceAdd, Nat.reduceSub, Nat.zero_add, Nat.add_zero, Nat.sub_zero, List.any_cons, List.any_nil, Bool.or_false, rd_int, rd_bl, rd_str, rd_non, rd_tup, rd_lst, rd_stl, reduceIte, Bool.not_true, Bool.not_false, Bool.false_eq_true, Nat.sub_self, binD, cmpD, alc_f, dwipe, leD_ii, ltD_ii, gtD_ii, addD_ii, mulD_ii, eqD_ii, len_tup, len_lst, len_str, int_int, int_bl, tuple_lst, tuple_tup, h1]
          exact ⟨rfl, _, rfl, hK2⟩
        · rw [alc_f]
          refine all_lst (bs := s.cps.toList.map fun (c : Nat) => isSign c) ?_ (Fz0 ?_)
          · unfold chars
            rw [List.map_map]
            exact toBs_maps s.cps.toList
          · simpa [isShort, a, b, List.all_map] using q
      · rw [if_pos (by rw [decide_eq_false (by omega)]; rfl)]
        exact Fz0 (by simpa [isShort, a, b] using q)
    · rw [if_neg (by rw [decide_eq_false (by omega)]; simp)]
      exact Fz0 (by simpa [isShort, a] using q)
  | _ => 
    simp only [wE_v, wE_non, wE_bl, wE_int, wE_str, wE_gc, wE_tup, wE_lst, wE_dic0, wE_dicS, wE_bin, wE_cmp, wE_chn, wE_and, wE_or, wE_not, wE_neg, wE_ife, wE_idx, wE_slc, wE_rev, wE_fld, wE_call, wE_meth, wE_make, wE_blt, wE_bm, wE_isi, wE_xf, wE_xi, wTg_nm, wTg_tp, wTg_fld, wTg_sub, wIt_seq, wIt_rng0, wIt_rng1, wIt_enu, wIt_zip, wS_set, wS_expr, wS_ret, wS_retN, wS_ife, wS_raise, wS_try, wS_pass, wS_brk, wS_cont, wS_augN, wS_augF, wS_augS, wEs, wO, wAll, wTgs, wB, List.cons_append, List.nil_append, List.getElem?_cons_zero, List.getElem?_cons_succ, List.set_cons_zero, List.set_cons_succ, Option.some.injEq, exists_eq_left', D.bl.injEq, D.int.injEq, List.map_cons, List.map_nil, List.length_cons, List.length_nil, List.replicate, List.append_eq, Nat.reduceAdd, Nat.reduceSub, Nat.zero_add, Nat.add_zero, Nat.sub_zero, List.any_cons, List.any_nil, Bool.or_false, rd_int, rd_bl, rd_str, rd_non, rd_tup, rd_lst, rd_stl, reduceIte, Bool.not_true, Bool.not_false, Bool.false_eq_true, Nat.sub_self, binD, cmpD, alc_f, dwipe, leD_ii, ltD_ii, gtD_ii, addD_ii, mulD_ii, eqD_ii, len_tup, len_lst, len_str, int_int, int_bl, tuple_lst, tuple_tup, tyD]
    exact Fz0 q
mutual
def isPc : D → Int → Bool
  | .tup xs, n => decide (0 < n) && isPcs xs (n - 1)
  | .non, _ => true | .int _, _ => true | .bl _, _ => true
  | .str s, _ => isShort (.str s)
  | .lst _, _ => false | .stl _, _ => false | .stp _, _ => false | .dic _ _, _ => false | .ins _ _, _ => false | .ref _, _ => false | .exn _ _ _ _, _ => false
def isPcs : List D → Int → Bool
  | [], _ => true
  | x :: xs, n => isPc x n && isPcs xs n
end
mutual
def okP : D → Bool
  | .tup xs => okPs xs
  | .non => true | .int _ => true | .bl _ => true | .str _ => true
  | .lst _ => true | .stl _ => true | .stp _ => false | .dic _ _ => true | .ins _ _ => false | .ref _ => false | .exn _ _ _ _ => false
def okPs : List D → Bool
  | [] => true
  | x :: xs => okP x && okPs xs
end
mutual
/-- what may be looked at, as a parcel or none: references to dicts are none -/
def okQ (H : DH) : D → Bool
  | .tup xs => okQs H xs
  | .non => true | .int _ => true | .bl _ => true | .str _ => true
  | .ref a => (match H a with | some (.dic _ _) => true | _ => false)
  | .lst _ => true | .stl _ => true | .stp _ => false | .dic _ _ => true | .ins _ _ => false | .exn _ _ _ _ => false
def okQs (H : DH) : List D → Bool
  | [] => true
  | x :: xs => okQ H x && okQs H xs
end
theorem okQs_mem {H : DH} {d : D} : ∀ {xs : List D}, okQs H xs = true → d ∈ xs → okQ H d = true
  | x :: xs, h, m => by
    rw [okQs, Bool.and_eq_true] at h
    rcases List.mem_cons.mp m with rfl | m
    · exact h.1
    · exact okQs_mem h.2 m
mutual
theorem okQ_dupd {H : DH} {p : Addr} {o : D} (hp : H p = none) : ∀ d : D, okQ H d = true → okQ (dupd H p o) d = true
  | .tup xs, h => by rw [okQ] at h ⊢; exact okQs_dupd hp xs h
  | .ref a, h => by
    rw [okQ] at h ⊢
    have : a ≠ p := fun e => by subst e; rw [hp] at h; cases h
    rw [dupd_ne this]; exact h
  | .non, _ => by rw [okQ] | .int _, _ => by rw [okQ] | .bl _, _ => by rw [okQ] | .str _, _ => by rw [okQ]
  | .lst _, _ => by rw [okQ] | .stl _, _ => by rw [okQ] | .dic _ _, _ => by rw [okQ]
theorem okQs_dupd {H : DH} {p : Addr} {o : D} (hp : H p = none) : ∀ xs : List D, okQs H xs = true → okQs (dupd H p o) xs = true
  | [], _ => by rw [okQs]
  | x :: xs, h => by
    rw [okQs, Bool.and_eq_true] at h ⊢
    exact ⟨okQ_dupd hp x h.1, okQs_dupd hp xs h.2⟩
end
theorem okP_flat {d : D} (h : okP d = true) : flat d = true := by cases d <;> first | rfl | exact h
theorem okPs_mem {d : D} : ∀ {xs : List D}, okPs xs = true → d ∈ xs → okP d = true
  | x :: xs, h, m => by
    rw [okPs, Bool.and_eq_true] at h
    rcases List.mem_cons.mp m with rfl | m
    · exact h.1
    · exact okPs_mem h.2 m
theorem deeps_mem {d : D} : ∀ {xs : List D}, d ∈ xs → deep d ≤ deeps xs
  | x :: xs, m => by
    rw [deeps]
    rcases List.mem_cons.mp m with rfl | m
    · exact Nat.le_max_left ..
    · exact Nat.le_trans (deeps_mem m) (Nat.le_max_right ..)
theorem isPcs_all (n : Int) : ∀ xs : List D, isPcs xs n = (xs.map fun d => isPc d n).all id
  | [] => rfl
  | x :: xs => by rw [isPcs, isPcs_all n xs]; rfl
def spParc (n : Nat) : DSp := fun ds H Q _ => ∃ d k, ds = [d, .int k] ∧ okQ H d = true ∧ deep d < n ∧ Q (.bl (isPc d k)) H
theorem okQ_ref {H : DH} {a : Addr} (h : okQ H (.ref a) = true) : ∃ t k, rd H (.ref a) = .dic t k := by
  rw [okQ] at h
  split at h
  · rename_i t k e
    exact ⟨t, k, by show (H a).getD _ = _; rw [e]; rfl⟩
  · cases h
theorem sat_parc {G : Gam} (h1 : G.fn "is_short_string" = spShort) {n : Nat} (h2 : G.fn "is_parcel_deep" = spParc n) : Sat G N_is_parcel_deep.length ir_is_parcel_deep (spParc (n + 1)) := by
  rintro vs H Q E ⟨d, k, rfl, ho, hd, q⟩
  unfold ir_is_parcel_deep
  simp only [wE_v, wE_non, wE_bl, wE_int, wE_str, wE_gc, wE_tup, wE_lst, wE_dic0, wE_dicS, wE_bin, wE_cmp, wE_chn, wE_and, wE_or, wE_not, wE_neg, wE_ife, wE_idx, wE_slc, wE_rev, wE_fld, wE_call, wE_meth, wE_make, wE_blt, wE_bm, wE_isi, wE_xf, wE_xi, wTg_nm, wTg_tp, wTg_fld, wTg_sub, wIt_seq, wIt_rng0, wIt_rng1, wIt_enu, wIt_zip, wS_set, wS_expr, wS_ret, wS_retN, wS_ife, wS_raise, wS_try, wS_pass, wS_brk, wS_cont, wS_augN, wS_augF, wS_augS, wEs, wO, wAll, wTgs, wB, List.cons_append, List.nil_append, List.getElem?_cons_zero, List.getElem?_cons_succ, List.set_cons_zero, List.set_cons_succ, Option.some.injEq, exists_eq_left', D.bl.injEq, D.int.injEq, List.map_cons, List.map_nil, List.length_cons, List.length_nil, List.replicate, List.append_eq, Nat.reduceAdd, Nat.reduceSub, Nat.zero_add, Nat.add_zero, Nat.sub_zero, List.any_cons, List.any_nil, Bool.or_false, rd_int, rd_bl, rd_str, rd_non, rd_tup, rd_lst, rd_stl, reduceIte, Bool.not_true, Bool.not_false, Bool.false_eq_true, Nat.sub_self, binD, cmpD, alc_f, dwipe, leD_ii, ltD_ii, gtD_ii, addD_ii, mulD_ii, eqD_ii, len_tup, len_lst, len_str, int_int, int_bl, tuple_lst, tuple_tup, N_is_parcel_deep]
  cases d with
  | tup xs =>
    simp only [wE_v, wE_non, wE_bl, wE_int, wE_str, wE_gc, wE_tup, wE_lst, wE_dic0, wE_dicS, wE_bin, wE_cmp, wE_chn, wE_and, wE_or, wE_not, wE_neg, wE_ife, wE_idx, wE_slc, wE_rev, wE_fld, wE_call, wE_meth, wE_make, wE_blt, wE_bm, wE_isi, wE_xf, wE_xi, wTg_nm, wTg_tp, wTg_fld, wTg_sub, wIt_seq, wIt_rng0, wIt_rng1, wIt_enu, wIt_zip, wS_set, wS_expr, wS_ret, wS_retN, wS_ife, wS_raise, wS_try, wS_pass, wS_brk, wS_cont, wS_augN, wS_augF, wS_augS, wEs, wO, wAll, wTgs, wB, List.cons_append, List.nil_append, List.getElem?_cons_zero, List.getElem?_cons_succ, List.set_cons_zero, List.set_cons_succ, Option.some.injEq, exists_eq_left', D.bl.injEq, D.int.injEq, List.map_cons, List.map_nil, List.length_cons, List.length_nil, List.replicate, List.append_eq, Nat.reduceAdd, Nat.reduceSub, Nat.zero_add, Nat.add_zero, Nat.sub_zero, List.any_cons, List.any_nil, Bool.or_false, rd_int, rd_bl, rd_str, rd_non, rd_tup, rd_lst, rd_stl, reduceIte, Bool.not_true, Bool.not_false, Bool.false_eq_true, Nat.sub_self, binD, cmpD, alc_f, dwipe, leD_ii, ltD_ii, gtD_ii, addD_ii, mulD_ii, eqD_ii, len_tup, len_lst, len_str, int_int, int_bl, tuple_lst, tuple_tup, tyD]
    refine ⟨rfl, ?_⟩
    by_cases a : 0 < k
    · rw [if_pos (decide_eq_true a)]
      refine comp_map (ds := xs) (st := fun _ => seqOf (.tup xs) = some xs) (fun d => .bl (isPc d (k - 1))) ?_ (fun _ _ _ => rfl) ?_ ?_
      · intro K hK
        simp only [wE_v, wE_non, wE_bl, wE_int, wE_str, wE_gc, wE_tup, wE_lst, wE_dic0, wE_dicS, wE_bin, wE_cmp, wE_chn, wE_and, wE_or, wE_not, wE_neg, wE_ife, wE_idx, wE_slc, wE_rev, wE_fld, wE_call, wE_meth, wE_make, wE_blt, wE_bm, wE_isi, wE_xf, wE_xi, wTg_nm, wTg_tp, wTg_fld, wTg_sub, wIt_seq, wIt_rng0, wIt_rng1, wIt_enu, wIt_zip, wS_set, wS_expr, wS_ret, wS_retN, wS_ife, wS_raise, wS_try, wS_pass, wS_brk, wS_cont, wS_augN, wS_augF, wS_augS, wEs, wO, wAll, wTgs, wB, List.cons_append, List.nil_append, List.getElem?_cons_zero, List.getElem?_cons_succ, List.set_cons_zero, List.set_cons_succ, Option.some.injEq, exists_eq_left', D.bl.injEq, D.int.injEq, List.map_cons, List.map_nil, List.length_cons, List.length_nil, List.replicate, List.append_eq, Nat.reduceAdd, Nat.reduceSub, Nat.zero_add, Nat.add_zero, Nat.sub_zero, List.any_cons, List.any_nil, Bool.or_false, rd_int, rd_bl, rd_str, rd_non, rd_tup, rd_lst, rd_stl, reduceIte, Bool.not_true, Bool.not_false, Bool.false_eq_true, Nat.sub_self, binD, cmpD, alc_f, dwipe, leD_ii, ltD_ii, gtD_ii, addD_ii, mulD_ii, eqD_ii, len_tup, len_lst, len_str, int_int, int_bl, tuple_lst, tuple_tup]
        exact ⟨xs, rfl, hK⟩
      · intro d hm p acc K hp hK
        simp only [wE_v, wE_non, wE_bl, wE_int, wE_str, wE_gc, wE_tup, wE_lst, wE_dic0, wE_dicS, wE_bin, wE_cmp, wE_chn, wE_and, wE_or, wE_not, wE_neg, wE_ife, wE_idx, wE_slc, wE_rev, wE_fld, wE_call, wE_meth, wE_make, wE_blt, wE_bm, wE_isi, wE_xf, wE_xi, wTg_nm, wTg_tp, wTg_fld, wTg_sub, wIt_seq, wIt_rng0, wIt_rng1, wIt_enu, wIt_zip, wS_set, wS_expr, wS_ret, wS_retN, wS_ife, wS_raise, wS_try, wS_pass, wS_brk, wS_cont, wS_augN, wS_augF, wS_augS, wEs, wO, wAll, wTgs, wB, List.cons_append, List.nil_append, List.getElem?_cons_zero, List.getElem?_cons_succ, List.set_cons_zero, List.set_cons_succ, Option.some.injEq, exists_eq_left', D.bl.injEq, D.int.injEq, List.map_cons, List.map_nil, List.length_cons, List.length_nil, List.replicate, List.append_eq, Nat.reduceAdd, Nat.reduceSub, Nat.zero_add, Nat.add_zero, Nat.sub_zero, List.any_cons, List.any_nil, Bool.or_false, rd_int, rd_bl, rd_str, rd_non, rd_tup, rd_lst, rd_stl, reduceIte, Bool.not_true, Bool.not_false, Bool.false_eq_true, Nat.sub_self, binD, cmpD, alc_f, dwipe, leD_ii, ltD_ii, gtD_ii, addD_ii, mulD_ii, eqD_ii, len_tup, len_lst, len_str, int_int, int_bl, tuple_lst, tuple_tup]
        refine hK _ fun K2 hK2 => ?_
        simp only [wE_v, wE_non, wE_bl, wE_int, wE_str, wE_gc, wE_tup, wE_lst, wE_dic0, wE_dicS, wE_bin, wE_cmp, wE_chn, wE_and, wE_or, wE_not, wE_neg, wE_ife, wE_idx, wE_slc, wE_rev, wE_fld, wE_call, wE_meth, wE_make, wE_blt, wE_bm, wE_isi, wE_xf, wE_xi, wTg_nm, wTg_tp, wTg_fld, wTg_sub, wIt_seq, wIt_rng0, wIt_rng1, wIt_enu, wIt_zip, wS_set, wS_expr, wS_ret, wS_retN, wS_ife, wS_raise, wS_try, wS_pass, wS_brk, wS_cont, wS_augN, wS_augF, wS_augS, wEs, wO, wAll, wTgs, wB, List.cons_append, List.nil_append, List.getElem?_cons_zero, List.getElem?_cons_succ, List.set_cons_zero, List.set_cons_succ, Option.some.injEq, exists_eq_left', D.bl.injEq, D.int.injEq, List.map_cons, List.map_nil, List.length_cons, List.length_nil, List.replicate, List.append_eq, Nat.reduceAdd, Nat.reduceSub, Nat.zero_add, Nat.add_zero, Nat.sub_zero, List.any_cons, List.any_nil, Bool.or_false, rd_int, rd_bl, rd_str, rd_non, rd_tup, rd_lst, rd_stl, reduceIte, Bool.not_true, Bool.not_false, Bool.false_eq_true, Nat.sub_self, binD, cmpD, alc_f, dwipe, leD_ii, ltD_ii, gtD_ii, addD_ii, mulD_ii, eqD_ii, len_tup, len_lst, len_str, int_int, int_bl, tuple_lst, tuple_tup, h2]
        rw [okQ] at ho
        rw [deep] at hd
        have := deeps_mem hm
        exact ⟨d, _, rfl, okQ_dupd hp d (okQs_mem ho hm), by omega, hK2⟩
      · rw [alc_f]
        refine all_lst (toBs_map _ xs) (Fz0 ?_)
        rw [isPc, decide_eq_true a, Bool.true_and, isPcs_all] at q
        exact q
    · rw [if_neg (by rw [decide_eq_false a]; simp)]
      refine Fz0 ?_
      rw [isPc, decide_eq_false a, Bool.false_and] at q
      exact q
  | ref a =>
    obtain ⟨t, kv, e⟩ := okQ_ref ho
    simp only [wE_v, wE_non, wE_bl, wE_int, wE_str, wE_gc, wE_tup, wE_lst, wE_dic0, wE_dicS, wE_bin, wE_cmp, wE_chn, wE_and, wE_or, wE_not, wE_neg, wE_ife, wE_idx, wE_slc, wE_rev, wE_fld, wE_call, wE_meth, wE_make, wE_blt, wE_bm, wE_isi, wE_xf, wE_xi, wTg_nm, wTg_tp, wTg_fld, wTg_sub, wIt_seq, wIt_rng0, wIt_rng1, wIt_enu, wIt_zip, wS_set, wS_expr, wS_ret, wS_retN, wS_ife, wS_raise, wS_try, wS_pass, wS_brk, wS_cont, wS_augN, wS_augF, wS_augS, wEs, wO, wAll, wTgs, wB, List.cons_append, List.nil_append, List.getElem?_cons_zero, List.getElem?_cons_succ, List.set_cons_zero, List.set_cons_succ, Option.some.injEq, exists_eq_left', D.bl.injEq, D.int.injEq, List.map_cons, List.map_nil, List.length_cons, List.length_nil, List.replicate, List.append_eq, Nat.reduceAdd, Nat.reduceSub, Nat.zero_add, Nat.add_zero, Nat.sub_zero, List.any_cons, List.any_nil, Bool.or_false, rd_int, rd_bl, rd_str, rd_non, rd_tup, rd_lst, rd_stl, reduceIte, Bool.not_true, Bool.not_false, Bool.false_eq_true, Nat.sub_self, binD, cmpD, alc_f, dwipe, leD_ii, ltD_ii, gtD_ii, addD_ii, mulD_ii, eqD_ii, len_tup, len_lst, len_str, int_int, int_bl, tuple_lst, tuple_tup, e, tyD, isD, isNon, h1]
    exact ⟨rfl, rfl, _, rfl, .inr ⟨a, t, kv, rfl, e⟩, Fz0 q⟩
  | _ =>
    first
      | (cases ho; done)
      | (simp only [wE_v, wE_non, wE_bl, wE_int, wE_str, wE_gc, wE_tup, wE_lst, wE_dic0, wE_dicS, wE_bin, wE_cmp, wE_chn, wE_and, wE_or, wE_not, wE_neg, wE_ife, wE_idx, wE_slc, wE_rev, wE_fld, wE_call, wE_meth, wE_make, wE_blt, wE_bm, wE_isi, wE_xf, wE_xi, wTg_nm, wTg_tp, wTg_fld, wTg_sub, wIt_seq, wIt_rng0, wIt_rng1, wIt_enu, wIt_zip, wS_set, wS_expr, wS_ret, wS_retN, wS_ife, wS_raise, wS_try, wS_pass, wS_brk, wS_cont, wS_augN, wS_augF, wS_augS, wEs, wO, wAll, wTgs, wB, List.cons_append, List.nil_append, List.getElem?_cons_zero, List.getElem?_cons_succ, List.set_cons_zero, List.set_cons_succ, Option.some.injEq, exists_eq_left', D.bl.injEq, D.int.injEq, List.map_cons, List.map_nil, List.length_cons, List.length_nil, List.replicate, List.append_eq, Nat.reduceAdd, Nat.reduceSub, Nat.zero_add, Nat.add_zero, Nat.sub_zero, List.any_cons, List.any_nil, Bool.or_false, rd_int, rd_bl, rd_str, rd_non, rd_tup, rd_lst, rd_stl, reduceIte, Bool.not_true, Bool.not_false, Bool.false_eq_true, Nat.sub_self, binD, cmpD, alc_f, dwipe, leD_ii, ltD_ii, gtD_ii, addD_ii, mulD_ii, eqD_ii, len_tup, len_lst, len_str, int_int, int_bl, tuple_lst, tuple_tup, tyD, isD, isNon, h1]
         first
           | exact ⟨rfl, Fz0 q⟩
           | exact ⟨rfl, rfl, Fz0 q⟩
           | exact ⟨rfl, rfl, _, rfl, .inl rfl, Fz0 q⟩)
def spIsPc : DSp := fun ds H Q _ => ∃ d, ds = [d] ∧ okQ H d = true ∧ deep d < 40 ∧ Q (.bl (isPc d 20)) H
theorem gc_DEEP : gcv "MOST_DEEP" = some (.int 20) := rfl
theorem sat_is_parcel {G : Gam} (hg : G.gc = gcv) (h1 : G.fn "is_parcel_deep" = spParc 40) : Sat G N_is_parcel.length ir_is_parcel spIsPc := by
  rintro vs H Q E ⟨d, rfl, ho, hd, q⟩
  unfold ir_is_parcel
  simp only [wE_v, wE_non, wE_bl, wE_int, wE_str, wE_gc, wE_tup, wE_lst, wE_dic0, wE_dicS, wE_bin, wE_cmp, wE_chn, wE_and, wE_or, wE_not, wE_neg, wE_ife, wE_idx, wE_slc, wE_rev, wE_fld, wE_call, wE_meth, wE_make, wE_blt, wE_bm, wE_isi, wE_xf, wE_xi, wTg_nm, wTg_tp, wTg_fld, wTg_sub, wIt_seq, wIt_rng0, wIt_rng1, wIt_enu, wIt_zip, wS_set, wS_expr, wS_ret, wS_retN, wS_ife, wS_raise, wS_try, wS_pass, wS_brk, wS_cont, wS_augN, wS_augF, wS_augS, wEs, wO, wAll, wTgs, wB, List.cons_append, List.nil_append, List.getElem?_cons_zero, List.getElem?_cons_succ, List.set_cons_zero, List.set_cons_succ, Option.some.injEq, exists_eq_left', D.bl.injEq, D.int.injEq, List.map_cons, List.map_nil, List.length_cons, List.length_nil, List.replicate, List.append_eq, Nat.reduceAdd, Nat.reduceSub, Nat.zero_add, Nat.add_zero, Nat.sub_zero, List.any_cons, List.any_nil, Bool.or_false, rd_int, rd_bl, rd_str, rd_non, rd_tup, rd_lst, rd_stl, reduceIte, Bool.not_true, Bool.not_false, Bool.false_eq_true, Nat.sub_self, binD, cmpD, alc_f, dwipe, leD_ii, ltD_ii, gtD_ii, addD_ii, mulD_ii, eqD_ii, len_tup, len_lst, len_str, int_int, int_bl, tuple_lst, tuple_tup, N_is_parcel, hg, gc_DEEP, h1]
  exact ⟨d, 20, rfl, ho, hd, Fz0 q⟩
end Sp

set_option maxRecDepth 10000000
set_option maxHeartbeats 100000000
namespace Sp
open PySem DL Ir
def whN (n : Nat) : List Int := if h : 128 ≤ n then (128 + (n : Int) % 128) :: whN (n / 128) else [(n : Int)]
theorem whN_ge {n : Nat} (h : 128 ≤ n) : whN n = (128 + (n : Int) % 128) :: whN (n / 128) := by rw [whN, dif_pos h]
theorem whN_lt {n : Nat} (h : ¬ 128 ≤ n) : whN n = [(n : Int)] := by rw [whN, dif_neg h]
def spWhole : DSp := fun ds H Q _ => ∃ n : Nat, ds = [.int n] ∧ (whN n).length ≤ 1000000 ∧ Q (.lst ((whN n).map .int)) H
theorem gc_BASE : gcv "BASE" = some (.int 128) := rfl
theorem geD_ii {i j : Int} {Q : Bool → Prop} : cmpD .ge (.int i) (.int j) Q = Q (decide (j ≤ i)) := rfl
theorem rd_ref {H : DH} {p : Addr} {o : D} : rd (dupd H p o) (.ref p) = o := by show (dupd H p o p).getD _ = o; rw [dupd_same]; rfl
theorem sat_whole {G : Gam} (hg : G.gc = gcv) : Sat G N_whole.length ir_whole spWhole := by
  rintro vs H Q E ⟨n0, rfl, hl, q⟩
  unfold ir_whole
  simp only [wE_v, wE_non, wE_bl, wE_int, wE_str, wE_gc, wE_tup, wE_lst, wE_dic0, wE_dicS, wE_bin, wE_cmp, wE_chn, wE_and, wE_or, wE_not, wE_neg, wE_ife, wE_idx, wE_slc, wE_rev, wE_fld, wE_call, wE_meth, wE_make, wE_blt, wE_bm, wE_isi, wE_xf, wE_xi, wTg_nm, wTg_tp, wTg_fld, wTg_sub, wIt_seq, wIt_rng0, wIt_rng1, wIt_enu, wIt_zip, wS_set, wS_expr, wS_ret, wS_retN, wS_ife, wS_raise, wS_try, wS_pass, wS_brk, wS_cont, wS_augN, wS_augF, wS_augS, wEs, wO, wAll, wTgs, wB, List.cons_append, List.nil_append, List.getElem?_cons_zero, List.getElem?_cons_succ, List.set_cons_zero, List.set_cons_succ, Option.some.injEq, exists_eq_left', D.bl.injEq, D.int.injEq, List.map_cons, List.map_nil, List.length_cons, List.length_nil, List.replicate, List.append_eq, Nat.reduceAdd, Nat.reduceSub, Nat.zero_add, Nat.add_zero, Nat.sub_zero, List.any_cons, List.any_nil, Bool.or_false, rd_int, rd_bl, rd_str, rd_non, rd_tup, rd_lst, rd_stl, reduceIte, Bool.not_true, Bool.not_false, Bool.false_eq_true, Nat.sub_self, binD, cmpD, alc_f, dwipe, leD_ii, ltD_ii, gtD_ii, addD_ii, mulD_ii, eqD_ii, len_tup, len_lst, len_str, int_int, int_bl, tuple_lst, tuple_tup, N_whole, alc_t]
  intro p hp
  rw [wS]
  refine ⟨fun m σ H' => ∃ n acc, σ = [some (.int (n : Nat)), some (.ref p)] ∧ m = n ∧ H' = dupd H p (.lst (acc.map .int)) ∧ acc ++ whN n = whN n0, ⟨n0, n0, [], rfl, rfl, rfl, rfl⟩, ?_⟩
  rintro m σ H' ⟨n, acc, rfl, rfl, rfl, e⟩
  simp only [wE_v, wE_non, wE_bl, wE_int, wE_str, wE_gc, wE_tup, wE_lst, wE_dic0, wE_dicS, wE_bin, wE_cmp, wE_chn, wE_and, wE_or, wE_not, wE_neg, wE_ife, wE_idx, wE_slc, wE_rev, wE_fld, wE_call, wE_meth, wE_make, wE_blt, wE_bm, wE_isi, wE_xf, wE_xi, wTg_nm, wTg_tp, wTg_fld, wTg_sub, wIt_seq, wIt_rng0, wIt_rng1, wIt_enu, wIt_zip, wS_set, wS_expr, wS_ret, wS_retN, wS_ife, wS_raise, wS_try, wS_pass, wS_brk, wS_cont, wS_augN, wS_augF, wS_augS, wEs, wO, wAll, wTgs, wB, List.cons_append, List.nil_append, List.getElem?_cons_zero, List.getElem?_cons_succ, List.set_cons_zero, List.set_cons_succ, Option.some.injEq, exists_eq_left', D.bl.injEq, D.int.injEq, List.map_cons, List.map_nil, List.length_cons, List.length_nil, List.replicate, List.append_eq, Nat.reduceAdd, Nat.reduceSub, Nat.zero_add, Nat.add_zero, Nat.sub_zero, List.any_cons, List.any_nil, Bool.or_false, rd_int, rd_bl, rd_str, rd_non, rd_tup, rd_lst, rd_stl, reduceIte, Bool.not_true, Bool.not_false, Bool.false_eq_true, Nat.sub_self, binD, cmpD, alc_f, dwipe, leD_ii, ltD_ii, gtD_ii, addD_ii, mulD_ii, eqD_ii, len_tup, len_lst, len_str, int_int, int_bl, tuple_lst, tuple_tup, hg, gc_BASE]
  rw [rd_ref]
  by_cases h : 128 ≤ m
  · rw [if_pos (decide_eq_true (by omega))]
    have e2 := e
    rw [whN_ge h] at e2
    have hlen : acc.length < 1000000 := by
      have := congrArg List.length e2
      rw [List.length_append, List.length_cons] at this
      omega
    refine ⟨rfl, by decide, _, _, rfl, dupd_same, by rw [List.length_map]; exact Nat.lt_of_lt_of_le hlen (by decide), ⟨by decide, by decide⟩, Fz.here ⟨m / 128, by omega, m / 128, acc ++ [128 + (m : Int) % 128], ?_, rfl, ?_, ?_⟩⟩
    · rfl
    · rw [dupd_dupd, List.map_append]; rfl
    · rw [List.append_assoc]; exact e2
  · rw [if_neg (by rw [decide_eq_false (by omega)]; simp)]
    have e2 := e
    rw [whN_lt h] at e2
    have hlen : acc.length + 1 ≤ 1000000 := by
      have := congrArg List.length e2
      rw [List.length_append, List.length_cons, List.length_nil] at this
      omega
    refine ⟨by rw [List.length_map]; exact Nat.le_trans hlen (by decide), ?_⟩
    rw [alc_f]
    refine FzV.drop hp ?_
    rw [← e2, List.map_append] at q
    exact q
theorem sat_lwhole {G : Gam} : Sat G N__law_whole.length ir__law_whole spWhole := by
  rintro vs H Q E ⟨n0, rfl, hl, q⟩
  unfold ir__law_whole
  simp only [wE_v, wE_non, wE_bl, wE_int, wE_str, wE_gc, wE_tup, wE_lst, wE_dic0, wE_dicS, wE_bin, wE_cmp, wE_chn, wE_and, wE_or, wE_not, wE_neg, wE_ife, wE_idx, wE_slc, wE_rev, wE_fld, wE_call, wE_meth, wE_make, wE_blt, wE_bm, wE_isi, wE_xf, wE_xi, wTg_nm, wTg_tp, wTg_fld, wTg_sub, wIt_seq, wIt_rng0, wIt_rng1, wIt_enu, wIt_zip, wS_set, wS_expr, wS_ret, wS_retN, wS_ife, wS_raise, wS_try, wS_pass, wS_brk, wS_cont, wS_augN, wS_augF, wS_augS, wEs, wO, wAll, wTgs, wB, List.cons_append, List.nil_append, List.getElem?_cons_zero, List.getElem?_cons_succ, List.set_cons_zero, List.set_cons_succ, Option.some.injEq, exists_eq_left', D.bl.injEq, D.int.injEq, List.map_cons, List.map_nil, List.length_cons, List.length_nil, List.replicate, List.append_eq, Nat.reduceAdd, Nat.reduceSub, Nat.zero_add, Nat.add_zero, Nat.sub_zero, List.any_cons, List.any_nil, Bool.or_false, rd_int, rd_bl, rd_str, rd_non, rd_tup, rd_lst, rd_stl, reduceIte, Bool.not_true, Bool.not_false, Bool.false_eq_true, Nat.sub_self, binD, cmpD, alc_f, dwipe, leD_ii, ltD_ii, gtD_ii, addD_ii, mulD_ii, eqD_ii, len_tup, len_lst, len_str, int_int, int_bl, tuple_lst, tuple_tup, N__law_whole, alc_t]
  intro p hp
  rw [wS]
  refine ⟨fun m σ H' => ∃ n acc, σ = [some (.int (n : Nat)), some (.ref p)] ∧ m = n ∧ H' = dupd H p (.lst (acc.map .int)) ∧ acc ++ whN n = whN n0, ⟨n0, n0, [], rfl, rfl, rfl, rfl⟩, ?_⟩
  rintro m σ H' ⟨n, acc, rfl, rfl, rfl, e⟩
  simp only [wE_v, wE_non, wE_bl, wE_int, wE_str, wE_gc, wE_tup, wE_lst, wE_dic0, wE_dicS, wE_bin, wE_cmp, wE_chn, wE_and, wE_or, wE_not, wE_neg, wE_ife, wE_idx, wE_slc, wE_rev, wE_fld, wE_call, wE_meth, wE_make, wE_blt, wE_bm, wE_isi, wE_xf, wE_xi, wTg_nm, wTg_tp, wTg_fld, wTg_sub, wIt_seq, wIt_rng0, wIt_rng1, wIt_enu, wIt_zip, wS_set, wS_expr, wS_ret, wS_retN, wS_ife, wS_raise, wS_try, wS_pass, wS_brk, wS_cont, wS_augN, wS_augF, wS_augS, wEs, wO, wAll, wTgs, wB, List.cons_append, List.nil_append, List.getElem?_cons_zero, List.getElem?_cons_succ, List.set_cons_zero, List.set_cons_succ, Option.some.injEq, exists_eq_left', D.bl.injEq, D.int.injEq, List.map_cons, List.map_nil, List.length_cons, List.length_nil, List.replicate, List.append_eq, Nat.reduceAdd, Nat.reduceSub, Nat.zero_add, Nat.add_zero, Nat.sub_zero, List.any_cons, List.any_nil, Bool.or_false, rd_int, rd_bl, rd_str, rd_non, rd_tup, rd_lst, rd_stl, reduceIte, Bool.not_true, Bool.not_false, Bool.false_eq_true, Nat.sub_self, binD, cmpD, alc_f, dwipe, leD_ii, ltD_ii, gtD_ii, addD_ii, mulD_ii, eqD_ii, len_tup, len_lst, len_str, int_int, int_bl, tuple_lst, tuple_tup]
  rw [rd_ref]
  by_cases h : 128 ≤ m
  · rw [if_pos (decide_eq_true (by omega))]
    have e2 := e
    rw [whN_ge h, Int.add_comm] at e2
    have hlen : acc.length < 1000000 := by
      have := congrArg List.length e2
      rw [List.length_append, List.length_cons] at this
      omega
    refine ⟨rfl, by decide, _, _, rfl, dupd_same, by rw [List.length_map]; exact Nat.lt_of_lt_of_le hlen (by decide), ⟨by decide, by decide⟩, Fz.here ⟨m / 128, by omega, m / 128, acc ++ [(m : Int) % 128 + 128], ?_, rfl, ?_, ?_⟩⟩
    · rfl
    · rw [dupd_dupd, List.map_append]; rfl
    · rw [List.append_assoc]; exact e2
  · rw [if_neg (by rw [decide_eq_false (by omega)]; simp)]
    have e2 := e
    rw [whN_lt h] at e2
    have hlen : acc.length + 1 ≤ 1000000 := by
      have := congrArg List.length e2
      rw [List.length_append, List.length_cons, List.length_nil] at this
      omega
    refine ⟨by rw [List.length_map]; exact Nat.le_trans hlen (by decide), ?_⟩
    rw [alc_f]
    refine FzV.drop hp ?_
    rw [← e2, List.map_append] at q
    exact q
end Sp

set_option maxRecDepth 100000
set_option maxHeartbeats 1000000
namespace Sp
open PySem DL Ir
mutual
def pby : D → List Int
  | .non => [0]
  | .bl b => [if b = true then 2 else 1]
  | .int i => if 0 ≤ i then 3 :: whN i.toNat else 4 :: whN (-1 - i).toNat
  | .str s => 5 :: (whN s.length ++ s.cps.toList.map fun (c : Nat) => (c : Int))
  | .tup xs => 6 :: (whN xs.length ++ pbys xs)
  | .lst _ => [] | .stl _ => [] | .stp _ => [] | .dic _ _ => [] | .ins _ _ => [] | .ref _ => [] | .exn _ _ _ _ => []
def pbys : List D → List Int
  | [] => []
  | x :: xs => pby x ++ pbys xs
end
mutual
/-- nested tuples of plain things -/
def isP : D → Bool
  | .tup xs => isPs xs
  | .non => true | .int _ => true | .bl _ => true | .str _ => true
  | .lst _ => false | .stl _ => false | .stp _ => false | .dic _ _ => false | .ins _ _ => false | .ref _ => false | .exn _ _ _ _ => false
def isPs : List D → Bool
  | [] => true
  | x :: xs => isP x && isPs xs
end
theorem isPs_get {d : D} : ∀ {xs : List D} {i : Nat}, isPs xs = true → xs[i]? = some d → isP d = true
  | x :: xs, 0, h, m => by
    rw [isPs, Bool.and_eq_true] at h
    cases m
    exact h.1
  | x :: xs, i + 1, h, m => by
    rw [isPs, Bool.and_eq_true] at h
    exact isPs_get h.2 m
theorem pbys_take {d : D} : ∀ {xs : List D} {i : Nat}, xs[i]? = some d → pbys (xs.take (i + 1)) = pbys (xs.take i) ++ pby d
  | x :: xs, 0, m => by cases m; rw [List.take_succ_cons, List.take_zero, List.take_zero, pbys, pbys, pbys, List.append_nil, List.nil_append]
  | x :: xs, i + 1, m => by rw [List.take_succ_cons, List.take_succ_cons, pbys, pbys, pbys_take (by simpa using m), List.append_assoc]
theorem pbys_take_le {xs : List D} (i : Nat) : (pbys (xs.take i)).length ≤ (pbys xs).length := by
  induction xs generalizing i with
  | nil => simp
  | cons x xs ih =>
    cases i with
    | zero => rw [List.take_zero, pbys]; exact Nat.zero_le _
    | succ i => rw [List.take_succ_cons, pbys, pbys, List.length_append, List.length_append]; exact Nat.add_le_add_left (ih i) _
def ordD : D → D
  | .str t => .int (t.cps.getD 0 0 : Nat)
  | _ => .non
def spBytes (n : Nat) : DSp := fun ds H Q _ => ∃ d, ds = [d] ∧ isP d = true ∧ deep d < n ∧ (pby d).length ≤ 1000000 ∧ Q (.lst ((pby d).map .int)) H
theorem gc_NOTHING : gcv "NOTHING" = some (.int 0) := rfl
theorem gc_NO : gcv "NO" = some (.int 1) := rfl
theorem gc_YES : gcv "YES" = some (.int 2) := rfl
theorem gc_NUMBER : gcv "NUMBER" = some (.int 3) := rfl
theorem gc_BELOW : gcv "BELOW" = some (.int 4) := rfl
theorem gc_STRING : gcv "STRING" = some (.int 5) := rfl
theorem gc_SEVERAL : gcv "SEVERAL" = some (.int 6) := rfl
theorem isP_isi {G : Gam} {H : DH} {d : D} (h : isP d = true) : rd H d = d ∧ isiOk G.pl d = true := by
  cases d <;> first | (cases h; done) | exact ⟨rfl, rfl⟩
theorem sat_bytes {G : Gam} (hg : G.gc = gcv) (h1 : G.fn "whole" = spWhole) {n : Nat} (h2 : G.fn "bytes_of" = spBytes n) : Sat G N_bytes_of.length ir_bytes_of (spBytes (n + 1)) := by
  rintro vs H Q E ⟨d, rfl, ho, hd, hl, q⟩
  unfold ir_bytes_of
  obtain ⟨e1, e2⟩ := isP_isi (G := G) (H := H) ho
  simp only [wE_v, wE_non, wE_bl, wE_int, wE_str, wE_gc, wE_tup, wE_lst, wE_dic0, wE_dicS, wE_bin, wE_cmp, wE_chn, wE_and, wE_or, wE_not, wE_neg, wE_ife, wE_idx, wE_slc, wE_rev, wE_fld, wE_call, wE_meth, wE_make, wE_blt, wE_bm, wE_isi, wE_xf, wE_xi, wTg_nm, wTg_tp, wTg_fld, wTg_sub, wIt_seq, wIt_rng0, wIt_rng1, wIt_enu, wIt_zip, wS_set, wS_expr, wS_ret, wS_retN, wS_ife, wS_raise, wS_try, wS_pass, wS_brk, wS_cont, wS_augN, wS_augF, wS_augS, wEs, wO, wAll, wTgs, wB, List.cons_append, List.nil_append, List.getElem?_cons_zero, List.getElem?_cons_succ, List.set_cons_zero, List.set_cons_succ, Option.some.injEq, exists_eq_left', D.bl.injEq, D.int.injEq, List.map_cons, List.map_nil, List.length_cons, List.length_nil, List.replicate, List.append_eq, Nat.reduceAdd, Nat.reduceSub, Nat.zero_add, Nat.add_zero, Nat.sub_zero, List.any_cons, List.any_nil, Bool.or_false, rd_int, rd_bl, rd_str, rd_non, rd_tup, rd_lst, rd_stl, reduceIte, Bool.not_true, Bool.not_false, Bool.false_eq_true, Nat.sub_self, binD, cmpD, alc_f, dwipe, leD_ii, ltD_ii, gtD_ii, addD_ii, mulD_ii, eqD_ii, len_tup, len_lst, len_str, int_int, int_bl, tuple_lst, tuple_tup, N_bytes_of, e1, hg, gc_NOTHING, gc_NO, gc_YES, gc_NUMBER, gc_BELOW, gc_STRING, gc_SEVERAL, h1]
  cases d with
  | non => exact Fz0 q
  | bl b =>
    simp only [wE_v, wE_non, wE_bl, wE_int, wE_str, wE_gc, wE_tup, wE_lst, wE_dic0, wE_dicS, wE_bin, wE_cmp, wE_chn, wE_and, wE_or, wE_not, wE_neg, wE_ife, wE_idx, wE_slc, wE_rev, wE_fld, wE_call, wE_meth, wE_make, wE_blt, wE_bm, wE_isi, wE_xf, wE_xi, wTg_nm, wTg_tp, wTg_fld, wTg_sub, wIt_seq, wIt_rng0, wIt_rng1, wIt_enu, wIt_zip, wS_set, wS_expr, wS_ret, wS_retN, wS_ife, wS_raise, wS_try, wS_pass, wS_brk, wS_cont, wS_augN, wS_augF, wS_augS, wEs, wO, wAll, wTgs, wB, List.cons_append, List.nil_append, List.getElem?_cons_zero, List.getElem?_cons_succ, List.set_cons_zero, List.set_cons_succ, Option.some.injEq, exists_eq_left', D.bl.injEq, D.int.injEq, List.map_cons, List.map_nil, List.length_cons, List.length_nil, List.replicate, List.append_eq, Nat.reduceAdd, Nat.reduceSub, Nat.zero_add, Nat.add_zero, Nat.sub_zero, List.any_cons, List.any_nil, Bool.or_false, rd_int, rd_bl, rd_str, rd_non, rd_tup, rd_lst, rd_stl, reduceIte, Bool.not_true, Bool.not_false, Bool.false_eq_true, Nat.sub_self, binD, cmpD, alc_f, dwipe, leD_ii, ltD_ii, gtD_ii, addD_ii, mulD_ii, eqD_ii, len_tup, len_lst, len_str, int_int, int_bl, tuple_lst, tuple_tup, isD, isNon, tyD, rd_bl]
    refine ⟨e2, ?_⟩
    cases b <;> exact Fz0 q
  | int i =>
    simp only [wE_v, wE_non, wE_bl, wE_int, wE_str, wE_gc, wE_tup, wE_lst, wE_dic0, wE_dicS, wE_bin, wE_cmp, wE_chn, wE_and, wE_or, wE_not, wE_neg, wE_ife, wE_idx, wE_slc, wE_rev, wE_fld, wE_call, wE_meth, wE_make, wE_blt, wE_bm, wE_isi, wE_xf, wE_xi, wTg_nm, wTg_tp, wTg_fld, wTg_sub, wIt_seq, wIt_rng0, wIt_rng1, wIt_enu, wIt_zip, wS_set, wS_expr, wS_ret, wS_retN, wS_ife, wS_raise, wS_try, wS_pass, wS_brk, wS_cont, wS_augN, wS_augF, wS_augS, wEs, wO, wAll, wTgs, wB, List.cons_append, List.nil_append, List.getElem?_cons_zero, List.getElem?_cons_succ, List.set_cons_zero, List.set_cons_succ, Option.some.injEq, exists_eq_left', D.bl.injEq, D.int.injEq, List.map_cons, List.map_nil, List.length_cons, List.length_nil, List.replicate, List.append_eq, Nat.reduceAdd, Nat.reduceSub, Nat.zero_add, Nat.add_zero, Nat.sub_zero, List.any_cons, List.any_nil, Bool.or_false, rd_int, rd_bl, rd_str, rd_non, rd_tup, rd_lst, rd_stl, reduceIte, Bool.not_true, Bool.not_false, Bool.false_eq_true, Nat.sub_self, binD, cmpD, alc_f, dwipe, leD_ii, ltD_ii, gtD_ii, addD_ii, mulD_ii, eqD_ii, len_tup, len_lst, len_str, int_int, int_bl, tuple_lst, tuple_tup, isD, isNon, tyD, geD_ii]
    refine ⟨e2, e2, ?_⟩
    rw [pby] at q hl
    by_cases h : 0 ≤ i
    · rw [if_pos h] at q hl
      rw [if_pos (decide_eq_true h)]
      rw [List.length_cons] at hl
      refine ⟨i.toNat, by rw [Int.toNat_of_nonneg h], by omega, ?_⟩
      show addD _ _ _ _ _
      refine ⟨by rw [List.length_map]; exact Nat.le_trans (show _ ≤ 1000001 by simp only [List.length_cons, List.length_nil]; omega) (by decide), ?_⟩
      exact Fz0 q
    · rw [if_neg h] at q hl
      rw [if_neg (by rw [decide_eq_false h]; simp)]
      rw [List.length_cons] at hl
      refine ⟨(-1 - i).toNat, by rw [Int.toNat_of_nonneg (by omega)], by omega, ?_⟩
      show addD _ _ _ _ _
      refine ⟨by rw [List.length_map]; exact Nat.le_trans (show _ ≤ 1000001 by simp only [List.length_cons, List.length_nil]; omega) (by decide), ?_⟩
      exact Fz0 q
  | str s => 
    simp only [wE_v, wE_non, wE_bl, wE_int, wE_str, wE_gc, wE_tup, wE_lst, wE_dic0, wE_dicS, wE_bin, wE_cmp, wE_chn, wE_and, wE_or, wE_not, wE_neg, wE_ife, wE_idx, wE_slc, wE_rev, wE_fld, wE_call, wE_meth, wE_make, wE_blt, wE_bm, wE_isi, wE_xf, wE_xi, wTg_nm, wTg_tp, wTg_fld, wTg_sub, wIt_seq, wIt_rng0, wIt_rng1, wIt_enu, wIt_zip, wS_set, wS_expr, wS_ret, wS_retN, wS_ife, wS_raise, wS_try, wS_pass, wS_brk, wS_cont, wS_augN, wS_augF, wS_augS, wEs, wO, wAll, wTgs, wB, List.cons_append, List.nil_append, List.getElem?_cons_zero, List.getElem?_cons_succ, List.set_cons_zero, List.set_cons_succ, Option.some.injEq, exists_eq_left', D.bl.injEq, D.int.injEq, List.map_cons, List.map_nil, List.length_cons, List.length_nil, List.replicate, List.append_eq, Nat.reduceAdd, Nat.reduceSub, Nat.zero_add, Nat.add_zero, Nat.sub_zero, List.any_cons, List.any_nil, Bool.or_false, rd_int, rd_bl, rd_str, rd_non, rd_tup, rd_lst, rd_stl, reduceIte, Bool.not_true, Bool.not_false, Bool.false_eq_true, Nat.sub_self, binD, cmpD, alc_f, dwipe, leD_ii, ltD_ii, gtD_ii, addD_ii, mulD_ii, eqD_ii, len_tup, len_lst, len_str, int_int, int_bl, tuple_lst, tuple_tup, isD, isNon, tyD]
    rw [pby] at q hl
    rw [List.length_cons, List.length_append, List.length_map] at hl
    refine ⟨e2, e2, e2, s.length, rfl, by omega, ?_⟩
    show addD _ _ _ _ _
    refine ⟨by rw [List.length_map]; exact Nat.le_trans (show _ ≤ 1000001 by simp only [List.length_cons, List.length_nil]; omega) (by decide), ?_⟩
    rw [alc_f]
    refine comp_map (ds := chars s) (st := fun _ => seqOf (.str s) = some (chars s)) ordD ?_ (fun _ _ _ => rfl) ?_ ?_
    · intro K hK
      simp only [wE_v, wE_non, wE_bl, wE_int, wE_str, wE_gc, wE_tup, wE_lst, wE_dic0, wE_dicS, wE_bin, wE_cmp, wE_chn, wE_and, wE_or, wE_not, wE_neg, wE_ife, wE_idx, wE_slc, wE_rev, wE_fld, wE_call, wE_meth, wE_make, wE_blt, wE_bm, wE_isi, wE_xf, wE_xi, wTg_nm, wTg_tp, wTg_fld, wTg_sub, wIt_seq, wIt_rng0, wIt_rng1, wIt_enu, wIt_zip, wS_set, wS_expr, wS_ret, wS_retN, wS_ife, wS_raise, wS_try, wS_pass, wS_brk, wS_cont, wS_augN, wS_augF, wS_augS, wEs, wO, wAll, wTgs, wB, List.cons_append, List.nil_append, List.getElem?_cons_zero, List.getElem?_cons_succ, List.set_cons_zero, List.set_cons_succ, Option.some.injEq, exists_eq_left', D.bl.injEq, D.int.injEq, List.map_cons, List.map_nil, List.length_cons, List.length_nil, List.replicate, List.append_eq, Nat.reduceAdd, Nat.reduceSub, Nat.zero_add, Nat.add_zero, Nat.sub_zero, List.any_cons, List.any_nil, Bool.or_false, rd_int, rd_bl, rd_str, rd_non, rd_tup, rd_lst, rd_stl, reduceIte, Bool.not_true, Bool.not_false, Bool.false_eq_true, Nat.sub_self, binD, cmpD, alc_f, dwipe, leD_ii, ltD_ii, gtD_ii, addD_ii, mulD_ii, eqD_ii, len_tup, len_lst, len_str, int_int, int_bl, tuple_lst, tuple_tup]
      exact ⟨chars s, rfl, hK⟩
    · intro d hd p acc K hp hK
      obtain ⟨c, -, rfl⟩ := List.mem_map.mp hd
      simp only [wE_v, wE_non, wE_bl, wE_int, wE_str, wE_gc, wE_tup, wE_lst, wE_dic0, wE_dicS, wE_bin, wE_cmp, wE_chn, wE_and, wE_or, wE_not, wE_neg, wE_ife, wE_idx, wE_slc, wE_rev, wE_fld, wE_call, wE_meth, wE_make, wE_blt, wE_bm, wE_isi, wE_xf, wE_xi, wTg_nm, wTg_tp, wTg_fld, wTg_sub, wIt_seq, wIt_rng0, wIt_rng1, wIt_enu, wIt_zip, wS_set, wS_expr, wS_ret, wS_retN, wS_ife, wS_raise, wS_try, wS_pass, wS_brk, wS_cont, wS_augN, wS_augF, wS_augS, wEs, wO, wAll, wTgs, wB, List.cons_append, List.nil_append, List.getElem?_cons_zero, List.getElem?_cons_succ, List.set_cons_zero, List.set_cons_succ, Option.some.injEq, exists_eq_left', D.bl.injEq, D.int.injEq, List.map_cons, List.map_nil, List.length_cons, List.length_nil, List.replicate, List.append_eq, Nat.reduceAdd, Nat.reduceSub, Nat.zero_add, Nat.add_zero, Nat.sub_zero, List.any_cons, List.any_nil, Bool.or_false, rd_int, rd_bl, rd_str, rd_non, rd_tup, rd_lst, rd_stl, reduceIte, Bool.not_true, Bool.not_false, Bool.false_eq_true, Nat.sub_self, binD, cmpD, alc_f, dwipe, leD_ii, ltD_ii, gtD_ii, addD_ii, mulD_ii, eqD_ii, len_tup, len_lst, len_str, int_int, int_bl, tuple_lst, tuple_tup]
      refine hK _ fun K2 hK2 => ?_
      simp only [wE_v, wE_non, wE_bl, wE_int, wE_str, wE_gc, wE_tup, wE_lst, wE_dic0, wE_dicS, wE_bin, wE_cmp, wE_chn, wE_and, wE_or, wE_not, wE_neg, wE_ife, wE_idx, wE_slc, wE_rev, wE_fld, wE_call, wE_meth, wE_make, wE_blt, wE_bm, wE_isi, wE_xf, wE_xi, wTg_nm, wTg_tp, wTg_fld, wTg_sub, wIt_seq, wIt_rng0, wIt_rng1, wIt_enu, wIt_zip, wS_set, wS_expr, wS_ret, wS_retN, wS_ife, wS_raise, wS_try, wS_pass, wS_brk, wS_cont, wS_augN, wS_augF, wS_augS, wEs, wO, wAll, wTgs, wB, List.cons_append, List.nil_append, List.getElem?_cons_zero, List.getElem?_cons_succ, List.set_cons_zero, List.set_cons_succ, Option.some.injEq, exists_eq_left', D.bl.injEq, D.int.injEq, List.map_cons, List.map_nil, List.length_cons, List.length_nil, List.replicate, List.append_eq, Nat.reduceAdd, Nat.reduceSub, Nat.zero_add, Nat.add_zero, Nat.sub_zero, List.any_cons, List.any_nil, Bool.or_false, rd_int, rd_bl, rd_str, rd_non, rd_tup, rd_lst, rd_stl, reduceIte, Bool.not_true, Bool.not_false, Bool.false_eq_true, Nat.sub_self, binD, cmpD, alc_f, dwipe, leD_ii, ltD_ii, gtD_ii, addD_ii, mulD_ii, eqD_ii, len_tup, len_lst, len_str, int_int, int_bl, tuple_lst, tuple_tup]
      exact ⟨rfl, hK2⟩
    · rw [alc_f]
      show addD _ _ _ _ _
      have e : (chars s).map ordD = (s.cps.toList.map fun (c : Nat) => (c : Int)).map .int := by
        unfold chars
        rw [List.map_map, List.map_map]
        rfl
      rw [e]
      refine ⟨?_, ?_⟩
      · rw [List.length_append, List.length_map, List.length_map, List.length_map]
        exact Nat.le_trans (show _ ≤ 1000001 by simp only [List.length_cons, List.length_nil]; omega) (by decide)
      · rw [alc_f]
        refine Fz0 ?_
        rw [List.map_cons, List.map_append] at q
        exact q
  | tup xs => 
    simp only [wE_v, wE_non, wE_bl, wE_int, wE_str, wE_gc, wE_tup, wE_lst, wE_dic0, wE_dicS, wE_bin, wE_cmp, wE_chn, wE_and, wE_or, wE_not, wE_neg, wE_ife, wE_idx, wE_slc, wE_rev, wE_fld, wE_call, wE_meth, wE_make, wE_blt, wE_bm, wE_isi, wE_xf, wE_xi, wTg_nm, wTg_tp, wTg_fld, wTg_sub, wIt_seq, wIt_rng0, wIt_rng1, wIt_enu, wIt_zip, wS_set, wS_expr, wS_ret, wS_retN, wS_ife, wS_raise, wS_try, wS_pass, wS_brk, wS_cont, wS_augN, wS_augF, wS_augS, wEs, wO, wAll, wTgs, wB, List.cons_append, List.nil_append, List.getElem?_cons_zero, List.getElem?_cons_succ, List.set_cons_zero, List.set_cons_succ, Option.some.injEq, exists_eq_left', D.bl.injEq, D.int.injEq, List.map_cons, List.map_nil, List.length_cons, List.length_nil, List.replicate, List.append_eq, Nat.reduceAdd, Nat.reduceSub, Nat.zero_add, Nat.add_zero, Nat.sub_zero, List.any_cons, List.any_nil, Bool.or_false, rd_int, rd_bl, rd_str, rd_non, rd_tup, rd_lst, rd_stl, reduceIte, Bool.not_true, Bool.not_false, Bool.false_eq_true, Nat.sub_self, binD, cmpD, alc_f, dwipe, leD_ii, ltD_ii, gtD_ii, addD_ii, mulD_ii, eqD_ii, len_tup, len_lst, len_str, int_int, int_bl, tuple_lst, tuple_tup, isD, isNon, tyD]
    rw [pby] at q hl
    rw [List.length_cons, List.length_append] at hl
    rw [isP] at ho
    rw [deep] at hd
    refine ⟨e2, e2, e2, xs.length, rfl, by omega, ?_⟩
    show addD _ _ _ _ _
    refine ⟨by rw [List.length_map]; exact Nat.le_trans (show _ ≤ 1000001 by simp only [List.length_cons, List.length_nil]; omega) (by decide), ?_⟩
    rw [alc_t]
    intro p hp
    rw [wS]
    simp only [wE_v, wE_non, wE_bl, wE_int, wE_str, wE_gc, wE_tup, wE_lst, wE_dic0, wE_dicS, wE_bin, wE_cmp, wE_chn, wE_and, wE_or, wE_not, wE_neg, wE_ife, wE_idx, wE_slc, wE_rev, wE_fld, wE_call, wE_meth, wE_make, wE_blt, wE_bm, wE_isi, wE_xf, wE_xi, wTg_nm, wTg_tp, wTg_fld, wTg_sub, wIt_seq, wIt_rng0, wIt_rng1, wIt_enu, wIt_zip, wS_set, wS_expr, wS_ret, wS_retN, wS_ife, wS_raise, wS_try, wS_pass, wS_brk, wS_cont, wS_augN, wS_augF, wS_augS, wEs, wO, wAll, wTgs, wB, List.cons_append, List.nil_append, List.getElem?_cons_zero, List.getElem?_cons_succ, List.set_cons_zero, List.set_cons_succ, Option.some.injEq, exists_eq_left', D.bl.injEq, D.int.injEq, List.map_cons, List.map_nil, List.length_cons, List.length_nil, List.replicate, List.append_eq, Nat.reduceAdd, Nat.reduceSub, Nat.zero_add, Nat.add_zero, Nat.sub_zero, List.any_cons, List.any_nil, Bool.or_false, rd_int, rd_bl, rd_str, rd_non, rd_tup, rd_lst, rd_stl, reduceIte, Bool.not_true, Bool.not_false, Bool.false_eq_true, Nat.sub_self, binD, cmpD, alc_f, dwipe, leD_ii, ltD_ii, gtD_ii, addD_ii, mulD_ii, eqD_ii, len_tup, len_lst, len_str, int_int, int_bl, tuple_lst, tuple_tup]
    refine ⟨xs, rfl, fun hz => ⟨fun i σ H' => ∃ o, σ = [some (.tup xs), some (.ref p), o, none] ∧ H' = dupd H p (.lst ((6 :: (whN xs.length ++ pbys (xs.take i))).map .int)), ⟨none, rfl, by rw [List.take_zero, pbys, List.append_nil, List.map_cons]⟩, ?_, ?_, ?_⟩⟩
    · rintro i σ H' ⟨o, rfl, rfl⟩
      rfl
    · rintro i d σ H' hi ⟨o, rfl, rfl⟩
      simp only [wE_v, wE_non, wE_bl, wE_int, wE_str, wE_gc, wE_tup, wE_lst, wE_dic0, wE_dicS, wE_bin, wE_cmp, wE_chn, wE_and, wE_or, wE_not, wE_neg, wE_ife, wE_idx, wE_slc, wE_rev, wE_fld, wE_call, wE_meth, wE_make, wE_blt, wE_bm, wE_isi, wE_xf, wE_xi, wTg_nm, wTg_tp, wTg_fld, wTg_sub, wIt_seq, wIt_rng0, wIt_rng1, wIt_enu, wIt_zip, wS_set, wS_expr, wS_ret, wS_retN, wS_ife, wS_raise, wS_try, wS_pass, wS_brk, wS_cont, wS_augN, wS_augF, wS_augS, wEs, wO, wAll, wTgs, wB, List.cons_append, List.nil_append, List.getElem?_cons_zero, List.getElem?_cons_succ, List.set_cons_zero, List.set_cons_succ, Option.some.injEq, exists_eq_left', D.bl.injEq, D.int.injEq, List.map_cons, List.map_nil, List.length_cons, List.length_nil, List.replicate, List.append_eq, Nat.reduceAdd, Nat.reduceSub, Nat.zero_add, Nat.add_zero, Nat.sub_zero, List.any_cons, List.any_nil, Bool.or_false, rd_int, rd_bl, rd_str, rd_non, rd_tup, rd_lst, rd_stl, reduceIte, Bool.not_true, Bool.not_false, Bool.false_eq_true, Nat.sub_self, binD, cmpD, alc_f, dwipe, leD_ii, ltD_ii, gtD_ii, addD_ii, mulD_ii, eqD_ii, len_tup, len_lst, len_str, int_int, int_bl, tuple_lst, tuple_tup, h2]
      rw [rd_ref]
      refine ⟨rfl, d, rfl, isPs_get ho hi, by have := deeps_mem (List.mem_of_getElem? hi); omega, ?_, ?_⟩
      · have h3 := pbys_take_le (xs := xs) (i + 1)
        rw [pbys_take hi, List.length_append] at h3
        omega
      · have h3 := pbys_take_le (xs := xs) (i + 1)
        rw [pbys_take hi, List.length_append] at h3
        refine ⟨p, _, _, rfl, dupd_same, rfl, ?_, ?_⟩
        · rw [List.length_map, List.length_cons, List.length_map, List.length_append]
          exact Nat.le_trans (show _ ≤ 1000001 by omega) (by decide)
        · refine Fz.here ⟨some d, rfl, ?_⟩
          rw [dupd_dupd, pbys_take hi, List.map_append, List.map_append, List.map_append, List.cons_append, List.append_assoc]
    · rintro σ H' ⟨o, rfl, rfl⟩
      rw [List.take_length]
      refine ⟨_, rfl, FzV.one hp q⟩
  | _ => cases ho
theorem sat_lbytes {G : Gam} (h1 : G.fn "_law_whole" = spWhole) {n : Nat} (h2 : G.fn "_law_bytes" = spBytes n) : Sat G N__law_bytes.length ir__law_bytes (spBytes (n + 1)) := by
  rintro vs H Q E ⟨d, rfl, ho, hd, hl, q⟩
  unfold ir__law_bytes
  obtain ⟨e1, e2⟩ := isP_isi (G := G) (H := H) ho
  simp only [wE_v, wE_non, wE_bl, wE_int, wE_str, wE_gc, wE_tup, wE_lst, wE_dic0, wE_dicS, wE_bin, wE_cmp, wE_chn, wE_and, wE_or, wE_not, wE_neg, wE_ife, wE_idx, wE_slc, wE_rev, wE_fld, wE_call, wE_meth, wE_make, wE_blt, wE_bm, wE_isi, wE_xf, wE_xi, wTg_nm, wTg_tp, wTg_fld, wTg_sub, wIt_seq, wIt_rng0, wIt_rng1, wIt_enu, wIt_zip, wS_set, wS_expr, wS_ret, wS_retN, wS_ife, wS_raise, wS_try, wS_pass, wS_brk, wS_cont, wS_augN, wS_augF, wS_augS, wEs, wO, wAll, wTgs, wB, List.cons_append, List.nil_append, List.getElem?_cons_zero, List.getElem?_cons_succ, List.set_cons_zero, List.set_cons_succ, Option.some.injEq, exists_eq_left', D.bl.injEq, D.int.injEq, List.map_cons, List.map_nil, List.length_cons, List.length_nil, List.replicate, List.append_eq, Nat.reduceAdd, Nat.reduceSub, Nat.zero_add, Nat.add_zero, Nat.sub_zero, List.any_cons, List.any_nil, Bool.or_false, rd_int, rd_bl, rd_str, rd_non, rd_tup, rd_lst, rd_stl, reduceIte, Bool.not_true, Bool.not_false, Bool.false_eq_true, Nat.sub_self, binD, cmpD, alc_f, dwipe, leD_ii, ltD_ii, gtD_ii, addD_ii, mulD_ii, eqD_ii, len_tup, len_lst, len_str, int_int, int_bl, tuple_lst, tuple_tup, N__law_bytes, e1, h1]
  cases d with
  | non => exact Fz0 q
  | bl b =>
    simp only [wE_v, wE_non, wE_bl, wE_int, wE_str, wE_gc, wE_tup, wE_lst, wE_dic0, wE_dicS, wE_bin, wE_cmp, wE_chn, wE_and, wE_or, wE_not, wE_neg, wE_ife, wE_idx, wE_slc, wE_rev, wE_fld, wE_call, wE_meth, wE_make, wE_blt, wE_bm, wE_isi, wE_xf, wE_xi, wTg_nm, wTg_tp, wTg_fld, wTg_sub, wIt_seq, wIt_rng0, wIt_rng1, wIt_enu, wIt_zip, wS_set, wS_expr, wS_ret, wS_retN, wS_ife, wS_raise, wS_try, wS_pass, wS_brk, wS_cont, wS_augN, wS_augF, wS_augS, wEs, wO, wAll, wTgs, wB, List.cons_append, List.nil_append, List.getElem?_cons_zero, List.getElem?_cons_succ, List.set_cons_zero, List.set_cons_succ, Option.some.injEq, exists_eq_left', D.bl.injEq, D.int.injEq, List.map_cons, List.map_nil, List.length_cons, List.length_nil, List.replicate, List.append_eq, Nat.reduceAdd, Nat.reduceSub, Nat.zero_add, Nat.add_zero, Nat.sub_zero, List.any_cons, List.any_nil, Bool.or_false, rd_int, rd_bl, rd_str, rd_non, rd_tup, rd_lst, rd_stl, reduceIte, Bool.not_true, Bool.not_false, Bool.false_eq_true, Nat.sub_self, binD, cmpD, alc_f, dwipe, leD_ii, ltD_ii, gtD_ii, addD_ii, mulD_ii, eqD_ii, len_tup, len_lst, len_str, int_int, int_bl, tuple_lst, tuple_tup, isD, isNon, tyD, rd_bl]
    refine ⟨e2, ?_⟩
    cases b <;> exact Fz0 q
  | int i =>
    simp only [wE_v, wE_non, wE_bl, wE_int, wE_str, wE_gc, wE_tup, wE_lst, wE_dic0, wE_dicS, wE_bin, wE_cmp, wE_chn, wE_and, wE_or, wE_not, wE_neg, wE_ife, wE_idx, wE_slc, wE_rev, wE_fld, wE_call, wE_meth, wE_make, wE_blt, wE_bm, wE_isi, wE_xf, wE_xi, wTg_nm, wTg_tp, wTg_fld, wTg_sub, wIt_seq, wIt_rng0, wIt_rng1, wIt_enu, wIt_zip, wS_set, wS_expr, wS_ret, wS_retN, wS_ife, wS_raise, wS_try, wS_pass, wS_brk, wS_cont, wS_augN, wS_augF, wS_augS, wEs, wO, wAll, wTgs, wB, List.cons_append, List.nil_append, List.getElem?_cons_zero, List.getElem?_cons_succ, List.set_cons_zero, List.set_cons_succ, Option.some.injEq, exists_eq_left', D.bl.injEq, D.int.injEq, List.map_cons, List.map_nil, List.length_cons, List.length_nil, List.replicate, List.append_eq, Nat.reduceAdd, Nat.reduceSub, Nat.zero_add, Nat.add_zero, Nat.sub_zero, List.any_cons, List.any_nil, Bool.or_false, rd_int, rd_bl, rd_str, rd_non, rd_tup, rd_lst, rd_stl, reduceIte, Bool.not_true, Bool.not_false, Bool.false_eq_true, Nat.sub_self, binD, cmpD, alc_f, dwipe, leD_ii, ltD_ii, gtD_ii, addD_ii, mulD_ii, eqD_ii, len_tup, len_lst, len_str, int_int, int_bl, tuple_lst, tuple_tup, isD, isNon, tyD, geD_ii]
    refine ⟨e2, e2, ?_⟩
    rw [pby] at q hl
    by_cases h : 0 ≤ i
    · rw [if_pos h] at q hl
      rw [if_pos (decide_eq_true h)]
      rw [List.length_cons] at hl
      refine ⟨i.toNat, by rw [Int.toNat_of_nonneg h], by omega, ?_⟩
      show addD _ _ _ _ _
      refine ⟨by rw [List.length_map]; exact Nat.le_trans (show _ ≤ 1000001 by simp only [List.length_cons, List.length_nil]; omega) (by decide), ?_⟩
      exact Fz0 q
    · rw [if_neg h] at q hl
      rw [if_neg (by rw [decide_eq_false h]; simp)]
      rw [List.length_cons] at hl
      refine ⟨(-1 - i).toNat, by rw [Int.toNat_of_nonneg (by omega)]; rfl, by omega, ?_⟩
      show addD _ _ _ _ _
      refine ⟨by rw [List.length_map]; exact Nat.le_trans (show _ ≤ 1000001 by simp only [List.length_cons, List.length_nil]; omega) (by decide), ?_⟩
      exact Fz0 q
  | str s => 
    simp only [wE_v, wE_non, wE_bl, wE_int, wE_str, wE_gc, wE_tup, wE_lst, wE_dic0, wE_dicS, wE_bin, wE_cmp, wE_chn, wE_and, wE_or, wE_not, wE_neg, wE_ife, wE_idx, wE_slc, wE_rev, wE_fld, wE_call, wE_meth, wE_make, wE_blt, wE_bm, wE_isi, wE_xf, wE_xi, wTg_nm, wTg_tp, wTg_fld, wTg_sub, wIt_seq, wIt_rng0, wIt_rng1, wIt_enu, wIt_zip, wS_set, wS_expr, wS_ret, wS_retN, wS_ife, wS_raise, wS_try, wS_pass, wS_brk, wS_cont, wS_augN, wS_augF, wS_augS, wEs, wO, wAll, wTgs, wB, List.cons_append, List.nil_append, List.getElem?_cons_zero, List.getElem?_cons_succ, List.set_cons_zero, List.set_cons_succ, Option.some.injEq, exists_eq_left', D.bl.injEq, D.int.injEq, List.map_cons, List.map_nil, List.length_cons, List.length_nil, List.replicate, List.append_eq, Nat.reduceAdd, Nat.reduceSub, Nat.zero_add, Nat.add_zero, Nat.sub_zero, List.any_cons, List.any_nil, Bool.or_false, rd_int, rd_bl, rd_str, rd_non, rd_tup, rd_lst, rd_stl, reduceIte, Bool.not_true, Bool.not_false, Bool.false_eq_true, Nat.sub_self, binD, cmpD, alc_f, dwipe, leD_ii, ltD_ii, gtD_ii, addD_ii, mulD_ii, eqD_ii, len_tup, len_lst, len_str, int_int, int_bl, tuple_lst, tuple_tup, isD, isNon, tyD]
    rw [pby] at q hl
    rw [List.length_cons, List.length_append, List.length_map] at hl
    refine ⟨e2, e2, e2, s.length, rfl, by omega, ?_⟩
    show addD _ _ _ _ _
    refine ⟨by rw [List.length_map]; exact Nat.le_trans (show _ ≤ 1000001 by simp only [List.length_cons, List.length_nil]; omega) (by decide), ?_⟩
    rw [alc_f]
    refine comp_map (ds := chars s) (st := fun _ => seqOf (.str s) = some (chars s)) ordD ?_ (fun _ _ _ => rfl) ?_ ?_
    · intro K hK
      simp only [wE_v, wE_non, wE_bl, wE_int, wE_str, wE_gc, wE_tup, wE_lst, wE_dic0, wE_dicS, wE_bin, wE_cmp, wE_chn, wE_and, wE_or, wE_not, wE_neg, wE_ife, wE_idx, wE_slc, wE_rev, wE_fld, wE_call, wE_meth, wE_make, wE_blt, wE_bm, wE_isi, wE_xf, wE_xi, wTg_nm, wTg_tp, wTg_fld, wTg_sub, wIt_seq, wIt_rng0, wIt_rng1, wIt_enu, wIt_zip, wS_set, wS_expr, wS_ret, wS_retN, wS_ife, wS_raise, wS_try, wS_pass, wS_brk, wS_cont, wS_augN, wS_augF, wS_augS, wEs, wO, wAll, wTgs, wB, List.cons_append, List.nil_append, List.getElem?_cons_zero, List.getElem?_cons_succ, List.set_cons_zero, List.set_cons_succ, Option.some.injEq, exists_eq_left', D.bl.injEq, D.int.injEq, List.map_cons, List.map_nil, List.length_cons, List.length_nil, List.replicate, List.append_eq, Nat.reduceAdd, Nat.reduceSub, Nat.zero_add, Nat.add_zero, Nat.sub_zero, List.any_cons, List.any_nil, Bool.or_false, rd_int, rd_bl, rd_str, rd_non, rd_tup, rd_lst, rd_stl, reduceIte, Bool.not_true, Bool.not_false, Bool.false_eq_true, Nat.sub_self, binD, cmpD, alc_f, dwipe, leD_ii, ltD_ii, gtD_ii, addD_ii, mulD_ii, eqD_ii, len_tup, len_lst, len_str, int_int, int_bl, tuple_lst, tuple_tup]
      exact ⟨chars s, rfl, hK⟩
    · intro d hd p acc K hp hK
      obtain ⟨c, -, rfl⟩ := List.mem_map.mp hd
      simp only [wE_v, wE_non, wE_bl, wE_int, wE_str, wE_gc, wE_tup, wE_lst, wE_dic0, wE_dicS, wE_bin, wE_cmp, wE_chn, wE_and, wE_or, wE_not, wE_neg, wE_ife, wE_idx, wE_slc, wE_rev, wE_fld, wE_call, wE_meth, wE_make, wE_blt, wE_bm, wE_isi, wE_xf, wE_xi, wTg_nm, wTg_tp, wTg_fld, wTg_sub, wIt_seq, wIt_rng0, wIt_rng1, wIt_enu, wIt_zip, wS_set, wS_expr, wS_ret, wS_retN, wS_ife, wS_raise, wS_try, wS_pass, wS_brk, wS_cont, wS_augN, wS_augF, wS_augS, wEs, wO, wAll, wTgs, wB, List.cons_append, List.nil_append, List.getElem?_cons_zero, List.getElem?_cons_succ, List.set_cons_zero, List.set_cons_succ, Option.some.injEq, exists_eq_left', D.bl.injEq, D.int.injEq, List.map_cons, List.map_nil, List.length_cons, List.length_nil, List.replicate, List.append_eq, Nat.reduceAdd, Nat.reduceSub, Nat.zero_add, Nat.add_zero, Nat.sub_zero, List.any_cons, List.any_nil, Bool.or_false, rd_int, rd_bl, rd_str, rd_non, rd_tup, rd_lst, rd_stl, reduceIte, Bool.not_true, Bool.not_false, Bool.false_eq_true, Nat.sub_self, binD, cmpD, alc_f, dwipe, leD_ii, ltD_ii, gtD_ii, addD_ii, mulD_ii, eqD_ii, len_tup, len_lst, len_str, int_int, int_bl, tuple_lst, tuple_tup]
      refine hK _ fun K2 hK2 => ?_
      simp only [wE_v, wE_non, wE_bl, wE_int, wE_str, wE_gc, wE_tup, wE_lst, wE_dic0, wE_dicS, wE_bin, wE_cmp, wE_chn, wE_and, wE_or, wE_not, wE_neg, wE_ife, wE_idx, wE_slc, wE_rev, wE_fld, wE_call, wE_meth, wE_make, wE_blt, wE_bm, wE_isi, wE_xf, wE_xi, wTg_nm, wTg_tp, wTg_fld, wTg_sub, wIt_seq, wIt_rng0, wIt_rng1, wIt_enu, wIt_zip, wS_set, wS_expr, wS_ret, wS_retN, wS_ife, wS_raise, wS_try, wS_pass, wS_brk, wS_cont, wS_augN, wS_augF, wS_augS, wEs, wO, wAll, wTgs, wB, List.cons_append, List.nil_append, List.getElem?_cons_zero, List.getElem?_cons_succ, List.set_cons_zero, List.set_cons_succ, Option.some.injEq, exists_eq_left', D.bl.injEq, D.int.injEq, List.map_cons, List.map_nil, List.length_cons, List.length_nil, List.replicate, List.append_eq, Nat.reduceAdd, Nat.reduceSub, Nat.zero_add, Nat.add_zero, Nat.sub_zero, List.any_cons, List.any_nil, Bool.or_false, rd_int, rd_bl, rd_str, rd_non, rd_tup, rd_lst, rd_stl, reduceIte, Bool.not_true, Bool.not_false, Bool.false_eq_true, Nat.sub_self, binD, cmpD, alc_f, dwipe, leD_ii, ltD_ii, gtD_ii, addD_ii, mulD_ii, eqD_ii, len_tup, len_lst, len_str, int_int, int_bl, tuple_lst, tuple_tup]
      exact ⟨rfl, hK2⟩
    · rw [alc_f]
      show addD _ _ _ _ _
      have e : (chars s).map ordD = (s.cps.toList.map fun (c : Nat) => (c : Int)).map .int := by
        unfold chars
        rw [List.map_map, List.map_map]
        rfl
      rw [e]
      refine ⟨?_, ?_⟩
      · rw [List.length_append, List.length_map, List.length_map, List.length_map]
        exact Nat.le_trans (show _ ≤ 1000001 by simp only [List.length_cons, List.length_nil]; omega) (by decide)
      · rw [alc_f]
        refine Fz0 ?_
        rw [List.map_cons, List.map_append] at q
        exact q
  | tup xs => 
    simp only [wE_v, wE_non, wE_bl, wE_int, wE_str, wE_gc, wE_tup, wE_lst, wE_dic0, wE_dicS, wE_bin, wE_cmp, wE_chn, wE_and, wE_or, wE_not, wE_neg, wE_ife, wE_idx, wE_slc, wE_rev, wE_fld, wE_call, wE_meth, wE_make, wE_blt, wE_bm, wE_isi, wE_xf, wE_xi, wTg_nm, wTg_tp, wTg_fld, wTg_sub, wIt_seq, wIt_rng0, wIt_rng1, wIt_enu, wIt_zip, wS_set, wS_expr, wS_ret, wS_retN, wS_ife, wS_raise, wS_try, wS_pass, wS_brk, wS_cont, wS_augN, wS_augF, wS_augS, wEs, wO, wAll, wTgs, wB, List.cons_append, List.nil_append, List.getElem?_cons_zero, List.getElem?_cons_succ, List.set_cons_zero, List.set_cons_succ, Option.some.injEq, exists_eq_left', D.bl.injEq, D.int.injEq, List.map_cons, List.map_nil, List.length_cons, List.length_nil, List.replicate, List.append_eq, Nat.reduceAdd, Nat.reduceSub, Nat.zero_add, Nat.add_zero, Nat.sub_zero, List.any_cons, List.any_nil, Bool.or_false, rd_int, rd_bl, rd_str, rd_non, rd_tup, rd_lst, rd_stl, reduceIte, Bool.not_true, Bool.not_false, Bool.false_eq_true, Nat.sub_self, binD, cmpD, alc_f, dwipe, leD_ii, ltD_ii, gtD_ii, addD_ii, mulD_ii, eqD_ii, len_tup, len_lst, len_str, int_int, int_bl, tuple_lst, tuple_tup, isD, isNon, tyD]
    rw [pby] at q hl
    rw [List.length_cons, List.length_append] at hl
    rw [isP] at ho
    rw [deep] at hd
    refine ⟨e2, e2, e2, xs.length, rfl, by omega, ?_⟩
    show addD _ _ _ _ _
    refine ⟨by rw [List.length_map]; exact Nat.le_trans (show _ ≤ 1000001 by simp only [List.length_cons, List.length_nil]; omega) (by decide), ?_⟩
    rw [alc_t]
    intro p hp
    rw [wS]
    simp only [wE_v, wE_non, wE_bl, wE_int, wE_str, wE_gc, wE_tup, wE_lst, wE_dic0, wE_dicS, wE_bin, wE_cmp, wE_chn, wE_and, wE_or, wE_not, wE_neg, wE_ife, wE_idx, wE_slc, wE_rev, wE_fld, wE_call, wE_meth, wE_make, wE_blt, wE_bm, wE_isi, wE_xf, wE_xi, wTg_nm, wTg_tp, wTg_fld, wTg_sub, wIt_seq, wIt_rng0, wIt_rng1, wIt_enu, wIt_zip, wS_set, wS_expr, wS_ret, wS_retN, wS_ife, wS_raise, wS_try, wS_pass, wS_brk, wS_cont, wS_augN, wS_augF, wS_augS, wEs, wO, wAll, wTgs, wB, List.cons_append, List.nil_append, List.getElem?_cons_zero, List.getElem?_cons_succ, List.set_cons_zero, List.set_cons_succ, Option.some.injEq, exists_eq_left', D.bl.injEq, D.int.injEq, List.map_cons, List.map_nil, List.length_cons, List.length_nil, List.replicate, List.append_eq, Nat.reduceAdd, Nat.reduceSub, Nat.zero_add, Nat.add_zero, Nat.sub_zero, List.any_cons, List.any_nil, Bool.or_false, rd_int, rd_bl, rd_str, rd_non, rd_tup, rd_lst, rd_stl, reduceIte, Bool.not_true, Bool.not_false, Bool.false_eq_true, Nat.sub_self, binD, cmpD, alc_f, dwipe, leD_ii, ltD_ii, gtD_ii, addD_ii, mulD_ii, eqD_ii, len_tup, len_lst, len_str, int_int, int_bl, tuple_lst, tuple_tup]
    refine ⟨xs, rfl, fun hz => ⟨fun i σ H' => ∃ o, σ = [some (.tup xs), some (.ref p), o, none] ∧ H' = dupd H p (.lst ((6 :: (whN xs.length ++ pbys (xs.take i))).map .int)), ⟨none, rfl, by rw [List.take_zero, pbys, List.append_nil, List.map_cons]⟩, ?_, ?_, ?_⟩⟩
    · rintro i σ H' ⟨o, rfl, rfl⟩
      rfl
    · rintro i d σ H' hi ⟨o, rfl, rfl⟩
      simp only [wE_v, wE_non, wE_bl, wE_int, wE_str, wE_gc, wE_tup, wE_lst, wE_dic0, wE_dicS, wE_bin, wE_cmp, wE_chn, wE_and, wE_or, wE_not, wE_neg, wE_ife, wE_idx, wE_slc, wE_rev, wE_fld, wE_call, wE_meth, wE_make, wE_blt, wE_bm, wE_isi, wE_xf, wE_xi, wTg_nm, wTg_tp, wTg_fld, wTg_sub, wIt_seq, wIt_rng0, wIt_rng1, wIt_enu, wIt_zip, wS_set, wS_expr, wS_ret, wS_retN, wS_ife, wS_raise, wS_try, wS_pass, wS_brk, wS_cont, wS_augN, wS_augF, wS_augS, wEs, wO, wAll, wTgs, wB, List.cons_append, List.nil_append, List.getElem?_cons_zero, List.getElem?_cons_succ, List.set_cons_zero, List.set_cons_succ, Option.some.injEq, exists_eq_left', D.bl.injEq, D.int.injEq, List.map_cons, List.map_nil, List.length_cons, List.length_nil, List.replicate, List.append_eq, Nat.reduceAdd, Nat.reduceSub, Nat.zero_add, Nat.add_zero, Nat.sub_zero, List.any_cons, List.any_nil, Bool.or_false, rd_int, rd_bl, rd_str, rd_non, rd_tup, rd_lst, rd_stl, reduceIte, Bool.not_true, Bool.not_false, Bool.false_eq_true, Nat.sub_self, binD, cmpD, alc_f, dwipe, leD_ii, ltD_ii, gtD_ii, addD_ii, mulD_ii, eqD_ii, len_tup, len_lst, len_str, int_int, int_bl, tuple_lst, tuple_tup, h2]
      rw [rd_ref]
      refine ⟨rfl, d, rfl, isPs_get ho hi, by have := deeps_mem (List.mem_of_getElem? hi); omega, ?_, ?_⟩
      · have h3 := pbys_take_le (xs := xs) (i + 1)
        rw [pbys_take hi, List.length_append] at h3
        omega
      · have h3 := pbys_take_le (xs := xs) (i + 1)
        rw [pbys_take hi, List.length_append] at h3
        refine ⟨p, _, _, rfl, dupd_same, rfl, ?_, ?_⟩
        · rw [List.length_map, List.length_cons, List.length_map, List.length_append]
          exact Nat.le_trans (show _ ≤ 1000001 by omega) (by decide)
        · refine Fz.here ⟨some d, rfl, ?_⟩
          rw [dupd_dupd, pbys_take hi, List.map_append, List.map_append, List.map_append, List.cons_append, List.append_assoc]
    · rintro σ H' ⟨o, rfl, rfl⟩
      rw [List.take_length]
      refine ⟨_, rfl, FzV.one hp q⟩
  | _ => cases ho
end Sp

set_option maxRecDepth 100000
set_option maxHeartbeats 1000000
namespace Sp
open PySem DL Ir
def spRowOf : DSp := fun ds H Q E => ∃ d, ds = [d] ∧ okQ H d = true ∧ deep d < 40 ∧ (isPc d 20 = true → isP d = true ∧ (pby d).length ≤ 1000000 ∧ Q (.tup ((pby d).map .int)) H) ∧ (isPc d 20 = false → E "NoParcel" [] H)
theorem sat_row_of {G : Gam} (hx : G.xf "NoParcel" = []) (h1 : G.fn "is_parcel" = spIsPc) (h2 : G.fn "bytes_of" = spBytes 40) : Sat G N_row_of.length ir_row_of spRowOf := by
  rintro vs H Q E ⟨d, rfl, ho, hd, q1, q2⟩
  unfold ir_row_of
  simp only [wE_v, wE_non, wE_bl, wE_int, wE_str, wE_gc, wE_tup, wE_lst, wE_dic0, wE_dicS, wE_bin, wE_cmp, wE_chn, wE_and, wE_or, wE_not, wE_neg, wE_ife, wE_idx, wE_slc, wE_rev, wE_fld, wE_call, wE_meth, wE_make, wE_blt, wE_bm, wE_isi, wE_xf, wE_xi, wTg_nm, wTg_tp, wTg_fld, wTg_sub, wIt_seq, wIt_rng0, wIt_rng1, wIt_enu, wIt_zip, wS_set, wS_expr, wS_ret, wS_retN, wS_ife, wS_raise, wS_try, wS_pass, wS_brk, wS_cont, wS_augN, wS_augF, wS_augS, wEs, wO, wAll, wTgs, wB, List.cons_append, List.nil_append, List.getElem?_cons_zero, List.getElem?_cons_succ, List.set_cons_zero, List.set_cons_succ, Option.some.injEq, exists_eq_left', D.bl.injEq, D.int.injEq, List.map_cons, List.map_nil, List.length_cons, List.length_nil, List.replicate, List.append_eq, Nat.reduceAdd, Nat.reduceSub, Nat.zero_add, Nat.add_zero, Nat.sub_zero, List.any_cons, List.any_nil, Bool.or_false, rd_int, rd_bl, rd_str, rd_non, rd_tup, rd_lst, rd_stl, reduceIte, Bool.not_true, Bool.not_false, Bool.false_eq_true, Nat.sub_self, binD, cmpD, alc_f, dwipe, leD_ii, ltD_ii, gtD_ii, addD_ii, mulD_ii, eqD_ii, len_tup, len_lst, len_str, int_int, int_bl, tuple_lst, tuple_tup, N_row_of, h1, h2]
  refine ⟨d, rfl, ho, hd, _, rfl, ?_⟩
  cases e : isPc d 20
  · simp only [wE_v, wE_non, wE_bl, wE_int, wE_str, wE_gc, wE_tup, wE_lst, wE_dic0, wE_dicS, wE_bin, wE_cmp, wE_chn, wE_and, wE_or, wE_not, wE_neg, wE_ife, wE_idx, wE_slc, wE_rev, wE_fld, wE_call, wE_meth, wE_make, wE_blt, wE_bm, wE_isi, wE_xf, wE_xi, wTg_nm, wTg_tp, wTg_fld, wTg_sub, wIt_seq, wIt_rng0, wIt_rng1, wIt_enu, wIt_zip, wS_set, wS_expr, wS_ret, wS_retN, wS_ife, wS_raise, wS_try, wS_pass, wS_brk, wS_cont, wS_augN, wS_augF, wS_augS, wEs, wO, wAll, wTgs, wB, List.cons_append, List.nil_append, List.getElem?_cons_zero, List.getElem?_cons_succ, List.set_cons_zero, List.set_cons_succ, Option.some.injEq, exists_eq_left', D.bl.injEq, D.int.injEq, List.map_cons, List.map_nil, List.length_cons, List.length_nil, List.replicate, List.append_eq, Nat.reduceAdd, Nat.reduceSub, Nat.zero_add, Nat.add_zero, Nat.sub_zero, List.any_cons, List.any_nil, Bool.or_false, rd_int, rd_bl, rd_str, rd_non, rd_tup, rd_lst, rd_stl, reduceIte, Bool.not_true, Bool.not_false, Bool.false_eq_true, Nat.sub_self, binD, cmpD, alc_f, dwipe, leD_ii, ltD_ii, gtD_ii, addD_ii, mulD_ii, eqD_ii, len_tup, len_lst, len_str, int_int, int_bl, tuple_lst, tuple_tup, hx]
    exact ⟨trivial, q2 e⟩
  · simp only [wE_v, wE_non, wE_bl, wE_int, wE_str, wE_gc, wE_tup, wE_lst, wE_dic0, wE_dicS, wE_bin, wE_cmp, wE_chn, wE_and, wE_or, wE_not, wE_neg, wE_ife, wE_idx, wE_slc, wE_rev, wE_fld, wE_call, wE_meth, wE_make, wE_blt, wE_bm, wE_isi, wE_xf, wE_xi, wTg_nm, wTg_tp, wTg_fld, wTg_sub, wIt_seq, wIt_rng0, wIt_rng1, wIt_enu, wIt_zip, wS_set, wS_expr, wS_ret, wS_retN, wS_ife, wS_raise, wS_try, wS_pass, wS_brk, wS_cont, wS_augN, wS_augF, wS_augS, wEs, wO, wAll, wTgs, wB, List.cons_append, List.nil_append, List.getElem?_cons_zero, List.getElem?_cons_succ, List.set_cons_zero, List.set_cons_succ, Option.some.injEq, exists_eq_left', D.bl.injEq, D.int.injEq, List.map_cons, List.map_nil, List.length_cons, List.length_nil, List.replicate, List.append_eq, Nat.reduceAdd, Nat.reduceSub, Nat.zero_add, Nat.add_zero, Nat.sub_zero, List.any_cons, List.any_nil, Bool.or_false, rd_int, rd_bl, rd_str, rd_non, rd_tup, rd_lst, rd_stl, reduceIte, Bool.not_true, Bool.not_false, Bool.false_eq_true, Nat.sub_self, binD, cmpD, alc_f, dwipe, leD_ii, ltD_ii, gtD_ii, addD_ii, mulD_ii, eqD_ii, len_tup, len_lst, len_str, int_int, int_bl, tuple_lst, tuple_tup]
    obtain ⟨a, b, q⟩ := q1 e
    exact ⟨d, rfl, a, hd, b, Fz0 q⟩
def mk1 (f b : Int) : Int := (f * 1000003 + b + 1) % 2305843009213693951
def mkf (bs : List Int) : Int := bs.foldl mk1 1
theorem mkf_take {bs : List Int} {i : Nat} {b : Int} (h : bs[i]? = some b) : mkf (bs.take (i + 1)) = mk1 (mkf (bs.take i)) b := by
  unfold mkf
  rw [List.take_succ, h, List.foldl_append]; rfl
def spMark1 : DSp := fun ds H Q _ => ∃ bs : List Int, ds = [.tup (bs.map .int)] ∧ Q (.int (mkf bs)) H
theorem gc_MULT : gcv "MULTIPLIER" = some (.int 1000003) := rfl
theorem gc_MODU : gcv "MODULUS" = some (.int 2305843009213693951) := rfl
theorem sat_raw_mark {G : Gam} (hg : G.gc = gcv) : Sat G N_raw_mark.length ir_raw_mark spMark1 := by
  rintro vs H Q E ⟨bs, rfl, q⟩
  unfold ir_raw_mark
  simp only [wE_v, wE_non, wE_bl, wE_int, wE_str, wE_gc, wE_tup, wE_lst, wE_dic0, wE_dicS, wE_bin, wE_cmp, wE_chn, wE_and, wE_or, wE_not, wE_neg, wE_ife, wE_idx, wE_slc, wE_rev, wE_fld, wE_call, wE_meth, wE_make, wE_blt, wE_bm, wE_isi, wE_xf, wE_xi, wTg_nm, wTg_tp, wTg_fld, wTg_sub, wIt_seq, wIt_rng0, wIt_rng1, wIt_enu, wIt_zip, wS_set, wS_expr, wS_ret, wS_retN, wS_ife, wS_raise, wS_try, wS_pass, wS_brk, wS_cont, wS_augN, wS_augF, wS_augS, wEs, wO, wAll, wTgs, wB, List.cons_append, List.nil_append, List.getElem?_cons_zero, List.getElem?_cons_succ, List.set_cons_zero, List.set_cons_succ, Option.some.injEq, exists_eq_left', D.bl.injEq, D.int.injEq, List.map_cons, List.map_nil, List.length_cons, List.length_nil, List.replicate, List.append_eq, Nat.reduceAdd, Nat.reduceSub, Nat.zero_add, Nat.add_zero, Nat.sub_zero, List.any_cons, List.any_nil, Bool.or_false, rd_int, rd_bl, rd_str, rd_non, rd_tup, rd_lst, rd_stl, reduceIte, Bool.not_true, Bool.not_false, Bool.false_eq_true, Nat.sub_self, binD, cmpD, alc_f, dwipe, leD_ii, ltD_ii, gtD_ii, addD_ii, mulD_ii, eqD_ii, len_tup, len_lst, len_str, int_int, int_bl, tuple_lst, tuple_tup, N_raw_mark]
  rw [wS]
  simp only [wE_v, wE_non, wE_bl, wE_int, wE_str, wE_gc, wE_tup, wE_lst, wE_dic0, wE_dicS, wE_bin, wE_cmp, wE_chn, wE_and, wE_or, wE_not, wE_neg, wE_ife, wE_idx, wE_slc, wE_rev, wE_fld, wE_call, wE_meth, wE_make, wE_blt, wE_bm, wE_isi, wE_xf, wE_xi, wTg_nm, wTg_tp, wTg_fld, wTg_sub, wIt_seq, wIt_rng0, wIt_rng1, wIt_enu, wIt_zip, wS_set, wS_expr, wS_ret, wS_retN, wS_ife, wS_raise, wS_try, wS_pass, wS_brk, wS_cont, wS_augN, wS_augF, wS_augS, wEs, wO, wAll, wTgs, wB, List.cons_append, List.nil_append, List.getElem?_cons_zero, List.getElem?_cons_succ, List.set_cons_zero, List.set_cons_succ, Option.some.injEq, exists_eq_left', D.bl.injEq, D.int.injEq, List.map_cons, List.map_nil, List.length_cons, List.length_nil, List.replicate, List.append_eq, Nat.reduceAdd, Nat.reduceSub, Nat.zero_add, Nat.add_zero, Nat.sub_zero, List.any_cons, List.any_nil, Bool.or_false, rd_int, rd_bl, rd_str, rd_non, rd_tup, rd_lst, rd_stl, reduceIte, Bool.not_true, Bool.not_false, Bool.false_eq_true, Nat.sub_self, binD, cmpD, alc_f, dwipe, leD_ii, ltD_ii, gtD_ii, addD_ii, mulD_ii, eqD_ii, len_tup, len_lst, len_str, int_int, int_bl, tuple_lst, tuple_tup]
  refine ⟨_, rfl, fun hz => ⟨fun i σ H' => ∃ o, σ = [some (.tup (bs.map .int)), some (.int (mkf (bs.take i))), o] ∧ H' = H, ⟨none, rfl, rfl⟩, ?_, ?_, ?_⟩⟩
  · rintro i σ H' ⟨o, rfl, rfl⟩; rfl
  · rintro i d σ H' hi ⟨o, rfl, rfl⟩
    rw [List.getElem?_map] at hi
    obtain ⟨b, hb, rfl⟩ := Option.map_eq_some_iff.mp hi
    simp only [wE_v, wE_non, wE_bl, wE_int, wE_str, wE_gc, wE_tup, wE_lst, wE_dic0, wE_dicS, wE_bin, wE_cmp, wE_chn, wE_and, wE_or, wE_not, wE_neg, wE_ife, wE_idx, wE_slc, wE_rev, wE_fld, wE_call, wE_meth, wE_make, wE_blt, wE_bm, wE_isi, wE_xf, wE_xi, wTg_nm, wTg_tp, wTg_fld, wTg_sub, wIt_seq, wIt_rng0, wIt_rng1, wIt_enu, wIt_zip, wS_set, wS_expr, wS_ret, wS_retN, wS_ife, wS_raise, wS_try, wS_pass, wS_brk, wS_cont, wS_augN, wS_augF, wS_augS, wEs, wO, wAll, wTgs, wB, List.cons_append, List.nil_append, List.getElem?_cons_zero, List.getElem?_cons_succ, List.set_cons_zero, List.set_cons_succ, Option.some.injEq, exists_eq_left', D.bl.injEq, D.int.injEq, List.map_cons, List.map_nil, List.length_cons, List.length_nil, List.replicate, List.append_eq, Nat.reduceAdd, Nat.reduceSub, Nat.zero_add, Nat.add_zero, Nat.sub_zero, List.any_cons, List.any_nil, Bool.or_false, rd_int, rd_bl, rd_str, rd_non, rd_tup, rd_lst, rd_stl, reduceIte, Bool.not_true, Bool.not_false, Bool.false_eq_true, Nat.sub_self, binD, cmpD, alc_f, dwipe, leD_ii, ltD_ii, gtD_ii, addD_ii, mulD_ii, eqD_ii, len_tup, len_lst, len_str, int_int, int_bl, tuple_lst, tuple_tup, hg, gc_MULT, gc_MODU]
    refine ⟨.inr (by decide), by decide, Fz.here ⟨some (.int b), ?_, rfl⟩⟩
    rw [mkf_take hb]; rfl
  · rintro σ H' ⟨o, rfl, rfl⟩
    rw [List.length_map, List.take_length]
    exact ⟨_, rfl, Fz0 q⟩
/-- a row of bytes -/
def bRow (bs : List Int) : Prop := ∀ b ∈ bs, 0 ≤ b ∧ b < 256
theorem isRow_of {bs : List Int} (h : bRow bs) : isRow (.tup (bs.map .int)) = true := by
  rw [isRow, List.all_eq_true]
  intro d hd
  obtain ⟨b, hb, rfl⟩ := List.mem_map.mp hd
  have := h b hb
  rw [isByte, decide_eq_true this.1, decide_eq_true this.2]; rfl
theorem ints_flat (bs : List Int) : (bs.map D.int).all flat = true := by
  rw [List.all_eq_true]
  intro d hd
  obtain ⟨b, hb, rfl⟩ := List.mem_map.mp hd
  rfl
/-- the four bytes of a number -/
def sea (n : Int) : List Int := [n % 256, n / 256 % 256, n / 256 / 256 % 256, n / 256 / 256 / 256 % 256]
def spSeal : DSp := fun ds H Q _ => ∃ bs : List Int, ds = [.tup (bs.map .int)] ∧ Q (.tup ((sea (mkf bs)).map .int)) H
theorem gc_SB : gcv "SEAL_BYTES" = some (.int 4) := rfl
def dvn (n : Int) : Nat → Int
  | 0 => n
  | k + 1 => dvn n k / 256
theorem sat_seal_of {G : Gam} (hg : G.gc = gcv) (h2 : G.fn "raw_mark" = spMark1) : Sat G N_seal_of.length ir_seal_of spSeal := by
  rintro vs H Q E ⟨bs, rfl, q⟩
  unfold ir_seal_of
  simp only [wE_v, wE_non, wE_bl, wE_int, wE_str, wE_gc, wE_tup, wE_lst, wE_dic0, wE_dicS, wE_bin, wE_cmp, wE_chn, wE_and, wE_or, wE_not, wE_neg, wE_ife, wE_idx, wE_slc, wE_rev, wE_fld, wE_call, wE_meth, wE_make, wE_blt, wE_bm, wE_isi, wE_xf, wE_xi, wTg_nm, wTg_tp, wTg_fld, wTg_sub, wIt_seq, wIt_rng0, wIt_rng1, wIt_enu, wIt_zip, wS_set, wS_expr, wS_ret, wS_retN, wS_ife, wS_raise, wS_try, wS_pass, wS_brk, wS_cont, wS_augN, wS_augF, wS_augS, wEs, wO, wAll, wTgs, wB, List.cons_append, List.nil_append, List.getElem?_cons_zero, List.getElem?_cons_succ, List.set_cons_zero, List.set_cons_succ, Option.some.injEq, exists_eq_left', D.bl.injEq, D.int.injEq, List.map_cons, List.map_nil, List.length_cons, List.length_nil, List.replicate, List.append_eq, Nat.reduceAdd, Nat.reduceSub, Nat.zero_add, Nat.add_zero, Nat.sub_zero, List.any_cons, List.any_nil, Bool.or_false, rd_int, rd_bl, rd_str, rd_non, rd_tup, rd_lst, rd_stl, reduceIte, Bool.not_true, Bool.not_false, Bool.false_eq_true, Nat.sub_self, binD, cmpD, alc_f, dwipe, leD_ii, ltD_ii, gtD_ii, addD_ii, mulD_ii, eqD_ii, len_tup, len_lst, len_str, int_int, int_bl, tuple_lst, tuple_tup, N_seal_of, h2, alc_t]
  refine ⟨bs, rfl, fun p hp => ?_⟩
  rw [wS]
  simp only [wE_v, wE_non, wE_bl, wE_int, wE_str, wE_gc, wE_tup, wE_lst, wE_dic0, wE_dicS, wE_bin, wE_cmp, wE_chn, wE_and, wE_or, wE_not, wE_neg, wE_ife, wE_idx, wE_slc, wE_rev, wE_fld, wE_call, wE_meth, wE_make, wE_blt, wE_bm, wE_isi, wE_xf, wE_xi, wTg_nm, wTg_tp, wTg_fld, wTg_sub, wIt_seq, wIt_rng0, wIt_rng1, wIt_enu, wIt_zip, wS_set, wS_expr, wS_ret, wS_retN, wS_ife, wS_raise, wS_try, wS_pass, wS_brk, wS_cont, wS_augN, wS_augF, wS_augS, wEs, wO, wAll, wTgs, wB, List.cons_append, List.nil_append, List.getElem?_cons_zero, List.getElem?_cons_succ, List.set_cons_zero, List.set_cons_succ, Option.some.injEq, exists_eq_left', D.bl.injEq, D.int.injEq, List.map_cons, List.map_nil, List.length_cons, List.length_nil, List.replicate, List.append_eq, Nat.reduceAdd, Nat.reduceSub, Nat.zero_add, Nat.add_zero, Nat.sub_zero, List.any_cons, List.any_nil, Bool.or_false, rd_int, rd_bl, rd_str, rd_non, rd_tup, rd_lst, rd_stl, reduceIte, Bool.not_true, Bool.not_false, Bool.false_eq_true, Nat.sub_self, binD, cmpD, alc_f, dwipe, leD_ii, ltD_ii, gtD_ii, addD_ii, mulD_ii, eqD_ii, len_tup, len_lst, len_str, int_int, int_bl, tuple_lst, tuple_tup, hg, gc_SB, gc_BYTES]
  refine ⟨by decide, by decide, fun hz => ⟨fun i σ H' => ∃ o, σ = [some (.tup (bs.map .int)), some (.int (dvn (mkf bs) i)), some (.ref p), o] ∧ H' = dupd H p (.lst (((sea (mkf bs)).take i).map .int)), ⟨none, rfl, rfl⟩, fun _ _ _ _ => trivial, ?_, ?_⟩⟩
  · rintro i d σ H' hi ⟨o, rfl, rfl⟩
    have hi' : i < 4 := by
      have := (List.getElem?_eq_some_iff.mp hi).1
      simpa [rangeD] using this
    simp only [wE_v, wE_non, wE_bl, wE_int, wE_str, wE_gc, wE_tup, wE_lst, wE_dic0, wE_dicS, wE_bin, wE_cmp, wE_chn, wE_and, wE_or, wE_not, wE_neg, wE_ife, wE_idx, wE_slc, wE_rev, wE_fld, wE_call, wE_meth, wE_make, wE_blt, wE_bm, wE_isi, wE_xf, wE_xi, wTg_nm, wTg_tp, wTg_fld, wTg_sub, wIt_seq, wIt_rng0, wIt_rng1, wIt_enu, wIt_zip, wS_set, wS_expr, wS_ret, wS_retN, wS_ife, wS_raise, wS_try, wS_pass, wS_brk, wS_cont, wS_augN, wS_augF, wS_augS, wEs, wO, wAll, wTgs, wB, List.cons_append, List.nil_append, List.getElem?_cons_zero, List.getElem?_cons_succ, List.set_cons_zero, List.set_cons_succ, Option.some.injEq, exists_eq_left', D.bl.injEq, D.int.injEq, List.map_cons, List.map_nil, List.length_cons, List.length_nil, List.replicate, List.append_eq, Nat.reduceAdd, Nat.reduceSub, Nat.zero_add, Nat.add_zero, Nat.sub_zero, List.any_cons, List.any_nil, Bool.or_false, rd_int, rd_bl, rd_str, rd_non, rd_tup, rd_lst, rd_stl, reduceIte, Bool.not_true, Bool.not_false, Bool.false_eq_true, Nat.sub_self, binD, cmpD, alc_f, dwipe, leD_ii, ltD_ii, gtD_ii, addD_ii, mulD_ii, eqD_ii, len_tup, len_lst, len_str, int_int, int_bl, tuple_lst, tuple_tup]
    rw [rd_ref]
    refine ⟨rfl, by decide, p, _, rfl, dupd_same, ?_, ⟨by decide, by decide⟩, Fz.here ⟨some d, rfl, ?_⟩⟩
    · rw [List.length_map, List.length_take]
      exact Nat.lt_of_le_of_lt (Nat.min_le_right _ _) (show 4 < sizeLine by decide)
    · rw [dupd_dupd]
      match i, hi' with
      | 0, _ => rfl
      | 1, _ => rfl
      | 2, _ => rfl
      | 3, _ => rfl
  · rintro σ H' ⟨o, rfl, rfl⟩
    refine ⟨_, rfl, ?_⟩
    show (match rd (dupd H p _) (.ref p) with | .tup xs => FzV (.tup xs) _ Q | .lst xs => FzV (.tup xs) _ Q | .stl xs => FzV (.tup xs) _ Q | _ => False)
    rw [rd_ref]
    exact FzV.drop hp q
end Sp

set_option maxRecDepth 100000
set_option maxHeartbeats 1000000
namespace Sp
open PySem DL Ir
def spSealed : DSp := fun ds H Q E => ∃ d, ds = [d] ∧ okQ H d = true ∧ deep d < 40 ∧ (isPc d 20 = true → isP d = true ∧ (pby d).length ≤ 1000000 ∧ Q (.tup ((pby d ++ sea (mkf (pby d))).map .int)) H) ∧ (isPc d 20 = false → E "NoParcel" [] H)
theorem sat_sealed {G : Gam} (h1 : G.fn "row_of" = spRowOf) (h2 : G.fn "seal_of" = spSeal) : Sat G N_sealed.length ir_sealed spSealed := by
  rintro vs H Q E ⟨d, rfl, ho, hd, q1, q2⟩
  unfold ir_sealed
  simp only [wE_v, wE_non, wE_bl, wE_int, wE_str, wE_gc, wE_tup, wE_lst, wE_dic0, wE_dicS, wE_bin, wE_cmp, wE_chn, wE_and, wE_or, wE_not, wE_neg, wE_ife, wE_idx, wE_slc, wE_rev, wE_fld, wE_call, wE_meth, wE_make, wE_blt, wE_bm, wE_isi, wE_xf, wE_xi, wTg_nm, wTg_tp, wTg_fld, wTg_sub, wIt_seq, wIt_rng0, wIt_rng1, wIt_enu, wIt_zip, wS_set, wS_expr, wS_ret, wS_retN, wS_ife, wS_raise, wS_try, wS_pass, wS_brk, wS_cont, wS_augN, wS_augF, wS_augS, wEs, wO, wAll, wTgs, wB, List.cons_append, List.nil_append, List.getElem?_cons_zero, List.getElem?_cons_succ, List.set_cons_zero, List.set_cons_succ, Option.some.injEq, exists_eq_left', D.bl.injEq, D.int.injEq, List.map_cons, List.map_nil, List.length_cons, List.length_nil, List.replicate, List.append_eq, Nat.reduceAdd, Nat.reduceSub, Nat.zero_add, Nat.add_zero, Nat.sub_zero, List.any_cons, List.any_nil, Bool.or_false, rd_int, rd_bl, rd_str, rd_non, rd_tup, rd_lst, rd_stl, reduceIte, Bool.not_true, Bool.not_false, Bool.false_eq_true, Nat.sub_self, binD, cmpD, alc_f, dwipe, leD_ii, ltD_ii, gtD_ii, addD_ii, mulD_ii, eqD_ii, len_tup, len_lst, len_str, int_int, int_bl, tuple_lst, tuple_tup, N_sealed, h1, h2]
  refine ⟨d, rfl, ho, hd, fun z => ?_, q2⟩
  obtain ⟨hi, hl, q⟩ := q1 z
  refine ⟨hi, hl, _, rfl, ?_⟩
  show addD _ _ _ _ _
  refine ⟨?_, Fz0 ?_⟩
  · rw [List.length_map, List.length_map]
    exact Nat.le_trans (show _ ≤ 1000004 from Nat.add_le_add hl (Nat.le_refl 4)) (by decide)
  · rw [List.map_append] at q
    exact q
end Sp

set_option maxRecDepth 100000
set_option maxHeartbeats 1000000
namespace Sp
open PySem DL Ir
/-- a whole number, from its bytes: k of them are read -/
def rgo : List Int → Nat → Int → Int → Option (Int × Nat)
  | [], _, _, _ => none
  | b :: r, k, f, w => if b < 128 then (if b = 0 ∧ 0 < k then none else some (f + b % 128 * w, k + 1)) else rgo r (k + 1) (f + b % 128 * w) (w * 128)
def rdW (row : List Int) (at' : Nat) : Option (Int × Nat) := (rgo (row.drop at') 0 0 1).map fun p => (p.1, at' + p.2)
def fsR (row : List Int) (a : Nat) : List (Str × D) := [("row", .tup (row.map .int)), ("at", .int a)]
def rdr (row : List Int) (a : Nat) : D := .ins "RowReader" (fsR row a)
/-- what was there is there as it was, but at p -/
def Old (p : Addr) (H H' : DH) : Prop := ∀ b, b ≠ p → ∀ o, H b = some o → H' b = some o
theorem old_refl {p : Addr} {H : DH} : Old p H H := fun _ _ _ h => h
theorem old_at {p : Addr} {H : DH} {o : D} : Old p H (dupd H p o) := fun b hb _ h => by rw [dupd_ne hb]; exact h
theorem old_new {p r : Addr} {H H' : DH} {o : D} (hr : H r = none) (h : Old p H H') : Old p H (dupd H' r o) := fun b hb x hx => by
  by_cases e : b = r
  · subst e; rw [hr] at hx; cases hx
  · rw [dupd_ne e]; exact h b hb x hx
theorem Old.trans {p : Addr} {H H' H2 : DH} (h : Old p H H') (h2 : Old p H' H2) : Old p H H2 := fun b hb o hx => h2 b hb o (h b hb o hx)
/-- what is to be wanted of a read: its worth, or the place of the error -/
def wants (p : Addr) (row : List Int) (H : DH) (Q : DK) (E : DXK) : Except Nat (D × Nat) → Prop
  | .ok (d, a) => Q d (dupd H p (rdr row a))
  | .error pl => ∀ H', Old p H H' → E "BadRow" [("place", .int (pl : Nat))] H'
def spInit : DSp := fun ds H Q _ => ∃ (p : Addr) (row : List Int), ds = [.ref p, .tup (row.map .int)] ∧ H p = some (.ins "RowReader" []) ∧ Q .non (dupd H p (rdr row 0))
theorem sat_init {G : Gam} : Sat G N_RowReader_init.length ir_RowReader_init spInit := by
  rintro vs H Q E ⟨p, row, rfl, hp, q⟩
  unfold ir_RowReader_init
  simp only [wE_v, wE_non, wE_bl, wE_int, wE_str, wE_gc, wE_tup, wE_lst, wE_dic0, wE_dicS, wE_bin, wE_cmp, wE_chn, wE_and, wE_or, wE_not, wE_neg, wE_ife, wE_idx, wE_slc, wE_rev, wE_fld, wE_call, wE_meth, wE_make, wE_blt, wE_bm, wE_isi, wE_xf, wE_xi, wTg_nm, wTg_tp, wTg_fld, wTg_sub, wIt_seq, wIt_rng0, wIt_rng1, wIt_enu, wIt_zip, wS_set, wS_expr, wS_ret, wS_retN, wS_ife, wS_raise, wS_try, wS_pass, wS_brk, wS_cont, wS_augN, wS_augF, wS_augS, wEs, wO, wAll, wTgs, wB, List.cons_append, List.nil_append, List.getElem?_cons_zero, List.getElem?_cons_succ, List.set_cons_zero, List.set_cons_succ, Option.some.injEq, exists_eq_left', D.bl.injEq, D.int.injEq, List.map_cons, List.map_nil, List.length_cons, List.length_nil, List.replicate, List.append_eq, Nat.reduceAdd, Nat.reduceSub, Nat.zero_add, Nat.add_zero, Nat.sub_zero, List.any_cons, List.any_nil, Bool.or_false, rd_int, rd_bl, rd_str, rd_non, rd_tup, rd_lst, rd_stl, reduceIte, Bool.not_true, Bool.not_false, Bool.false_eq_true, Nat.sub_self, binD, cmpD, alc_f, dwipe, leD_ii, ltD_ii, gtD_ii, addD_ii, mulD_ii, eqD_ii, len_tup, len_lst, len_str, int_int, int_bl, tuple_lst, tuple_tup, N_RowReader_init]
  refine ⟨p, [], rfl, hp, by decide, p, _, rfl, dupd_same, show 1 < 1000 by decide, ?_⟩
  rw [dupd_dupd]
  exact Fz0 q
def spNext : DSp := fun ds H Q E => ∃ (p : Addr) (row : List Int) (a : Nat), ds = [.ref p] ∧ H p = some (rdr row a) ∧ a ≤ row.length ∧ (a = row.length → E "BadRow" [("place", .int (a : Nat))] H) ∧ ∀ b, row[a]? = some b → Q (.int b) (dupd H p (rdr row (a + 1)))
theorem rd_at {H : DH} {p : Addr} {o : D} (h : H p = some o) : rd H (.ref p) = o := by show (H p).getD _ = o; rw [h]; rfl
theorem sat_next {G : Gam} (hx : G.xf "BadRow" = [("place" : Str)]) : Sat G N_RowReader_next_byte.length ir_RowReader_next_byte spNext := by
  rintro vs H Q E ⟨p, row, a, rfl, hp, ha, q1, q2⟩
  unfold ir_RowReader_next_byte
  simp only [wE_v, wE_non, wE_bl, wE_int, wE_str, wE_gc, wE_tup, wE_lst, wE_dic0, wE_dicS, wE_bin, wE_cmp, wE_chn, wE_and, wE_or, wE_not, wE_neg, wE_ife, wE_idx, wE_slc, wE_rev, wE_fld, wE_call, wE_meth, wE_make, wE_blt, wE_bm, wE_isi, wE_xf, wE_xi, wTg_nm, wTg_tp, wTg_fld, wTg_sub, wIt_seq, wIt_rng0, wIt_rng1, wIt_enu, wIt_zip, wS_set, wS_expr, wS_ret, wS_retN, wS_ife, wS_raise, wS_try, wS_pass, wS_brk, wS_cont, wS_augN, wS_augF, wS_augS, wEs, wO, wAll, wTgs, wB, List.cons_append, List.nil_append, List.getElem?_cons_zero, List.getElem?_cons_succ, List.set_cons_zero, List.set_cons_succ, Option.some.injEq, exists_eq_left', D.bl.injEq, D.int.injEq, List.map_cons, List.map_nil, List.length_cons, List.length_nil, List.replicate, List.append_eq, Nat.reduceAdd, Nat.reduceSub, Nat.zero_add, Nat.add_zero, Nat.sub_zero, List.any_cons, List.any_nil, Bool.or_false, rd_int, rd_bl, rd_str, rd_non, rd_tup, rd_lst, rd_stl, reduceIte, Bool.not_true, Bool.not_false, Bool.false_eq_true, Nat.sub_self, binD, cmpD, alc_f, dwipe, leD_ii, ltD_ii, gtD_ii, addD_ii, mulD_ii, eqD_ii, len_tup, len_lst, len_str, int_int, int_bl, tuple_lst, tuple_tup, N_RowReader_next_byte]
  rw [rd_at hp]
  refine ⟨_, _, rfl, rfl, _, _, rfl, rfl, ?_⟩
  simp only [wE_v, wE_non, wE_bl, wE_int, wE_str, wE_gc, wE_tup, wE_lst, wE_dic0, wE_dicS, wE_bin, wE_cmp, wE_chn, wE_and, wE_or, wE_not, wE_neg, wE_ife, wE_idx, wE_slc, wE_rev, wE_fld, wE_call, wE_meth, wE_make, wE_blt, wE_bm, wE_isi, wE_xf, wE_xi, wTg_nm, wTg_tp, wTg_fld, wTg_sub, wIt_seq, wIt_rng0, wIt_rng1, wIt_enu, wIt_zip, wS_set, wS_expr, wS_ret, wS_retN, wS_ife, wS_raise, wS_try, wS_pass, wS_brk, wS_cont, wS_augN, wS_augF, wS_augS, wEs, wO, wAll, wTgs, wB, List.cons_append, List.nil_append, List.getElem?_cons_zero, List.getElem?_cons_succ, List.set_cons_zero, List.set_cons_succ, Option.some.injEq, exists_eq_left', D.bl.injEq, D.int.injEq, List.map_cons, List.map_nil, List.length_cons, List.length_nil, List.replicate, List.append_eq, Nat.reduceAdd, Nat.reduceSub, Nat.zero_add, Nat.add_zero, Nat.sub_zero, List.any_cons, List.any_nil, Bool.or_false, rd_int, rd_bl, rd_str, rd_non, rd_tup, rd_lst, rd_stl, reduceIte, Bool.not_true, Bool.not_false, Bool.false_eq_true, Nat.sub_self, binD, cmpD, alc_f, dwipe, leD_ii, ltD_ii, gtD_ii, addD_ii, mulD_ii, eqD_ii, len_tup, len_lst, len_str, int_int, int_bl, tuple_lst, tuple_tup, rd_at hp, hx]
  by_cases h : a = row.length
  · rw [if_pos (decide_eq_true (by rw [List.length_map]; omega))]
    exact ⟨_, _, rfl, rfl, trivial, q1 h⟩
  · rw [if_neg (by rw [List.length_map, decide_eq_false (by omega)]; simp)]
    refine ⟨p, _, _, rfl, hp, rfl, ?_⟩
    refine ⟨_, hp, by show 2 < 1000; decide, ?_⟩
    rw [rd_ref]
    refine ⟨_, _, rfl, rfl, _, _, rfl, rfl, ?_⟩
    obtain ⟨b, hb⟩ : ∃ b, row[a]? = some b := ⟨_, List.getElem?_eq_getElem (by omega)⟩
    refine ⟨_, .int b, rfl, ?_, Fz0 (q2 b hb)⟩
    have e : ((a : Int) + 1 - 1) = (a : Nat) := by omega
    rw [e]
    unfold L2.atI L2.ixN
    rw [if_pos (by omega), if_pos (by rw [List.length_map]; omega)]
    show (row.map D.int)[a]? = _
    rw [List.getElem?_map, hb]; rfl
end Sp

set_option maxRecDepth 100000
set_option maxHeartbeats 1000000
namespace Sp
open PySem DL Ir
theorem len_at {H : DH} {r : Addr} {xs : List D} {m : Bool} {Q : DK} : bltD .len m [.ref r] (dupd H r (.lst xs)) Q = Q (.int xs.length) (dupd H r (.lst xs)) := by
  show (match rd (dupd H r (.lst xs)) (.ref r) with
      | .tup xs => Q (.int xs.length) _ | .lst xs => Q (.int xs.length) _ | .stl xs => Q (.int xs.length) _ | .stp xs => Q (.int xs.length) _
      | .str s => Q (.int s.length) _ | .dic t kvs => t = false ∧ Q (.int kvs.length) _ | _ => False) = _
  rw [rd_ref]
theorem tuple_at {H : DH} {r : Addr} {xs : List D} {m : Bool} {Q : DK} : bltD .tuple m [.ref r] (dupd H r (.lst xs)) Q = Q (.tup xs) (dupd H r (.lst xs)) := by
  show (match rd (dupd H r (.lst xs)) (.ref r) with | .tup xs => Q (.tup xs) _ | .lst xs => Q (.tup xs) _ | .stl xs => Q (.tup xs) _ | _ => False) = _
  rw [rd_ref]
theorem augI_add {i j : Int} {H : DH} {Q : DK} : augD .add (.int i) (.int j) H Q = Q (.int (i + j)) H := rfl
theorem augI_mul {i j : Int} {H : DH} {Q : DK} : augD .mul (.int i) (.int j) H Q = (L2.CMul i j ∧ Q (.int (i * j)) H) := rfl
theorem atI_ints {row : List Int} {k : Nat} {b : Int} (h : row[k]? = some b) : L2.atI (row.map D.int) (k : Int) = some (.int b) := by
  unfold L2.atI L2.ixN
  have hk := (List.getElem?_eq_some_iff.mp h).1
  rw [if_pos (by omega), if_pos (by rw [List.length_map]; omega)]
  show (row.map D.int)[k]? = _
  rw [List.getElem?_map, h]; rfl
theorem fput_at {row : List Int} {a : Nat} {z : Int} {b : Nat} (h : z = b) : D.ins "RowReader" (fput "at" (.int z) (fsR row a)) = rdr row b := by rw [h]; rfl
def spRdW : DSp := fun ds H Q E => ∃ (p : Addr) (row : List Int) (a : Nat), ds = [.ref p] ∧ H p = some (rdr row a) ∧ a ≤ row.length ∧ (∀ v a', rdW row a = some (v, a') → Q (.int v) (dupd H p (rdr row a'))) ∧ (rdW row a = none → ∀ a', a' ≤ row.length → E "BadRow" [("place", .int (a : Nat))] (dupd H p (rdr row a')))
theorem sat_rdw {G : Gam} (hg : G.gc = gcv) (hx : G.xf "BadRow" = [("place" : Str)]) : Sat G N_RowReader_read_whole.length ir_RowReader_read_whole spRdW := by
  rintro vs H Q E ⟨p, row, a, rfl, hp, ha, q1, q2⟩
  unfold ir_RowReader_read_whole
  simp only [wE_v, wE_non, wE_bl, wE_int, wE_str, wE_gc, wE_tup, wE_lst, wE_dic0, wE_dicS, wE_bin, wE_cmp, wE_chn, wE_and, wE_or, wE_not, wE_neg, wE_ife, wE_idx, wE_slc, wE_rev, wE_fld, wE_call, wE_meth, wE_make, wE_blt, wE_bm, wE_isi, wE_xf, wE_xi, wTg_nm, wTg_tp, wTg_fld, wTg_sub, wIt_seq, wIt_rng0, wIt_rng1, wIt_enu, wIt_zip, wS_set, wS_expr, wS_ret, wS_retN, wS_ife, wS_raise, wS_try, wS_pass, wS_brk, wS_cont, wS_augN, wS_augF, wS_augS, wEs, wO, wAll, wTgs, wB, List.cons_append, List.nil_append, List.getElem?_cons_zero, List.getElem?_cons_succ, List.set_cons_zero, List.set_cons_succ, Option.some.injEq, exists_eq_left', D.bl.injEq, D.int.injEq, List.map_cons, List.map_nil, List.length_cons, List.length_nil, List.replicate, List.append_eq, Nat.reduceAdd, Nat.reduceSub, Nat.zero_add, Nat.add_zero, Nat.sub_zero, List.any_cons, List.any_nil, Bool.or_false, rd_int, rd_bl, rd_str, rd_non, rd_tup, rd_lst, rd_stl, reduceIte, Bool.not_true, Bool.not_false, Bool.false_eq_true, Nat.sub_self, binD, cmpD, alc_f, dwipe, leD_ii, ltD_ii, gtD_ii, addD_ii, mulD_ii, eqD_ii, len_tup, len_lst, len_str, int_int, int_bl, tuple_lst, tuple_tup, N_RowReader_read_whole]
  rw [rd_at hp]
  refine ⟨_, _, rfl, rfl, _, rfl, rfl, ?_⟩
  simp only [wE_v, wE_non, wE_bl, wE_int, wE_str, wE_gc, wE_tup, wE_lst, wE_dic0, wE_dicS, wE_bin, wE_cmp, wE_chn, wE_and, wE_or, wE_not, wE_neg, wE_ife, wE_idx, wE_slc, wE_rev, wE_fld, wE_call, wE_meth, wE_make, wE_blt, wE_bm, wE_isi, wE_xf, wE_xi, wTg_nm, wTg_tp, wTg_fld, wTg_sub, wIt_seq, wIt_rng0, wIt_rng1, wIt_enu, wIt_zip, wS_set, wS_expr, wS_ret, wS_retN, wS_ife, wS_raise, wS_try, wS_pass, wS_brk, wS_cont, wS_augN, wS_augF, wS_augS, wEs, wO, wAll, wTgs, wB, List.cons_append, List.nil_append, List.getElem?_cons_zero, List.getElem?_cons_succ, List.set_cons_zero, List.set_cons_succ, Option.some.injEq, exists_eq_left', D.bl.injEq, D.int.injEq, List.map_cons, List.map_nil, List.length_cons, List.length_nil, List.replicate, List.append_eq, Nat.reduceAdd, Nat.reduceSub, Nat.zero_add, Nat.add_zero, Nat.sub_zero, List.any_cons, List.any_nil, Bool.or_false, rd_int, rd_bl, rd_str, rd_non, rd_tup, rd_lst, rd_stl, reduceIte, Bool.not_true, Bool.not_false, Bool.false_eq_true, Nat.sub_self, binD, cmpD, alc_f, dwipe, leD_ii, ltD_ii, gtD_ii, addD_ii, mulD_ii, eqD_ii, len_tup, len_lst, len_str, int_int, int_bl, tuple_lst, tuple_tup]
  rw [wS]
  refine ⟨fun m σ H' => ∃ k f w o, a + k ≤ row.length ∧ m = row.length - (a + k) ∧ σ = [some (.ref p), some (.int a), some (.int f), some (.int w), o] ∧ H' = dupd H p (rdr row (a + k)) ∧ rgo (row.drop (a + k)) k f w = rgo (row.drop a) 0 0 1, ⟨_, 0, 0, 1, none, ha, rfl, ?_, ?_, rfl⟩, ?_⟩
  · rfl
  · funext b
    unfold dupd
    split
    · rename_i e; rw [e, hp]; rfl
    · rfl
  · rintro m σ H' ⟨k, f, w, o, hk, rfl, rfl, rfl, e⟩
    simp only [wE_v, wE_non, wE_bl, wE_int, wE_str, wE_gc, wE_tup, wE_lst, wE_dic0, wE_dicS, wE_bin, wE_cmp, wE_chn, wE_and, wE_or, wE_not, wE_neg, wE_ife, wE_idx, wE_slc, wE_rev, wE_fld, wE_call, wE_meth, wE_make, wE_blt, wE_bm, wE_isi, wE_xf, wE_xi, wTg_nm, wTg_tp, wTg_fld, wTg_sub, wIt_seq, wIt_rng0, wIt_rng1, wIt_enu, wIt_zip, wS_set, wS_expr, wS_ret, wS_retN, wS_ife, wS_raise, wS_try, wS_pass, wS_brk, wS_cont, wS_augN, wS_augF, wS_augS, wEs, wO, wAll, wTgs, wB, List.cons_append, List.nil_append, List.getElem?_cons_zero, List.getElem?_cons_succ, List.set_cons_zero, List.set_cons_succ, Option.some.injEq, exists_eq_left', D.bl.injEq, D.int.injEq, List.map_cons, List.map_nil, List.length_cons, List.length_nil, List.replicate, List.append_eq, Nat.reduceAdd, Nat.reduceSub, Nat.zero_add, Nat.add_zero, Nat.sub_zero, List.any_cons, List.any_nil, Bool.or_false, rd_int, rd_bl, rd_str, rd_non, rd_tup, rd_lst, rd_stl, reduceIte, Bool.not_true, Bool.not_false, Bool.false_eq_true, Nat.sub_self, binD, cmpD, alc_f, dwipe, leD_ii, ltD_ii, gtD_ii, addD_ii, mulD_ii, eqD_ii, len_tup, len_lst, len_str, int_int, int_bl, tuple_lst, tuple_tup, hg, hx, gc_BASE]
    rw [rd_ref]
    refine ⟨_, _, rfl, rfl, _, _, rfl, rfl, ?_⟩
    simp only [wE_v, wE_non, wE_bl, wE_int, wE_str, wE_gc, wE_tup, wE_lst, wE_dic0, wE_dicS, wE_bin, wE_cmp, wE_chn, wE_and, wE_or, wE_not, wE_neg, wE_ife, wE_idx, wE_slc, wE_rev, wE_fld, wE_call, wE_meth, wE_make, wE_blt, wE_bm, wE_isi, wE_xf, wE_xi, wTg_nm, wTg_tp, wTg_fld, wTg_sub, wIt_seq, wIt_rng0, wIt_rng1, wIt_enu, wIt_zip, wS_set, wS_expr, wS_ret, wS_retN, wS_ife, wS_raise, wS_try, wS_pass, wS_brk, wS_cont, wS_augN, wS_augF, wS_augS, wEs, wO, wAll, wTgs, wB, List.cons_append, List.nil_append, List.getElem?_cons_zero, List.getElem?_cons_succ, List.set_cons_zero, List.set_cons_succ, Option.some.injEq, exists_eq_left', D.bl.injEq, D.int.injEq, List.map_cons, List.map_nil, List.length_cons, List.length_nil, List.replicate, List.append_eq, Nat.reduceAdd, Nat.reduceSub, Nat.zero_add, Nat.add_zero, Nat.sub_zero, List.any_cons, List.any_nil, Bool.or_false, rd_int, rd_bl, rd_str, rd_non, rd_tup, rd_lst, rd_stl, reduceIte, Bool.not_true, Bool.not_false, Bool.false_eq_true, Nat.sub_self, binD, cmpD, alc_f, dwipe, leD_ii, ltD_ii, gtD_ii, addD_ii, mulD_ii, eqD_ii, len_tup, len_lst, len_str, int_int, int_bl, tuple_lst, tuple_tup]
    by_cases h : a + k = row.length
    · rw [if_neg (by rw [List.length_map, decide_eq_false (by omega)]; simp)]
      refine ⟨trivial, q2 ?_ _ hk⟩
      unfold rdW
      rw [← e, h, List.drop_length]; rfl
    · rw [if_pos (by rw [List.length_map, decide_eq_true (by omega)])]
      obtain ⟨b, hb⟩ : ∃ b, row[a + k]? = some b := ⟨_, List.getElem?_eq_getElem (by omega)⟩
      have ed : row.drop (a + k) = b :: row.drop (a + k + 1) := by
        obtain ⟨h1, h2⟩ := List.getElem?_eq_some_iff.mp hb
        rw [List.drop_eq_getElem_cons h1, h2]
      rw [ed] at e
      refine ⟨_, _, rd_ref, rfl, _, _, rd_ref, rfl, ?_⟩
      refine ⟨_, .int b, rfl, atI_ints hb, ?_⟩
      refine ⟨p, _, _, rfl, dupd_same, rfl, ?_⟩
      refine ⟨_, dupd_same, by show 2 < 1000; decide, ?_⟩
      rw [fput_at (b := a + k + 1) (by omega), dupd_dupd]
      simp only [rd_int, augI_add, augI_mul]
      refine ⟨by decide, .inl ⟨by omega, by omega⟩, .inr (by decide), ?_⟩
      by_cases hb128 : b < 128
      · rw [ltD_ii, if_pos (decide_eq_true hb128), eqD_ii]
        have e' : rgo (b :: row.drop (a + k + 1)) k f w = if b = 0 ∧ 0 < k then none else some (f + b % 128 * w, k + 1) := by rw [rgo, if_pos hb128]
        rw [e'] at e
        by_cases h0 : b = 0
        · rw [if_pos (decide_eq_true h0)]
          refine ⟨_, _, rd_ref, rfl, ?_⟩
          show if decide (1 < ((a + k + 1 : Nat) : Int) - a) = true then _ else _
          by_cases hk0 : 0 < k
          · rw [if_pos (decide_eq_true (by omega))]
            rw [if_pos ⟨h0, hk0⟩] at e
            refine ⟨trivial, q2 ?_ _ (by omega)⟩
            unfold rdW; rw [← e]; rfl
          · rw [if_neg (by rw [decide_eq_false (by omega)]; simp)]
            rw [if_neg (fun h => hk0 h.2)] at e
            refine Fz0 (q1 _ _ ?_)
            unfold rdW; rw [← e]; rfl
        · rw [if_neg (by rw [decide_eq_false h0]; simp)]
          rw [if_neg (fun h => h0 h.1)] at e
          refine Fz0 (q1 _ _ ?_)
          unfold rdW; rw [← e]; rfl
      · rw [ltD_ii, if_neg (by rw [decide_eq_false hb128]; simp)]
        rw [rgo, if_neg hb128] at e
        exact Fz.here ⟨_, by omega, k + 1, _, _, some (.int b), by omega, rfl, rfl, rfl, e⟩
end Sp

set_option maxRecDepth 100000
set_option maxHeartbeats 1000000
namespace Sp
open PySem DL Ir
theorem dupd_self {H : DH} {p : Addr} {o : D} (hp : H p = some o) : dupd H p o = H := by
  funext b; unfold dupd; split
  · rename_i e; rw [e, hp]
  · rfl
theorem rgo_le : ∀ {l : List Int} {k : Nat} {f w : Int} {v : Int} {n : Nat}, rgo l k f w = some (v, n) → k < n ∧ n ≤ k + l.length
  | [], _, _, _, _, _, h => by cases h
  | b :: r, k, f, w, v, n, h => by
    unfold rgo at h
    split at h
    · split at h
      · cases h
      · cases h; rw [List.length_cons]; omega
    · have := rgo_le h
      rw [List.length_cons]; omega
theorem rdW_le {row : List Int} {a : Nat} {v : Int} {a' : Nat} (h : rdW row a = some (v, a')) : a < a' ∧ a' ≤ row.length := by
  unfold rdW at h
  obtain ⟨⟨v', n⟩, h1, h2⟩ := Option.map_eq_some_iff.mp h
  cases h2
  have := rgo_le h1
  rw [List.length_drop] at this
  dsimp only
  omega
theorem rgo_pos : ∀ {l : List Int} {k : Nat} {f w : Int} {v : Int} {n : Nat}, 0 ≤ f → 0 ≤ w → rgo l k f w = some (v, n) → 0 ≤ v
  | [], _, _, _, _, _, _, _, h => by cases h
  | b :: r, k, f, w, v, n, hf, hw, h => by
    have h0 : 0 ≤ b % 128 * w := Int.mul_nonneg (by omega) hw
    unfold rgo at h
    split at h
    · split at h
      · cases h
      · cases h; omega
    · exact rgo_pos (by omega) (by omega) h
theorem rdW_pos {row : List Int} {a : Nat} {v : Int} {a' : Nat} (h : rdW row a = some (v, a')) : 0 ≤ v := by
  unfold rdW at h
  obtain ⟨⟨v', n⟩, h1, h2⟩ := Option.map_eq_some_iff.mp h
  cases h2
  exact rgo_pos (by decide) (by decide) h1
/-- so many signs -/
def rdT (row : List Int) : Nat → Nat → Except Nat (List Nat × Nat)
  | 0, a => .ok ([], a)
  | k + 1, a => match row[a]? with
    | none => .error row.length
    | some b => if isSign b = true then (match rdT row k (a + 1) with | .ok (cs, e) => .ok (b.toNat :: cs, e) | .error e => .error e) else .error a
def rdStr (row : List Int) (a : Nat) : Except Nat (D × Nat) := match rdW row a with
  | none => .error a
  | some (m, a1) => if 1 ≤ m ∧ m ≤ 20 then (match rdT row m.toNat a1 with | .ok (cs, e) => .ok (.str ⟨cs.toArray⟩, e) | .error e => .error e) else .error a
def spRd (r : List Int → Nat → Except Nat (D × Nat)) : DSp := fun ds H Q E => ∃ (p : Addr) (row : List Int) (a : Nat), ds = [.ref p] ∧ H p = some (rdr row a) ∧ a ≤ row.length ∧ wants p row H Q E (r row a)
def signsS : Str := " !\"#$ &'()*+,-./0123456789:;<=>?@ABCDEFGHIJKLMNOPQRSTUVWXYZ[\\]^_`abcdefghijklmnopqrstuvwxyz{|}~"
theorem gc_SIGNS : gcv "SIGNS" = some (.str signsS) := rfl
theorem signs_at0 : ∀ k, k < 95 → k ≠ 5 → signsS.cps.toList[k]? = some (k + 32) := by decide +kernel
theorem signs_len : signsS.cps.toList.length = 95 := by decide +kernel
theorem isSign_i {b : Int} (h : isSign b = true) : 32 ≤ b ∧ b ≤ 126 ∧ b ≠ 37 := by
  simpa [isSign, and_assoc] using h
theorem signs_at {b : Int} (h : isSign b = true) : L2.atI signsS.cps.toList (b - 32) = some b.toNat := by
  obtain ⟨h1, h2, h3⟩ := isSign_i h
  unfold L2.atI L2.ixN
  rw [if_pos (by omega), if_pos (by rw [signs_len]; omega)]
  show signsS.cps.toList[(b - 32).toNat]? = _
  rw [signs_at0 _ (by omega) (by omega)]
  congr 1; omega
theorem str_add (cs : List Nat) (c : Nat) : (⟨cs.toArray⟩ : Str) ++ ⟨#[c]⟩ = ⟨(cs ++ [c]).toArray⟩ := by
  show Str.mk (cs.toArray ++ #[c]) = _
  simp
theorem sat_rds {G : Gam} (hg : G.gc = gcv) (hx : G.xf "BadRow" = [("place" : Str)]) (h1 : G.mt "RowReader" "read_whole" = spRdW) (h2 : G.mt "RowReader" "next_byte" = spNext) (h3 : G.fn "is_sign" = spIsSign) : Sat G N_RowReader_read_string.length ir_RowReader_read_string (spRd rdStr) := by
  rintro vs H Q E ⟨p, row, a, rfl, hp, ha, q⟩
  unfold ir_RowReader_read_string
  simp only [wE_v, wE_non, wE_bl, wE_int, wE_str, wE_gc, wE_tup, wE_lst, wE_dic0, wE_dicS, wE_bin, wE_cmp, wE_chn, wE_and, wE_or, wE_not, wE_neg, wE_ife, wE_idx, wE_slc, wE_rev, wE_fld, wE_call, wE_meth, wE_make, wE_blt, wE_bm, wE_isi, wE_xf, wE_xi, wTg_nm, wTg_tp, wTg_fld, wTg_sub, wIt_seq, wIt_rng0, wIt_rng1, wIt_enu, wIt_zip, wS_set, wS_expr, wS_ret, wS_retN, wS_ife, wS_raise, wS_try, wS_pass, wS_brk, wS_cont, wS_augN, wS_augF, wS_augS, wEs, wO, wAll, wTgs, wB, List.cons_append, List.nil_append, List.getElem?_cons_zero, List.getElem?_cons_succ, List.set_cons_zero, List.set_cons_succ, Option.some.injEq, exists_eq_left', D.bl.injEq, D.int.injEq, List.map_cons, List.map_nil, List.length_cons, List.length_nil, List.replicate, List.append_eq, Nat.reduceAdd, Nat.reduceSub, Nat.zero_add, Nat.add_zero, Nat.sub_zero, List.any_cons, List.any_nil, Bool.or_false, rd_int, rd_bl, rd_str, rd_non, rd_tup, rd_lst, rd_stl, reduceIte, Bool.not_true, Bool.not_false, Bool.false_eq_true, Nat.sub_self, binD, cmpD, alc_f, dwipe, leD_ii, ltD_ii, gtD_ii, addD_ii, mulD_ii, eqD_ii, len_tup, len_lst, len_str, int_int, int_bl, tuple_lst, tuple_tup, N_RowReader_read_string, h1, hg, gc_MOSTS, hx]
  rw [rd_at hp]
  refine ⟨_, _, rfl, rfl, ⟨_, rfl, rfl⟩, p, row, a, rfl, hp, ha, fun v a1 e => ?_, fun e a' ha' => ?_⟩
  · have hle := rdW_le e
    unfold rdStr at q
    rw [e] at q
    simp only at q
    simp only [wE_v, wE_non, wE_bl, wE_int, wE_str, wE_gc, wE_tup, wE_lst, wE_dic0, wE_dicS, wE_bin, wE_cmp, wE_chn, wE_and, wE_or, wE_not, wE_neg, wE_ife, wE_idx, wE_slc, wE_rev, wE_fld, wE_call, wE_meth, wE_make, wE_blt, wE_bm, wE_isi, wE_xf, wE_xi, wTg_nm, wTg_tp, wTg_fld, wTg_sub, wIt_seq, wIt_rng0, wIt_rng1, wIt_enu, wIt_zip, wS_set, wS_expr, wS_ret, wS_retN, wS_ife, wS_raise, wS_try, wS_pass, wS_brk, wS_cont, wS_augN, wS_augF, wS_augS, wEs, wO, wAll, wTgs, wB, List.cons_append, List.nil_append, List.getElem?_cons_zero, List.getElem?_cons_succ, List.set_cons_zero, List.set_cons_succ, Option.some.injEq, exists_eq_left', D.bl.injEq, D.int.injEq, List.map_cons, List.map_nil, List.length_cons, List.length_nil, List.replicate, List.append_eq, Nat.reduceAdd, Nat.reduceSub, Nat.zero_add, Nat.add_zero, Nat.sub_zero, List.any_cons, List.any_nil, Bool.or_false, rd_int, rd_bl, rd_str, rd_non, rd_tup, rd_lst, rd_stl, reduceIte, Bool.not_true, Bool.not_false, Bool.false_eq_true, Nat.sub_self, binD, cmpD, alc_f, dwipe, leD_ii, ltD_ii, gtD_ii, addD_ii, mulD_ii, eqD_ii, len_tup, len_lst, len_str, int_int, int_bl, tuple_lst, tuple_tup, hx]
    by_cases c1 : 1 ≤ v
    · rw [if_pos (decide_eq_true c1)]
      by_cases c2 : v ≤ 20
      · rw [if_pos ⟨c1, c2⟩] at q
        simp only [wE_v, wE_non, wE_bl, wE_int, wE_str, wE_gc, wE_tup, wE_lst, wE_dic0, wE_dicS, wE_bin, wE_cmp, wE_chn, wE_and, wE_or, wE_not, wE_neg, wE_ife, wE_idx, wE_slc, wE_rev, wE_fld, wE_call, wE_meth, wE_make, wE_blt, wE_bm, wE_isi, wE_xf, wE_xi, wTg_nm, wTg_tp, wTg_fld, wTg_sub, wIt_seq, wIt_rng0, wIt_rng1, wIt_enu, wIt_zip, wS_set, wS_expr, wS_ret, wS_retN, wS_ife, wS_raise, wS_try, wS_pass, wS_brk, wS_cont, wS_augN, wS_augF, wS_augS, wEs, wO, wAll, wTgs, wB, List.cons_append, List.nil_append, List.getElem?_cons_zero, List.getElem?_cons_succ, List.set_cons_zero, List.set_cons_succ, Option.some.injEq, exists_eq_left', D.bl.injEq, D.int.injEq, List.map_cons, List.map_nil, List.length_cons, List.length_nil, List.replicate, List.append_eq, Nat.reduceAdd, Nat.reduceSub, Nat.zero_add, Nat.add_zero, Nat.sub_zero, List.any_cons, List.any_nil, Bool.or_false, rd_int, rd_bl, rd_str, rd_non, rd_tup, rd_lst, rd_stl, reduceIte, Bool.not_true, Bool.not_false, Bool.false_eq_true, Nat.sub_self, binD, cmpD, alc_f, dwipe, leD_ii, ltD_ii, gtD_ii, addD_ii, mulD_ii, eqD_ii, len_tup, len_lst, len_str, int_int, int_bl, tuple_lst, tuple_tup, c2, decide_true]
        rw [wS]
        simp only [wE_v, wE_non, wE_bl, wE_int, wE_str, wE_gc, wE_tup, wE_lst, wE_dic0, wE_dicS, wE_bin, wE_cmp, wE_chn, wE_and, wE_or, wE_not, wE_neg, wE_ife, wE_idx, wE_slc, wE_rev, wE_fld, wE_call, wE_meth, wE_make, wE_blt, wE_bm, wE_isi, wE_xf, wE_xi, wTg_nm, wTg_tp, wTg_fld, wTg_sub, wIt_seq, wIt_rng0, wIt_rng1, wIt_enu, wIt_zip, wS_set, wS_expr, wS_ret, wS_retN, wS_ife, wS_raise, wS_try, wS_pass, wS_brk, wS_cont, wS_augN, wS_augF, wS_augS, wEs, wO, wAll, wTgs, wB, List.cons_append, List.nil_append, List.getElem?_cons_zero, List.getElem?_cons_succ, List.set_cons_zero, List.set_cons_succ, Option.some.injEq, exists_eq_left', D.bl.injEq, D.int.injEq, List.map_cons, List.map_nil, List.length_cons, List.length_nil, List.replicate, List.append_eq, Nat.reduceAdd, Nat.reduceSub, Nat.zero_add, Nat.add_zero, Nat.sub_zero, List.any_cons, List.any_nil, Bool.or_false, rd_int, rd_bl, rd_str, rd_non, rd_tup, rd_lst, rd_stl, reduceIte, Bool.not_true, Bool.not_false, Bool.false_eq_true, Nat.sub_self, binD, cmpD, alc_f, dwipe, leD_ii, ltD_ii, gtD_ii, addD_ii, mulD_ii, eqD_ii, len_tup, len_lst, len_str, int_int, int_bl, tuple_lst, tuple_tup]
        refine ⟨by omega, by omega, fun hz => ⟨fun i σ H' => ∃ cs o o', i ≤ v.toNat ∧ a1 + i ≤ row.length ∧ cs.length = i ∧ σ = [some (.ref p), some (.int a), some (.int v), some (.str ⟨cs.toArray⟩), o, o'] ∧ H' = dupd H p (rdr row (a1 + i)) ∧
          (rdT row v.toNat a1 = match rdT row (v.toNat - i) (a1 + i) with | .ok (r, e) => .ok (cs ++ r, e) | .error e => .error e), ⟨[], none, none, Nat.zero_le _, hle.2, rfl, rfl, rfl, ?_⟩, fun _ _ _ _ => trivial, ?_, ?_⟩⟩
        · rw [Nat.sub_zero, Nat.add_zero]
          cases rdT row v.toNat a1 <;> rfl
        · rintro i d σ H' hi ⟨cs, o, o', hi1, hi2, hcl, rfl, rfl, er⟩
          have hi' : i < v.toNat := by
            have := (List.getElem?_eq_some_iff.mp hi).1
            simpa [rangeD_len] using this
          simp only [wE_v, wE_non, wE_bl, wE_int, wE_str, wE_gc, wE_tup, wE_lst, wE_dic0, wE_dicS, wE_bin, wE_cmp, wE_chn, wE_and, wE_or, wE_not, wE_neg, wE_ife, wE_idx, wE_slc, wE_rev, wE_fld, wE_call, wE_meth, wE_make, wE_blt, wE_bm, wE_isi, wE_xf, wE_xi, wTg_nm, wTg_tp, wTg_fld, wTg_sub, wIt_seq, wIt_rng0, wIt_rng1, wIt_enu, wIt_zip, wS_set, wS_expr, wS_ret, wS_retN, wS_ife, wS_raise, wS_try, wS_pass, wS_brk, wS_cont, wS_augN, wS_augF, wS_augS, wEs, wO, wAll, wTgs, wB, List.cons_append, List.nil_append, List.getElem?_cons_zero, List.getElem?_cons_succ, List.set_cons_zero, List.set_cons_succ, Option.some.injEq, exists_eq_left', D.bl.injEq, D.int.injEq, List.map_cons, List.map_nil, List.length_cons, List.length_nil, List.replicate, List.append_eq, Nat.reduceAdd, Nat.reduceSub, Nat.zero_add, Nat.add_zero, Nat.sub_zero, List.any_cons, List.any_nil, Bool.or_false, rd_int, rd_bl, rd_str, rd_non, rd_tup, rd_lst, rd_stl, reduceIte, Bool.not_true, Bool.not_false, Bool.false_eq_true, Nat.sub_self, binD, cmpD, alc_f, dwipe, leD_ii, ltD_ii, gtD_ii, addD_ii, mulD_ii, eqD_ii, len_tup, len_lst, len_str, int_int, int_bl, tuple_lst, tuple_tup, h2, h3, hg, hx, gc_SIGNS, gc_FIRST]
          have ev : v.toNat - i = (v.toNat - (i + 1)) + 1 := by omega
          rw [ev, rdT] at er
          refine ⟨⟨_, rd_ref, rfl⟩, p, row, a1 + i, rfl, dupd_same, hi2, fun hn => ?_, fun b hb => ?_⟩
          · rw [List.getElem?_eq_none (by omega)] at er
            simp only at er
            rw [er] at q
            rw [hn]
            exact q _ old_at
          · rw [hb] at er
            simp only at er
            rw [dupd_dupd]
            refine ⟨b, rfl, _, rfl, ?_⟩
            cases hs : isSign b
            · simp only [wE_v, wE_non, wE_bl, wE_int, wE_str, wE_gc, wE_tup, wE_lst, wE_dic0, wE_dicS, wE_bin, wE_cmp, wE_chn, wE_and, wE_or, wE_not, wE_neg, wE_ife, wE_idx, wE_slc, wE_rev, wE_fld, wE_call, wE_meth, wE_make, wE_blt, wE_bm, wE_isi, wE_xf, wE_xi, wTg_nm, wTg_tp, wTg_fld, wTg_sub, wIt_seq, wIt_rng0, wIt_rng1, wIt_enu, wIt_zip, wS_set, wS_expr, wS_ret, wS_retN, wS_ife, wS_raise, wS_try, wS_pass, wS_brk, wS_cont, wS_augN, wS_augF, wS_augS, wEs, wO, wAll, wTgs, wB, List.cons_append, List.nil_append, List.getElem?_cons_zero, List.getElem?_cons_succ, List.set_cons_zero, List.set_cons_succ, Option.some.injEq, exists_eq_left', D.bl.injEq, D.int.injEq, List.map_cons, List.map_nil, List.length_cons, List.length_nil, List.replicate, List.append_eq, Nat.reduceAdd, Nat.reduceSub, Nat.zero_add, Nat.add_zero, Nat.sub_zero, List.any_cons, List.any_nil, Bool.or_false, rd_int, rd_bl, rd_str, rd_non, rd_tup, rd_lst, rd_stl, reduceIte, Bool.not_true, Bool.not_false, Bool.false_eq_true, Nat.sub_self, binD, cmpD, alc_f, dwipe, leD_ii, ltD_ii, gtD_ii, addD_ii, mulD_ii, eqD_ii, len_tup, len_lst, len_str, int_int, int_bl, tuple_lst, tuple_tup]
              rw [hs] at er
              simp only [Bool.false_eq_true, reduceIte] at er
              rw [er] at q
              rw [rd_ref]
              refine ⟨_, _, rfl, rfl, trivial, ?_⟩
              have ee : (((a1 + i + 1 : Nat) : Int) - 1) = ((a1 + i : Nat) : Int) := by omega
              rw [ee]
              exact q _ old_at
            · simp only [wE_v, wE_non, wE_bl, wE_int, wE_str, wE_gc, wE_tup, wE_lst, wE_dic0, wE_dicS, wE_bin, wE_cmp, wE_chn, wE_and, wE_or, wE_not, wE_neg, wE_ife, wE_idx, wE_slc, wE_rev, wE_fld, wE_call, wE_meth, wE_make, wE_blt, wE_bm, wE_isi, wE_xf, wE_xi, wTg_nm, wTg_tp, wTg_fld, wTg_sub, wIt_seq, wIt_rng0, wIt_rng1, wIt_enu, wIt_zip, wS_set, wS_expr, wS_ret, wS_retN, wS_ife, wS_raise, wS_try, wS_pass, wS_brk, wS_cont, wS_augN, wS_augF, wS_augS, wEs, wO, wAll, wTgs, wB, List.cons_append, List.nil_append, List.getElem?_cons_zero, List.getElem?_cons_succ, List.set_cons_zero, List.set_cons_succ, Option.some.injEq, exists_eq_left', D.bl.injEq, D.int.injEq, List.map_cons, List.map_nil, List.length_cons, List.length_nil, List.replicate, List.append_eq, Nat.reduceAdd, Nat.reduceSub, Nat.zero_add, Nat.add_zero, Nat.sub_zero, List.any_cons, List.any_nil, Bool.or_false, rd_int, rd_bl, rd_str, rd_non, rd_tup, rd_lst, rd_stl, reduceIte, Bool.not_true, Bool.not_false, Bool.false_eq_true, Nat.sub_self, binD, cmpD, alc_f, dwipe, leD_ii, ltD_ii, gtD_ii, addD_ii, mulD_ii, eqD_ii, len_tup, len_lst, len_str, int_int, int_bl, tuple_lst, tuple_tup]
              rw [hs, if_pos rfl] at er
              refine ⟨_, _, rfl, signs_at hs, ?_⟩
              refine ⟨?_, ?_⟩
              · show cs.toArray.size + 1 ≤ sizeLine
                rw [List.size_toArray]
                exact Nat.le_trans (show _ ≤ 21 by omega) (by decide)
              · rw [str_add]
                refine Fz.here ⟨cs ++ [b.toNat], _, _, by omega, by have := (List.getElem?_eq_some_iff.mp hb).1; omega, by rw [List.length_append, hcl]; rfl, rfl, by rw [Nat.add_assoc], ?_⟩
                rw [er, ← Nat.add_assoc]
                cases rdT row (v.toNat - (i + 1)) (a1 + i + 1) with
                | ok r => simp
                | error r => rfl
        · rintro σ H' ⟨cs, o, o', hi1, hi2, hcl, rfl, rfl, er⟩
          refine ⟨_, rfl, Fz0 ?_⟩
          rw [rangeD_len] at er ⊢
          rw [Nat.sub_self, rdT] at er
          rw [er] at q
          simp only [List.append_nil] at q
          exact q
      · rw [if_neg (fun h => c2 h.2)] at q
        simp only [wE_v, wE_non, wE_bl, wE_int, wE_str, wE_gc, wE_tup, wE_lst, wE_dic0, wE_dicS, wE_bin, wE_cmp, wE_chn, wE_and, wE_or, wE_not, wE_neg, wE_ife, wE_idx, wE_slc, wE_rev, wE_fld, wE_call, wE_meth, wE_make, wE_blt, wE_bm, wE_isi, wE_xf, wE_xi, wTg_nm, wTg_tp, wTg_fld, wTg_sub, wIt_seq, wIt_rng0, wIt_rng1, wIt_enu, wIt_zip, wS_set, wS_expr, wS_ret, wS_retN, wS_ife, wS_raise, wS_try, wS_pass, wS_brk, wS_cont, wS_augN, wS_augF, wS_augS, wEs, wO, wAll, wTgs, wB, List.cons_append, List.nil_append, List.getElem?_cons_zero, List.getElem?_cons_succ, List.set_cons_zero, List.set_cons_succ, Option.some.injEq, exists_eq_left', D.bl.injEq, D.int.injEq, List.map_cons, List.map_nil, List.length_cons, List.length_nil, List.replicate, List.append_eq, Nat.reduceAdd, Nat.reduceSub, Nat.zero_add, Nat.add_zero, Nat.sub_zero, List.any_cons, List.any_nil, Bool.or_false, rd_int, rd_bl, rd_str, rd_non, rd_tup, rd_lst, rd_stl, reduceIte, Bool.not_true, Bool.not_false, Bool.false_eq_true, Nat.sub_self, binD, cmpD, alc_f, dwipe, leD_ii, ltD_ii, gtD_ii, addD_ii, mulD_ii, eqD_ii, len_tup, len_lst, len_str, int_int, int_bl, tuple_lst, tuple_tup, c2, decide_false, hx]
        exact ⟨trivial, q _ old_at⟩
    · rw [if_neg (fun h => c1 h.1)] at q
      rw [if_neg (by rw [decide_eq_false c1]; simp)]
      exact ⟨trivial, q _ old_at⟩
  · unfold rdStr at q
    rw [e] at q
    exact q _ old_at
end Sp

set_option maxRecDepth 100000
set_option maxHeartbeats 1000000
namespace Sp
open PySem DL Ir
def rdMany (f : Nat → Except Nat (D × Nat)) : Nat → Nat → Except Nat (List D × Nat)
  | 0, a => .ok ([], a)
  | k + 1, a => match f a with
    | .error e => .error e
    | .ok (d, a1) => match rdMany f k a1 with | .error e => .error e | .ok (ds, a2) => .ok (d :: ds, a2)
def rdSev (f : Nat → Except Nat (D × Nat)) (row : List Int) (a : Nat) : Except Nat (D × Nat) := match rdW row a with
  | none => .error a
  | some (m, a1) => match rdMany f m.toNat a1 with | .ok (ds, e) => .ok (.tup ds, e) | .error e => .error e
def rdC (sev : Option (Nat → Except Nat (D × Nat))) (row : List Int) (a : Nat) : Except Nat (D × Nat) := match row[a]? with
  | none => .error row.length
  | some b => if b > 6 then .error a else if b = 6 then (match sev with | none => .error a | some f => f (a + 1))
    else if b = 0 then .ok (.non, a + 1) else if b = 1 ∨ b = 2 then .ok (.bl (decide (b = 2)), a + 1) else if b = 5 then rdStr row (a + 1)
    else match rdW row (a + 1) with | none => .error (a + 1) | some (v, e) => .ok (.int (if b = 3 then v else -1 - v), e)
def rdP : Nat → List Int → Nat → Except Nat (D × Nat)
  | 0, row, a => rdC none row a
  | n + 1, row, a => rdC (some (rdSev (rdP n row) row)) row a
theorem rdT_le : ∀ {row : List Int} {k a : Nat} {cs : List Nat} {e : Nat}, a ≤ row.length → rdT row k a = .ok (cs, e) → a ≤ e ∧ e ≤ row.length
  | row, 0, a, cs, e, ha, h => by cases h; exact ⟨Nat.le_refl _, ha⟩
  | row, k + 1, a, cs, e, ha, h => by
    rw [rdT] at h
    split at h
    · cases h
    · rename_i b hb
      have hl := (List.getElem?_eq_some_iff.mp hb).1
      split at h
      · split at h
        · rename_i cs' e' h'
          cases h
          have := rdT_le (by omega) h'
          omega
        · cases h
      · cases h
theorem rdStr_le {row : List Int} {a : Nat} {d : D} {e : Nat} (h : rdStr row a = .ok (d, e)) : a < e ∧ e ≤ row.length := by
  unfold rdStr at h
  split at h
  · cases h
  · rename_i m a1 hw
    have h0 := rdW_le hw
    split at h
    · split at h
      · rename_i cs e' h'
        cases h
        have := rdT_le h0.2 h'
        omega
      · cases h
    · cases h
theorem rdMany_le {f : Nat → Except Nat (D × Nat)} {n : Nat} (hf : ∀ a d e, f a = .ok (d, e) → a < e ∧ e ≤ n) : ∀ {k a : Nat} {ds : List D} {e : Nat}, a ≤ n → rdMany f k a = .ok (ds, e) → a ≤ e ∧ e ≤ n
  | 0, a, ds, e, ha, h => by cases h; exact ⟨Nat.le_refl _, ha⟩
  | k + 1, a, ds, e, ha, h => by
    rw [rdMany] at h
    split at h
    · cases h
    · rename_i d a1 h1
      split at h
      · cases h
      · rename_i ds' a2 h2
        cases h
        have := hf _ _ _ h1
        have := rdMany_le hf this.2 h2
        omega
theorem rdSev_le {f : Nat → Except Nat (D × Nat)} {row : List Int} (hf : ∀ a d e, f a = .ok (d, e) → a < e ∧ e ≤ row.length) {a : Nat} {d : D} {e : Nat} (h : rdSev f row a = .ok (d, e)) : a < e ∧ e ≤ row.length := by
  unfold rdSev at h
  split at h
  · cases h
  · rename_i m a1 hw
    have h0 := rdW_le hw
    split at h
    · rename_i cs e' h'
      cases h
      have := rdMany_le hf h0.2 h'
      omega
    · cases h
theorem rdC_le {sev : Option (Nat → Except Nat (D × Nat))} {row : List Int} (hf : ∀ f, sev = some f → ∀ a d e, f a = .ok (d, e) → a < e ∧ e ≤ row.length) {a : Nat} {d : D} {e : Nat} (h : rdC sev row a = .ok (d, e)) : a < e ∧ e ≤ row.length := by
  unfold rdC at h
  split at h
  · cases h
  · rename_i b hb
    have hl := (List.getElem?_eq_some_iff.mp hb).1
    split at h
    · cases h
    · split at h
      · split at h
        · cases h
        · rename_i f
          have := hf f rfl _ _ _ h
          omega
      · split at h
        · cases h; omega
        · split at h
          · cases h; omega
          · split at h
            · have := rdStr_le h; omega
            · split at h
              · cases h
              · rename_i v e' hw
                cases h
                have := rdW_le hw
                omega
theorem rdP_le {row : List Int} : ∀ {n a : Nat} {d : D} {e : Nat}, rdP n row a = .ok (d, e) → a < e ∧ e ≤ row.length
  | 0, _, _, _, h => rdC_le (fun f hf => by cases hf) h
  | n + 1, _, _, _, h => rdC_le (fun f hf => by
      cases hf
      exact fun a d e h => rdSev_le (fun a d e h => rdP_le h) h) h
def spPar (n : Nat) : DSp := fun ds H Q E => ∃ (p : Addr) (row : List Int) (a : Nat), ds = [.ref p, .int n] ∧ H p = some (rdr row a) ∧ a ≤ row.length ∧ row.length ≤ 2000000 ∧ wants p row H Q E (rdP n row a)
def spSev (n : Nat) : DSp := fun ds H Q E => ∃ (p : Addr) (row : List Int) (a : Nat), ds = [.ref p, .int n] ∧ H p = some (rdr row a) ∧ a ≤ row.length ∧ row.length ≤ 2000000 ∧ wants p row H Q E (rdSev (rdP n row) row a)
theorem sat_sev {G : Gam} (h1 : G.mt "RowReader" "read_whole" = spRdW) {n : Nat} (h2 : G.mt "RowReader" "read_parcel" = spPar n) : Sat G N_RowReader_read_several.length ir_RowReader_read_several (spSev n) := by
  rintro vs H Q E ⟨p, row, a, rfl, hp, ha, hlen, q⟩
  unfold ir_RowReader_read_several
  simp only [wE_v, wE_non, wE_bl, wE_int, wE_str, wE_gc, wE_tup, wE_lst, wE_dic0, wE_dicS, wE_bin, wE_cmp, wE_chn, wE_and, wE_or, wE_not, wE_neg, wE_ife, wE_idx, wE_slc, wE_rev, wE_fld, wE_call, wE_meth, wE_make, wE_blt, wE_bm, wE_isi, wE_xf, wE_xi, wTg_nm, wTg_tp, wTg_fld, wTg_sub, wIt_seq, wIt_rng0, wIt_rng1, wIt_enu, wIt_zip, wS_set, wS_expr, wS_ret, wS_retN, wS_ife, wS_raise, wS_try, wS_pass, wS_brk, wS_cont, wS_augN, wS_augF, wS_augS, wEs, wO, wAll, wTgs, wB, List.cons_append, List.nil_append, List.getElem?_cons_zero, List.getElem?_cons_succ, List.set_cons_zero, List.set_cons_succ, Option.some.injEq, exists_eq_left', D.bl.injEq, D.int.injEq, List.map_cons, List.map_nil, List.length_cons, List.length_nil, List.replicate, List.append_eq, Nat.reduceAdd, Nat.reduceSub, Nat.zero_add, Nat.add_zero, Nat.sub_zero, List.any_cons, List.any_nil, Bool.or_false, rd_int, rd_bl, rd_str, rd_non, rd_tup, rd_lst, rd_stl, reduceIte, Bool.not_true, Bool.not_false, Bool.false_eq_true, Nat.sub_self, binD, cmpD, alc_f, dwipe, leD_ii, ltD_ii, gtD_ii, addD_ii, mulD_ii, eqD_ii, len_tup, len_lst, len_str, int_int, int_bl, tuple_lst, tuple_tup, N_RowReader_read_several, h1]
  rw [rd_at hp]
  refine ⟨⟨_, rfl, rfl⟩, p, row, a, rfl, hp, ha, fun v a1 e => ?_, fun e a' ha' => ?_⟩
  · have hle := rdW_le e
    have hv := rdW_pos e
    unfold rdSev at q
    rw [e] at q
    simp only at q
    simp only [wE_v, wE_non, wE_bl, wE_int, wE_str, wE_gc, wE_tup, wE_lst, wE_dic0, wE_dicS, wE_bin, wE_cmp, wE_chn, wE_and, wE_or, wE_not, wE_neg, wE_ife, wE_idx, wE_slc, wE_rev, wE_fld, wE_call, wE_meth, wE_make, wE_blt, wE_bm, wE_isi, wE_xf, wE_xi, wTg_nm, wTg_tp, wTg_fld, wTg_sub, wIt_seq, wIt_rng0, wIt_rng1, wIt_enu, wIt_zip, wS_set, wS_expr, wS_ret, wS_retN, wS_ife, wS_raise, wS_try, wS_pass, wS_brk, wS_cont, wS_augN, wS_augF, wS_augS, wEs, wO, wAll, wTgs, wB, List.cons_append, List.nil_append, List.getElem?_cons_zero, List.getElem?_cons_succ, List.set_cons_zero, List.set_cons_succ, Option.some.injEq, exists_eq_left', D.bl.injEq, D.int.injEq, List.map_cons, List.map_nil, List.length_cons, List.length_nil, List.replicate, List.append_eq, Nat.reduceAdd, Nat.reduceSub, Nat.zero_add, Nat.add_zero, Nat.sub_zero, List.any_cons, List.any_nil, Bool.or_false, rd_int, rd_bl, rd_str, rd_non, rd_tup, rd_lst, rd_stl, reduceIte, Bool.not_true, Bool.not_false, Bool.false_eq_true, Nat.sub_self, binD, cmpD, alc_f, dwipe, leD_ii, ltD_ii, gtD_ii, addD_ii, mulD_ii, eqD_ii, len_tup, len_lst, len_str, int_int, int_bl, tuple_lst, tuple_tup, alc_t]
    intro r hr
    have hrp : r ≠ p := fun h => by subst h; rw [dupd_same] at hr; cases hr
    have hr0 : H r = none := by rw [dupd_ne hrp] at hr; exact hr
    rw [wS]
    refine ⟨fun m σ H' => ∃ acc b, acc.length ≤ v.toNat ∧ acc.length ≤ b ∧ b ≤ row.length ∧ m = v.toNat - acc.length ∧ σ = [some (.ref p), some (.int n), some (.int v), some (.ref r)] ∧ H' = dupd (dupd H p (rdr row b)) r (.lst acc) ∧
      (rdMany (rdP n row) v.toNat a1 = match rdMany (rdP n row) (v.toNat - acc.length) b with | .ok (r, e) => .ok (acc ++ r, e) | .error e => .error e), ⟨_, [], a1, Nat.zero_le _, Nat.zero_le _, hle.2, rfl, rfl, rfl, ?_⟩, ?_⟩
    · rw [List.length_nil, Nat.sub_zero]
      cases rdMany (rdP n row) v.toNat a1 <;> rfl
    · rintro m σ H' ⟨acc, b, c1, c2, c3, rfl, rfl, rfl, er⟩
      simp only [wE_v, wE_non, wE_bl, wE_int, wE_str, wE_gc, wE_tup, wE_lst, wE_dic0, wE_dicS, wE_bin, wE_cmp, wE_chn, wE_and, wE_or, wE_not, wE_neg, wE_ife, wE_idx, wE_slc, wE_rev, wE_fld, wE_call, wE_meth, wE_make, wE_blt, wE_bm, wE_isi, wE_xf, wE_xi, wTg_nm, wTg_tp, wTg_fld, wTg_sub, wIt_seq, wIt_rng0, wIt_rng1, wIt_enu, wIt_zip, wS_set, wS_expr, wS_ret, wS_retN, wS_ife, wS_raise, wS_try, wS_pass, wS_brk, wS_cont, wS_augN, wS_augF, wS_augS, wEs, wO, wAll, wTgs, wB, List.cons_append, List.nil_append, List.getElem?_cons_zero, List.getElem?_cons_succ, List.set_cons_zero, List.set_cons_succ, Option.some.injEq, exists_eq_left', D.bl.injEq, D.int.injEq, List.map_cons, List.map_nil, List.length_cons, List.length_nil, List.replicate, List.append_eq, Nat.reduceAdd, Nat.reduceSub, Nat.zero_add, Nat.add_zero, Nat.sub_zero, List.any_cons, List.any_nil, Bool.or_false, rd_int, rd_bl, rd_str, rd_non, rd_tup, rd_lst, rd_stl, reduceIte, Bool.not_true, Bool.not_false, Bool.false_eq_true, Nat.sub_self, binD, cmpD, alc_f, dwipe, leD_ii, ltD_ii, gtD_ii, addD_ii, mulD_ii, eqD_ii, len_tup, len_lst, len_str, int_int, int_bl, tuple_lst, tuple_tup, h2, len_at, tuple_at, rd_ref]
      by_cases hm : acc.length < v.toNat
      · rw [if_pos (decide_eq_true (by omega))]
        have ev : v.toNat - acc.length = (v.toNat - (acc.length + 1)) + 1 := by omega
        rw [ev, rdMany] at er
        refine ⟨rfl, ⟨_, by rw [rd_at (by rw [dupd_ne (Ne.symm hrp), dupd_same])]; rfl, rfl⟩, p, row, b, rfl, by rw [dupd_ne (Ne.symm hrp), dupd_same], c3, hlen, ?_⟩
        cases h : rdP n row b with
        | error pl =>
          rw [h] at er
          simp only at er
          rw [er] at q
          intro H' ho
          exact q _ (Old.trans (old_new hr0 old_at) ho)
        | ok dd =>
          obtain ⟨d, b'⟩ := dd
          rw [h] at er
          simp only at er
          have hb := rdP_le h
          refine ⟨r, acc, rfl, by rw [dupd_ne hrp, dupd_same], Nat.lt_of_lt_of_le (show acc.length < 2000001 by omega) (by decide), Fz.here ⟨_, ?_, acc ++ [d], b', by rw [List.length_append]; show acc.length + 1 ≤ _; omega, by rw [List.length_append]; show acc.length + 1 ≤ _; omega, hb.2, rfl, rfl, ?_, ?_⟩⟩
          · rw [List.length_append]; show _ - (acc.length + 1) < _; omega
          · rw [dupd_comm hrp, dupd_dupd, dupd_dupd]
          · rw [er, List.length_append]
            show _ = match rdMany (rdP n row) (v.toNat - (acc.length + 1)) b' with | .ok (r, e) => _ | .error e => _
            cases rdMany (rdP n row) (v.toNat - (acc.length + 1)) b' with
            | ok z => simp
            | error z => rfl
      · rw [if_neg (by rw [decide_eq_false (by omega)]; simp)]
        have : v.toNat - acc.length = 0 := by omega
        rw [this, rdMany] at er
        simp only [List.append_nil] at er
        rw [er] at q
        refine FzV.drop (by rw [dupd_ne hrp]; exact hr0) q
  · unfold rdSev at q
    rw [e] at q
    exact q _ old_at
end Sp

set_option maxRecDepth 100000
set_option maxHeartbeats 1000000
namespace Sp
open PySem DL Ir
theorem wants_up {p : Addr} {row : List Int} {H : DH} {Q Q' : DK} {E : DXK} {r : Except Nat (D × Nat)} {o : D} (h : wants p row H Q E r) (hq : ∀ d H, Q d H → Q' d H) : wants p row (dupd H p o) Q' E r := by
  cases r with
  | ok z => 
    obtain ⟨d, a⟩ := z
    show Q' d (dupd (dupd H p o) p _)
    rw [dupd_dupd]
    exact hq _ _ h
  | error e => exact fun H' ho => h H' (Old.trans old_at ho)
theorem in_12 {b : Int} {Q : Bool → Prop} (q : Q (decide (b = 1 ∨ b = 2))) : inD (.int b) (.tup [.int 1, .int 2]) Q := by
  refine ⟨rfl, rfl, Nat.zero_le _, ?_⟩
  simp only [List.any_cons, List.any_nil, deq_ii, Bool.or_false]
  have : (decide (1 = b) || decide (2 = b)) = decide (b = 1 ∨ b = 2) := by
    rw [Bool.decide_or]; congr 1 <;> simp [eq_comm]
  rw [this]; exact q
theorem sat_par {G : Gam} (hg : G.gc = gcv) (hx : G.xf "BadRow" = [("place" : Str)]) (h1 : G.mt "RowReader" "read_whole" = spRdW) (h2 : G.mt "RowReader" "next_byte" = spNext) (h3 : G.mt "RowReader" "read_string" = spRd rdStr) {n : Nat} (hc : n = 0 ∨ ∃ m, n = m + 1 ∧ G.mt "RowReader" "read_several" = spSev m) : Sat G N_RowReader_read_parcel.length ir_RowReader_read_parcel (spPar n) := by
  rintro vs H Q E ⟨p, row, a, rfl, hp, ha, hlen, q⟩
  unfold ir_RowReader_read_parcel
  simp only [wE_v, wE_non, wE_bl, wE_int, wE_str, wE_gc, wE_tup, wE_lst, wE_dic0, wE_dicS, wE_bin, wE_cmp, wE_chn, wE_and, wE_or, wE_not, wE_neg, wE_ife, wE_idx, wE_slc, wE_rev, wE_fld, wE_call, wE_meth, wE_make, wE_blt, wE_bm, wE_isi, wE_xf, wE_xi, wTg_nm, wTg_tp, wTg_fld, wTg_sub, wIt_seq, wIt_rng0, wIt_rng1, wIt_enu, wIt_zip, wS_set, wS_expr, wS_ret, wS_retN, wS_ife, wS_raise, wS_try, wS_pass, wS_brk, wS_cont, wS_augN, wS_augF, wS_augS, wEs, wO, wAll, wTgs, wB, List.cons_append, List.nil_append, List.getElem?_cons_zero, List.getElem?_cons_succ, List.set_cons_zero, List.set_cons_succ, Option.some.injEq, exists_eq_left', D.bl.injEq, D.int.injEq, List.map_cons, List.map_nil, List.length_cons, List.length_nil, List.replicate, List.append_eq, Nat.reduceAdd, Nat.reduceSub, Nat.zero_add, Nat.add_zero, Nat.sub_zero, List.any_cons, List.any_nil, Bool.or_false, rd_int, rd_bl, rd_str, rd_non, rd_tup, rd_lst, rd_stl, reduceIte, Bool.not_true, Bool.not_false, Bool.false_eq_true, Nat.sub_self, binD, cmpD, alc_f, dwipe, leD_ii, ltD_ii, gtD_ii, addD_ii, mulD_ii, eqD_ii, len_tup, len_lst, len_str, int_int, int_bl, tuple_lst, tuple_tup, N_RowReader_read_parcel, h1, h2, h3, hg, hx, gc_NOTHING, gc_NO, gc_YES, gc_NUMBER, gc_STRING, gc_SEVERAL]
  rw [rd_at hp]
  have hq : ∃ sev, wants p row H Q E (rdC sev row a) ∧ ((n = 0 ∧ sev = none) ∨ ∃ m, n = m + 1 ∧ sev = some (rdSev (rdP m row) row) ∧ G.mt "RowReader" "read_several" = spSev m) := by
    rcases hc with rfl | ⟨m, rfl, hm⟩
    · exact ⟨none, q, .inl ⟨rfl, rfl⟩⟩
    · exact ⟨_, q, .inr ⟨m, rfl, rfl, hm⟩⟩
  clear q
  obtain ⟨sev, q, hs⟩ := hq
  unfold rdC at q
  refine ⟨_, _, rfl, rfl, ⟨_, rfl, rfl⟩, p, row, a, rfl, hp, ha, fun e => ?_, fun b hb => ?_⟩
  · rw [List.getElem?_eq_none (by omega)] at q
    have q := q _ old_refl
    rw [e]
    exact q
  · have hl := (List.getElem?_eq_some_iff.mp hb).1
    rw [hb] at q
    simp only at q
    simp only [wE_v, wE_non, wE_bl, wE_int, wE_str, wE_gc, wE_tup, wE_lst, wE_dic0, wE_dicS, wE_bin, wE_cmp, wE_chn, wE_and, wE_or, wE_not, wE_neg, wE_ife, wE_idx, wE_slc, wE_rev, wE_fld, wE_call, wE_meth, wE_make, wE_blt, wE_bm, wE_isi, wE_xf, wE_xi, wTg_nm, wTg_tp, wTg_fld, wTg_sub, wIt_seq, wIt_rng0, wIt_rng1, wIt_enu, wIt_zip, wS_set, wS_expr, wS_ret, wS_retN, wS_ife, wS_raise, wS_try, wS_pass, wS_brk, wS_cont, wS_augN, wS_augF, wS_augS, wEs, wO, wAll, wTgs, wB, List.cons_append, List.nil_append, List.getElem?_cons_zero, List.getElem?_cons_succ, List.set_cons_zero, List.set_cons_succ, Option.some.injEq, exists_eq_left', D.bl.injEq, D.int.injEq, List.map_cons, List.map_nil, List.length_cons, List.length_nil, List.replicate, List.append_eq, Nat.reduceAdd, Nat.reduceSub, Nat.zero_add, Nat.add_zero, Nat.sub_zero, List.any_cons, List.any_nil, Bool.or_false, rd_int, rd_bl, rd_str, rd_non, rd_tup, rd_lst, rd_stl, reduceIte, Bool.not_true, Bool.not_false, Bool.false_eq_true, Nat.sub_self, binD, cmpD, alc_f, dwipe, leD_ii, ltD_ii, gtD_ii, addD_ii, mulD_ii, eqD_ii, len_tup, len_lst, len_str, int_int, int_bl, tuple_lst, tuple_tup, rd_ref]
    by_cases b6 : 6 < b
    · rw [if_pos (decide_eq_true b6)]
      rw [if_pos b6] at q
      exact ⟨trivial, q _ old_at⟩
    · rw [if_neg b6] at q
      rw [if_neg (by rw [decide_eq_false b6]; simp)]
      by_cases e6 : b = 6
      · subst e6
        rw [if_pos rfl] at q
        rcases hs with ⟨rfl, rfl⟩ | ⟨m, rfl, rfl, hm⟩
        · simp only [wE_v, wE_non, wE_bl, wE_int, wE_str, wE_gc, wE_tup, wE_lst, wE_dic0, wE_dicS, wE_bin, wE_cmp, wE_chn, wE_and, wE_or, wE_not, wE_neg, wE_ife, wE_idx, wE_slc, wE_rev, wE_fld, wE_call, wE_meth, wE_make, wE_blt, wE_bm, wE_isi, wE_xf, wE_xi, wTg_nm, wTg_tp, wTg_fld, wTg_sub, wIt_seq, wIt_rng0, wIt_rng1, wIt_enu, wIt_zip, wS_set, wS_expr, wS_ret, wS_retN, wS_ife, wS_raise, wS_try, wS_pass, wS_brk, wS_cont, wS_augN, wS_augF, wS_augS, wEs, wO, wAll, wTgs, wB, List.cons_append, List.nil_append, List.getElem?_cons_zero, List.getElem?_cons_succ, List.set_cons_zero, List.set_cons_succ, Option.some.injEq, exists_eq_left', D.bl.injEq, D.int.injEq, List.map_cons, List.map_nil, List.length_cons, List.length_nil, List.replicate, List.append_eq, Nat.reduceAdd, Nat.reduceSub, Nat.zero_add, Nat.add_zero, Nat.sub_zero, List.any_cons, List.any_nil, Bool.or_false, rd_int, rd_bl, rd_str, rd_non, rd_tup, rd_lst, rd_stl, reduceIte, Bool.not_true, Bool.not_false, Bool.false_eq_true, Nat.sub_self, binD, cmpD, alc_f, dwipe, leD_ii, ltD_ii, gtD_ii, addD_ii, mulD_ii, eqD_ii, len_tup, len_lst, len_str, int_int, int_bl, tuple_lst, tuple_tup]
          exact ⟨trivial, q _ old_at⟩
        · simp only [wE_v, wE_non, wE_bl, wE_int, wE_str, wE_gc, wE_tup, wE_lst, wE_dic0, wE_dicS, wE_bin, wE_cmp, wE_chn, wE_and, wE_or, wE_not, wE_neg, wE_ife, wE_idx, wE_slc, wE_rev, wE_fld, wE_call, wE_meth, wE_make, wE_blt, wE_bm, wE_isi, wE_xf, wE_xi, wTg_nm, wTg_tp, wTg_fld, wTg_sub, wIt_seq, wIt_rng0, wIt_rng1, wIt_enu, wIt_zip, wS_set, wS_expr, wS_ret, wS_retN, wS_ife, wS_raise, wS_try, wS_pass, wS_brk, wS_cont, wS_augN, wS_augF, wS_augS, wEs, wO, wAll, wTgs, wB, List.cons_append, List.nil_append, List.getElem?_cons_zero, List.getElem?_cons_succ, List.set_cons_zero, List.set_cons_succ, Option.some.injEq, exists_eq_left', D.bl.injEq, D.int.injEq, List.map_cons, List.map_nil, List.length_cons, List.length_nil, List.replicate, List.append_eq, Nat.reduceAdd, Nat.reduceSub, Nat.zero_add, Nat.add_zero, Nat.sub_zero, List.any_cons, List.any_nil, Bool.or_false, rd_int, rd_bl, rd_str, rd_non, rd_tup, rd_lst, rd_stl, reduceIte, Bool.not_true, Bool.not_false, Bool.false_eq_true, Nat.sub_self, binD, cmpD, alc_f, dwipe, leD_ii, ltD_ii, gtD_ii, addD_ii, mulD_ii, eqD_ii, len_tup, len_lst, len_str, int_int, int_bl, tuple_lst, tuple_tup]
          rw [if_pos (by simp), if_neg (by rw [decide_eq_false (by omega)]; simp), if_neg (by decide)]
          refine in_12 ?_
          rw [if_neg (by decide), if_neg (by decide), if_pos (by simp)]
          refine ⟨⟨_, rfl, rfl⟩, ?_⟩
          rw [hm]
          refine ⟨p, row, a + 1, ?_, dupd_same, by omega, hlen, wants_up q fun _ _ h => Fz0 h⟩
          rw [show ((m + 1 : Nat) : Int) - 1 = (m : Int) by omega]
      · rw [if_neg e6] at q
        rw [if_neg (by rw [decide_eq_false e6]; simp)]
        by_cases e0 : b = 0
        · subst e0
          rw [if_pos rfl] at q
          simp only [wE_v, wE_non, wE_bl, wE_int, wE_str, wE_gc, wE_tup, wE_lst, wE_dic0, wE_dicS, wE_bin, wE_cmp, wE_chn, wE_and, wE_or, wE_not, wE_neg, wE_ife, wE_idx, wE_slc, wE_rev, wE_fld, wE_call, wE_meth, wE_make, wE_blt, wE_bm, wE_isi, wE_xf, wE_xi, wTg_nm, wTg_tp, wTg_fld, wTg_sub, wIt_seq, wIt_rng0, wIt_rng1, wIt_enu, wIt_zip, wS_set, wS_expr, wS_ret, wS_retN, wS_ife, wS_raise, wS_try, wS_pass, wS_brk, wS_cont, wS_augN, wS_augF, wS_augS, wEs, wO, wAll, wTgs, wB, List.cons_append, List.nil_append, List.getElem?_cons_zero, List.getElem?_cons_succ, List.set_cons_zero, List.set_cons_succ, Option.some.injEq, exists_eq_left', D.bl.injEq, D.int.injEq, List.map_cons, List.map_nil, List.length_cons, List.length_nil, List.replicate, List.append_eq, Nat.reduceAdd, Nat.reduceSub, Nat.zero_add, Nat.add_zero, Nat.sub_zero, List.any_cons, List.any_nil, Bool.or_false, rd_int, rd_bl, rd_str, rd_non, rd_tup, rd_lst, rd_stl, reduceIte, Bool.not_true, Bool.not_false, Bool.false_eq_true, Nat.sub_self, binD, cmpD, alc_f, dwipe, leD_ii, ltD_ii, gtD_ii, addD_ii, mulD_ii, eqD_ii, len_tup, len_lst, len_str, int_int, int_bl, tuple_lst, tuple_tup]
          exact Fz0 q
        · rw [if_neg e0] at q
          simp only [wE_v, wE_non, wE_bl, wE_int, wE_str, wE_gc, wE_tup, wE_lst, wE_dic0, wE_dicS, wE_bin, wE_cmp, wE_chn, wE_and, wE_or, wE_not, wE_neg, wE_ife, wE_idx, wE_slc, wE_rev, wE_fld, wE_call, wE_meth, wE_make, wE_blt, wE_bm, wE_isi, wE_xf, wE_xi, wTg_nm, wTg_tp, wTg_fld, wTg_sub, wIt_seq, wIt_rng0, wIt_rng1, wIt_enu, wIt_zip, wS_set, wS_expr, wS_ret, wS_retN, wS_ife, wS_raise, wS_try, wS_pass, wS_brk, wS_cont, wS_augN, wS_augF, wS_augS, wEs, wO, wAll, wTgs, wB, List.cons_append, List.nil_append, List.getElem?_cons_zero, List.getElem?_cons_succ, List.set_cons_zero, List.set_cons_succ, Option.some.injEq, exists_eq_left', D.bl.injEq, D.int.injEq, List.map_cons, List.map_nil, List.length_cons, List.length_nil, List.replicate, List.append_eq, Nat.reduceAdd, Nat.reduceSub, Nat.zero_add, Nat.add_zero, Nat.sub_zero, List.any_cons, List.any_nil, Bool.or_false, rd_int, rd_bl, rd_str, rd_non, rd_tup, rd_lst, rd_stl, reduceIte, Bool.not_true, Bool.not_false, Bool.false_eq_true, Nat.sub_self, binD, cmpD, alc_f, dwipe, leD_ii, ltD_ii, gtD_ii, addD_ii, mulD_ii, eqD_ii, len_tup, len_lst, len_str, int_int, int_bl, tuple_lst, tuple_tup, e0, decide_false]
          refine in_12 ?_
          by_cases e1 : b = 1 ∨ b = 2
          · rw [if_pos e1] at q
            rw [decide_eq_true e1]
            simp only [wE_v, wE_non, wE_bl, wE_int, wE_str, wE_gc, wE_tup, wE_lst, wE_dic0, wE_dicS, wE_bin, wE_cmp, wE_chn, wE_and, wE_or, wE_not, wE_neg, wE_ife, wE_idx, wE_slc, wE_rev, wE_fld, wE_call, wE_meth, wE_make, wE_blt, wE_bm, wE_isi, wE_xf, wE_xi, wTg_nm, wTg_tp, wTg_fld, wTg_sub, wIt_seq, wIt_rng0, wIt_rng1, wIt_enu, wIt_zip, wS_set, wS_expr, wS_ret, wS_retN, wS_ife, wS_raise, wS_try, wS_pass, wS_brk, wS_cont, wS_augN, wS_augF, wS_augS, wEs, wO, wAll, wTgs, wB, List.cons_append, List.nil_append, List.getElem?_cons_zero, List.getElem?_cons_succ, List.set_cons_zero, List.set_cons_succ, Option.some.injEq, exists_eq_left', D.bl.injEq, D.int.injEq, List.map_cons, List.map_nil, List.length_cons, List.length_nil, List.replicate, List.append_eq, Nat.reduceAdd, Nat.reduceSub, Nat.zero_add, Nat.add_zero, Nat.sub_zero, List.any_cons, List.any_nil, Bool.or_false, rd_int, rd_bl, rd_str, rd_non, rd_tup, rd_lst, rd_stl, reduceIte, Bool.not_true, Bool.not_false, Bool.false_eq_true, Nat.sub_self, binD, cmpD, alc_f, dwipe, leD_ii, ltD_ii, gtD_ii, addD_ii, mulD_ii, eqD_ii, len_tup, len_lst, len_str, int_int, int_bl, tuple_lst, tuple_tup]
            exact Fz0 q
          · rw [if_neg e1] at q
            rw [decide_eq_false e1]
            simp only [wE_v, wE_non, wE_bl, wE_int, wE_str, wE_gc, wE_tup, wE_lst, wE_dic0, wE_dicS, wE_bin, wE_cmp, wE_chn, wE_and, wE_or, wE_not, wE_neg, wE_ife, wE_idx, wE_slc, wE_rev, wE_fld, wE_call, wE_meth, wE_make, wE_blt, wE_bm, wE_isi, wE_xf, wE_xi, wTg_nm, wTg_tp, wTg_fld, wTg_sub, wIt_seq, wIt_rng0, wIt_rng1, wIt_enu, wIt_zip, wS_set, wS_expr, wS_ret, wS_retN, wS_ife, wS_raise, wS_try, wS_pass, wS_brk, wS_cont, wS_augN, wS_augF, wS_augS, wEs, wO, wAll, wTgs, wB, List.cons_append, List.nil_append, List.getElem?_cons_zero, List.getElem?_cons_succ, List.set_cons_zero, List.set_cons_succ, Option.some.injEq, exists_eq_left', D.bl.injEq, D.int.injEq, List.map_cons, List.map_nil, List.length_cons, List.length_nil, List.replicate, List.append_eq, Nat.reduceAdd, Nat.reduceSub, Nat.zero_add, Nat.add_zero, Nat.sub_zero, List.any_cons, List.any_nil, Bool.or_false, rd_int, rd_bl, rd_str, rd_non, rd_tup, rd_lst, rd_stl, reduceIte, Bool.not_true, Bool.not_false, Bool.false_eq_true, Nat.sub_self, binD, cmpD, alc_f, dwipe, leD_ii, ltD_ii, gtD_ii, addD_ii, mulD_ii, eqD_ii, len_tup, len_lst, len_str, int_int, int_bl, tuple_lst, tuple_tup]
            by_cases e5 : b = 5
            · rw [if_pos e5] at q
              simp only [wE_v, wE_non, wE_bl, wE_int, wE_str, wE_gc, wE_tup, wE_lst, wE_dic0, wE_dicS, wE_bin, wE_cmp, wE_chn, wE_and, wE_or, wE_not, wE_neg, wE_ife, wE_idx, wE_slc, wE_rev, wE_fld, wE_call, wE_meth, wE_make, wE_blt, wE_bm, wE_isi, wE_xf, wE_xi, wTg_nm, wTg_tp, wTg_fld, wTg_sub, wIt_seq, wIt_rng0, wIt_rng1, wIt_enu, wIt_zip, wS_set, wS_expr, wS_ret, wS_retN, wS_ife, wS_raise, wS_try, wS_pass, wS_brk, wS_cont, wS_augN, wS_augF, wS_augS, wEs, wO, wAll, wTgs, wB, List.cons_append, List.nil_append, List.getElem?_cons_zero, List.getElem?_cons_succ, List.set_cons_zero, List.set_cons_succ, Option.some.injEq, exists_eq_left', D.bl.injEq, D.int.injEq, List.map_cons, List.map_nil, List.length_cons, List.length_nil, List.replicate, List.append_eq, Nat.reduceAdd, Nat.reduceSub, Nat.zero_add, Nat.add_zero, Nat.sub_zero, List.any_cons, List.any_nil, Bool.or_false, rd_int, rd_bl, rd_str, rd_non, rd_tup, rd_lst, rd_stl, reduceIte, Bool.not_true, Bool.not_false, Bool.false_eq_true, Nat.sub_self, binD, cmpD, alc_f, dwipe, leD_ii, ltD_ii, gtD_ii, addD_ii, mulD_ii, eqD_ii, len_tup, len_lst, len_str, int_int, int_bl, tuple_lst, tuple_tup, e5, decide_true]
              refine ⟨⟨_, rfl, rfl⟩, p, row, a + 1, rfl, dupd_same, by omega, wants_up q fun _ _ h => Fz0 h⟩
            · rw [if_neg e5] at q
              simp only [wE_v, wE_non, wE_bl, wE_int, wE_str, wE_gc, wE_tup, wE_lst, wE_dic0, wE_dicS, wE_bin, wE_cmp, wE_chn, wE_and, wE_or, wE_not, wE_neg, wE_ife, wE_idx, wE_slc, wE_rev, wE_fld, wE_call, wE_meth, wE_make, wE_blt, wE_bm, wE_isi, wE_xf, wE_xi, wTg_nm, wTg_tp, wTg_fld, wTg_sub, wIt_seq, wIt_rng0, wIt_rng1, wIt_enu, wIt_zip, wS_set, wS_expr, wS_ret, wS_retN, wS_ife, wS_raise, wS_try, wS_pass, wS_brk, wS_cont, wS_augN, wS_augF, wS_augS, wEs, wO, wAll, wTgs, wB, List.cons_append, List.nil_append, List.getElem?_cons_zero, List.getElem?_cons_succ, List.set_cons_zero, List.set_cons_succ, Option.some.injEq, exists_eq_left', D.bl.injEq, D.int.injEq, List.map_cons, List.map_nil, List.length_cons, List.length_nil, List.replicate, List.append_eq, Nat.reduceAdd, Nat.reduceSub, Nat.zero_add, Nat.add_zero, Nat.sub_zero, List.any_cons, List.any_nil, Bool.or_false, rd_int, rd_bl, rd_str, rd_non, rd_tup, rd_lst, rd_stl, reduceIte, Bool.not_true, Bool.not_false, Bool.false_eq_true, Nat.sub_self, binD, cmpD, alc_f, dwipe, leD_ii, ltD_ii, gtD_ii, addD_ii, mulD_ii, eqD_ii, len_tup, len_lst, len_str, int_int, int_bl, tuple_lst, tuple_tup, e5, e6, decide_false]
              by_cases e3 : b = 3
              · simp only [wE_v, wE_non, wE_bl, wE_int, wE_str, wE_gc, wE_tup, wE_lst, wE_dic0, wE_dicS, wE_bin, wE_cmp, wE_chn, wE_and, wE_or, wE_not, wE_neg, wE_ife, wE_idx, wE_slc, wE_rev, wE_fld, wE_call, wE_meth, wE_make, wE_blt, wE_bm, wE_isi, wE_xf, wE_xi, wTg_nm, wTg_tp, wTg_fld, wTg_sub, wIt_seq, wIt_rng0, wIt_rng1, wIt_enu, wIt_zip, wS_set, wS_expr, wS_ret, wS_retN, wS_ife, wS_raise, wS_try, wS_pass, wS_brk, wS_cont, wS_augN, wS_augF, wS_augS, wEs, wO, wAll, wTgs, wB, List.cons_append, List.nil_append, List.getElem?_cons_zero, List.getElem?_cons_succ, List.set_cons_zero, List.set_cons_succ, Option.some.injEq, exists_eq_left', D.bl.injEq, D.int.injEq, List.map_cons, List.map_nil, List.length_cons, List.length_nil, List.replicate, List.append_eq, Nat.reduceAdd, Nat.reduceSub, Nat.zero_add, Nat.add_zero, Nat.sub_zero, List.any_cons, List.any_nil, Bool.or_false, rd_int, rd_bl, rd_str, rd_non, rd_tup, rd_lst, rd_stl, reduceIte, Bool.not_true, Bool.not_false, Bool.false_eq_true, Nat.sub_self, binD, cmpD, alc_f, dwipe, leD_ii, ltD_ii, gtD_ii, addD_ii, mulD_ii, eqD_ii, len_tup, len_lst, len_str, int_int, int_bl, tuple_lst, tuple_tup, e3, decide_true]
                simp only [e3, reduceIte] at q
                refine ⟨⟨_, rfl, rfl⟩, p, row, a + 1, rfl, dupd_same, by omega, fun v a1 e => ?_, fun e a' ha' => ?_⟩
                · rw [e] at q
                  simp only [e3, reduceIte] at q
                  rw [dupd_dupd]
                  exact Fz0 q
                · rw [e] at q
                  rw [dupd_dupd]
                  exact q _ old_at
              · simp only [wE_v, wE_non, wE_bl, wE_int, wE_str, wE_gc, wE_tup, wE_lst, wE_dic0, wE_dicS, wE_bin, wE_cmp, wE_chn, wE_and, wE_or, wE_not, wE_neg, wE_ife, wE_idx, wE_slc, wE_rev, wE_fld, wE_call, wE_meth, wE_make, wE_blt, wE_bm, wE_isi, wE_xf, wE_xi, wTg_nm, wTg_tp, wTg_fld, wTg_sub, wIt_seq, wIt_rng0, wIt_rng1, wIt_enu, wIt_zip, wS_set, wS_expr, wS_ret, wS_retN, wS_ife, wS_raise, wS_try, wS_pass, wS_brk, wS_cont, wS_augN, wS_augF, wS_augS, wEs, wO, wAll, wTgs, wB, List.cons_append, List.nil_append, List.getElem?_cons_zero, List.getElem?_cons_succ, List.set_cons_zero, List.set_cons_succ, Option.some.injEq, exists_eq_left', D.bl.injEq, D.int.injEq, List.map_cons, List.map_nil, List.length_cons, List.length_nil, List.replicate, List.append_eq, Nat.reduceAdd, Nat.reduceSub, Nat.zero_add, Nat.add_zero, Nat.sub_zero, List.any_cons, List.any_nil, Bool.or_false, rd_int, rd_bl, rd_str, rd_non, rd_tup, rd_lst, rd_stl, reduceIte, Bool.not_true, Bool.not_false, Bool.false_eq_true, Nat.sub_self, binD, cmpD, alc_f, dwipe, leD_ii, ltD_ii, gtD_ii, addD_ii, mulD_ii, eqD_ii, len_tup, len_lst, len_str, int_int, int_bl, tuple_lst, tuple_tup, e3, decide_false]
                refine ⟨⟨_, rfl, rfl⟩, p, row, a + 1, rfl, dupd_same, by omega, fun v a1 e => ?_, fun e a' ha' => ?_⟩
                · rw [e] at q
                  simp only [e3, reduceIte] at q
                  rw [dupd_dupd]
                  exact Fz0 q
                · rw [e] at q
                  rw [dupd_dupd]
                  exact q _ old_at
end Sp

set_option maxRecDepth 100000
set_option maxHeartbeats 1000000
namespace Sp
open PySem DL Ir
/-! ### a row that was written is read -/
theorem rgo_whN (n : Nat) : ∀ (suf : List Int) (k : Nat) (f w : Int), (n ≠ 0 ∨ k = 0) → rgo (whN n ++ suf) k f w = some (f + n * w, k + (whN n).length) := by
  induction n using Nat.strongRecOn with
  | ind n ih =>
    intro suf k f w hk
    by_cases h : 128 ≤ n
    · rw [whN_ge h, List.cons_append, rgo]
      have h1 : ¬ (128 + (n : Int) % 128 < 128) := by omega
      rw [if_neg h1, ih (n / 128) (by omega) suf (k + 1) _ _ (.inl (by omega))]
      have e1 : (128 + (n : Int) % 128) % 128 = (n : Int) % 128 := by omega
      have e2 : (n : Int) = (n : Int) % 128 + 128 * ((n / 128 : Nat) : Int) := by omega
      rw [e1, List.length_cons]
      congr 1
      refine Prod.ext ?_ ?_
      · show f + (n : Int) % 128 * w + ((n / 128 : Nat) : Int) * (w * 128) = f + n * w
        conv => rhs; rw [e2]
        rw [Int.add_mul, Int.add_assoc]
        congr 2
        rw [Int.mul_comm w 128, ← Int.mul_assoc, Int.mul_comm _ 128]
      · show k + 1 + _ = k + (_ + 1); omega
    · rw [whN_lt h]
      show rgo ((n : Int) :: suf) k f w = _
      rw [rgo]
      have h1 : (n : Int) < 128 := by omega
      rw [if_pos h1, if_neg (by omega)]
      have e1 : (n : Int) % 128 = n := by omega
      rw [e1]; rfl
theorem rdW_at (pre suf : List Int) (n : Nat) : rdW (pre ++ (whN n ++ suf)) pre.length = some ((n : Int), pre.length + (whN n).length) := by
  unfold rdW
  rw [List.drop_left, rgo_whN n suf 0 0 1 (.inr rfl)]
  simp
theorem rdT_at : ∀ (cs : List Nat) (pre suf : List Int), (cs.all fun c => isSign c) = true → rdT (pre ++ (cs.map (fun (c : Nat) => (c : Int)) ++ suf)) cs.length pre.length = .ok (cs, pre.length + cs.length)
  | [], pre, suf, _ => rfl
  | c :: cs, pre, suf, h => by
    rw [List.all_cons, Bool.and_eq_true] at h
    rw [List.length_cons, rdT]
    have e : (pre ++ ((c :: cs).map (fun (c : Nat) => (c : Int)) ++ suf))[pre.length]? = some (c : Int) := by simp
    rw [e]
    simp only
    rw [if_pos h.1]
    have := rdT_at cs (pre ++ [(c : Int)]) suf h.2
    rw [List.length_append, List.append_assoc] at this
    rw [show pre ++ ((c :: cs).map (fun (c : Nat) => (c : Int)) ++ suf) = pre ++ ([(c : Int)] ++ (cs.map (fun (c : Nat) => (c : Int)) ++ suf)) from rfl]
    rw [show pre.length + 1 = pre.length + [(c : Int)].length from rfl, this]
    simp only [List.length_cons, List.length_nil, Int.toNat_natCast, Nat.zero_add]
    rw [Nat.add_assoc, Nat.add_comm 1]
theorem rdStr_at {s : Str} (h : isShort (.str s) = true) (pre suf : List Int) : rdStr (pre ++ (whN s.length ++ (s.cps.toList.map (fun (c : Nat) => (c : Int)) ++ suf))) pre.length = .ok (.str s, pre.length + ((whN s.length).length + s.cps.toList.length)) := by
  unfold isShort at h
  simp only [Bool.and_eq_true, decide_eq_true_eq] at h
  unfold rdStr
  rw [rdW_at]
  simp only
  rw [if_pos (by omega)]
  have hl : s.cps.toList.length = s.length := by rw [Array.length_toList]; rfl
  have := rdT_at s.cps.toList (pre ++ whN s.length) suf h.2
  rw [List.length_append, List.append_assoc, hl] at this
  rw [Int.toNat_natCast, this]
  simp only [Array.toArray_toList, hl]
  rw [Nat.add_assoc]
theorem rdC_hd {sev : Option (Nat → Except Nat (D × Nat))} {pre : List Int} {b : Int} {r : List Int} : (pre ++ (b :: r))[pre.length]? = some b := by simp
theorem app1 (pre : List Int) (b : Int) (r : List Int) : pre ++ (b :: r) = (pre ++ [b]) ++ r := by simp
mutual
theorem rdP_at : ∀ (d : D) (n : Nat) (pre suf : List Int), isP d = true → isPc d n = true → rdP n (pre ++ (pby d ++ suf)) pre.length = .ok (d, pre.length + (pby d).length)
  | d, n, pre, suf, hp, hc => by
    have go : ∃ sev, rdP n (pre ++ (pby d ++ suf)) pre.length = rdC sev (pre ++ (pby d ++ suf)) pre.length ∧ ∀ m, n = m + 1 → sev = some (rdSev (rdP m (pre ++ (pby d ++ suf))) (pre ++ (pby d ++ suf))) := by
      cases n with
      | zero => exact ⟨none, rfl, fun m h => by cases h⟩
      | succ m => exact ⟨_, rfl, fun m' h => by cases h; rfl⟩
    obtain ⟨sev, e, hs⟩ := go
    rw [e]
    unfold rdC
    match d, hp, hc with
    | .non, _, _ => simp [pby]
    | .bl b, _, _ => cases b <;> simp [pby]
    | .int i, _, _ =>
      rw [pby]
      by_cases h : 0 ≤ i
      · rw [if_pos h, List.cons_append, rdC_hd (sev := sev)]
        have := rdW_at (pre ++ [3]) suf i.toNat
        rw [List.length_append, List.append_assoc] at this
        simp only [List.cons_append, List.nil_append, List.length_cons, List.length_nil, Nat.zero_add] at this
        simp [this, Int.toNat_of_nonneg h]
        omega
      · rw [if_neg h, List.cons_append, rdC_hd (sev := sev)]
        have := rdW_at (pre ++ [4]) suf (-1 - i).toNat
        rw [List.length_append, List.append_assoc] at this
        simp only [List.cons_append, List.nil_append, List.length_cons, List.length_nil, Nat.zero_add] at this
        simp [this, Int.toNat_of_nonneg (show 0 ≤ -1 - i by omega)]
        omega
    | .str s, _, hc =>
      rw [pby, List.cons_append, rdC_hd (sev := sev)]
      have := rdStr_at (s := s) (by rw [isPc] at hc; exact hc) (pre ++ [5]) suf
      rw [List.length_append, List.append_assoc] at this
      simp only [List.cons_append, List.nil_append, List.length_cons, List.length_nil, Nat.zero_add] at this
      simp [this]
      omega
    | .tup xs, hp, hc =>
      rw [isP] at hp
      rw [isPc, Bool.and_eq_true, decide_eq_true_eq] at hc
      obtain ⟨m, rfl⟩ : ∃ m, n = m + 1 := ⟨n - 1, by omega⟩
      rw [hs m rfl]
      rw [pby, List.cons_append, rdC_hd (sev := sev)]
      have h1 := rdW_at (pre ++ [6]) (pbys xs ++ suf) xs.length
      have h2 := rdMany_at xs m (pre ++ [6] ++ whN xs.length) suf hp (by have := hc.2; rwa [show ((m + 1 : Nat) : Int) - 1 = (m : Int) by omega] at this)
      rw [List.length_append, List.append_assoc] at h1
      rw [List.length_append, List.length_append] at h2
      simp only [List.cons_append, List.nil_append, List.append_assoc, List.length_cons, List.length_nil, Nat.zero_add] at h1 h2
      simp [rdSev, h1, h2]
      omega
theorem rdMany_at : ∀ (xs : List D) (n : Nat) (pre suf : List Int), isPs xs = true → isPcs xs n = true → rdMany (rdP n (pre ++ (pbys xs ++ suf))) xs.length pre.length = .ok (xs, pre.length + (pbys xs).length)
  | [], _, _, _, _, _ => rfl
  | x :: xs, n, pre, suf, hp, hc => by
    rw [isPs, Bool.and_eq_true] at hp
    rw [isPcs, Bool.and_eq_true] at hc
    have h1 := rdP_at x n pre (pbys xs ++ suf) hp.1 hc.1
    have h2 := rdMany_at xs n (pre ++ pby x) suf hp.2 hc.2
    rw [List.length_append, List.append_assoc] at h2
    rw [List.length_cons, rdMany, pbys, List.append_assoc, h1]
    simp only
    rw [h2]
    simp only [List.length_append]
    rw [Nat.add_assoc]
end
def told (row : List Int) : Except Nat D := match rdP 20 row 0 with
  | .ok (d, a) => if a < row.length then .error a else .ok d
  | .error e => .error e
theorem told_pby {d : D} (hp : isP d = true) (hc : isPc d 20 = true) : told (pby d) = .ok d := by
  have := rdP_at d 20 [] [] hp hc
  simp only [List.nil_append, List.append_nil, List.length_nil, Nat.zero_add] at this
  unfold told
  rw [this]
  simp
/-- what a row is unsealed to -/
def unsl (bs : List Int) : D := if bs.length < 4 then .tup [] else if sea (mkf (bs.take (bs.length - 4))) = bs.drop (bs.length - 4) then (match told (bs.take (bs.length - 4)) with | .ok d => .tup [d] | .error _ => .tup []) else .tup []
theorem sea_len (n : Int) : (sea n).length = 4 := rfl
theorem unsl_sealed {d : D} (hp : isP d = true) (hc : isPc d 20 = true) : unsl (pby d ++ sea (mkf (pby d))) = .tup [d] := by
  unfold unsl
  rw [List.length_append, sea_len, if_neg (by omega), Nat.add_sub_cancel, List.take_left, List.drop_left, if_pos rfl, told_pby hp hc]
end Sp

set_option maxRecDepth 100000
set_option maxHeartbeats 1000000
namespace Sp
open PySem DL Ir
/-! ### equal ints, slices -/
theorem eqvAll_ints : ∀ a b : List Int, PyData.eqvAll (toPs (a.map D.int)) (toPs (b.map D.int)) = decide (a = b)
  | [], [] => rfl
  | [], _ :: _ => rfl
  | _ :: _, [] => rfl
  | x :: a, y :: b => by
    show (PyData.eqv (.int x) (.int y) && PyData.eqvAll (toPs (a.map D.int)) (toPs (b.map D.int))) = _
    rw [eqvAll_ints a b]
    simp only [PyData.eqv]
    by_cases h1 : x = y <;> by_cases h2 : a = b <;> simp [h1, h2]
theorem areData_ints : ∀ a : List Int, areData (a.map D.int) = true
  | [] => rfl
  | x :: a => by show (isData (.int x) && areData (a.map D.int)) = true; rw [areData_ints a]; rfl
theorem deeps_ints : ∀ a : List Int, deeps (a.map D.int) = 0
  | [] => rfl
  | x :: a => by show max (deep (.int x)) (deeps (a.map D.int)) = 0; rw [deeps_ints a]; rfl
theorem eqD_tints {a b : List Int} {Q : Bool → Prop} : eqD (.tup (a.map .int)) (.tup (b.map .int)) Q = Q (decide (a = b)) := by
  unfold eqD
  have : deq (.tup (a.map .int)) (.tup (b.map .int)) = decide (a = b) := by
    show PyData.eqv (.tuple _) (.tuple _) = _
    rw [← eqvAll_ints]
    simp only [PyData.eqv]
  rw [this]
  refine propext ⟨fun h => h.2.2.2, fun h => ⟨areData_ints a, areData_ints b, .inl ?_, h⟩⟩
  show deeps (a.map D.int) + 1 ≤ 60
  rw [deeps_ints]; decide
theorem dcut_map {α β : Type} (f : α → β) (xs : List α) (lo hi : Option Int) : dcut (xs.map f) lo hi = (dcut xs lo hi).map f := by
  unfold dcut
  rw [List.map_take, List.map_drop, List.length_map]
theorem dcut_to {α : Type} (xs : List α) (k : Nat) : dcut xs none (some (k : Int)) = xs.take k := by
  unfold dcut
  rw [HT.sIx_none, HT.sIx_nat, List.drop_zero, Nat.sub_zero]
  rcases Nat.le_total k xs.length with h | h
  · rw [Nat.min_eq_left h]
  · rw [Nat.min_eq_right h, List.take_length, List.take_of_length_le h]
theorem dcut_from {α : Type} (xs : List α) (k : Nat) : dcut xs (some (k : Int)) none = xs.drop k := by
  unfold dcut
  rw [HT.sIx_none, HT.sIx_nat]
  rcases Nat.le_total k xs.length with h | h
  · rw [Nat.min_eq_left h, List.take_of_length_le (by rw [List.length_drop]; exact Nat.le_refl _)]
  · rw [Nat.min_eq_right h, Nat.sub_self, List.take_zero, List.drop_of_length_le h]
theorem dcut_both {α : Type} (xs : List α) (j k : Nat) : dcut xs (some (j : Int)) (some (k : Int)) = (xs.drop j).take (k - j) := by
  unfold dcut
  rw [HT.sIx_nat, HT.sIx_nat]
  rcases Nat.le_total j xs.length with h | h
  · rw [Nat.min_eq_left h]
    rcases Nat.le_total k xs.length with h2 | h2
    · rw [Nat.min_eq_left h2]
    · rw [Nat.min_eq_right h2, List.take_of_length_le (by rw [List.length_drop]; omega), List.take_of_length_le (by rw [List.length_drop]; omega)]
  · rw [Nat.min_eq_right h, List.drop_length, List.drop_of_length_le h, List.take_nil, List.take_nil]
theorem sIx_neg {n d k : Nat} (h : 0 < k) : HT.sIx n d (some (-(k : Int))) = n - k := by
  show (if -(k : Int) < 0 then (-(k : Int) + (n : Int)).toNat else min (-(k : Int)).toNat n) = n - k
  rw [if_pos (by omega)]; omega
theorem dcut_but {α : Type} (xs : List α) (k : Nat) (h : 0 < k) : dcut xs none (some (-(k : Int))) = xs.take (xs.length - k) := by
  unfold dcut
  rw [HT.sIx_none, sIx_neg h, List.drop_zero, Nat.sub_zero]
theorem dcut_last {α : Type} (xs : List α) (k : Nat) (h : 0 < k) : dcut xs (some (-(k : Int))) none = xs.drop (xs.length - k) := by
  unfold dcut
  rw [HT.sIx_none, sIx_neg h, List.take_of_length_le (by rw [List.length_drop]; exact Nat.le_refl _)]
theorem slc_tup {m : Bool} {xs : List D} {lo hi : Option Int} {H : DH} {Q : DK} : slcD m (.tup xs) lo hi H Q = Q (.tup (dcut xs lo hi)) H := rfl
def Ext (H H' : DH) : Prop := ∀ b o, H b = some o → H' b = some o
theorem Ext.back {H H' : DH} (h : Ext H H') {d : D} {Q : DK} (q : Q d H) : FzV d H' Q := by
  refine ⟨fun b => (H b).isNone, d, .same d, ?_⟩
  have : minus H' (fun b => (H b).isNone) = H := by
    funext b
    unfold minus
    cases e : H b with
    | none => rw [if_pos (by simp [e])]
    | some o => rw [if_neg (by simp [e])]; exact h b o e
  rw [this]; exact q
theorem isRow_inv {d : D} (h : isRow d = true) : ∃ bs : List Int, d = .tup (bs.map .int) ∧ bRow bs := by
  cases d with
  | tup xs =>
    rw [isRow] at h
    induction xs with
    | nil => exact ⟨[], rfl, fun b hb => by cases hb⟩
    | cons x xs ih =>
      rw [List.all_cons, Bool.and_eq_true] at h
      obtain ⟨bs, e, hb⟩ := ih h.2
      cases x with
      | int i =>
        have h1 := h.1
        simp only [isByte, Bool.and_eq_true, decide_eq_true_eq] at h1
        cases e
        refine ⟨i :: bs, rfl, fun b hm => ?_⟩
        rcases List.mem_cons.mp hm with rfl | hm
        · exact h1
        · exact hb b hm
      | _ => cases h.1
  | _ => cases h
def spPO : DSp := fun ds H Q E => ∃ bs : List Int, ds = [.tup (bs.map .int)] ∧ bRow bs ∧ bs.length ≤ 2000000 ∧ (∀ d, told bs = .ok d → Q d H) ∧ ∀ e, told bs = .error e → ∀ H', Ext H H' → E "BadRow" [("place", .int (e : Nat))] H'
theorem ext_old {r : Addr} {H H' : DH} {o : D} (hr : H r = none) (h : Old r (dupd H r o) H') : Ext H H' := fun b x hx => by
  have : b ≠ r := fun e => by subst e; rw [hr] at hx; cases hx
  exact h b this x (by rw [dupd_ne this]; exact hx)
theorem ext_at {r : Addr} {H : DH} {o : D} (hr : H r = none) : Ext H (dupd H r o) := fun b x hx => by
  have : b ≠ r := fun e => by subst e; rw [hr] at hx; cases hx
  rw [dupd_ne this]; exact hx
theorem sat_po {G : Gam} (hg : G.gc = gcv) (hx : G.xf "BadRow" = [("place" : Str)]) (h1 : G.fn "check_row" = spCheckRow) (h2 : G.mt "RowReader" "__init__" = spInit) (h3 : G.mt "RowReader" "read_parcel" = spPar 20) : Sat G N_parcel_of.length ir_parcel_of spPO := by
  rintro vs H Q E ⟨bs, rfl, hb, hl, q1, q2⟩
  unfold ir_parcel_of
  simp only [wE_v, wE_non, wE_bl, wE_int, wE_str, wE_gc, wE_tup, wE_lst, wE_dic0, wE_dicS, wE_bin, wE_cmp, wE_chn, wE_and, wE_or, wE_not, wE_neg, wE_ife, wE_idx, wE_slc, wE_rev, wE_fld, wE_call, wE_meth, wE_make, wE_blt, wE_bm, wE_isi, wE_xf, wE_xi, wTg_nm, wTg_tp, wTg_fld, wTg_sub, wIt_seq, wIt_rng0, wIt_rng1, wIt_enu, wIt_zip, wS_set, wS_expr, wS_ret, wS_retN, wS_ife, wS_raise, wS_try, wS_pass, wS_brk, wS_cont, wS_augN, wS_augF, wS_augS, wEs, wO, wAll, wTgs, wB, List.cons_append, List.nil_append, List.getElem?_cons_zero, List.getElem?_cons_succ, List.set_cons_zero, List.set_cons_succ, Option.some.injEq, exists_eq_left', D.bl.injEq, D.int.injEq, List.map_cons, List.map_nil, List.length_cons, List.length_nil, List.replicate, List.append_eq, Nat.reduceAdd, Nat.reduceSub, Nat.zero_add, Nat.add_zero, Nat.sub_zero, List.any_cons, List.any_nil, Bool.or_false, rd_int, rd_bl, rd_str, rd_non, rd_tup, rd_lst, rd_stl, reduceIte, Bool.not_true, Bool.not_false, Bool.false_eq_true, Nat.sub_self, binD, cmpD, alc_f, dwipe, leD_ii, ltD_ii, gtD_ii, addD_ii, mulD_ii, eqD_ii, len_tup, len_lst, len_str, int_int, int_bl, tuple_lst, tuple_tup, N_parcel_of, h1, h2, h3, hg, hx, gc_DEEP]
  refine ⟨_, rfl, .inl ⟨_, rfl, ints_flat bs⟩, fun _ => ?_, fun z => by rw [isRow_of hb] at z; cases z⟩
  intro r hr
  refine ⟨r, bs, rfl, dupd_same, rfl, Fz0 ?_⟩
  rw [dupd_dupd, rd_ref]
  refine ⟨⟨_, rfl, rfl⟩, r, bs, 0, rfl, dupd_same, Nat.zero_le _, hl, ?_⟩
  unfold told at q1 q2
  cases h : rdP 20 bs 0 with
  | error e =>
    rw [h] at q2
    exact fun H' ho => q2 e rfl H' (ext_old hr ho)
  | ok z =>
    obtain ⟨d, a⟩ := z
    rw [h] at q1 q2
    simp only at q1 q2
    unfold wants
    dsimp only
    rw [dupd_dupd, rd_ref]
    refine ⟨_, _, rfl, rfl, ?_⟩
    simp only [wE_v, wE_non, wE_bl, wE_int, wE_str, wE_gc, wE_tup, wE_lst, wE_dic0, wE_dicS, wE_bin, wE_cmp, wE_chn, wE_and, wE_or, wE_not, wE_neg, wE_ife, wE_idx, wE_slc, wE_rev, wE_fld, wE_call, wE_meth, wE_make, wE_blt, wE_bm, wE_isi, wE_xf, wE_xi, wTg_nm, wTg_tp, wTg_fld, wTg_sub, wIt_seq, wIt_rng0, wIt_rng1, wIt_enu, wIt_zip, wS_set, wS_expr, wS_ret, wS_retN, wS_ife, wS_raise, wS_try, wS_pass, wS_brk, wS_cont, wS_augN, wS_augF, wS_augS, wEs, wO, wAll, wTgs, wB, List.cons_append, List.nil_append, List.getElem?_cons_zero, List.getElem?_cons_succ, List.set_cons_zero, List.set_cons_succ, Option.some.injEq, exists_eq_left', D.bl.injEq, D.int.injEq, List.map_cons, List.map_nil, List.length_cons, List.length_nil, List.replicate, List.append_eq, Nat.reduceAdd, Nat.reduceSub, Nat.zero_add, Nat.add_zero, Nat.sub_zero, List.any_cons, List.any_nil, Bool.or_false, rd_int, rd_bl, rd_str, rd_non, rd_tup, rd_lst, rd_stl, reduceIte, Bool.not_true, Bool.not_false, Bool.false_eq_true, Nat.sub_self, binD, cmpD, alc_f, dwipe, leD_ii, ltD_ii, gtD_ii, addD_ii, mulD_ii, eqD_ii, len_tup, len_lst, len_str, int_int, int_bl, tuple_lst, tuple_tup]
    by_cases hlt : a < bs.length
    · rw [if_pos hlt] at q2
      rw [if_pos (decide_eq_true (by rw [List.length_map]; omega))]
      refine ⟨_, _, rfl, rfl, trivial, q2 a rfl _ (ext_at hr)⟩
    · rw [if_neg hlt] at q1
      rw [if_neg (by rw [List.length_map, decide_eq_false (by omega)]; simp)]
      exact FzV.drop hr (q1 d rfl)
end Sp

set_option maxRecDepth 100000
set_option maxHeartbeats 1000000
namespace Sp
open PySem DL Ir
/-- the pool of what is drawn -/
def PoolAt (H : DH) (p q : Addr) : Prop := p ≠ q ∧ ∃ (s c : Int) (ns : List Int), H p = some (.lst [.int s, .int c, .ref q]) ∧ H q = some (.lst (ns.map .int))
def Fr (p q : Addr) (H H' : DH) : Prop := ∀ a, a ≠ p → a ≠ q → H' a = H a
theorem Fr.refl {p q : Addr} {H : DH} : Fr p q H H := fun _ _ _ => rfl
theorem Fr.trans {p q : Addr} {H H' H2 : DH} (h : Fr p q H H') (h2 : Fr p q H' H2) : Fr p q H H2 := fun a h1 h3 => (h2 a h1 h3).trans (h a h1 h3)
theorem Fr.upd {p q a : Addr} {H H' : DH} {o : D} (h : Fr p q H H') (ha : a = p ∨ a = q) : Fr p q H (dupd H' a o) := fun b h1 h2 => by
  rw [dupd_ne (by rcases ha with rfl | rfl <;> assumption)]; exact h b h1 h2
/-- a drawn thing -/
def Dr (p q : Addr) (H : DH) (ok : D → Prop) (Q : DK) : Prop := ∀ d H', ok d → PoolAt H' p q → Fr p q H H' → Q d H'
def spPool : DSp := fun ds H Q _ => ∃ ns : List Int, ds = [.stl (ns.map .int)] ∧ ns.length ≤ 63 ∧ ∀ p q H', H p = none → H q = none → PoolAt H' p q → Fr p q H H' → Q (.ref p) H'
theorem toIs_ints : ∀ ns : List Int, toIs (ns.map D.int) = some ns
  | [] => rfl
  | n :: ns => by rw [List.map_cons, toIs, toIs_ints ns]; rfl
theorem slc_stl {m : Bool} {xs : List D} {lo hi : Option Int} {H : DH} {Q : DK} : slcD m (.stl xs) lo hi H Q = alc m (.lst (dcut xs lo hi)) H Q := rfl
theorem slc_lst {m : Bool} {xs : List D} {lo hi : Option Int} {H : DH} {Q : DK} : slcD m (.lst xs) lo hi H Q = alc m (.lst (dcut xs lo hi)) H Q := rfl
theorem len_stl {m : Bool} {xs : List D} {H : DH} {Q : DK} : bltD .len m [.stl xs] H Q = Q (.int xs.length) H := rfl
theorem sum_ints {m : Bool} {ns : List Int} {H : DH} {Q : DK} (q : Q (.int ns.sum) H) : bltD .sum m [.lst (ns.map .int)] H Q := ⟨_, toIs_ints ns, q⟩
theorem abs_i {m : Bool} {i : Int} {H : DH} {Q : DK} : bltD .abs m [.int i] H Q = Q (.int (if i < 0 then -i else i)) H := rfl
theorem seq_lst {xs : List D} : seqOf (.lst xs) = some xs := rfl
theorem seq_tup {xs : List D} : seqOf (.tup xs) = some xs := rfl
theorem dput_q {H H' : DH} {p : Addr} {o : D} (h : H' p = some o) : dupd H' p o = H' := dupd_self h
theorem sat_pool {G : Gam} : Sat G N__law_pool.length ir__law_pool spPool := by
  rintro vs H Q E ⟨ns, rfl, hn, q⟩
  unfold ir__law_pool
  simp only [wE_v, wE_non, wE_bl, wE_int, wE_str, wE_gc, wE_tup, wE_lst, wE_dic0, wE_dicS, wE_bin, wE_cmp, wE_chn, wE_and, wE_or, wE_not, wE_neg, wE_ife, wE_idx, wE_slc, wE_rev, wE_fld, wE_call, wE_meth, wE_make, wE_blt, wE_bm, wE_isi, wE_xf, wE_xi, wTg_nm, wTg_tp, wTg_fld, wTg_sub, wIt_seq, wIt_rng0, wIt_rng1, wIt_enu, wIt_zip, wS_set, wS_expr, wS_ret, wS_retN, wS_ife, wS_raise, wS_try, wS_pass, wS_brk, wS_cont, wS_augN, wS_augF, wS_augS, wEs, wO, wAll, wTgs, wB, List.cons_append, List.nil_append, List.getElem?_cons_zero, List.getElem?_cons_succ, List.set_cons_zero, List.set_cons_succ, Option.some.injEq, exists_eq_left', D.bl.injEq, D.int.injEq, List.map_cons, List.map_nil, List.length_cons, List.length_nil, List.replicate, List.append_eq, Nat.reduceAdd, Nat.reduceSub, Nat.zero_add, Nat.add_zero, Nat.sub_zero, List.any_cons, List.any_nil, Bool.or_false, rd_int, rd_bl, rd_str, rd_non, rd_tup, rd_lst, rd_stl, reduceIte, Bool.not_true, Bool.not_false, Bool.false_eq_true, Nat.sub_self, binD, cmpD, alc_f, dwipe, leD_ii, ltD_ii, gtD_ii, addD_ii, mulD_ii, eqD_ii, len_tup, len_lst, len_str, int_int, int_bl, tuple_lst, tuple_tup, N__law_pool, slc_stl, dcut_map, len_stl]
  refine sum_ints ?_
  simp only [wE_v, wE_non, wE_bl, wE_int, wE_str, wE_gc, wE_tup, wE_lst, wE_dic0, wE_dicS, wE_bin, wE_cmp, wE_chn, wE_and, wE_or, wE_not, wE_neg, wE_ife, wE_idx, wE_slc, wE_rev, wE_fld, wE_call, wE_meth, wE_make, wE_blt, wE_bm, wE_isi, wE_xf, wE_xi, wTg_nm, wTg_tp, wTg_fld, wTg_sub, wIt_seq, wIt_rng0, wIt_rng1, wIt_enu, wIt_zip, wS_set, wS_expr, wS_ret, wS_retN, wS_ife, wS_raise, wS_try, wS_pass, wS_brk, wS_cont, wS_augN, wS_augF, wS_augS, wEs, wO, wAll, wTgs, wB, List.cons_append, List.nil_append, List.getElem?_cons_zero, List.getElem?_cons_succ, List.set_cons_zero, List.set_cons_succ, Option.some.injEq, exists_eq_left', D.bl.injEq, D.int.injEq, List.map_cons, List.map_nil, List.length_cons, List.length_nil, List.replicate, List.append_eq, Nat.reduceAdd, Nat.reduceSub, Nat.zero_add, Nat.add_zero, Nat.sub_zero, List.any_cons, List.any_nil, Bool.or_false, rd_int, rd_bl, rd_str, rd_non, rd_tup, rd_lst, rd_stl, reduceIte, Bool.not_true, Bool.not_false, Bool.false_eq_true, Nat.sub_self, binD, cmpD, alc_f, dwipe, leD_ii, ltD_ii, gtD_ii, addD_ii, mulD_ii, eqD_ii, len_tup, len_lst, len_str, int_int, int_bl, tuple_lst, tuple_tup]
  refine ⟨by decide, ?_⟩
  rw [wS]
  simp only [wE_v, wE_non, wE_bl, wE_int, wE_str, wE_gc, wE_tup, wE_lst, wE_dic0, wE_dicS, wE_bin, wE_cmp, wE_chn, wE_and, wE_or, wE_not, wE_neg, wE_ife, wE_idx, wE_slc, wE_rev, wE_fld, wE_call, wE_meth, wE_make, wE_blt, wE_bm, wE_isi, wE_xf, wE_xi, wTg_nm, wTg_tp, wTg_fld, wTg_sub, wIt_seq, wIt_rng0, wIt_rng1, wIt_enu, wIt_zip, wS_set, wS_expr, wS_ret, wS_retN, wS_ife, wS_raise, wS_try, wS_pass, wS_brk, wS_cont, wS_augN, wS_augF, wS_augS, wEs, wO, wAll, wTgs, wB, List.cons_append, List.nil_append, List.getElem?_cons_zero, List.getElem?_cons_succ, List.set_cons_zero, List.set_cons_succ, Option.some.injEq, exists_eq_left', D.bl.injEq, D.int.injEq, List.map_cons, List.map_nil, List.length_cons, List.length_nil, List.replicate, List.append_eq, Nat.reduceAdd, Nat.reduceSub, Nat.zero_add, Nat.add_zero, Nat.sub_zero, List.any_cons, List.any_nil, Bool.or_false, rd_int, rd_bl, rd_str, rd_non, rd_tup, rd_lst, rd_stl, reduceIte, Bool.not_true, Bool.not_false, Bool.false_eq_true, Nat.sub_self, binD, cmpD, alc_f, dwipe, leD_ii, ltD_ii, gtD_ii, addD_ii, mulD_ii, eqD_ii, len_tup, len_lst, len_str, int_int, int_bl, tuple_lst, tuple_tup, slc_stl, dcut_map]
  refine ⟨_, rfl, fun hz => ⟨fun i σ H' => ∃ (s : Int) (o : Option D), σ = [some (.stl (ns.map .int)), some (.int s), o] ∧ H' = H, ⟨_, none, rfl, rfl⟩, ?_, ?_, ?_⟩⟩
  · rintro i σ H' ⟨s, o, rfl, rfl⟩; rfl
  · rintro i d σ H' hi ⟨s, o, rfl, rfl⟩
    rw [List.getElem?_map] at hi
    obtain ⟨b, hb, rfl⟩ := Option.map_eq_some_iff.mp hi
    simp only [wE_v, wE_non, wE_bl, wE_int, wE_str, wE_gc, wE_tup, wE_lst, wE_dic0, wE_dicS, wE_bin, wE_cmp, wE_chn, wE_and, wE_or, wE_not, wE_neg, wE_ife, wE_idx, wE_slc, wE_rev, wE_fld, wE_call, wE_meth, wE_make, wE_blt, wE_bm, wE_isi, wE_xf, wE_xi, wTg_nm, wTg_tp, wTg_fld, wTg_sub, wIt_seq, wIt_rng0, wIt_rng1, wIt_enu, wIt_zip, wS_set, wS_expr, wS_ret, wS_retN, wS_ife, wS_raise, wS_try, wS_pass, wS_brk, wS_cont, wS_augN, wS_augF, wS_augS, wEs, wO, wAll, wTgs, wB, List.cons_append, List.nil_append, List.getElem?_cons_zero, List.getElem?_cons_succ, List.set_cons_zero, List.set_cons_succ, Option.some.injEq, exists_eq_left', D.bl.injEq, D.int.injEq, List.map_cons, List.map_nil, List.length_cons, List.length_nil, List.replicate, List.append_eq, Nat.reduceAdd, Nat.reduceSub, Nat.zero_add, Nat.add_zero, Nat.sub_zero, List.any_cons, List.any_nil, Bool.or_false, rd_int, rd_bl, rd_str, rd_non, rd_tup, rd_lst, rd_stl, reduceIte, Bool.not_true, Bool.not_false, Bool.false_eq_true, Nat.sub_self, binD, cmpD, alc_f, dwipe, leD_ii, ltD_ii, gtD_ii, addD_ii, mulD_ii, eqD_ii, len_tup, len_lst, len_str, int_int, int_bl, tuple_lst, tuple_tup]
    refine ⟨.inr (by decide), by decide, by decide, Fz.here ⟨_, _, rfl, rfl⟩⟩
  · rintro σ H' ⟨s, o, rfl, rfl⟩
    refine ⟨_, rfl, ?_⟩
    rw [wE]
    simp only [wE_v, wE_non, wE_bl, wE_int, wE_str, wE_gc, wE_tup, wE_lst, wE_dic0, wE_dicS, wE_bin, wE_cmp, wE_chn, wE_and, wE_or, wE_not, wE_neg, wE_ife, wE_idx, wE_slc, wE_rev, wE_fld, wE_call, wE_meth, wE_make, wE_blt, wE_bm, wE_isi, wE_xf, wE_xi, wTg_nm, wTg_tp, wTg_fld, wTg_sub, wIt_seq, wIt_rng0, wIt_rng1, wIt_enu, wIt_zip, wS_set, wS_expr, wS_ret, wS_retN, wS_ife, wS_raise, wS_try, wS_pass, wS_brk, wS_cont, wS_augN, wS_augF, wS_augS, wEs, wO, wAll, wTgs, wB, List.cons_append, List.nil_append, List.getElem?_cons_zero, List.getElem?_cons_succ, List.set_cons_zero, List.set_cons_succ, Option.some.injEq, exists_eq_left', D.bl.injEq, D.int.injEq, List.map_cons, List.map_nil, List.length_cons, List.length_nil, List.replicate, List.append_eq, Nat.reduceAdd, Nat.reduceSub, Nat.zero_add, Nat.add_zero, Nat.sub_zero, List.any_cons, List.any_nil, Bool.or_false, rd_int, rd_bl, rd_str, rd_non, rd_tup, rd_lst, rd_stl, reduceIte, Bool.not_true, Bool.not_false, Bool.false_eq_true, Nat.sub_self, binD, cmpD, alc_f, dwipe, leD_ii, ltD_ii, gtD_ii, addD_ii, mulD_ii, eqD_ii, len_tup, len_lst, len_str, int_int, int_bl, tuple_lst, tuple_tup, slc_stl, dcut_map]
    refine ⟨_, rfl, fun hz r hr => ⟨fun i acc H2 => ∃ bs : List Int, acc = bs.map .int ∧ H2 = dupd H' r (.lst acc), ⟨[], rfl, rfl⟩, ?_, ?_, ?_⟩⟩
    · rintro i acc H2 ⟨bs, rfl, rfl⟩; rfl
    · rintro i d acc H2 hi ⟨bs, rfl, rfl⟩ h1 h2
      rw [List.getElem?_map] at hi
      obtain ⟨b, hb, rfl⟩ := Option.map_eq_some_iff.mp hi
      simp only [wE_v, wE_non, wE_bl, wE_int, wE_str, wE_gc, wE_tup, wE_lst, wE_dic0, wE_dicS, wE_bin, wE_cmp, wE_chn, wE_and, wE_or, wE_not, wE_neg, wE_ife, wE_idx, wE_slc, wE_rev, wE_fld, wE_call, wE_meth, wE_make, wE_blt, wE_bm, wE_isi, wE_xf, wE_xi, wTg_nm, wTg_tp, wTg_fld, wTg_sub, wIt_seq, wIt_rng0, wIt_rng1, wIt_enu, wIt_zip, wS_set, wS_expr, wS_ret, wS_retN, wS_ife, wS_raise, wS_try, wS_pass, wS_brk, wS_cont, wS_augN, wS_augF, wS_augS, wEs, wO, wAll, wTgs, wB, List.cons_append, List.nil_append, List.getElem?_cons_zero, List.getElem?_cons_succ, List.set_cons_zero, List.set_cons_succ, Option.some.injEq, exists_eq_left', D.bl.injEq, D.int.injEq, List.map_cons, List.map_nil, List.length_cons, List.length_nil, List.replicate, List.append_eq, Nat.reduceAdd, Nat.reduceSub, Nat.zero_add, Nat.add_zero, Nat.sub_zero, List.any_cons, List.any_nil, Bool.or_false, rd_int, rd_bl, rd_str, rd_non, rd_tup, rd_lst, rd_stl, reduceIte, Bool.not_true, Bool.not_false, Bool.false_eq_true, Nat.sub_self, binD, cmpD, alc_f, dwipe, leD_ii, ltD_ii, gtD_ii, addD_ii, mulD_ii, eqD_ii, len_tup, len_lst, len_str, int_int, int_bl, tuple_lst, tuple_tup, abs_i, geD_ii]
      generalize (if b < 0 then -b else b) = y
      refine ⟨⟨by decide, by decide, by decide⟩, ?_⟩
      by_cases hy : decide (10 ^ Int.toNat 18 ≤ y) = true
      · rw [if_pos hy]
        refine ⟨dupd_same, bs ++ [y], ?_, ?_⟩
        · rw [List.map_append]; rfl
        · rw [dupd_dupd]
      · rw [if_neg hy]
        exact ⟨dupd_same, bs, rfl, trivial⟩
    · rintro acc H2 ⟨bs, rfl, rfl⟩ h1 h2
      rw [alc_t]
      intro p hp
      have hpr : r ≠ p := fun e => by subst e; rw [dupd_same] at hp; cases hp
      refine Fz0 (q p r _ ?_ hr ?_ ?_)
      · rw [dupd_ne (Ne.symm hpr)] at hp; exact hp
      · exact ⟨Ne.symm hpr, s, 0, bs, dupd_same, by rw [dupd_ne hpr, dupd_same]⟩
      · exact (Fr.refl.upd (.inr rfl)).upd (.inl rfl)
def spDraw : DSp := fun ds H Q _ => ∃ (p q : Addr) (n : Int), ds = [.ref p, .int n] ∧ PoolAt H p q ∧ 0 < n ∧ n < 1073741824 ∧ Dr p q H (fun d => ∃ k, 0 ≤ k ∧ k < n ∧ d = .int k) Q
theorem ixN0 {n : Nat} (h : 0 < n) : L2.ixN n 0 = some 0 := by
  unfold L2.ixN
  rw [if_pos (by decide), if_pos (by omega)]; rfl
theorem setD_lst {H : DH} {p : Addr} {xs : List D} {k : Int} {j : Nat} {d : D} {Q : DH → Prop} (ys : List D) (h : H p = some (.lst xs)) (hj : L2.ixN xs.length k = some j) (hy : xs.set j d = ys) (q : Q (dupd H p (.lst ys))) : setD (.ref p) (.int k) d H Q := by
  unfold setD
  simp only [h]
  subst hy
  exact ⟨j, hj, q⟩
theorem len_rd {H : DH} {r : Addr} {xs : List D} {m : Bool} {Q : DK} (h : H r = some (.lst xs)) : bltD .len m [.ref r] H Q = Q (.int xs.length) H := by
  show (match rd H (.ref r) with
      | .tup xs => Q (.int xs.length) _ | .lst xs => Q (.int xs.length) _ | .stl xs => Q (.int xs.length) _ | .stp xs => Q (.int xs.length) _
      | .str s => Q (.int s.length) _ | .dic t kvs => t = false ∧ Q (.int kvs.length) _ | _ => False) = _
  rw [rd_at h]
theorem sat_draw {G : Gam} : Sat G N__law_draw.length ir__law_draw spDraw := by
  rintro vs H Q E ⟨p, q, n, rfl, ⟨hpq, s, c, ns, hp, hq⟩, h0, hn, K⟩
  unfold ir__law_draw
  simp only [wE_v, wE_non, wE_bl, wE_int, wE_str, wE_gc, wE_tup, wE_lst, wE_dic0, wE_dicS, wE_bin, wE_cmp, wE_chn, wE_and, wE_or, wE_not, wE_neg, wE_ife, wE_idx, wE_slc, wE_rev, wE_fld, wE_call, wE_meth, wE_make, wE_blt, wE_bm, wE_isi, wE_xf, wE_xi, wTg_nm, wTg_tp, wTg_fld, wTg_sub, wIt_seq, wIt_rng0, wIt_rng1, wIt_enu, wIt_zip, wS_set, wS_expr, wS_ret, wS_retN, wS_ife, wS_raise, wS_try, wS_pass, wS_brk, wS_cont, wS_augN, wS_augF, wS_augS, wEs, wO, wAll, wTgs, wB, List.cons_append, List.nil_append, List.getElem?_cons_zero, List.getElem?_cons_succ, List.set_cons_zero, List.set_cons_succ, Option.some.injEq, exists_eq_left', D.bl.injEq, D.int.injEq, List.map_cons, List.map_nil, List.length_cons, List.length_nil, List.replicate, List.append_eq, Nat.reduceAdd, Nat.reduceSub, Nat.zero_add, Nat.add_zero, Nat.sub_zero, List.any_cons, List.any_nil, Bool.or_false, rd_int, rd_bl, rd_str, rd_non, rd_tup, rd_lst, rd_stl, reduceIte, Bool.not_true, Bool.not_false, Bool.false_eq_true, Nat.sub_self, binD, cmpD, alc_f, dwipe, leD_ii, ltD_ii, gtD_ii, addD_ii, mulD_ii, eqD_ii, len_tup, len_lst, len_str, int_int, int_bl, tuple_lst, tuple_tup, N__law_draw]
  rw [rd_at hp]
  refine ⟨1, _, rfl, rfl, ?_⟩
  simp only [wE_v, wE_non, wE_bl, wE_int, wE_str, wE_gc, wE_tup, wE_lst, wE_dic0, wE_dicS, wE_bin, wE_cmp, wE_chn, wE_and, wE_or, wE_not, wE_neg, wE_ife, wE_idx, wE_slc, wE_rev, wE_fld, wE_call, wE_meth, wE_make, wE_blt, wE_bm, wE_isi, wE_xf, wE_xi, wTg_nm, wTg_tp, wTg_fld, wTg_sub, wIt_seq, wIt_rng0, wIt_rng1, wIt_enu, wIt_zip, wS_set, wS_expr, wS_ret, wS_retN, wS_ife, wS_raise, wS_try, wS_pass, wS_brk, wS_cont, wS_augN, wS_augF, wS_augS, wEs, wO, wAll, wTgs, wB, List.cons_append, List.nil_append, List.getElem?_cons_zero, List.getElem?_cons_succ, List.set_cons_zero, List.set_cons_succ, Option.some.injEq, exists_eq_left', D.bl.injEq, D.int.injEq, List.map_cons, List.map_nil, List.length_cons, List.length_nil, List.replicate, List.append_eq, Nat.reduceAdd, Nat.reduceSub, Nat.zero_add, Nat.add_zero, Nat.sub_zero, List.any_cons, List.any_nil, Bool.or_false, rd_int, rd_bl, rd_str, rd_non, rd_tup, rd_lst, rd_stl, reduceIte, Bool.not_true, Bool.not_false, Bool.false_eq_true, Nat.sub_self, binD, cmpD, alc_f, dwipe, leD_ii, ltD_ii, gtD_ii, addD_ii, mulD_ii, eqD_ii, len_tup, len_lst, len_str, int_int, int_bl, tuple_lst, tuple_tup]
  refine setD_lst [.int s, .int (c + 1), .ref q] hp rfl rfl ?_
  have hp1 : dupd H p (.lst [.int s, .int (c + 1), .ref q]) p = some (.lst [.int s, .int (c + 1), .ref q]) := dupd_same
  have hq1 : dupd H p (.lst [.int s, .int (c + 1), .ref q]) q = some (.lst (ns.map .int)) := by rw [dupd_ne (Ne.symm hpq)]; exact hq
  have F1 : Fr p q H (dupd H p (.lst [.int s, .int (c + 1), .ref q])) := Fr.refl.upd (.inl rfl)
  show idxD (rd (dupd H p (.lst [.int s, .int (c + 1), .ref q])) (.ref p)) _ _
  generalize dupd H p (.lst [.int s, .int (c + 1), .ref q]) = H1 at hp1 hq1 F1 ⊢
  rw [rd_at hp1]
  refine ⟨2, _, rfl, rfl, ?_⟩
  dsimp only
  rw [len_rd hq1]
  simp only [wE_v, wE_non, wE_bl, wE_int, wE_str, wE_gc, wE_tup, wE_lst, wE_dic0, wE_dicS, wE_bin, wE_cmp, wE_chn, wE_and, wE_or, wE_not, wE_neg, wE_ife, wE_idx, wE_slc, wE_rev, wE_fld, wE_call, wE_meth, wE_make, wE_blt, wE_bm, wE_isi, wE_xf, wE_xi, wTg_nm, wTg_tp, wTg_fld, wTg_sub, wIt_seq, wIt_rng0, wIt_rng1, wIt_enu, wIt_zip, wS_set, wS_expr, wS_ret, wS_retN, wS_ife, wS_raise, wS_try, wS_pass, wS_brk, wS_cont, wS_augN, wS_augF, wS_augS, wEs, wO, wAll, wTgs, wB, List.cons_append, List.nil_append, List.getElem?_cons_zero, List.getElem?_cons_succ, List.set_cons_zero, List.set_cons_succ, Option.some.injEq, exists_eq_left', D.bl.injEq, D.int.injEq, List.map_cons, List.map_nil, List.length_cons, List.length_nil, List.replicate, List.append_eq, Nat.reduceAdd, Nat.reduceSub, Nat.zero_add, Nat.add_zero, Nat.sub_zero, List.any_cons, List.any_nil, Bool.or_false, rd_int, rd_bl, rd_str, rd_non, rd_tup, rd_lst, rd_stl, reduceIte, Bool.not_true, Bool.not_false, Bool.false_eq_true, Nat.sub_self, binD, cmpD, alc_f, dwipe, leD_ii, ltD_ii, gtD_ii, addD_ii, mulD_ii, eqD_ii, len_tup, len_lst, len_str, int_int, int_bl, tuple_lst, tuple_tup, List.length_map]
  by_cases hl : 0 < ns.length
  · rw [if_pos (decide_eq_true (by omega)), rd_at hq1]
    obtain ⟨x, ns, rfl⟩ : ∃ x r, ns = x :: r := by cases ns with | nil => cases hl | cons x r => exact ⟨x, r, rfl⟩
    refine ⟨0, .int x, rfl, atI_ints (row := x :: ns) (k := 0) rfl, ?_⟩
    simp only [wE_v, wE_non, wE_bl, wE_int, wE_str, wE_gc, wE_tup, wE_lst, wE_dic0, wE_dicS, wE_bin, wE_cmp, wE_chn, wE_and, wE_or, wE_not, wE_neg, wE_ife, wE_idx, wE_slc, wE_rev, wE_fld, wE_call, wE_meth, wE_make, wE_blt, wE_bm, wE_isi, wE_xf, wE_xi, wTg_nm, wTg_tp, wTg_fld, wTg_sub, wIt_seq, wIt_rng0, wIt_rng1, wIt_enu, wIt_zip, wS_set, wS_expr, wS_ret, wS_retN, wS_ife, wS_raise, wS_try, wS_pass, wS_brk, wS_cont, wS_augN, wS_augF, wS_augS, wEs, wO, wAll, wTgs, wB, List.cons_append, List.nil_append, List.getElem?_cons_zero, List.getElem?_cons_succ, List.set_cons_zero, List.set_cons_succ, Option.some.injEq, exists_eq_left', D.bl.injEq, D.int.injEq, List.map_cons, List.map_nil, List.length_cons, List.length_nil, List.replicate, List.append_eq, Nat.reduceAdd, Nat.reduceSub, Nat.zero_add, Nat.add_zero, Nat.sub_zero, List.any_cons, List.any_nil, Bool.or_false, rd_int, rd_bl, rd_str, rd_non, rd_tup, rd_lst, rd_stl, reduceIte, Bool.not_true, Bool.not_false, Bool.false_eq_true, Nat.sub_self, binD, cmpD, alc_f, dwipe, leD_ii, ltD_ii, gtD_ii, addD_ii, mulD_ii, eqD_ii, len_tup, len_lst, len_str, int_int, int_bl, tuple_lst, tuple_tup]
    rw [rd_at hq1]
    refine ⟨h0, 0, .int x, rfl, atI_ints (row := x :: ns) (k := 0) rfl, ?_⟩
    simp only [wE_v, wE_non, wE_bl, wE_int, wE_str, wE_gc, wE_tup, wE_lst, wE_dic0, wE_dicS, wE_bin, wE_cmp, wE_chn, wE_and, wE_or, wE_not, wE_neg, wE_ife, wE_idx, wE_slc, wE_rev, wE_fld, wE_call, wE_meth, wE_make, wE_blt, wE_bm, wE_isi, wE_xf, wE_xi, wTg_nm, wTg_tp, wTg_fld, wTg_sub, wIt_seq, wIt_rng0, wIt_rng1, wIt_enu, wIt_zip, wS_set, wS_expr, wS_ret, wS_retN, wS_ife, wS_raise, wS_try, wS_pass, wS_brk, wS_cont, wS_augN, wS_augF, wS_augS, wEs, wO, wAll, wTgs, wB, List.cons_append, List.nil_append, List.getElem?_cons_zero, List.getElem?_cons_succ, List.set_cons_zero, List.set_cons_succ, Option.some.injEq, exists_eq_left', D.bl.injEq, D.int.injEq, List.map_cons, List.map_nil, List.length_cons, List.length_nil, List.replicate, List.append_eq, Nat.reduceAdd, Nat.reduceSub, Nat.zero_add, Nat.add_zero, Nat.sub_zero, List.any_cons, List.any_nil, Bool.or_false, rd_int, rd_bl, rd_str, rd_non, rd_tup, rd_lst, rd_stl, reduceIte, Bool.not_true, Bool.not_false, Bool.false_eq_true, Nat.sub_self, binD, cmpD, alc_f, dwipe, leD_ii, ltD_ii, gtD_ii, addD_ii, mulD_ii, eqD_ii, len_tup, len_lst, len_str, int_int, int_bl, tuple_lst, tuple_tup]
    refine ⟨⟨h0, hn⟩, setD_lst (.int (x / n) :: ns.map .int) hq1 (ixN0 (by rw [List.length_map, List.length_cons]; omega)) rfl ?_⟩
    show idxD (rd (dupd H1 q (.lst (.int (x / n) :: ns.map .int))) _) _ _
    rw [rd_ref]
    refine ⟨0, .int (x / n), rfl, atI_ints (row := (x / n) :: ns) (k := 0) rfl, ?_⟩
    have km := Int.emod_nonneg x (show n ≠ 0 by omega)
    have kl := Int.emod_lt_of_pos x h0
    simp only [wE_v, wE_non, wE_bl, wE_int, wE_str, wE_gc, wE_tup, wE_lst, wE_dic0, wE_dicS, wE_bin, wE_cmp, wE_chn, wE_and, wE_or, wE_not, wE_neg, wE_ife, wE_idx, wE_slc, wE_rev, wE_fld, wE_call, wE_meth, wE_make, wE_blt, wE_bm, wE_isi, wE_xf, wE_xi, wTg_nm, wTg_tp, wTg_fld, wTg_sub, wIt_seq, wIt_rng0, wIt_rng1, wIt_enu, wIt_zip, wS_set, wS_expr, wS_ret, wS_retN, wS_ife, wS_raise, wS_try, wS_pass, wS_brk, wS_cont, wS_augN, wS_augF, wS_augS, wEs, wO, wAll, wTgs, wB, List.cons_append, List.nil_append, List.getElem?_cons_zero, List.getElem?_cons_succ, List.set_cons_zero, List.set_cons_succ, Option.some.injEq, exists_eq_left', D.bl.injEq, D.int.injEq, List.map_cons, List.map_nil, List.length_cons, List.length_nil, List.replicate, List.append_eq, Nat.reduceAdd, Nat.reduceSub, Nat.zero_add, Nat.add_zero, Nat.sub_zero, List.any_cons, List.any_nil, Bool.or_false, rd_int, rd_bl, rd_str, rd_non, rd_tup, rd_lst, rd_stl, reduceIte, Bool.not_true, Bool.not_false, Bool.false_eq_true, Nat.sub_self, binD, cmpD, alc_f, dwipe, leD_ii, ltD_ii, gtD_ii, addD_ii, mulD_ii, eqD_ii, len_tup, len_lst, len_str, int_int, int_bl, tuple_lst, tuple_tup]
    split
    · refine ⟨rfl, q, _, 0, _, rfl, rfl, by decide, dupd_same, rfl, Fz0 (K _ _ ⟨_, km, kl, rfl⟩ ⟨hpq, s, c + 1, ns, ?_, ?_⟩ ?_)⟩
      · rw [dupd_dupd, dupd_ne hpq]; exact hp1
      · rw [dupd_dupd, dupd_same]; rfl
      · exact (F1.upd (.inr rfl)).upd (.inr rfl)
    · refine Fz0 (K _ _ ⟨_, km, kl, rfl⟩ ⟨hpq, s, c + 1, (x / n) :: ns, ?_, ?_⟩ ?_)
      · rw [dupd_ne hpq]; exact hp1
      · rw [dupd_same]; rfl
      · exact F1.upd (.inr rfl)
  · rw [if_neg (by rw [decide_eq_false (by omega)]; simp), rd_at hp1]
    refine ⟨0, _, rfl, rfl, 1, _, rfl, rfl, ?_⟩
    simp only [wE_v, wE_non, wE_bl, wE_int, wE_str, wE_gc, wE_tup, wE_lst, wE_dic0, wE_dicS, wE_bin, wE_cmp, wE_chn, wE_and, wE_or, wE_not, wE_neg, wE_ife, wE_idx, wE_slc, wE_rev, wE_fld, wE_call, wE_meth, wE_make, wE_blt, wE_bm, wE_isi, wE_xf, wE_xi, wTg_nm, wTg_tp, wTg_fld, wTg_sub, wIt_seq, wIt_rng0, wIt_rng1, wIt_enu, wIt_zip, wS_set, wS_expr, wS_ret, wS_retN, wS_ife, wS_raise, wS_try, wS_pass, wS_brk, wS_cont, wS_augN, wS_augF, wS_augS, wEs, wO, wAll, wTgs, wB, List.cons_append, List.nil_append, List.getElem?_cons_zero, List.getElem?_cons_succ, List.set_cons_zero, List.set_cons_succ, Option.some.injEq, exists_eq_left', D.bl.injEq, D.int.injEq, List.map_cons, List.map_nil, List.length_cons, List.length_nil, List.replicate, List.append_eq, Nat.reduceAdd, Nat.reduceSub, Nat.zero_add, Nat.add_zero, Nat.sub_zero, List.any_cons, List.any_nil, Bool.or_false, rd_int, rd_bl, rd_str, rd_non, rd_tup, rd_lst, rd_stl, reduceIte, Bool.not_true, Bool.not_false, Bool.false_eq_true, Nat.sub_self, binD, cmpD, alc_f, dwipe, leD_ii, ltD_ii, gtD_ii, addD_ii, mulD_ii, eqD_ii, len_tup, len_lst, len_str, int_int, int_bl, tuple_lst, tuple_tup]
    refine ⟨.inl (by decide), .inr (by decide), by decide, ⟨by decide, by decide⟩, .inl ⟨by omega, by omega⟩, by decide, ⟨by decide, by decide⟩, .inl ⟨by omega, by omega⟩, by decide, ⟨by decide, by decide⟩, h0, Fz0 (K _ _ ⟨_, Int.emod_nonneg _ (by omega), Int.emod_lt_of_pos _ h0, rfl⟩ ⟨hpq, s, c + 1, ns, hp1, hq1⟩ F1)⟩
end Sp

set_option maxRecDepth 100000
set_option maxHeartbeats 1000000
namespace Sp
open PySem DL Ir
def spIs : DSp := fun ds H Q _ => ∃ i : Int, ds = [.int i, .int i] ∧ i.natAbs.log2 < 1920 ∧ Q (.bl true) H
theorem deq_str {s : Str} : deq (.str s) (.str s) = true := by
  show PyData.eqv (.str s) (.str s) = true
  simp only [PyData.eqv, beq_self_eq_true]
theorem sat_is {G : Gam} : Sat G N__law_is.length ir__law_is spIs := by
  rintro vs H Q E ⟨i, rfl, h, q⟩
  unfold ir__law_is
  simp only [wE_v, wE_non, wE_bl, wE_int, wE_str, wE_gc, wE_tup, wE_lst, wE_dic0, wE_dicS, wE_bin, wE_cmp, wE_chn, wE_and, wE_or, wE_not, wE_neg, wE_ife, wE_idx, wE_slc, wE_rev, wE_fld, wE_call, wE_meth, wE_make, wE_blt, wE_bm, wE_isi, wE_xf, wE_xi, wTg_nm, wTg_tp, wTg_fld, wTg_sub, wIt_seq, wIt_rng0, wIt_rng1, wIt_enu, wIt_zip, wS_set, wS_expr, wS_ret, wS_retN, wS_ife, wS_raise, wS_try, wS_pass, wS_brk, wS_cont, wS_augN, wS_augF, wS_augS, wEs, wO, wAll, wTgs, wB, List.cons_append, List.nil_append, List.getElem?_cons_zero, List.getElem?_cons_succ, List.set_cons_zero, List.set_cons_succ, Option.some.injEq, exists_eq_left', D.bl.injEq, D.int.injEq, List.map_cons, List.map_nil, List.length_cons, List.length_nil, List.replicate, List.append_eq, Nat.reduceAdd, Nat.reduceSub, Nat.zero_add, Nat.add_zero, Nat.sub_zero, List.any_cons, List.any_nil, Bool.or_false, rd_int, rd_bl, rd_str, rd_non, rd_tup, rd_lst, rd_stl, reduceIte, Bool.not_true, Bool.not_false, Bool.false_eq_true, Nat.sub_self, binD, cmpD, alc_f, dwipe, leD_ii, ltD_ii, gtD_ii, addD_ii, mulD_ii, eqD_ii, len_tup, len_lst, len_str, int_int, int_bl, tuple_lst, tuple_tup, N__law_is]
  refine ⟨h, h, ?_⟩
  simp only [wE_v, wE_non, wE_bl, wE_int, wE_str, wE_gc, wE_tup, wE_lst, wE_dic0, wE_dicS, wE_bin, wE_cmp, wE_chn, wE_and, wE_or, wE_not, wE_neg, wE_ife, wE_idx, wE_slc, wE_rev, wE_fld, wE_call, wE_meth, wE_make, wE_blt, wE_bm, wE_isi, wE_xf, wE_xi, wTg_nm, wTg_tp, wTg_fld, wTg_sub, wIt_seq, wIt_rng0, wIt_rng1, wIt_enu, wIt_zip, wS_set, wS_expr, wS_ret, wS_retN, wS_ife, wS_raise, wS_try, wS_pass, wS_brk, wS_cont, wS_augN, wS_augF, wS_augS, wEs, wO, wAll, wTgs, wB, List.cons_append, List.nil_append, List.getElem?_cons_zero, List.getElem?_cons_succ, List.set_cons_zero, List.set_cons_succ, Option.some.injEq, exists_eq_left', D.bl.injEq, D.int.injEq, List.map_cons, List.map_nil, List.length_cons, List.length_nil, List.replicate, List.append_eq, Nat.reduceAdd, Nat.reduceSub, Nat.zero_add, Nat.add_zero, Nat.sub_zero, List.any_cons, List.any_nil, Bool.or_false, rd_int, rd_bl, rd_str, rd_non, rd_tup, rd_lst, rd_stl, reduceIte, Bool.not_true, Bool.not_false, Bool.false_eq_true, Nat.sub_self, binD, cmpD, alc_f, dwipe, leD_ii, ltD_ii, gtD_ii, addD_ii, mulD_ii, eqD_ii, len_tup, len_lst, len_str, int_int, int_bl, tuple_lst, tuple_tup]
  refine ⟨rfl, rfl, .inl (Nat.zero_le _), ?_⟩
  rw [deq_str]
  exact Fz0 q
def spSame (n : Nat) : DSp := fun ds H Q _ => ∃ d, ds = [d, d] ∧ isP d = true ∧ deep d < n ∧ Q (.bl true) H
theorem zip_same : ∀ xs : List D, zipD xs xs = xs.map fun x => .tup [x, x]
  | [] => rfl
  | x :: xs => by rw [zipD, zip_same xs]; rfl
theorem toBs_trues {α : Type} : ∀ xs : List α, toBs (xs.map fun _ => .bl true) = some (xs.map fun _ => true)
  | [] => rfl
  | x :: xs => by simp only [List.map, toBs, toBs_trues xs]; rfl
theorem isPs_mem {d : D} : ∀ {xs : List D}, isPs xs = true → d ∈ xs → isP d = true
  | x :: xs, h, m => by
    rw [isPs, Bool.and_eq_true] at h
    rcases List.mem_cons.mp m with rfl | m
    · exact h.1
    · exact isPs_mem h.2 m
theorem deq_bl {b : Bool} : deq (.bl b) (.bl b) = true := by
  show PyData.eqv (.bool b) (.bool b) = true
  simp only [PyData.eqv, beq_self_eq_true]
theorem eqD_same {d : D} {Q : Bool → Prop} (h1 : isData d = true) (h2 : deep d ≤ 60) (h3 : deq d d = true) (q : Q true) : eqD d d Q := ⟨h1, h1, .inl h2, by rw [h3]; exact q⟩
theorem sat_same {G : Gam} {n : Nat} (h1 : G.fn "_law_same" = spSame n) : Sat G N__law_same.length ir__law_same (spSame (n + 1)) := by
  rintro vs H Q E ⟨d, rfl, hp, hd, q⟩
  unfold ir__law_same
  obtain ⟨e1, e2⟩ := isP_isi (G := G) (H := H) hp
  simp only [wE_v, wE_non, wE_bl, wE_int, wE_str, wE_gc, wE_tup, wE_lst, wE_dic0, wE_dicS, wE_bin, wE_cmp, wE_chn, wE_and, wE_or, wE_not, wE_neg, wE_ife, wE_idx, wE_slc, wE_rev, wE_fld, wE_call, wE_meth, wE_make, wE_blt, wE_bm, wE_isi, wE_xf, wE_xi, wTg_nm, wTg_tp, wTg_fld, wTg_sub, wIt_seq, wIt_rng0, wIt_rng1, wIt_enu, wIt_zip, wS_set, wS_expr, wS_ret, wS_retN, wS_ife, wS_raise, wS_try, wS_pass, wS_brk, wS_cont, wS_augN, wS_augF, wS_augS, wEs, wO, wAll, wTgs, wB, List.cons_append, List.nil_append, List.getElem?_cons_zero, List.getElem?_cons_succ, List.set_cons_zero, List.set_cons_succ, Option.some.injEq, exists_eq_left', D.bl.injEq, D.int.injEq, List.map_cons, List.map_nil, List.length_cons, List.length_nil, List.replicate, List.append_eq, Nat.reduceAdd, Nat.reduceSub, Nat.zero_add, Nat.add_zero, Nat.sub_zero, List.any_cons, List.any_nil, Bool.or_false, rd_int, rd_bl, rd_str, rd_non, rd_tup, rd_lst, rd_stl, reduceIte, Bool.not_true, Bool.not_false, Bool.false_eq_true, Nat.sub_self, binD, cmpD, alc_f, dwipe, leD_ii, ltD_ii, gtD_ii, addD_ii, mulD_ii, eqD_ii, len_tup, len_lst, len_str, int_int, int_bl, tuple_lst, tuple_tup, N__law_same, e1]
  refine ⟨e2, ?_⟩
  cases d with
  | tup xs =>
    simp only [wE_v, wE_non, wE_bl, wE_int, wE_str, wE_gc, wE_tup, wE_lst, wE_dic0, wE_dicS, wE_bin, wE_cmp, wE_chn, wE_and, wE_or, wE_not, wE_neg, wE_ife, wE_idx, wE_slc, wE_rev, wE_fld, wE_call, wE_meth, wE_make, wE_blt, wE_bm, wE_isi, wE_xf, wE_xi, wTg_nm, wTg_tp, wTg_fld, wTg_sub, wIt_seq, wIt_rng0, wIt_rng1, wIt_enu, wIt_zip, wS_set, wS_expr, wS_ret, wS_retN, wS_ife, wS_raise, wS_try, wS_pass, wS_brk, wS_cont, wS_augN, wS_augF, wS_augS, wEs, wO, wAll, wTgs, wB, List.cons_append, List.nil_append, List.getElem?_cons_zero, List.getElem?_cons_succ, List.set_cons_zero, List.set_cons_succ, Option.some.injEq, exists_eq_left', D.bl.injEq, D.int.injEq, List.map_cons, List.map_nil, List.length_cons, List.length_nil, List.replicate, List.append_eq, Nat.reduceAdd, Nat.reduceSub, Nat.zero_add, Nat.add_zero, Nat.sub_zero, List.any_cons, List.any_nil, Bool.or_false, rd_int, rd_bl, rd_str, rd_non, rd_tup, rd_lst, rd_stl, reduceIte, Bool.not_true, Bool.not_false, Bool.false_eq_true, Nat.sub_self, binD, cmpD, alc_f, dwipe, leD_ii, ltD_ii, gtD_ii, addD_ii, mulD_ii, eqD_ii, len_tup, len_lst, len_str, int_int, int_bl, tuple_lst, tuple_tup, tyD]
    refine ⟨e2, e2, ?_⟩
    rw [if_neg (by simp)]
    refine comp_map (ds := xs.map fun x => .tup [x, x]) (st := fun _ => litOf (.tup xs) = some xs ∧ litOf (.tup xs) = some xs) (fun _ => .bl true) ?_ (fun _ _ _ => ⟨rfl, rfl⟩) ?_ ?_
    · intro K hK
      simp only [wE_v, wE_non, wE_bl, wE_int, wE_str, wE_gc, wE_tup, wE_lst, wE_dic0, wE_dicS, wE_bin, wE_cmp, wE_chn, wE_and, wE_or, wE_not, wE_neg, wE_ife, wE_idx, wE_slc, wE_rev, wE_fld, wE_call, wE_meth, wE_make, wE_blt, wE_bm, wE_isi, wE_xf, wE_xi, wTg_nm, wTg_tp, wTg_fld, wTg_sub, wIt_seq, wIt_rng0, wIt_rng1, wIt_enu, wIt_zip, wS_set, wS_expr, wS_ret, wS_retN, wS_ife, wS_raise, wS_try, wS_pass, wS_brk, wS_cont, wS_augN, wS_augF, wS_augS, wEs, wO, wAll, wTgs, wB, List.cons_append, List.nil_append, List.getElem?_cons_zero, List.getElem?_cons_succ, List.set_cons_zero, List.set_cons_succ, Option.some.injEq, exists_eq_left', D.bl.injEq, D.int.injEq, List.map_cons, List.map_nil, List.length_cons, List.length_nil, List.replicate, List.append_eq, Nat.reduceAdd, Nat.reduceSub, Nat.zero_add, Nat.add_zero, Nat.sub_zero, List.any_cons, List.any_nil, Bool.or_false, rd_int, rd_bl, rd_str, rd_non, rd_tup, rd_lst, rd_stl, reduceIte, Bool.not_true, Bool.not_false, Bool.false_eq_true, Nat.sub_self, binD, cmpD, alc_f, dwipe, leD_ii, ltD_ii, gtD_ii, addD_ii, mulD_ii, eqD_ii, len_tup, len_lst, len_str, int_int, int_bl, tuple_lst, tuple_tup]
      refine ⟨xs, xs, rfl, rfl, trivial, ?_⟩
      rw [zip_same]
      exact hK
    · intro d hm p acc K hp' hK
      obtain ⟨x, hx, rfl⟩ := List.mem_map.mp hm
      simp only [wE_v, wE_non, wE_bl, wE_int, wE_str, wE_gc, wE_tup, wE_lst, wE_dic0, wE_dicS, wE_bin, wE_cmp, wE_chn, wE_and, wE_or, wE_not, wE_neg, wE_ife, wE_idx, wE_slc, wE_rev, wE_fld, wE_call, wE_meth, wE_make, wE_blt, wE_bm, wE_isi, wE_xf, wE_xi, wTg_nm, wTg_tp, wTg_fld, wTg_sub, wIt_seq, wIt_rng0, wIt_rng1, wIt_enu, wIt_zip, wS_set, wS_expr, wS_ret, wS_retN, wS_ife, wS_raise, wS_try, wS_pass, wS_brk, wS_cont, wS_augN, wS_augF, wS_augS, wEs, wO, wAll, wTgs, wB, List.cons_append, List.nil_append, List.getElem?_cons_zero, List.getElem?_cons_succ, List.set_cons_zero, List.set_cons_succ, Option.some.injEq, exists_eq_left', D.bl.injEq, D.int.injEq, List.map_cons, List.map_nil, List.length_cons, List.length_nil, List.replicate, List.append_eq, Nat.reduceAdd, Nat.reduceSub, Nat.zero_add, Nat.add_zero, Nat.sub_zero, List.any_cons, List.any_nil, Bool.or_false, rd_int, rd_bl, rd_str, rd_non, rd_tup, rd_lst, rd_stl, reduceIte, Bool.not_true, Bool.not_false, Bool.false_eq_true, Nat.sub_self, binD, cmpD, alc_f, dwipe, leD_ii, ltD_ii, gtD_ii, addD_ii, mulD_ii, eqD_ii, len_tup, len_lst, len_str, int_int, int_bl, tuple_lst, tuple_tup]
      refine ⟨_, rfl, rfl, ?_⟩
      simp only [wE_v, wE_non, wE_bl, wE_int, wE_str, wE_gc, wE_tup, wE_lst, wE_dic0, wE_dicS, wE_bin, wE_cmp, wE_chn, wE_and, wE_or, wE_not, wE_neg, wE_ife, wE_idx, wE_slc, wE_rev, wE_fld, wE_call, wE_meth, wE_make, wE_blt, wE_bm, wE_isi, wE_xf, wE_xi, wTg_nm, wTg_tp, wTg_fld, wTg_sub, wIt_seq, wIt_rng0, wIt_rng1, wIt_enu, wIt_zip, wS_set, wS_expr, wS_ret, wS_retN, wS_ife, wS_raise, wS_try, wS_pass, wS_brk, wS_cont, wS_augN, wS_augF, wS_augS, wEs, wO, wAll, wTgs, wB, List.cons_append, List.nil_append, List.getElem?_cons_zero, List.getElem?_cons_succ, List.set_cons_zero, List.set_cons_succ, Option.some.injEq, exists_eq_left', D.bl.injEq, D.int.injEq, List.map_cons, List.map_nil, List.length_cons, List.length_nil, List.replicate, List.append_eq, Nat.reduceAdd, Nat.reduceSub, Nat.zero_add, Nat.add_zero, Nat.sub_zero, List.any_cons, List.any_nil, Bool.or_false, rd_int, rd_bl, rd_str, rd_non, rd_tup, rd_lst, rd_stl, reduceIte, Bool.not_true, Bool.not_false, Bool.false_eq_true, Nat.sub_self, binD, cmpD, alc_f, dwipe, leD_ii, ltD_ii, gtD_ii, addD_ii, mulD_ii, eqD_ii, len_tup, len_lst, len_str, int_int, int_bl, tuple_lst, tuple_tup]
      refine hK _ fun K2 hK2 => ?_
      simp only [wE_v, wE_non, wE_bl, wE_int, wE_str, wE_gc, wE_tup, wE_lst, wE_dic0, wE_dicS, wE_bin, wE_cmp, wE_chn, wE_and, wE_or, wE_not, wE_neg, wE_ife, wE_idx, wE_slc, wE_rev, wE_fld, wE_call, wE_meth, wE_make, wE_blt, wE_bm, wE_isi, wE_xf, wE_xi, wTg_nm, wTg_tp, wTg_fld, wTg_sub, wIt_seq, wIt_rng0, wIt_rng1, wIt_enu, wIt_zip, wS_set, wS_expr, wS_ret, wS_retN, wS_ife, wS_raise, wS_try, wS_pass, wS_brk, wS_cont, wS_augN, wS_augF, wS_augS, wEs, wO, wAll, wTgs, wB, List.cons_append, List.nil_append, List.getElem?_cons_zero, List.getElem?_cons_succ, List.set_cons_zero, List.set_cons_succ, Option.some.injEq, exists_eq_left', D.bl.injEq, D.int.injEq, List.map_cons, List.map_nil, List.length_cons, List.length_nil, List.replicate, List.append_eq, Nat.reduceAdd, Nat.reduceSub, Nat.zero_add, Nat.add_zero, Nat.sub_zero, List.any_cons, List.any_nil, Bool.or_false, rd_int, rd_bl, rd_str, rd_non, rd_tup, rd_lst, rd_stl, reduceIte, Bool.not_true, Bool.not_false, Bool.false_eq_true, Nat.sub_self, binD, cmpD, alc_f, dwipe, leD_ii, ltD_ii, gtD_ii, addD_ii, mulD_ii, eqD_ii, len_tup, len_lst, len_str, int_int, int_bl, tuple_lst, tuple_tup, h1]
      rw [isP] at hp
      rw [deep] at hd
      have := deeps_mem hx
      exact ⟨x, rfl, isPs_mem hp hx, by omega, hK2⟩
    · rw [alc_f]
      rw [List.map_map]
      refine all_lst (toBs_trues xs) (Fz0 ?_)
      have : (xs.map fun _ => true).all id = true := by simp
      rw [this]; exact q
  | _ =>
    first
      | (cases hp; done)
      | (simp only [wE_v, wE_non, wE_bl, wE_int, wE_str, wE_gc, wE_tup, wE_lst, wE_dic0, wE_dicS, wE_bin, wE_cmp, wE_chn, wE_and, wE_or, wE_not, wE_neg, wE_ife, wE_idx, wE_slc, wE_rev, wE_fld, wE_call, wE_meth, wE_make, wE_blt, wE_bm, wE_isi, wE_xf, wE_xi, wTg_nm, wTg_tp, wTg_fld, wTg_sub, wIt_seq, wIt_rng0, wIt_rng1, wIt_enu, wIt_zip, wS_set, wS_expr, wS_ret, wS_retN, wS_ife, wS_raise, wS_try, wS_pass, wS_brk, wS_cont, wS_augN, wS_augF, wS_augS, wEs, wO, wAll, wTgs, wB, List.cons_append, List.nil_append, List.getElem?_cons_zero, List.getElem?_cons_succ, List.set_cons_zero, List.set_cons_succ, Option.some.injEq, exists_eq_left', D.bl.injEq, D.int.injEq, List.map_cons, List.map_nil, List.length_cons, List.length_nil, List.replicate, List.append_eq, Nat.reduceAdd, Nat.reduceSub, Nat.zero_add, Nat.add_zero, Nat.sub_zero, List.any_cons, List.any_nil, Bool.or_false, rd_int, rd_bl, rd_str, rd_non, rd_tup, rd_lst, rd_stl, reduceIte, Bool.not_true, Bool.not_false, Bool.false_eq_true, Nat.sub_self, binD, cmpD, alc_f, dwipe, leD_ii, ltD_ii, gtD_ii, addD_ii, mulD_ii, eqD_ii, len_tup, len_lst, len_str, int_int, int_bl, tuple_lst, tuple_tup, tyD]
         refine ⟨e2, e2, e2, ?_⟩
         refine eqD_same rfl (Nat.zero_le _) deq_bl ?_
         simp only [wE_v, wE_non, wE_bl, wE_int, wE_str, wE_gc, wE_tup, wE_lst, wE_dic0, wE_dicS, wE_bin, wE_cmp, wE_chn, wE_and, wE_or, wE_not, wE_neg, wE_ife, wE_idx, wE_slc, wE_rev, wE_fld, wE_call, wE_meth, wE_make, wE_blt, wE_bm, wE_isi, wE_xf, wE_xi, wTg_nm, wTg_tp, wTg_fld, wTg_sub, wIt_seq, wIt_rng0, wIt_rng1, wIt_enu, wIt_zip, wS_set, wS_expr, wS_ret, wS_retN, wS_ife, wS_raise, wS_try, wS_pass, wS_brk, wS_cont, wS_augN, wS_augF, wS_augS, wEs, wO, wAll, wTgs, wB, List.cons_append, List.nil_append, List.getElem?_cons_zero, List.getElem?_cons_succ, List.set_cons_zero, List.set_cons_succ, Option.some.injEq, exists_eq_left', D.bl.injEq, D.int.injEq, List.map_cons, List.map_nil, List.length_cons, List.length_nil, List.replicate, List.append_eq, Nat.reduceAdd, Nat.reduceSub, Nat.zero_add, Nat.add_zero, Nat.sub_zero, List.any_cons, List.any_nil, Bool.or_false, rd_int, rd_bl, rd_str, rd_non, rd_tup, rd_lst, rd_stl, reduceIte, Bool.not_true, Bool.not_false, Bool.false_eq_true, Nat.sub_self, binD, cmpD, alc_f, dwipe, leD_ii, ltD_ii, gtD_ii, addD_ii, mulD_ii, eqD_ii, len_tup, len_lst, len_str, int_int, int_bl, tuple_lst, tuple_tup]
         refine ⟨e2, e2, ?_⟩
         refine eqD_same rfl (Nat.zero_le _) deq_bl ?_
         simp only [wE_v, wE_non, wE_bl, wE_int, wE_str, wE_gc, wE_tup, wE_lst, wE_dic0, wE_dicS, wE_bin, wE_cmp, wE_chn, wE_and, wE_or, wE_not, wE_neg, wE_ife, wE_idx, wE_slc, wE_rev, wE_fld, wE_call, wE_meth, wE_make, wE_blt, wE_bm, wE_isi, wE_xf, wE_xi, wTg_nm, wTg_tp, wTg_fld, wTg_sub, wIt_seq, wIt_rng0, wIt_rng1, wIt_enu, wIt_zip, wS_set, wS_expr, wS_ret, wS_retN, wS_ife, wS_raise, wS_try, wS_pass, wS_brk, wS_cont, wS_augN, wS_augF, wS_augS, wEs, wO, wAll, wTgs, wB, List.cons_append, List.nil_append, List.getElem?_cons_zero, List.getElem?_cons_succ, List.set_cons_zero, List.set_cons_succ, Option.some.injEq, exists_eq_left', D.bl.injEq, D.int.injEq, List.map_cons, List.map_nil, List.length_cons, List.length_nil, List.replicate, List.append_eq, Nat.reduceAdd, Nat.reduceSub, Nat.zero_add, Nat.add_zero, Nat.sub_zero, List.any_cons, List.any_nil, Bool.or_false, rd_int, rd_bl, rd_str, rd_non, rd_tup, rd_lst, rd_stl, reduceIte, Bool.not_true, Bool.not_false, Bool.false_eq_true, Nat.sub_self, binD, cmpD, alc_f, dwipe, leD_ii, ltD_ii, gtD_ii, addD_ii, mulD_ii, eqD_ii, len_tup, len_lst, len_str, int_int, int_bl, tuple_lst, tuple_tup]
         first
           | exact Fz0 (by simpa using q)
           | exact eqD_same rfl (Nat.zero_le _) rfl (Fz0 q)
           | exact eqD_same rfl (Nat.zero_le _) deq_bl (Fz0 q)
           | exact eqD_same rfl (Nat.zero_le _) deq_str (Fz0 q))
def spSign : DSp := fun ds H Q _ => ∃ b : Int, ds = [.int b] ∧ isSign b = true ∧ Q (.str ⟨#[b.toNat]⟩) H
def lsigns : Str := " !\"#$&'()*+,-./0123456789:;<=>?@ABCDEFGHIJKLMNOPQRSTUVWXYZ[\\]^_" ++ "`abcdefghijklmnopqrstuvwxyz{|}~"
theorem lsigns_len : lsigns.cps.toList.length = 94 := by decide +kernel
theorem lsigns_at0 : ∀ k, k < 95 → k ≠ 5 → lsigns.cps.toList[k - (if 5 < k then 1 else 0)]? = some (k + 32) := by decide +kernel
theorem sat_sign {G : Gam} : Sat G N__law_sign.length ir__law_sign spSign := by
  rintro vs H Q E ⟨b, rfl, h, q⟩
  unfold ir__law_sign
  simp only [wE_v, wE_non, wE_bl, wE_int, wE_str, wE_gc, wE_tup, wE_lst, wE_dic0, wE_dicS, wE_bin, wE_cmp, wE_chn, wE_and, wE_or, wE_not, wE_neg, wE_ife, wE_idx, wE_slc, wE_rev, wE_fld, wE_call, wE_meth, wE_make, wE_blt, wE_bm, wE_isi, wE_xf, wE_xi, wTg_nm, wTg_tp, wTg_fld, wTg_sub, wIt_seq, wIt_rng0, wIt_rng1, wIt_enu, wIt_zip, wS_set, wS_expr, wS_ret, wS_retN, wS_ife, wS_raise, wS_try, wS_pass, wS_brk, wS_cont, wS_augN, wS_augF, wS_augS, wEs, wO, wAll, wTgs, wB, List.cons_append, List.nil_append, List.getElem?_cons_zero, List.getElem?_cons_succ, List.set_cons_zero, List.set_cons_succ, Option.some.injEq, exists_eq_left', D.bl.injEq, D.int.injEq, List.map_cons, List.map_nil, List.length_cons, List.length_nil, List.replicate, List.append_eq, Nat.reduceAdd, Nat.reduceSub, Nat.zero_add, Nat.add_zero, Nat.sub_zero, List.any_cons, List.any_nil, Bool.or_false, rd_int, rd_bl, rd_str, rd_non, rd_tup, rd_lst, rd_stl, reduceIte, Bool.not_true, Bool.not_false, Bool.false_eq_true, Nat.sub_self, binD, cmpD, alc_f, dwipe, leD_ii, ltD_ii, gtD_ii, addD_ii, mulD_ii, eqD_ii, len_tup, len_lst, len_str, int_int, int_bl, tuple_lst, tuple_tup, N__law_sign]
  obtain ⟨h1, h2, h3⟩ := isSign_i h
  refine ⟨by decide +kernel, ?_⟩
  simp only [wE_v, wE_non, wE_bl, wE_int, wE_str, wE_gc, wE_tup, wE_lst, wE_dic0, wE_dicS, wE_bin, wE_cmp, wE_chn, wE_and, wE_or, wE_not, wE_neg, wE_ife, wE_idx, wE_slc, wE_rev, wE_fld, wE_call, wE_meth, wE_make, wE_blt, wE_bm, wE_isi, wE_xf, wE_xi, wTg_nm, wTg_tp, wTg_fld, wTg_sub, wIt_seq, wIt_rng0, wIt_rng1, wIt_enu, wIt_zip, wS_set, wS_expr, wS_ret, wS_retN, wS_ife, wS_raise, wS_try, wS_pass, wS_brk, wS_cont, wS_augN, wS_augF, wS_augS, wEs, wO, wAll, wTgs, wB, List.cons_append, List.nil_append, List.getElem?_cons_zero, List.getElem?_cons_succ, List.set_cons_zero, List.set_cons_succ, Option.some.injEq, exists_eq_left', D.bl.injEq, D.int.injEq, List.map_cons, List.map_nil, List.length_cons, List.length_nil, List.replicate, List.append_eq, Nat.reduceAdd, Nat.reduceSub, Nat.zero_add, Nat.add_zero, Nat.sub_zero, List.any_cons, List.any_nil, Bool.or_false, rd_int, rd_bl, rd_str, rd_non, rd_tup, rd_lst, rd_stl, reduceIte, Bool.not_true, Bool.not_false, Bool.false_eq_true, Nat.sub_self, binD, cmpD, alc_f, dwipe, leD_ii, ltD_ii, gtD_ii, addD_ii, mulD_ii, eqD_ii, len_tup, len_lst, len_str, int_int, int_bl, tuple_lst, tuple_tup]
  show idxD (.str lsigns) (.int _) _
  refine ⟨_, b.toNat, rfl, ?_, Fz0 q⟩
  have hk := lsigns_at0 (b - 32).toNat (by omega) (by omega)
  have hm : ∃ m : Nat, m < 94 ∧ b - 32 - b2i (decide (37 < b)) = (m : Int) ∧ lsigns.cps.toList[m]? = some ((b - 32).toNat + 32) := by
    by_cases c : 37 < b
    · rw [if_pos (by omega)] at hk
      refine ⟨_, by omega, ?_, hk⟩
      rw [decide_eq_true c]
      show b - 32 - 1 = _
      omega
    · rw [if_neg (by omega)] at hk
      refine ⟨_, by omega, ?_, hk⟩
      rw [decide_eq_false c]
      show b - 32 - 0 = _
      omega
  obtain ⟨m, hm1, hm2, hm3⟩ := hm
  unfold L2.atI L2.ixN
  rw [hm2, lsigns_len, if_pos (by omega), if_pos (by omega)]
  show lsigns.cps.toList[m]? = _
  rw [hm3]
  congr 1; omega
def encW (a : Nat) : Option (Int × Nat) → D
  | none => .tup [.non, .int a]
  | some (v, e) => .tup [.int v, .int (e : Nat)]
def lev : List Int → Int
  | [] => 0
  | b :: r => b % 128 + 128 * lev r
theorem rgo_pre : ∀ (pre rest : List Int) (k : Nat) (f w : Int), (∀ b ∈ pre, ¬ b < 128) → rgo (pre ++ rest) k f w = rgo rest (k + pre.length) (f + lev pre * w) (w * 128 ^ pre.length)
  | [], rest, k, f, w, _ => by simp [lev]
  | b :: pre, rest, k, f, w, h => by
    rw [List.cons_append, rgo, if_neg (h b List.mem_cons_self), rgo_pre pre rest _ _ _ fun c hc => h c (List.mem_cons_of_mem _ hc)]
    rw [List.length_cons, lev]
    congr 1
    · omega
    · rw [Int.add_assoc, Int.add_mul]
      congr 2
      rw [← Int.mul_assoc, Int.mul_comm 128, Int.mul_assoc, Int.mul_assoc, Int.mul_comm w 128]
    · rw [Int.mul_assoc, Int.pow_succ, Int.mul_comm 128]
theorem lev_snoc : ∀ (pre : List Int) (b : Int), lev (pre ++ [b]) = lev pre + b % 128 * 128 ^ pre.length
  | [], b => by simp [lev]
  | c :: pre, b => by
    rw [List.cons_append, lev, lev, lev_snoc pre b, List.length_cons, Int.pow_succ, Int.mul_add, Int.add_assoc]
    congr 2
    rw [Int.mul_comm 128, Int.mul_assoc]
def hor (f b : Int) : Int := f * 128 + b % 128
theorem hor_lev : ∀ l : List Int, l.reverse.foldl hor 0 = lev l
  | [] => rfl
  | b :: l => by
    rw [List.reverse_cons, List.foldl_append, hor_lev l, lev]
    show lev l * 128 + b % 128 = _
    rw [Int.add_comm, Int.mul_comm]
def spLRW : DSp := fun ds H Q _ => ∃ (row : List Int) (a : Nat), ds = [.tup (row.map .int), .int a] ∧ a ≤ row.length ∧ row.length ≤ 2000000 ∧ Q (encW a (rdW row a)) H
theorem take_snoc {l : List Int} {i : Nat} {b : Int} (h : l[i]? = some b) : l.take (i + 1) = l.take i ++ [b] := by
  rw [List.take_succ, h]; rfl
theorem rev_tup {m : Bool} {xs : List D} {H : DH} {Q : DK} : revD m (.tup xs) H Q = Q (.tup xs.reverse) H := rfl
theorem lrw_in {G : Gam} {D0 : Ends} {row : List Int} {a i : Nat} {H : DH} (q : ∀ o, D0.nx [some (.tup (row.map .int)), some (.int a), some (.int ((a : Int) + 1 + i)), some (.int (lev ((row.drop a).take (i + 1)))), o] H) :
    wS G (.for (.nm 4) (.seq (.rev false (.slc false (.v 0) (some (.v 1)) (some (.v 2))))) [.set (.nm 3) (.bin .add false (.bin .mul false (.v 3) (.int 128)) (.bin .mod false (.blt .int false [.v 4]) (.int 128)))]) D0 [some (.tup (row.map .int)), some (.int a), some (.int ((a : Int) + 1 + i)), some (.int 0), none] H := by
  rw [wS]
  have e : dcut (row.map D.int) (some (a : Int)) (some ((a : Int) + 1 + i)) = ((row.drop a).take (i + 1)).map D.int := by
    rw [show (a : Int) + 1 + i = ((a + 1 + i : Nat) : Int) by omega, dcut_map, dcut_both]
    congr 2; omega
  simp only [wE_v, wE_non, wE_bl, wE_int, wE_str, wE_gc, wE_tup, wE_lst, wE_dic0, wE_dicS, wE_bin, wE_cmp, wE_chn, wE_and, wE_or, wE_not, wE_neg, wE_ife, wE_idx, wE_slc, wE_rev, wE_fld, wE_call, wE_meth, wE_make, wE_blt, wE_bm, wE_isi, wE_xf, wE_xi, wTg_nm, wTg_tp, wTg_fld, wTg_sub, wIt_seq, wIt_rng0, wIt_rng1, wIt_enu, wIt_zip, wS_set, wS_expr, wS_ret, wS_retN, wS_ife, wS_raise, wS_try, wS_pass, wS_brk, wS_cont, wS_augN, wS_augF, wS_augS, wEs, wO, wAll, wTgs, wB, List.cons_append, List.nil_append, List.getElem?_cons_zero, List.getElem?_cons_succ, List.set_cons_zero, List.set_cons_succ, Option.some.injEq, exists_eq_left', D.bl.injEq, D.int.injEq, List.map_cons, List.map_nil, List.length_cons, List.length_nil, List.replicate, List.append_eq, Nat.reduceAdd, Nat.reduceSub, Nat.zero_add, Nat.add_zero, Nat.sub_zero, List.any_cons, List.any_nil, Bool.or_false, rd_int, rd_bl, rd_str, rd_non, rd_tup, rd_lst, rd_stl, reduceIte, Bool.not_true, Bool.not_false, Bool.false_eq_true, Nat.sub_self, binD, cmpD, alc_f, dwipe, leD_ii, ltD_ii, gtD_ii, addD_ii, mulD_ii, eqD_ii, len_tup, len_lst, len_str, int_int, int_bl, tuple_lst, tuple_tup, slc_tup, e, rev_tup]
  refine ⟨_, rfl, fun hz => ⟨fun j σ H' => ∃ o, σ = [some (.tup (row.map .int)), some (.int a), some (.int ((a : Int) + 1 + i)), some (.int ((((row.drop a).take (i + 1)).reverse.take j).foldl hor 0)), o] ∧ H' = H, ⟨none, rfl, rfl⟩, ?_, ?_, ?_⟩⟩
  · rintro j σ H' ⟨o, rfl, rfl⟩; rfl
  · rintro j d σ H' hj ⟨o, rfl, rfl⟩
    rw [← List.map_reverse, List.getElem?_map] at hj
    obtain ⟨b, hb, rfl⟩ := Option.map_eq_some_iff.mp hj
    simp only [wE_v, wE_non, wE_bl, wE_int, wE_str, wE_gc, wE_tup, wE_lst, wE_dic0, wE_dicS, wE_bin, wE_cmp, wE_chn, wE_and, wE_or, wE_not, wE_neg, wE_ife, wE_idx, wE_slc, wE_rev, wE_fld, wE_call, wE_meth, wE_make, wE_blt, wE_bm, wE_isi, wE_xf, wE_xi, wTg_nm, wTg_tp, wTg_fld, wTg_sub, wIt_seq, wIt_rng0, wIt_rng1, wIt_enu, wIt_zip, wS_set, wS_expr, wS_ret, wS_retN, wS_ife, wS_raise, wS_try, wS_pass, wS_brk, wS_cont, wS_augN, wS_augF, wS_augS, wEs, wO, wAll, wTgs, wB, List.cons_append, List.nil_append, List.getElem?_cons_zero, List.getElem?_cons_succ, List.set_cons_zero, List.set_cons_succ, Option.some.injEq, exists_eq_left', D.bl.injEq, D.int.injEq, List.map_cons, List.map_nil, List.length_cons, List.length_nil, List.replicate, List.append_eq, Nat.reduceAdd, Nat.reduceSub, Nat.zero_add, Nat.add_zero, Nat.sub_zero, List.any_cons, List.any_nil, Bool.or_false, rd_int, rd_bl, rd_str, rd_non, rd_tup, rd_lst, rd_stl, reduceIte, Bool.not_true, Bool.not_false, Bool.false_eq_true, Nat.sub_self, binD, cmpD, alc_f, dwipe, leD_ii, ltD_ii, gtD_ii, addD_ii, mulD_ii, eqD_ii, len_tup, len_lst, len_str, int_int, int_bl, tuple_lst, tuple_tup]
    refine ⟨.inr (by decide), by decide, Fz.here ⟨some (.int b), ?_, rfl⟩⟩
    rw [take_snoc hb, List.foldl_append]
    rfl
  · rintro σ H' ⟨o, rfl, rfl⟩
    rw [← List.map_reverse, List.length_map, List.take_length, hor_lev]
    exact q o
theorem sat_lrw {G : Gam} : Sat G N__law_read_whole.length ir__law_read_whole spLRW := by
  rintro vs H Q E ⟨row, a, rfl, ha, hl, q⟩
  unfold ir__law_read_whole
  simp only [wE_v, wE_non, wE_bl, wE_int, wE_str, wE_gc, wE_tup, wE_lst, wE_dic0, wE_dicS, wE_bin, wE_cmp, wE_chn, wE_and, wE_or, wE_not, wE_neg, wE_ife, wE_idx, wE_slc, wE_rev, wE_fld, wE_call, wE_meth, wE_make, wE_blt, wE_bm, wE_isi, wE_xf, wE_xi, wTg_nm, wTg_tp, wTg_fld, wTg_sub, wIt_seq, wIt_rng0, wIt_rng1, wIt_enu, wIt_zip, wS_set, wS_expr, wS_ret, wS_retN, wS_ife, wS_raise, wS_try, wS_pass, wS_brk, wS_cont, wS_augN, wS_augF, wS_augS, wEs, wO, wAll, wTgs, wB, List.cons_append, List.nil_append, List.getElem?_cons_zero, List.getElem?_cons_succ, List.set_cons_zero, List.set_cons_succ, Option.some.injEq, exists_eq_left', D.bl.injEq, D.int.injEq, List.map_cons, List.map_nil, List.length_cons, List.length_nil, List.replicate, List.append_eq, Nat.reduceAdd, Nat.reduceSub, Nat.zero_add, Nat.add_zero, Nat.sub_zero, List.any_cons, List.any_nil, Bool.or_false, rd_int, rd_bl, rd_str, rd_non, rd_tup, rd_lst, rd_stl, reduceIte, Bool.not_true, Bool.not_false, Bool.false_eq_true, Nat.sub_self, binD, cmpD, alc_f, dwipe, leD_ii, ltD_ii, gtD_ii, addD_ii, mulD_ii, eqD_ii, len_tup, len_lst, len_str, int_int, int_bl, tuple_lst, tuple_tup, N__law_read_whole, List.length_map]
  rw [wS]
  simp only [wE_v, wE_non, wE_bl, wE_int, wE_str, wE_gc, wE_tup, wE_lst, wE_dic0, wE_dicS, wE_bin, wE_cmp, wE_chn, wE_and, wE_or, wE_not, wE_neg, wE_ife, wE_idx, wE_slc, wE_rev, wE_fld, wE_call, wE_meth, wE_make, wE_blt, wE_bm, wE_isi, wE_xf, wE_xi, wTg_nm, wTg_tp, wTg_fld, wTg_sub, wIt_seq, wIt_rng0, wIt_rng1, wIt_enu, wIt_zip, wS_set, wS_expr, wS_ret, wS_retN, wS_ife, wS_raise, wS_try, wS_pass, wS_brk, wS_cont, wS_augN, wS_augF, wS_augS, wEs, wO, wAll, wTgs, wB, List.cons_append, List.nil_append, List.getElem?_cons_zero, List.getElem?_cons_succ, List.set_cons_zero, List.set_cons_succ, Option.some.injEq, exists_eq_left', D.bl.injEq, D.int.injEq, List.map_cons, List.map_nil, List.length_cons, List.length_nil, List.replicate, List.append_eq, Nat.reduceAdd, Nat.reduceSub, Nat.zero_add, Nat.add_zero, Nat.sub_zero, List.any_cons, List.any_nil, Bool.or_false, rd_int, rd_bl, rd_str, rd_non, rd_tup, rd_lst, rd_stl, reduceIte, Bool.not_true, Bool.not_false, Bool.false_eq_true, Nat.sub_self, binD, cmpD, alc_f, dwipe, leD_ii, ltD_ii, gtD_ii, addD_ii, mulD_ii, eqD_ii, len_tup, len_lst, len_str, int_int, int_bl, tuple_lst, tuple_tup, List.length_map]
  refine ⟨_, _, rfl, rfl, by omega, by omega, by omega, by omega, by omega, fun hz => ⟨fun i σ H' => ∃ o, σ = [some (.tup (row.map .int)), some (.int a), o, none, none] ∧ H' = H ∧ i ≤ row.length - a ∧ ∀ b ∈ (row.drop a).take i, ¬ b < 128, ⟨none, rfl, rfl, Nat.zero_le _, fun b hb => by cases hb⟩, fun _ _ _ _ => trivial, ?_, ?_⟩⟩
  · rintro i d σ H' hi ⟨o, rfl, rfl, h1, h2⟩
    have hi' : i < row.length - a := by
      have := (List.getElem?_eq_some_iff.mp hi).1
      rw [rangeD_len] at this
      omega
    rw [rangeD_get _ _ _ (by omega)] at hi
    cases hi
    obtain ⟨b, hb⟩ : ∃ b, row[a + i]? = some b := ⟨_, List.getElem?_eq_getElem (by omega)⟩
    have ed : (row.drop a)[i]? = some b := by rw [List.getElem?_drop]; exact hb
    have ix : L2.atI (row.map D.int) ((a : Int) + 1 + i - 1) = some (.int b) := by
      rw [show (a : Int) + 1 + i - 1 = ((a + i : Nat) : Int) by omega]
      exact atI_ints hb
    simp only [wE_v, wE_non, wE_bl, wE_int, wE_str, wE_gc, wE_tup, wE_lst, wE_dic0, wE_dicS, wE_bin, wE_cmp, wE_chn, wE_and, wE_or, wE_not, wE_neg, wE_ife, wE_idx, wE_slc, wE_rev, wE_fld, wE_call, wE_meth, wE_make, wE_blt, wE_bm, wE_isi, wE_xf, wE_xi, wTg_nm, wTg_tp, wTg_fld, wTg_sub, wIt_seq, wIt_rng0, wIt_rng1, wIt_enu, wIt_zip, wS_set, wS_expr, wS_ret, wS_retN, wS_ife, wS_raise, wS_try, wS_pass, wS_brk, wS_cont, wS_augN, wS_augF, wS_augS, wEs, wO, wAll, wTgs, wB, List.cons_append, List.nil_append, List.getElem?_cons_zero, List.getElem?_cons_succ, List.set_cons_zero, List.set_cons_succ, Option.some.injEq, exists_eq_left', D.bl.injEq, D.int.injEq, List.map_cons, List.map_nil, List.length_cons, List.length_nil, List.replicate, List.append_eq, Nat.reduceAdd, Nat.reduceSub, Nat.zero_add, Nat.add_zero, Nat.sub_zero, List.any_cons, List.any_nil, Bool.or_false, rd_int, rd_bl, rd_str, rd_non, rd_tup, rd_lst, rd_stl, reduceIte, Bool.not_true, Bool.not_false, Bool.false_eq_true, Nat.sub_self, binD, cmpD, alc_f, dwipe, leD_ii, ltD_ii, gtD_ii, addD_ii, mulD_ii, eqD_ii, len_tup, len_lst, len_str, int_int, int_bl, tuple_lst, tuple_tup]
    refine ⟨_, .int b, rfl, ix, ?_⟩
    simp only [wE_v, wE_non, wE_bl, wE_int, wE_str, wE_gc, wE_tup, wE_lst, wE_dic0, wE_dicS, wE_bin, wE_cmp, wE_chn, wE_and, wE_or, wE_not, wE_neg, wE_ife, wE_idx, wE_slc, wE_rev, wE_fld, wE_call, wE_meth, wE_make, wE_blt, wE_bm, wE_isi, wE_xf, wE_xi, wTg_nm, wTg_tp, wTg_fld, wTg_sub, wIt_seq, wIt_rng0, wIt_rng1, wIt_enu, wIt_zip, wS_set, wS_expr, wS_ret, wS_retN, wS_ife, wS_raise, wS_try, wS_pass, wS_brk, wS_cont, wS_augN, wS_augF, wS_augS, wEs, wO, wAll, wTgs, wB, List.cons_append, List.nil_append, List.getElem?_cons_zero, List.getElem?_cons_succ, List.set_cons_zero, List.set_cons_succ, Option.some.injEq, exists_eq_left', D.bl.injEq, D.int.injEq, List.map_cons, List.map_nil, List.length_cons, List.length_nil, List.replicate, List.append_eq, Nat.reduceAdd, Nat.reduceSub, Nat.zero_add, Nat.add_zero, Nat.sub_zero, List.any_cons, List.any_nil, Bool.or_false, rd_int, rd_bl, rd_str, rd_non, rd_tup, rd_lst, rd_stl, reduceIte, Bool.not_true, Bool.not_false, Bool.false_eq_true, Nat.sub_self, binD, cmpD, alc_f, dwipe, leD_ii, ltD_ii, gtD_ii, addD_ii, mulD_ii, eqD_ii, len_tup, len_lst, len_str, int_int, int_bl, tuple_lst, tuple_tup]
    have es : row.drop a = (row.drop a).take i ++ (b :: (row.drop a).drop (i + 1)) := by
      have h3 := (List.getElem?_eq_some_iff.mp ed)
      conv => lhs; rw [← List.take_append_drop i (row.drop a)]
      rw [List.drop_eq_getElem_cons h3.1, h3.2]
    have hlen : ((row.drop a).take i).length = i := by rw [List.length_take, List.length_drop]; omega
    by_cases c : b < 128
    · rw [if_pos (decide_eq_true c)]
      have er : rgo (row.drop a) 0 0 1 = if b = 0 ∧ 0 < i then none else some (lev ((row.drop a).take (i + 1)), i + 1) := by
        rw [take_snoc ed, lev_snoc, hlen]
        conv => lhs; rw [es]
        rw [rgo_pre _ _ _ _ _ h2, rgo, if_pos c, hlen]
        simp only [Nat.zero_add, Int.zero_add, Int.mul_one, Int.one_mul]
      unfold rdW at q
      rw [er] at q
      refine ⟨_, .int b, rfl, ix, ?_⟩
      simp only [wE_v, wE_non, wE_bl, wE_int, wE_str, wE_gc, wE_tup, wE_lst, wE_dic0, wE_dicS, wE_bin, wE_cmp, wE_chn, wE_and, wE_or, wE_not, wE_neg, wE_ife, wE_idx, wE_slc, wE_rev, wE_fld, wE_call, wE_meth, wE_make, wE_blt, wE_bm, wE_isi, wE_xf, wE_xi, wTg_nm, wTg_tp, wTg_fld, wTg_sub, wIt_seq, wIt_rng0, wIt_rng1, wIt_enu, wIt_zip, wS_set, wS_expr, wS_ret, wS_retN, wS_ife, wS_raise, wS_try, wS_pass, wS_brk, wS_cont, wS_augN, wS_augF, wS_augS, wEs, wO, wAll, wTgs, wB, List.cons_append, List.nil_append, List.getElem?_cons_zero, List.getElem?_cons_succ, List.set_cons_zero, List.set_cons_succ, Option.some.injEq, exists_eq_left', D.bl.injEq, D.int.injEq, List.map_cons, List.map_nil, List.length_cons, List.length_nil, List.replicate, List.append_eq, Nat.reduceAdd, Nat.reduceSub, Nat.zero_add, Nat.add_zero, Nat.sub_zero, List.any_cons, List.any_nil, Bool.or_false, rd_int, rd_bl, rd_str, rd_non, rd_tup, rd_lst, rd_stl, reduceIte, Bool.not_true, Bool.not_false, Bool.false_eq_true, Nat.sub_self, binD, cmpD, alc_f, dwipe, leD_ii, ltD_ii, gtD_ii, addD_ii, mulD_ii, eqD_ii, len_tup, len_lst, len_str, int_int, int_bl, tuple_lst, tuple_tup]
      by_cases c0 : b = 0 ∧ 0 < i
      · rw [if_pos (decide_eq_true c0.1), if_pos (decide_eq_true (by omega))]
        rw [if_pos c0] at q
        exact Fz0 q
      · rw [if_neg c0] at q
        have q' : Q (.tup [.int (lev ((row.drop a).take (i + 1))), .int ((a : Int) + 1 + i)]) H' := by
          rw [show (a : Int) + 1 + i = ((a + (i + 1) : Nat) : Int) by omega]
          exact q
        by_cases c1 : b = 0
        · rw [if_pos (decide_eq_true c1), if_neg (by rw [decide_eq_false (by omega)]; simp)]
          exact lrw_in fun o => ⟨_, rfl, _, rfl, Fz0 q'⟩
        · rw [if_neg (by rw [decide_eq_false c1]; simp)]
          exact lrw_in fun o => ⟨_, rfl, _, rfl, Fz0 q'⟩
    · rw [if_neg (by rw [decide_eq_false c]; simp)]
      refine Fz.here ⟨_, rfl, rfl, by omega, ?_⟩
      rw [take_snoc ed]
      intro b' hb'
      rcases List.mem_append.mp hb' with h | h
      · exact h2 b' h
      · cases List.mem_singleton.mp h; exact c
  · rintro σ H' ⟨o, rfl, rfl, h1, h2⟩
    simp only [wE_v, wE_non, wE_bl, wE_int, wE_str, wE_gc, wE_tup, wE_lst, wE_dic0, wE_dicS, wE_bin, wE_cmp, wE_chn, wE_and, wE_or, wE_not, wE_neg, wE_ife, wE_idx, wE_slc, wE_rev, wE_fld, wE_call, wE_meth, wE_make, wE_blt, wE_bm, wE_isi, wE_xf, wE_xi, wTg_nm, wTg_tp, wTg_fld, wTg_sub, wIt_seq, wIt_rng0, wIt_rng1, wIt_enu, wIt_zip, wS_set, wS_expr, wS_ret, wS_retN, wS_ife, wS_raise, wS_try, wS_pass, wS_brk, wS_cont, wS_augN, wS_augF, wS_augS, wEs, wO, wAll, wTgs, wB, List.cons_append, List.nil_append, List.getElem?_cons_zero, List.getElem?_cons_succ, List.set_cons_zero, List.set_cons_succ, Option.some.injEq, exists_eq_left', D.bl.injEq, D.int.injEq, List.map_cons, List.map_nil, List.length_cons, List.length_nil, List.replicate, List.append_eq, Nat.reduceAdd, Nat.reduceSub, Nat.zero_add, Nat.add_zero, Nat.sub_zero, List.any_cons, List.any_nil, Bool.or_false, rd_int, rd_bl, rd_str, rd_non, rd_tup, rd_lst, rd_stl, reduceIte, Bool.not_true, Bool.not_false, Bool.false_eq_true, Nat.sub_self, binD, cmpD, alc_f, dwipe, leD_ii, ltD_ii, gtD_ii, addD_ii, mulD_ii, eqD_ii, len_tup, len_lst, len_str, int_int, int_bl, tuple_lst, tuple_tup]
    refine Fz0 ?_
    have er : rgo (row.drop a) 0 0 1 = none := by
      rw [rangeD_len] at h2
      have : (row.drop a).take ((row.length : Int) + 1 - (a + 1)).toNat = row.drop a ++ [] := by
        rw [List.append_nil, List.take_of_length_le (by rw [List.length_drop]; omega)]
      rw [this, List.append_nil] at h2
      rw [← List.append_nil (row.drop a), rgo_pre _ _ _ _ _ h2]; rfl
    unfold rdW at q
    rw [er] at q
    exact q
end Sp

set_option maxRecDepth 100000
set_option maxHeartbeats 1000000
namespace Sp
open PySem DL Ir
def encP : Except Nat (D × Nat) → D
  | .ok (d, e) => .tup [.tup [d], .int (e : Nat)]
  | .error e => .tup [.non, .int (e : Nat)]
/-- a string, its length being read -/
def rdS (row : List Int) (b : Nat) (m : Int) (a1 : Nat) : Except Nat (D × Nat) := if 1 ≤ m ∧ m ≤ 20 then (match rdT row m.toNat a1 with | .ok (cs, e) => .ok (.str ⟨cs.toArray⟩, e) | .error e => .error e) else .error b
theorem rdStr_rdS {row : List Int} {a : Nat} : rdStr row a = match rdW row a with | none => .error a | some (m, a1) => rdS row a m a1 := rfl
def spLRS : DSp := fun ds H Q _ => ∃ (row : List Int) (b : Nat) (m : Int) (a1 : Nat), ds = [.tup (row.map .int), .int b, .int m, .int a1] ∧ a1 ≤ row.length ∧ row.length ≤ 2000000 ∧ Q (encP (rdS row b m a1)) H
def sg : D → D
  | .int b => .str ⟨#[b.toNat]⟩
  | _ => .non
theorem toSs_sg : ∀ cs : List Nat, toSs (((cs.map fun (c : Nat) => (c : Int)).map D.int).map sg) = some (cs.map fun c => ⟨#[c]⟩)
  | [] => rfl
  | c :: cs => by
    simp only [List.map_cons, sg, toSs]
    rw [toSs_sg cs]
    simp
theorem join_sg : ∀ cs : List Nat, Txt.join "" (cs.map fun c => (⟨#[c]⟩ : Str)) = ⟨cs.toArray⟩ := by
  intro cs
  rw [TL.join_eq]
  induction cs with
  | nil => rfl
  | cons c cs ih =>
    cases cs with
    | nil => rfl
    | cons c2 cs =>
      show (⟨#[c]⟩ : Str) ++ "" ++ Str.join "" ((c2 :: cs).map fun c => (⟨#[c]⟩ : Str)) = _
      rw [ih]
      show (⟨#[c] ++ #[] ++ (c2 :: cs).toArray⟩ : Str) = _
      simp
theorem sum_ones : ∀ cs : List Nat, ((cs.map fun c => (⟨#[c]⟩ : Str)).map fun s => s.length).sum = cs.length
  | [] => rfl
  | c :: cs => by simp only [List.map_cons, List.sum_cons, sum_ones cs, List.length_cons]; show 1 + _ = _; omega
theorem min_ii {m : Bool} {i j : Int} {H : DH} {Q : DK} : bltD .min m [.int i, .int j] H Q = Q (.int (if j < i then j else i)) H := rfl
theorem rdT_at_inv : ∀ {row : List Int} {k a : Nat} {cs : List Nat} {e : Nat}, rdT row k a = .ok (cs, e) → e = a + k ∧ (row.drop a).take k = cs.map (fun (c : Nat) => (c : Int)) ∧ (cs.all fun c => isSign c) = true ∧ cs.length = k
  | row, 0, a, cs, e, h => by cases h; exact ⟨rfl, by simp, rfl, rfl⟩
  | row, k + 1, a, cs, e, h => by
    rw [rdT] at h
    split at h
    · cases h
    · rename_i b hb
      have h3 := (List.getElem?_eq_some_iff.mp hb)
      split at h
      · rename_i hs
        split at h
        · rename_i cs' e' h'
          cases h
          obtain ⟨h1, h2, h4, h5⟩ := rdT_at_inv h'
          have hb0 : ((b.toNat : Nat) : Int) = b := by have := (isSign_i hs).1; omega
          refine ⟨by omega, ?_, ?_, by rw [List.length_cons, h5]⟩
          · rw [List.drop_eq_getElem_cons h3.1, h3.2, List.take_succ_cons, h2, List.map_cons, hb0]
          · rw [List.all_cons, hb0, hs, h4]; rfl
        · cases h
      · cases h
/-- where the signs stop -/
theorem rdT_err : ∀ {row : List Int} {k a : Nat}, (∀ i, i < k → ∃ b, row[a + i]? = some b ∧ isSign b = true) → ∃ cs, rdT row k a = .ok (cs, a + k)
  | row, 0, a, _ => ⟨[], rfl⟩
  | row, k + 1, a, h => by
    obtain ⟨b, hb, hs⟩ := h 0 (by omega)
    obtain ⟨cs, hc⟩ := rdT_err (row := row) (k := k) (a := a + 1) fun i hi => by
      obtain ⟨b, hb, hs⟩ := h (i + 1) (by omega)
      exact ⟨b, by rw [show a + 1 + i = a + (i + 1) by omega]; exact hb, hs⟩
    refine ⟨b.toNat :: cs, ?_⟩
    rw [rdT, show row[a]? = some b from hb]
    simp only
    rw [if_pos hs, hc]
    simp only
    rw [show a + 1 + k = a + (k + 1) by omega]
theorem rdT_stop : ∀ {row : List Int} {k a i : Nat}, i < k → (∀ j, j < i → ∃ b, row[a + j]? = some b ∧ isSign b = true) → (∀ b, row[a + i]? = some b → isSign b = false) → rdT row k a = .error (if a + i < row.length then a + i else row.length)
  | row, k + 1, a, 0, _, h, h0 => by
    rw [rdT]
    cases hb : row[a]? with
    | none =>
      have := List.getElem?_eq_none_iff.mp hb
      rw [if_neg (by omega)]
    | some b =>
      have := (List.getElem?_eq_some_iff.mp hb).1
      rw [if_pos (by omega)]
      simp only
      rw [if_neg (by rw [h0 b hb]; simp)]; rfl
  | row, k + 1, a, i + 1, hi, h, h0 => by
    obtain ⟨b, hb, hs⟩ := h 0 (by omega)
    rw [rdT, show row[a]? = some b from hb]
    simp only
    rw [if_pos hs, rdT_stop (i := i) (by omega) (fun j hj => by
      obtain ⟨b, hb, hs⟩ := h (j + 1) (by omega)
      exact ⟨b, by rw [show a + 1 + j = a + (j + 1) by omega]; exact hb, hs⟩) (fun b hb => h0 b (by rw [show a + (i + 1) = a + 1 + i by omega]; exact hb))]
    simp only
    rw [show a + 1 + i = a + (i + 1) by omega]
theorem sat_lrs {G : Gam} (h1 : G.fn "_law_sign" = spSign) : Sat G N__law_read_string.length ir__law_read_string spLRS := by
  rintro vs H Q E ⟨row, bg, m, a, rfl, ha, hl, q⟩
  unfold ir__law_read_string
  simp only [wE_v, wE_non, wE_bl, wE_int, wE_str, wE_gc, wE_tup, wE_lst, wE_dic0, wE_dicS, wE_bin, wE_cmp, wE_chn, wE_and, wE_or, wE_not, wE_neg, wE_ife, wE_idx, wE_slc, wE_rev, wE_fld, wE_call, wE_meth, wE_make, wE_blt, wE_bm, wE_isi, wE_xf, wE_xi, wTg_nm, wTg_tp, wTg_fld, wTg_sub, wIt_seq, wIt_rng0, wIt_rng1, wIt_enu, wIt_zip, wS_set, wS_expr, wS_ret, wS_retN, wS_ife, wS_raise, wS_try, wS_pass, wS_brk, wS_cont, wS_augN, wS_augF, wS_augS, wEs, wO, wAll, wTgs, wB, List.cons_append, List.nil_append, List.getElem?_cons_zero, List.getElem?_cons_succ, List.set_cons_zero, List.set_cons_succ, Option.some.injEq, exists_eq_left', D.bl.injEq, D.int.injEq, List.map_cons, List.map_nil, List.length_cons, List.length_nil, List.replicate, List.append_eq, Nat.reduceAdd, Nat.reduceSub, Nat.zero_add, Nat.add_zero, Nat.sub_zero, List.any_cons, List.any_nil, Bool.or_false, rd_int, rd_bl, rd_str, rd_non, rd_tup, rd_lst, rd_stl, reduceIte, Bool.not_true, Bool.not_false, Bool.false_eq_true, Nat.sub_self, binD, cmpD, alc_f, dwipe, leD_ii, ltD_ii, gtD_ii, addD_ii, mulD_ii, eqD_ii, len_tup, len_lst, len_str, int_int, int_bl, tuple_lst, tuple_tup, N__law_read_string]
  unfold rdS at q
  by_cases c1 : 1 ≤ m
  · rw [if_pos (decide_eq_true c1)]
    by_cases c2 : m ≤ 20
    · rw [if_neg (by rw [decide_eq_true c2]; simp)]
      rw [if_pos ⟨c1, c2⟩] at q
      rw [wS]
      simp only [wE_v, wE_non, wE_bl, wE_int, wE_str, wE_gc, wE_tup, wE_lst, wE_dic0, wE_dicS, wE_bin, wE_cmp, wE_chn, wE_and, wE_or, wE_not, wE_neg, wE_ife, wE_idx, wE_slc, wE_rev, wE_fld, wE_call, wE_meth, wE_make, wE_blt, wE_bm, wE_isi, wE_xf, wE_xi, wTg_nm, wTg_tp, wTg_fld, wTg_sub, wIt_seq, wIt_rng0, wIt_rng1, wIt_enu, wIt_zip, wS_set, wS_expr, wS_ret, wS_retN, wS_ife, wS_raise, wS_try, wS_pass, wS_brk, wS_cont, wS_augN, wS_augF, wS_augS, wEs, wO, wAll, wTgs, wB, List.cons_append, List.nil_append, List.getElem?_cons_zero, List.getElem?_cons_succ, List.set_cons_zero, List.set_cons_succ, Option.some.injEq, exists_eq_left', D.bl.injEq, D.int.injEq, List.map_cons, List.map_nil, List.length_cons, List.length_nil, List.replicate, List.append_eq, Nat.reduceAdd, Nat.reduceSub, Nat.zero_add, Nat.add_zero, Nat.sub_zero, List.any_cons, List.any_nil, Bool.or_false, rd_int, rd_bl, rd_str, rd_non, rd_tup, rd_lst, rd_stl, reduceIte, Bool.not_true, Bool.not_false, Bool.false_eq_true, Nat.sub_self, binD, cmpD, alc_f, dwipe, leD_ii, ltD_ii, gtD_ii, addD_ii, mulD_ii, eqD_ii, len_tup, len_lst, len_str, int_int, int_bl, tuple_lst, tuple_tup]
      refine ⟨_, _, rfl, rfl, by omega, by omega, by omega, by omega, by omega, fun hz => ⟨fun i σ H' => ∃ o, σ = [some (.tup (row.map .int)), some (.int bg), some (.int m), some (.int a), o, none] ∧ H' = H ∧ i ≤ m.toNat ∧ ∀ j, j < i → ∃ b, row[a + j]? = some b ∧ isSign b = true, ⟨none, rfl, rfl, Nat.zero_le _, fun j hj => by omega⟩, fun _ _ _ _ => trivial, ?_, ?_⟩⟩
      · rintro i d σ H' hi ⟨o, rfl, rfl, h2, h3⟩
        have hi' : i < m.toNat := by
          have := (List.getElem?_eq_some_iff.mp hi).1
          rw [rangeD_len] at this
          omega
        rw [rangeD_get _ _ _ (by omega)] at hi
        cases hi
        simp only [wE_v, wE_non, wE_bl, wE_int, wE_str, wE_gc, wE_tup, wE_lst, wE_dic0, wE_dicS, wE_bin, wE_cmp, wE_chn, wE_and, wE_or, wE_not, wE_neg, wE_ife, wE_idx, wE_slc, wE_rev, wE_fld, wE_call, wE_meth, wE_make, wE_blt, wE_bm, wE_isi, wE_xf, wE_xi, wTg_nm, wTg_tp, wTg_fld, wTg_sub, wIt_seq, wIt_rng0, wIt_rng1, wIt_enu, wIt_zip, wS_set, wS_expr, wS_ret, wS_retN, wS_ife, wS_raise, wS_try, wS_pass, wS_brk, wS_cont, wS_augN, wS_augF, wS_augS, wEs, wO, wAll, wTgs, wB, List.cons_append, List.nil_append, List.getElem?_cons_zero, List.getElem?_cons_succ, List.set_cons_zero, List.set_cons_succ, Option.some.injEq, exists_eq_left', D.bl.injEq, D.int.injEq, List.map_cons, List.map_nil, List.length_cons, List.length_nil, List.replicate, List.append_eq, Nat.reduceAdd, Nat.reduceSub, Nat.zero_add, Nat.add_zero, Nat.sub_zero, List.any_cons, List.any_nil, Bool.or_false, rd_int, rd_bl, rd_str, rd_non, rd_tup, rd_lst, rd_stl, reduceIte, Bool.not_true, Bool.not_false, Bool.false_eq_true, Nat.sub_self, binD, cmpD, alc_f, dwipe, leD_ii, ltD_ii, gtD_ii, addD_ii, mulD_ii, eqD_ii, len_tup, len_lst, len_str, int_int, int_bl, tuple_lst, tuple_tup, List.length_map, geD_ii, min_ii]
        have fin : (∀ b, row[a + i]? = some b → isSign b = false) → FzV (D.tup [D.non, D.int (if (row.length : Int) < (a : Int) + i then (row.length : Int) else (a : Int) + i)]) H' Q := by
          intro hn
          rw [rdT_stop hi' h3 hn] at q
          refine Fz0 ?_
          have : (if (row.length : Int) < (a : Int) + i then (row.length : Int) else (a : Int) + i) = ((if a + i < row.length then a + i else row.length : Nat) : Int) := by
            by_cases c : a + i < row.length
            · rw [if_pos c, if_neg (by omega)]; omega
            · rw [if_neg c]; split <;> omega
          rw [this]
          exact q
        by_cases c3 : row.length ≤ a + i
        · rw [if_pos (decide_eq_true (by omega))]
          exact fin fun b hb => by rw [List.getElem?_eq_none c3] at hb; cases hb
        · rw [if_neg (by rw [decide_eq_false (by omega)]; simp)]
          obtain ⟨b, hb⟩ : ∃ b, row[a + i]? = some b := ⟨_, List.getElem?_eq_getElem (by omega)⟩
          have ix : L2.atI (row.map D.int) ((a : Int) + i) = some (.int b) := by
            rw [show (a : Int) + i = ((a + i : Nat) : Int) by omega]
            exact atI_ints hb
          refine ⟨_, .int b, rfl, ix, ?_⟩
          simp only [wE_v, wE_non, wE_bl, wE_int, wE_str, wE_gc, wE_tup, wE_lst, wE_dic0, wE_dicS, wE_bin, wE_cmp, wE_chn, wE_and, wE_or, wE_not, wE_neg, wE_ife, wE_idx, wE_slc, wE_rev, wE_fld, wE_call, wE_meth, wE_make, wE_blt, wE_bm, wE_isi, wE_xf, wE_xi, wTg_nm, wTg_tp, wTg_fld, wTg_sub, wIt_seq, wIt_rng0, wIt_rng1, wIt_enu, wIt_zip, wS_set, wS_expr, wS_ret, wS_retN, wS_ife, wS_raise, wS_try, wS_pass, wS_brk, wS_cont, wS_augN, wS_augF, wS_augS, wEs, wO, wAll, wTgs, wB, List.cons_append, List.nil_append, List.getElem?_cons_zero, List.getElem?_cons_succ, List.set_cons_zero, List.set_cons_succ, Option.some.injEq, exists_eq_left', D.bl.injEq, D.int.injEq, List.map_cons, List.map_nil, List.length_cons, List.length_nil, List.replicate, List.append_eq, Nat.reduceAdd, Nat.reduceSub, Nat.zero_add, Nat.add_zero, Nat.sub_zero, List.any_cons, List.any_nil, Bool.or_false, rd_int, rd_bl, rd_str, rd_non, rd_tup, rd_lst, rd_stl, reduceIte, Bool.not_true, Bool.not_false, Bool.false_eq_true, Nat.sub_self, binD, cmpD, alc_f, dwipe, leD_ii, ltD_ii, gtD_ii, addD_ii, mulD_ii, eqD_ii, len_tup, len_lst, len_str, int_int, int_bl, tuple_lst, tuple_tup]
          have nx : isSign b = true → Fz [some (.tup (row.map .int)), some (.int bg), some (.int m), some (.int a), some (.int ((a : Int) + i)), none] H' (fun σ H'_1 => ∃ o, σ = [some (.tup (row.map .int)), some (.int bg), some (.int m), some (.int a), o, none] ∧ H'_1 = H' ∧ i + 1 ≤ m.toNat ∧ ∀ j, j < i + 1 → ∃ b, row[a + j]? = some b ∧ isSign b = true) := by
            intro hs
            refine Fz.here ⟨_, rfl, rfl, by omega, fun j hj => ?_⟩
            by_cases c : j < i
            · exact h3 j c
            · rw [show j = i by omega]; exact ⟨b, hb, hs⟩
          have fin' : isSign b = false → _ := fun hs => fin fun b' hb' => by rw [hb] at hb'; cases hb'; exact hs
          by_cases d1 : 32 ≤ b
          · rw [if_pos (decide_eq_true d1)]
            by_cases d2 : b ≤ 126
            · rw [if_neg (by rw [decide_eq_true d2]; simp)]
              refine ⟨_, .int b, rfl, ix, ?_⟩
              simp only [wE_v, wE_non, wE_bl, wE_int, wE_str, wE_gc, wE_tup, wE_lst, wE_dic0, wE_dicS, wE_bin, wE_cmp, wE_chn, wE_and, wE_or, wE_not, wE_neg, wE_ife, wE_idx, wE_slc, wE_rev, wE_fld, wE_call, wE_meth, wE_make, wE_blt, wE_bm, wE_isi, wE_xf, wE_xi, wTg_nm, wTg_tp, wTg_fld, wTg_sub, wIt_seq, wIt_rng0, wIt_rng1, wIt_enu, wIt_zip, wS_set, wS_expr, wS_ret, wS_retN, wS_ife, wS_raise, wS_try, wS_pass, wS_brk, wS_cont, wS_augN, wS_augF, wS_augS, wEs, wO, wAll, wTgs, wB, List.cons_append, List.nil_append, List.getElem?_cons_zero, List.getElem?_cons_succ, List.set_cons_zero, List.set_cons_succ, Option.some.injEq, exists_eq_left', D.bl.injEq, D.int.injEq, List.map_cons, List.map_nil, List.length_cons, List.length_nil, List.replicate, List.append_eq, Nat.reduceAdd, Nat.reduceSub, Nat.zero_add, Nat.add_zero, Nat.sub_zero, List.any_cons, List.any_nil, Bool.or_false, rd_int, rd_bl, rd_str, rd_non, rd_tup, rd_lst, rd_stl, reduceIte, Bool.not_true, Bool.not_false, Bool.false_eq_true, Nat.sub_self, binD, cmpD, alc_f, dwipe, leD_ii, ltD_ii, gtD_ii, addD_ii, mulD_ii, eqD_ii, len_tup, len_lst, len_str, int_int, int_bl, tuple_lst, tuple_tup]
              by_cases d3 : b = 37
              · rw [if_pos (decide_eq_true d3)]
                exact fin' (by rw [d3]; rfl)
              · rw [if_neg (by rw [decide_eq_false d3]; simp)]
                exact nx (by simp [isSign, d1, d2, d3])
            · rw [if_pos (by rw [decide_eq_false d2]; rfl)]
              exact fin' (by simp [isSign, d2])
          · rw [if_neg (by rw [decide_eq_false d1]; simp)]
            exact fin' (by simp [isSign, d1])
      · rintro σ H' ⟨o, rfl, rfl, h2, h3⟩
        rw [rangeD_len] at h2 h3
        obtain ⟨cs, hc⟩ := rdT_err (row := row) (k := m.toNat) (a := a) fun i hi => h3 i (by omega)
        obtain ⟨i1, i2, i3, i4⟩ := rdT_at_inv hc
        rw [hc] at q
        have e : dcut (row.map D.int) (some (a : Int)) (some ((a : Int) + m)) = (cs.map fun (c : Nat) => (c : Int)).map D.int := by
          rw [show (a : Int) + m = ((a + m.toNat : Nat) : Int) by omega, dcut_map, dcut_both, ← i2]
          congr 2; omega
        simp only [wE_v, wE_non, wE_bl, wE_int, wE_str, wE_gc, wE_tup, wE_lst, wE_dic0, wE_dicS, wE_bin, wE_cmp, wE_chn, wE_and, wE_or, wE_not, wE_neg, wE_ife, wE_idx, wE_slc, wE_rev, wE_fld, wE_call, wE_meth, wE_make, wE_blt, wE_bm, wE_isi, wE_xf, wE_xi, wTg_nm, wTg_tp, wTg_fld, wTg_sub, wIt_seq, wIt_rng0, wIt_rng1, wIt_enu, wIt_zip, wS_set, wS_expr, wS_ret, wS_retN, wS_ife, wS_raise, wS_try, wS_pass, wS_brk, wS_cont, wS_augN, wS_augF, wS_augS, wEs, wO, wAll, wTgs, wB, List.cons_append, List.nil_append, List.getElem?_cons_zero, List.getElem?_cons_succ, List.set_cons_zero, List.set_cons_succ, Option.some.injEq, exists_eq_left', D.bl.injEq, D.int.injEq, List.map_cons, List.map_nil, List.length_cons, List.length_nil, List.replicate, List.append_eq, Nat.reduceAdd, Nat.reduceSub, Nat.zero_add, Nat.add_zero, Nat.sub_zero, List.any_cons, List.any_nil, Bool.or_false, rd_int, rd_bl, rd_str, rd_non, rd_tup, rd_lst, rd_stl, reduceIte, Bool.not_true, Bool.not_false, Bool.false_eq_true, Nat.sub_self, binD, cmpD, alc_f, dwipe, leD_ii, ltD_ii, gtD_ii, addD_ii, mulD_ii, eqD_ii, len_tup, len_lst, len_str, int_int, int_bl, tuple_lst, tuple_tup]
        refine ⟨rfl, ?_⟩
        refine comp_map (ds := (cs.map fun (c : Nat) => (c : Int)).map D.int) (st := fun _ => seqOf (.tup ((cs.map fun (c : Nat) => (c : Int)).map D.int)) = some ((cs.map fun (c : Nat) => (c : Int)).map D.int)) sg ?_ (fun _ _ _ => rfl) ?_ ?_
        · intro K hK
          simp only [wE_v, wE_non, wE_bl, wE_int, wE_str, wE_gc, wE_tup, wE_lst, wE_dic0, wE_dicS, wE_bin, wE_cmp, wE_chn, wE_and, wE_or, wE_not, wE_neg, wE_ife, wE_idx, wE_slc, wE_rev, wE_fld, wE_call, wE_meth, wE_make, wE_blt, wE_bm, wE_isi, wE_xf, wE_xi, wTg_nm, wTg_tp, wTg_fld, wTg_sub, wIt_seq, wIt_rng0, wIt_rng1, wIt_enu, wIt_zip, wS_set, wS_expr, wS_ret, wS_retN, wS_ife, wS_raise, wS_try, wS_pass, wS_brk, wS_cont, wS_augN, wS_augF, wS_augS, wEs, wO, wAll, wTgs, wB, List.cons_append, List.nil_append, List.getElem?_cons_zero, List.getElem?_cons_succ, List.set_cons_zero, List.set_cons_succ, Option.some.injEq, exists_eq_left', D.bl.injEq, D.int.injEq, List.map_cons, List.map_nil, List.length_cons, List.length_nil, List.replicate, List.append_eq, Nat.reduceAdd, Nat.reduceSub, Nat.zero_add, Nat.add_zero, Nat.sub_zero, List.any_cons, List.any_nil, Bool.or_false, rd_int, rd_bl, rd_str, rd_non, rd_tup, rd_lst, rd_stl, reduceIte, Bool.not_true, Bool.not_false, Bool.false_eq_true, Nat.sub_self, binD, cmpD, alc_f, dwipe, leD_ii, ltD_ii, gtD_ii, addD_ii, mulD_ii, eqD_ii, len_tup, len_lst, len_str, int_int, int_bl, tuple_lst, tuple_tup, slc_tup, e]
          exact ⟨_, rfl, hK⟩
        · intro d hd p acc K hp hK
          rw [List.map_map] at hd
          obtain ⟨c, hcm, rfl⟩ := List.mem_map.mp hd
          simp only [wE_v, wE_non, wE_bl, wE_int, wE_str, wE_gc, wE_tup, wE_lst, wE_dic0, wE_dicS, wE_bin, wE_cmp, wE_chn, wE_and, wE_or, wE_not, wE_neg, wE_ife, wE_idx, wE_slc, wE_rev, wE_fld, wE_call, wE_meth, wE_make, wE_blt, wE_bm, wE_isi, wE_xf, wE_xi, wTg_nm, wTg_tp, wTg_fld, wTg_sub, wIt_seq, wIt_rng0, wIt_rng1, wIt_enu, wIt_zip, wS_set, wS_expr, wS_ret, wS_retN, wS_ife, wS_raise, wS_try, wS_pass, wS_brk, wS_cont, wS_augN, wS_augF, wS_augS, wEs, wO, wAll, wTgs, wB, List.cons_append, List.nil_append, List.getElem?_cons_zero, List.getElem?_cons_succ, List.set_cons_zero, List.set_cons_succ, Option.some.injEq, exists_eq_left', D.bl.injEq, D.int.injEq, List.map_cons, List.map_nil, List.length_cons, List.length_nil, List.replicate, List.append_eq, Nat.reduceAdd, Nat.reduceSub, Nat.zero_add, Nat.add_zero, Nat.sub_zero, List.any_cons, List.any_nil, Bool.or_false, rd_int, rd_bl, rd_str, rd_non, rd_tup, rd_lst, rd_stl, reduceIte, Bool.not_true, Bool.not_false, Bool.false_eq_true, Nat.sub_self, binD, cmpD, alc_f, dwipe, leD_ii, ltD_ii, gtD_ii, addD_ii, mulD_ii, eqD_ii, len_tup, len_lst, len_str, int_int, int_bl, tuple_lst, tuple_tup]
          refine hK _ fun K2 hK2 => ?_
          simp only [wE_v, wE_non, wE_bl, wE_int, wE_str, wE_gc, wE_tup, wE_lst, wE_dic0, wE_dicS, wE_bin, wE_cmp, wE_chn, wE_and, wE_or, wE_not, wE_neg, wE_ife, wE_idx, wE_slc, wE_rev, wE_fld, wE_call, wE_meth, wE_make, wE_blt, wE_bm, wE_isi, wE_xf, wE_xi, wTg_nm, wTg_tp, wTg_fld, wTg_sub, wIt_seq, wIt_rng0, wIt_rng1, wIt_enu, wIt_zip, wS_set, wS_expr, wS_ret, wS_retN, wS_ife, wS_raise, wS_try, wS_pass, wS_brk, wS_cont, wS_augN, wS_augF, wS_augS, wEs, wO, wAll, wTgs, wB, List.cons_append, List.nil_append, List.getElem?_cons_zero, List.getElem?_cons_succ, List.set_cons_zero, List.set_cons_succ, Option.some.injEq, exists_eq_left', D.bl.injEq, D.int.injEq, List.map_cons, List.map_nil, List.length_cons, List.length_nil, List.replicate, List.append_eq, Nat.reduceAdd, Nat.reduceSub, Nat.zero_add, Nat.add_zero, Nat.sub_zero, List.any_cons, List.any_nil, Bool.or_false, rd_int, rd_bl, rd_str, rd_non, rd_tup, rd_lst, rd_stl, reduceIte, Bool.not_true, Bool.not_false, Bool.false_eq_true, Nat.sub_self, binD, cmpD, alc_f, dwipe, leD_ii, ltD_ii, gtD_ii, addD_ii, mulD_ii, eqD_ii, len_tup, len_lst, len_str, int_int, int_bl, tuple_lst, tuple_tup, h1]
          exact ⟨_, rfl, List.all_eq_true.mp i3 c hcm, hK2⟩
        · rw [alc_f]
          refine ⟨_, _, _, rfl, rfl, toSs_sg cs, ?_, ?_⟩
          · rw [sum_ones, i4]
            show _ + _ * 0 ≤ _
            omega
          · rw [join_sg]
            refine Fz0 ?_
            rw [i1] at q
            rw [show (a : Int) + m = ((a + m.toNat : Nat) : Int) by omega]
            exact q
    · rw [if_neg (fun h => c2 h.2)] at q
      rw [if_pos (by rw [decide_eq_false c2]; rfl)]
      exact Fz0 q
  · rw [if_neg (fun h => c1 h.1)] at q
    rw [if_neg (by rw [decide_eq_false c1]; simp)]
    exact Fz0 q
end Sp

set_option maxRecDepth 100000
set_option maxHeartbeats 1000000
namespace Sp
open PySem DL Ir
def spLR (n : Nat) : DSp := fun ds H Q _ => ∃ (row : List Int) (a : Nat), ds = [.tup (row.map .int), .int a, .int n] ∧ bRow row ∧ row.length ≤ 2000000 ∧ Q (encP (rdP n row a)) H
theorem idx3 {b : Int} {x y z : D} {Q : D → Prop} (h : 0 ≤ b) (h3 : b < 3) (q : Q (if b = 0 then x else if b = 1 then y else z)) : idxD (.lst [x, y, z]) (.int b) Q := by
  have : b = 0 ∨ b = 1 ∨ b = 2 := by omega
  rcases this with rfl | rfl | rfl
  · exact ⟨_, x, rfl, rfl, q⟩
  · exact ⟨_, y, rfl, rfl, q⟩
  · exact ⟨_, z, rfl, rfl, q⟩
theorem sat_lr {G : Gam} (h1 : G.fn "_law_read_whole" = spLRW) (h2 : G.fn "_law_read_string" = spLRS) {n : Nat} (hc : n = 0 ∨ ∃ m, n = m + 1 ∧ G.fn "_law_read" = spLR m) : Sat G N__law_read.length ir__law_read (spLR n) := by
  rintro vs H Q E ⟨row, a, rfl, hbr, hl, q⟩
  unfold ir__law_read
  simp only [wE_v, wE_non, wE_bl, wE_int, wE_str, wE_gc, wE_tup, wE_lst, wE_dic0, wE_dicS, wE_bin, wE_cmp, wE_chn, wE_and, wE_or, wE_not, wE_neg, wE_ife, wE_idx, wE_slc, wE_rev, wE_fld, wE_call, wE_meth, wE_make, wE_blt, wE_bm, wE_isi, wE_xf, wE_xi, wTg_nm, wTg_tp, wTg_fld, wTg_sub, wIt_seq, wIt_rng0, wIt_rng1, wIt_enu, wIt_zip, wS_set, wS_expr, wS_ret, wS_retN, wS_ife, wS_raise, wS_try, wS_pass, wS_brk, wS_cont, wS_augN, wS_augF, wS_augS, wEs, wO, wAll, wTgs, wB, List.cons_append, List.nil_append, List.getElem?_cons_zero, List.getElem?_cons_succ, List.set_cons_zero, List.set_cons_succ, Option.some.injEq, exists_eq_left', D.bl.injEq, D.int.injEq, List.map_cons, List.map_nil, List.length_cons, List.length_nil, List.replicate, List.append_eq, Nat.reduceAdd, Nat.reduceSub, Nat.zero_add, Nat.add_zero, Nat.sub_zero, List.any_cons, List.any_nil, Bool.or_false, rd_int, rd_bl, rd_str, rd_non, rd_tup, rd_lst, rd_stl, reduceIte, Bool.not_true, Bool.not_false, Bool.false_eq_true, Nat.sub_self, binD, cmpD, alc_f, dwipe, leD_ii, ltD_ii, gtD_ii, addD_ii, mulD_ii, eqD_ii, len_tup, len_lst, len_str, int_int, int_bl, tuple_lst, tuple_tup, N__law_read, List.length_map, geD_ii]
  have hq : ∃ sev, Q (encP (rdC sev row a)) H ∧ ((n = 0 ∧ sev = none) ∨ ∃ m, n = m + 1 ∧ sev = some (rdSev (rdP m row) row) ∧ G.fn "_law_read" = spLR m) := by
    rcases hc with rfl | ⟨m, rfl, hm⟩
    · exact ⟨none, q, .inl ⟨rfl, rfl⟩⟩
    · exact ⟨_, q, .inr ⟨m, rfl, rfl, hm⟩⟩
  clear q
  obtain ⟨sev, q, hs⟩ := hq
  unfold rdC at q
  by_cases hlt : row.length ≤ a
  · rw [if_pos (decide_eq_true (by omega))]
    rw [List.getElem?_eq_none hlt] at q
    exact Fz0 q
  · rw [if_neg (by rw [decide_eq_false (by omega)]; simp)]
    obtain ⟨b, hb⟩ : ∃ b, row[a]? = some b := ⟨_, List.getElem?_eq_getElem (by omega)⟩
    have hby := hbr b (List.mem_of_getElem? hb)
    refine ⟨_, .int b, rfl, atI_ints hb, ?_⟩
    rw [hb] at q
    simp only [wE_v, wE_non, wE_bl, wE_int, wE_str, wE_gc, wE_tup, wE_lst, wE_dic0, wE_dicS, wE_bin, wE_cmp, wE_chn, wE_and, wE_or, wE_not, wE_neg, wE_ife, wE_idx, wE_slc, wE_rev, wE_fld, wE_call, wE_meth, wE_make, wE_blt, wE_bm, wE_isi, wE_xf, wE_xi, wTg_nm, wTg_tp, wTg_fld, wTg_sub, wIt_seq, wIt_rng0, wIt_rng1, wIt_enu, wIt_zip, wS_set, wS_expr, wS_ret, wS_retN, wS_ife, wS_raise, wS_try, wS_pass, wS_brk, wS_cont, wS_augN, wS_augF, wS_augS, wEs, wO, wAll, wTgs, wB, List.cons_append, List.nil_append, List.getElem?_cons_zero, List.getElem?_cons_succ, List.set_cons_zero, List.set_cons_succ, Option.some.injEq, exists_eq_left', D.bl.injEq, D.int.injEq, List.map_cons, List.map_nil, List.length_cons, List.length_nil, List.replicate, List.append_eq, Nat.reduceAdd, Nat.reduceSub, Nat.zero_add, Nat.add_zero, Nat.sub_zero, List.any_cons, List.any_nil, Bool.or_false, rd_int, rd_bl, rd_str, rd_non, rd_tup, rd_lst, rd_stl, reduceIte, Bool.not_true, Bool.not_false, Bool.false_eq_true, Nat.sub_self, binD, cmpD, alc_f, dwipe, leD_ii, ltD_ii, gtD_ii, addD_ii, mulD_ii, eqD_ii, len_tup, len_lst, len_str, int_int, int_bl, tuple_lst, tuple_tup] at q ⊢
    by_cases b6 : 6 < b
    · rw [if_pos b6] at q
      rw [if_pos (decide_eq_true b6)]
      exact Fz0 q
    · rw [if_neg b6] at q
      rw [if_neg (by rw [decide_eq_false b6]; simp)]
      by_cases e6 : b = 6
      · rw [if_pos e6] at q
        rw [if_pos (decide_eq_true e6)]
        rcases hs with ⟨rfl, rfl⟩ | ⟨m, rfl, rfl, hm⟩
        · rw [if_pos (by simp)]
          exact Fz0 q
        · rw [if_neg (by rw [decide_eq_false (by omega)]; simp), if_neg (by rw [decide_eq_false (by omega)]; simp)]
          simp only [wE_v, wE_non, wE_bl, wE_int, wE_str, wE_gc, wE_tup, wE_lst, wE_dic0, wE_dicS, wE_bin, wE_cmp, wE_chn, wE_and, wE_or, wE_not, wE_neg, wE_ife, wE_idx, wE_slc, wE_rev, wE_fld, wE_call, wE_meth, wE_make, wE_blt, wE_bm, wE_isi, wE_xf, wE_xi, wTg_nm, wTg_tp, wTg_fld, wTg_sub, wIt_seq, wIt_rng0, wIt_rng1, wIt_enu, wIt_zip, wS_set, wS_expr, wS_ret, wS_retN, wS_ife, wS_raise, wS_try, wS_pass, wS_brk, wS_cont, wS_augN, wS_augF, wS_augS, wEs, wO, wAll, wTgs, wB, List.cons_append, List.nil_append, List.getElem?_cons_zero, List.getElem?_cons_succ, List.set_cons_zero, List.set_cons_succ, Option.some.injEq, exists_eq_left', D.bl.injEq, D.int.injEq, List.map_cons, List.map_nil, List.length_cons, List.length_nil, List.replicate, List.append_eq, Nat.reduceAdd, Nat.reduceSub, Nat.zero_add, Nat.add_zero, Nat.sub_zero, List.any_cons, List.any_nil, Bool.or_false, rd_int, rd_bl, rd_str, rd_non, rd_tup, rd_lst, rd_stl, reduceIte, Bool.not_true, Bool.not_false, Bool.false_eq_true, Nat.sub_self, binD, cmpD, alc_f, dwipe, leD_ii, ltD_ii, gtD_ii, addD_ii, mulD_ii, eqD_ii, len_tup, len_lst, len_str, int_int, int_bl, tuple_lst, tuple_tup, h1]
          refine ⟨row, a + 1, ?_, by omega, hl, ?_⟩
          · rw [show (a : Int) + 1 = ((a + 1 : Nat) : Int) by omega]
          · have q : Q (encP (rdSev (rdP m row) row (a + 1))) H := q
            unfold rdSev at q
            cases e : rdW row (a + 1) with
            | none =>
              rw [e] at q
              refine ⟨_, rfl, rfl, ?_⟩
              simp only [wE_v, wE_non, wE_bl, wE_int, wE_str, wE_gc, wE_tup, wE_lst, wE_dic0, wE_dicS, wE_bin, wE_cmp, wE_chn, wE_and, wE_or, wE_not, wE_neg, wE_ife, wE_idx, wE_slc, wE_rev, wE_fld, wE_call, wE_meth, wE_make, wE_blt, wE_bm, wE_isi, wE_xf, wE_xi, wTg_nm, wTg_tp, wTg_fld, wTg_sub, wIt_seq, wIt_rng0, wIt_rng1, wIt_enu, wIt_zip, wS_set, wS_expr, wS_ret, wS_retN, wS_ife, wS_raise, wS_try, wS_pass, wS_brk, wS_cont, wS_augN, wS_augF, wS_augS, wEs, wO, wAll, wTgs, wB, List.cons_append, List.nil_append, List.getElem?_cons_zero, List.getElem?_cons_succ, List.set_cons_zero, List.set_cons_succ, Option.some.injEq, exists_eq_left', D.bl.injEq, D.int.injEq, List.map_cons, List.map_nil, List.length_cons, List.length_nil, List.replicate, List.append_eq, Nat.reduceAdd, Nat.reduceSub, Nat.zero_add, Nat.add_zero, Nat.sub_zero, List.any_cons, List.any_nil, Bool.or_false, rd_int, rd_bl, rd_str, rd_non, rd_tup, rd_lst, rd_stl, reduceIte, Bool.not_true, Bool.not_false, Bool.false_eq_true, Nat.sub_self, binD, cmpD, alc_f, dwipe, leD_ii, ltD_ii, gtD_ii, addD_ii, mulD_ii, eqD_ii, len_tup, len_lst, len_str, int_int, int_bl, tuple_lst, tuple_tup, isD, isNon]
              exact Fz0 q
            | some z =>
              obtain ⟨v, a1⟩ := z
              have hle := rdW_le e
              have hv := rdW_pos e
              rw [e] at q
              simp only at q
              refine ⟨_, rfl, rfl, ?_⟩
              simp only [wE_v, wE_non, wE_bl, wE_int, wE_str, wE_gc, wE_tup, wE_lst, wE_dic0, wE_dicS, wE_bin, wE_cmp, wE_chn, wE_and, wE_or, wE_not, wE_neg, wE_ife, wE_idx, wE_slc, wE_rev, wE_fld, wE_call, wE_meth, wE_make, wE_blt, wE_bm, wE_isi, wE_xf, wE_xi, wTg_nm, wTg_tp, wTg_fld, wTg_sub, wIt_seq, wIt_rng0, wIt_rng1, wIt_enu, wIt_zip, wS_set, wS_expr, wS_ret, wS_retN, wS_ife, wS_raise, wS_try, wS_pass, wS_brk, wS_cont, wS_augN, wS_augF, wS_augS, wEs, wO, wAll, wTgs, wB, List.cons_append, List.nil_append, List.getElem?_cons_zero, List.getElem?_cons_succ, List.set_cons_zero, List.set_cons_succ, Option.some.injEq, exists_eq_left', D.bl.injEq, D.int.injEq, List.map_cons, List.map_nil, List.length_cons, List.length_nil, List.replicate, List.append_eq, Nat.reduceAdd, Nat.reduceSub, Nat.zero_add, Nat.add_zero, Nat.sub_zero, List.any_cons, List.any_nil, Bool.or_false, rd_int, rd_bl, rd_str, rd_non, rd_tup, rd_lst, rd_stl, reduceIte, Bool.not_true, Bool.not_false, Bool.false_eq_true, Nat.sub_self, binD, cmpD, alc_f, dwipe, leD_ii, ltD_ii, gtD_ii, addD_ii, mulD_ii, eqD_ii, len_tup, len_lst, len_str, int_int, int_bl, tuple_lst, tuple_tup, isD, isNon]
              rw [if_neg (by rw [decide_eq_false (by omega)]; simp), if_neg (by rw [decide_eq_false (by omega)]; simp)]
              rw [alc_t]
              intro r hr
              rw [wS]
              refine ⟨fun t σ H' => ∃ acc b o, acc.length ≤ v.toNat ∧ acc.length ≤ b ∧ b ≤ row.length ∧ t = v.toNat - acc.length ∧ σ = [some (.tup (row.map .int)), some (.int a), some (.int ((m + 1 : Nat) : Int)), some (.int 6), some (.ref r), some (.int v), some (.int (b : Nat)), o] ∧ H' = dupd H r (.lst acc) ∧
                (rdMany (rdP m row) v.toNat a1 = match rdMany (rdP m row) (v.toNat - acc.length) b with | .ok (r, e) => .ok (acc ++ r, e) | .error e => .error e), ⟨_, [], a1, none, Nat.zero_le _, Nat.zero_le _, hle.2, rfl, ?_, rfl, ?_⟩, ?_⟩
              · rw [e6]
              · rw [List.length_nil, Nat.sub_zero]
                cases rdMany (rdP m row) v.toNat a1 <;> rfl
              · rintro t σ H' ⟨acc, b', o, c1, c2, c3, rfl, rfl, rfl, er⟩
                simp only [wE_v, wE_non, wE_bl, wE_int, wE_str, wE_gc, wE_tup, wE_lst, wE_dic0, wE_dicS, wE_bin, wE_cmp, wE_chn, wE_and, wE_or, wE_not, wE_neg, wE_ife, wE_idx, wE_slc, wE_rev, wE_fld, wE_call, wE_meth, wE_make, wE_blt, wE_bm, wE_isi, wE_xf, wE_xi, wTg_nm, wTg_tp, wTg_fld, wTg_sub, wIt_seq, wIt_rng0, wIt_rng1, wIt_enu, wIt_zip, wS_set, wS_expr, wS_ret, wS_retN, wS_ife, wS_raise, wS_try, wS_pass, wS_brk, wS_cont, wS_augN, wS_augF, wS_augS, wEs, wO, wAll, wTgs, wB, List.cons_append, List.nil_append, List.getElem?_cons_zero, List.getElem?_cons_succ, List.set_cons_zero, List.set_cons_succ, Option.some.injEq, exists_eq_left', D.bl.injEq, D.int.injEq, List.map_cons, List.map_nil, List.length_cons, List.length_nil, List.replicate, List.append_eq, Nat.reduceAdd, Nat.reduceSub, Nat.zero_add, Nat.add_zero, Nat.sub_zero, List.any_cons, List.any_nil, Bool.or_false, rd_int, rd_bl, rd_str, rd_non, rd_tup, rd_lst, rd_stl, reduceIte, Bool.not_true, Bool.not_false, Bool.false_eq_true, Nat.sub_self, binD, cmpD, alc_f, dwipe, leD_ii, ltD_ii, gtD_ii, addD_ii, mulD_ii, eqD_ii, len_tup, len_lst, len_str, int_int, int_bl, tuple_lst, tuple_tup, hm, len_at, tuple_at, rd_ref]
                by_cases hmm : acc.length < v.toNat
                · rw [if_pos (decide_eq_true (by omega))]
                  have ev : v.toNat - acc.length = (v.toNat - (acc.length + 1)) + 1 := by omega
                  rw [ev, rdMany] at er
                  refine ⟨row, b', ?_, hbr, hl, ?_⟩
                  · rw [show ((m + 1 : Nat) : Int) - 1 = (m : Int) by omega]
                  · cases h : rdP m row b' with
                    | error pl =>
                      rw [h] at er
                      simp only at er
                      rw [er] at q
                      refine ⟨_, rfl, rfl, ?_⟩
                      simp only [wE_v, wE_non, wE_bl, wE_int, wE_str, wE_gc, wE_tup, wE_lst, wE_dic0, wE_dicS, wE_bin, wE_cmp, wE_chn, wE_and, wE_or, wE_not, wE_neg, wE_ife, wE_idx, wE_slc, wE_rev, wE_fld, wE_call, wE_meth, wE_make, wE_blt, wE_bm, wE_isi, wE_xf, wE_xi, wTg_nm, wTg_tp, wTg_fld, wTg_sub, wIt_seq, wIt_rng0, wIt_rng1, wIt_enu, wIt_zip, wS_set, wS_expr, wS_ret, wS_retN, wS_ife, wS_raise, wS_try, wS_pass, wS_brk, wS_cont, wS_augN, wS_augF, wS_augS, wEs, wO, wAll, wTgs, wB, List.cons_append, List.nil_append, List.getElem?_cons_zero, List.getElem?_cons_succ, List.set_cons_zero, List.set_cons_succ, Option.some.injEq, exists_eq_left', D.bl.injEq, D.int.injEq, List.map_cons, List.map_nil, List.length_cons, List.length_nil, List.replicate, List.append_eq, Nat.reduceAdd, Nat.reduceSub, Nat.zero_add, Nat.add_zero, Nat.sub_zero, List.any_cons, List.any_nil, Bool.or_false, rd_int, rd_bl, rd_str, rd_non, rd_tup, rd_lst, rd_stl, reduceIte, Bool.not_true, Bool.not_false, Bool.false_eq_true, Nat.sub_self, binD, cmpD, alc_f, dwipe, leD_ii, ltD_ii, gtD_ii, addD_ii, mulD_ii, eqD_ii, len_tup, len_lst, len_str, int_int, int_bl, tuple_lst, tuple_tup, isD, isNon]
                      exact FzV.drop hr q
                    | ok dd =>
                      obtain ⟨d, b2⟩ := dd
                      rw [h] at er
                      simp only at er
                      have hb' := rdP_le h
                      refine ⟨_, rfl, rfl, ?_⟩
                      simp only [wE_v, wE_non, wE_bl, wE_int, wE_str, wE_gc, wE_tup, wE_lst, wE_dic0, wE_dicS, wE_bin, wE_cmp, wE_chn, wE_and, wE_or, wE_not, wE_neg, wE_ife, wE_idx, wE_slc, wE_rev, wE_fld, wE_call, wE_meth, wE_make, wE_blt, wE_bm, wE_isi, wE_xf, wE_xi, wTg_nm, wTg_tp, wTg_fld, wTg_sub, wIt_seq, wIt_rng0, wIt_rng1, wIt_enu, wIt_zip, wS_set, wS_expr, wS_ret, wS_retN, wS_ife, wS_raise, wS_try, wS_pass, wS_brk, wS_cont, wS_augN, wS_augF, wS_augS, wEs, wO, wAll, wTgs, wB, List.cons_append, List.nil_append, List.getElem?_cons_zero, List.getElem?_cons_succ, List.set_cons_zero, List.set_cons_succ, Option.some.injEq, exists_eq_left', D.bl.injEq, D.int.injEq, List.map_cons, List.map_nil, List.length_cons, List.length_nil, List.replicate, List.append_eq, Nat.reduceAdd, Nat.reduceSub, Nat.zero_add, Nat.add_zero, Nat.sub_zero, List.any_cons, List.any_nil, Bool.or_false, rd_int, rd_bl, rd_str, rd_non, rd_tup, rd_lst, rd_stl, reduceIte, Bool.not_true, Bool.not_false, Bool.false_eq_true, Nat.sub_self, binD, cmpD, alc_f, dwipe, leD_ii, ltD_ii, gtD_ii, addD_ii, mulD_ii, eqD_ii, len_tup, len_lst, len_str, int_int, int_bl, tuple_lst, tuple_tup, isD, isNon, rd_ref]
                      refine ⟨rfl, 0, d, rfl, rfl, r, acc, rfl, dupd_same, Nat.lt_of_lt_of_le (show acc.length < 2000001 by omega) (by decide), Fz.here ⟨_, ?_, acc ++ [d], b2, _, by rw [List.length_append]; show acc.length + 1 ≤ _; omega, by rw [List.length_append]; show acc.length + 1 ≤ _; omega, hb'.2, rfl, rfl, ?_, ?_⟩⟩
                      · rw [List.length_append]; show _ - (acc.length + 1) < _; omega
                      · rw [dupd_dupd]
                      · rw [er, List.length_append]
                        show _ = match rdMany (rdP m row) (v.toNat - (acc.length + 1)) b2 with | .ok (r, e) => _ | .error e => _
                        cases rdMany (rdP m row) (v.toNat - (acc.length + 1)) b2 with
                        | ok z => simp
                        | error z => rfl
                · rw [if_neg (by rw [decide_eq_false (by omega)]; simp)]
                  have : v.toNat - acc.length = 0 := by omega
                  rw [this, rdMany] at er
                  simp only [List.append_nil] at er
                  rw [er] at q
                  exact FzV.drop hr q
      · rw [if_neg e6] at q
        rw [if_neg (by rw [decide_eq_false e6]; simp)]
        by_cases e3 : b < 3
        · rw [if_pos (decide_eq_true e3)]
          refine idx3 hby.1 e3 ?_
          refine Fz0 ?_
          have : b = 0 ∨ b = 1 ∨ b = 2 := by omega
          rcases this with rfl | rfl | rfl
          · exact q
          · exact q
          · exact q
        · rw [if_neg (by rw [decide_eq_false e3]; simp)]
          rw [if_neg (by omega), if_neg (by omega)] at q
          simp only [wE_v, wE_non, wE_bl, wE_int, wE_str, wE_gc, wE_tup, wE_lst, wE_dic0, wE_dicS, wE_bin, wE_cmp, wE_chn, wE_and, wE_or, wE_not, wE_neg, wE_ife, wE_idx, wE_slc, wE_rev, wE_fld, wE_call, wE_meth, wE_make, wE_blt, wE_bm, wE_isi, wE_xf, wE_xi, wTg_nm, wTg_tp, wTg_fld, wTg_sub, wIt_seq, wIt_rng0, wIt_rng1, wIt_enu, wIt_zip, wS_set, wS_expr, wS_ret, wS_retN, wS_ife, wS_raise, wS_try, wS_pass, wS_brk, wS_cont, wS_augN, wS_augF, wS_augS, wEs, wO, wAll, wTgs, wB, List.cons_append, List.nil_append, List.getElem?_cons_zero, List.getElem?_cons_succ, List.set_cons_zero, List.set_cons_succ, Option.some.injEq, exists_eq_left', D.bl.injEq, D.int.injEq, List.map_cons, List.map_nil, List.length_cons, List.length_nil, List.replicate, List.append_eq, Nat.reduceAdd, Nat.reduceSub, Nat.zero_add, Nat.add_zero, Nat.sub_zero, List.any_cons, List.any_nil, Bool.or_false, rd_int, rd_bl, rd_str, rd_non, rd_tup, rd_lst, rd_stl, reduceIte, Bool.not_true, Bool.not_false, Bool.false_eq_true, Nat.sub_self, binD, cmpD, alc_f, dwipe, leD_ii, ltD_ii, gtD_ii, addD_ii, mulD_ii, eqD_ii, len_tup, len_lst, len_str, int_int, int_bl, tuple_lst, tuple_tup, h1, h2]
          refine ⟨row, a + 1, ?_, by omega, hl, ?_⟩
          · rw [show (a : Int) + 1 = ((a + 1 : Nat) : Int) by omega]
          · by_cases e5 : b = 5
            · rw [if_pos e5, rdStr_rdS] at q
              cases e : rdW row (a + 1) with
              | none =>
                rw [e] at q
                refine ⟨_, rfl, rfl, ?_⟩
                simp only [wE_v, wE_non, wE_bl, wE_int, wE_str, wE_gc, wE_tup, wE_lst, wE_dic0, wE_dicS, wE_bin, wE_cmp, wE_chn, wE_and, wE_or, wE_not, wE_neg, wE_ife, wE_idx, wE_slc, wE_rev, wE_fld, wE_call, wE_meth, wE_make, wE_blt, wE_bm, wE_isi, wE_xf, wE_xi, wTg_nm, wTg_tp, wTg_fld, wTg_sub, wIt_seq, wIt_rng0, wIt_rng1, wIt_enu, wIt_zip, wS_set, wS_expr, wS_ret, wS_retN, wS_ife, wS_raise, wS_try, wS_pass, wS_brk, wS_cont, wS_augN, wS_augF, wS_augS, wEs, wO, wAll, wTgs, wB, List.cons_append, List.nil_append, List.getElem?_cons_zero, List.getElem?_cons_succ, List.set_cons_zero, List.set_cons_succ, Option.some.injEq, exists_eq_left', D.bl.injEq, D.int.injEq, List.map_cons, List.map_nil, List.length_cons, List.length_nil, List.replicate, List.append_eq, Nat.reduceAdd, Nat.reduceSub, Nat.zero_add, Nat.add_zero, Nat.sub_zero, List.any_cons, List.any_nil, Bool.or_false, rd_int, rd_bl, rd_str, rd_non, rd_tup, rd_lst, rd_stl, reduceIte, Bool.not_true, Bool.not_false, Bool.false_eq_true, Nat.sub_self, binD, cmpD, alc_f, dwipe, leD_ii, ltD_ii, gtD_ii, addD_ii, mulD_ii, eqD_ii, len_tup, len_lst, len_str, int_int, int_bl, tuple_lst, tuple_tup, isD, isNon]
                exact Fz0 q
              | some z =>
                obtain ⟨v, a1⟩ := z
                have hle := rdW_le e
                rw [e] at q
                simp only at q
                refine ⟨_, rfl, rfl, ?_⟩
                simp only [wE_v, wE_non, wE_bl, wE_int, wE_str, wE_gc, wE_tup, wE_lst, wE_dic0, wE_dicS, wE_bin, wE_cmp, wE_chn, wE_and, wE_or, wE_not, wE_neg, wE_ife, wE_idx, wE_slc, wE_rev, wE_fld, wE_call, wE_meth, wE_make, wE_blt, wE_bm, wE_isi, wE_xf, wE_xi, wTg_nm, wTg_tp, wTg_fld, wTg_sub, wIt_seq, wIt_rng0, wIt_rng1, wIt_enu, wIt_zip, wS_set, wS_expr, wS_ret, wS_retN, wS_ife, wS_raise, wS_try, wS_pass, wS_brk, wS_cont, wS_augN, wS_augF, wS_augS, wEs, wO, wAll, wTgs, wB, List.cons_append, List.nil_append, List.getElem?_cons_zero, List.getElem?_cons_succ, List.set_cons_zero, List.set_cons_succ, Option.some.injEq, exists_eq_left', D.bl.injEq, D.int.injEq, List.map_cons, List.map_nil, List.length_cons, List.length_nil, List.replicate, List.append_eq, Nat.reduceAdd, Nat.reduceSub, Nat.zero_add, Nat.add_zero, Nat.sub_zero, List.any_cons, List.any_nil, Bool.or_false, rd_int, rd_bl, rd_str, rd_non, rd_tup, rd_lst, rd_stl, reduceIte, Bool.not_true, Bool.not_false, Bool.false_eq_true, Nat.sub_self, binD, cmpD, alc_f, dwipe, leD_ii, ltD_ii, gtD_ii, addD_ii, mulD_ii, eqD_ii, len_tup, len_lst, len_str, int_int, int_bl, tuple_lst, tuple_tup, isD, isNon]
                rw [if_neg (by rw [decide_eq_false (by omega)]; simp), if_pos (decide_eq_true e5)]
                refine ⟨row, a + 1, v, a1, ?_, hle.2, hl, Fz0 q⟩
                rw [show (a : Int) + 1 = ((a + 1 : Nat) : Int) by omega]
            · rw [if_neg e5] at q
              cases e : rdW row (a + 1) with
              | none =>
                rw [e] at q
                refine ⟨_, rfl, rfl, ?_⟩
                simp only [wE_v, wE_non, wE_bl, wE_int, wE_str, wE_gc, wE_tup, wE_lst, wE_dic0, wE_dicS, wE_bin, wE_cmp, wE_chn, wE_and, wE_or, wE_not, wE_neg, wE_ife, wE_idx, wE_slc, wE_rev, wE_fld, wE_call, wE_meth, wE_make, wE_blt, wE_bm, wE_isi, wE_xf, wE_xi, wTg_nm, wTg_tp, wTg_fld, wTg_sub, wIt_seq, wIt_rng0, wIt_rng1, wIt_enu, wIt_zip, wS_set, wS_expr, wS_ret, wS_retN, wS_ife, wS_raise, wS_try, wS_pass, wS_brk, wS_cont, wS_augN, wS_augF, wS_augS, wEs, wO, wAll, wTgs, wB, List.cons_append, List.nil_append, List.getElem?_cons_zero, List.getElem?_cons_succ, List.set_cons_zero, List.set_cons_succ, Option.some.injEq, exists_eq_left', D.bl.injEq, D.int.injEq, List.map_cons, List.map_nil, List.length_cons, List.length_nil, List.replicate, List.append_eq, Nat.reduceAdd, Nat.reduceSub, Nat.zero_add, Nat.add_zero, Nat.sub_zero, List.any_cons, List.any_nil, Bool.or_false, rd_int, rd_bl, rd_str, rd_non, rd_tup, rd_lst, rd_stl, reduceIte, Bool.not_true, Bool.not_false, Bool.false_eq_true, Nat.sub_self, binD, cmpD, alc_f, dwipe, leD_ii, ltD_ii, gtD_ii, addD_ii, mulD_ii, eqD_ii, len_tup, len_lst, len_str, int_int, int_bl, tuple_lst, tuple_tup, isD, isNon]
                exact Fz0 q
              | some z =>
                obtain ⟨v, a1⟩ := z
                rw [e] at q
                simp only at q
                refine ⟨_, rfl, rfl, ?_⟩
                simp only [wE_v, wE_non, wE_bl, wE_int, wE_str, wE_gc, wE_tup, wE_lst, wE_dic0, wE_dicS, wE_bin, wE_cmp, wE_chn, wE_and, wE_or, wE_not, wE_neg, wE_ife, wE_idx, wE_slc, wE_rev, wE_fld, wE_call, wE_meth, wE_make, wE_blt, wE_bm, wE_isi, wE_xf, wE_xi, wTg_nm, wTg_tp, wTg_fld, wTg_sub, wIt_seq, wIt_rng0, wIt_rng1, wIt_enu, wIt_zip, wS_set, wS_expr, wS_ret, wS_retN, wS_ife, wS_raise, wS_try, wS_pass, wS_brk, wS_cont, wS_augN, wS_augF, wS_augS, wEs, wO, wAll, wTgs, wB, List.cons_append, List.nil_append, List.getElem?_cons_zero, List.getElem?_cons_succ, List.set_cons_zero, List.set_cons_succ, Option.some.injEq, exists_eq_left', D.bl.injEq, D.int.injEq, List.map_cons, List.map_nil, List.length_cons, List.length_nil, List.replicate, List.append_eq, Nat.reduceAdd, Nat.reduceSub, Nat.zero_add, Nat.add_zero, Nat.sub_zero, List.any_cons, List.any_nil, Bool.or_false, rd_int, rd_bl, rd_str, rd_non, rd_tup, rd_lst, rd_stl, reduceIte, Bool.not_true, Bool.not_false, Bool.false_eq_true, Nat.sub_self, binD, cmpD, alc_f, dwipe, leD_ii, ltD_ii, gtD_ii, addD_ii, mulD_ii, eqD_ii, len_tup, len_lst, len_str, int_int, int_bl, tuple_lst, tuple_tup, isD, isNon]
                rw [if_pos (decide_eq_true (by omega))]
                by_cases c3 : b = 3
                · rw [if_pos c3] at q
                  rw [if_pos (decide_eq_true c3)]
                  exact Fz0 q
                · rw [if_neg c3] at q
                  rw [if_neg (by rw [decide_eq_false c3]; simp)]
                  exact Fz0 q
end Sp

set_option maxRecDepth 100000
set_option maxHeartbeats 1000000
namespace Sp
open PySem DL Ir
def encT : Except Nat D → D
  | .ok d => .tup [d]
  | .error e => .int (e : Nat)
def spTold : DSp := fun ds H Q _ => ∃ row : List Int, ds = [.tup (row.map .int)] ∧ bRow row ∧ row.length ≤ 2000000 ∧ Q (encT (told row)) H
theorem sat_told {G : Gam} (h1 : G.fn "_law_read" = spLR 20) : Sat G N__law_told.length ir__law_told spTold := by
  rintro vs H Q E ⟨row, rfl, hb, hl, q⟩
  unfold ir__law_told
  simp only [wE_v, wE_non, wE_bl, wE_int, wE_str, wE_gc, wE_tup, wE_lst, wE_dic0, wE_dicS, wE_bin, wE_cmp, wE_chn, wE_and, wE_or, wE_not, wE_neg, wE_ife, wE_idx, wE_slc, wE_rev, wE_fld, wE_call, wE_meth, wE_make, wE_blt, wE_bm, wE_isi, wE_xf, wE_xi, wTg_nm, wTg_tp, wTg_fld, wTg_sub, wIt_seq, wIt_rng0, wIt_rng1, wIt_enu, wIt_zip, wS_set, wS_expr, wS_ret, wS_retN, wS_ife, wS_raise, wS_try, wS_pass, wS_brk, wS_cont, wS_augN, wS_augF, wS_augS, wEs, wO, wAll, wTgs, wB, List.cons_append, List.nil_append, List.getElem?_cons_zero, List.getElem?_cons_succ, List.set_cons_zero, List.set_cons_succ, Option.some.injEq, exists_eq_left', D.bl.injEq, D.int.injEq, List.map_cons, List.map_nil, List.length_cons, List.length_nil, List.replicate, List.append_eq, Nat.reduceAdd, Nat.reduceSub, Nat.zero_add, Nat.add_zero, Nat.sub_zero, List.any_cons, List.any_nil, Bool.or_false, rd_int, rd_bl, rd_str, rd_non, rd_tup, rd_lst, rd_stl, reduceIte, Bool.not_true, Bool.not_false, Bool.false_eq_true, Nat.sub_self, binD, cmpD, alc_f, dwipe, leD_ii, ltD_ii, gtD_ii, addD_ii, mulD_ii, eqD_ii, len_tup, len_lst, len_str, int_int, int_bl, tuple_lst, tuple_tup, N__law_told, h1, List.length_map]
  unfold told at q
  refine ⟨row, 0, rfl, hb, hl, ?_⟩
  cases h : rdP 20 row 0 with
  | error e =>
    rw [h] at q
    refine ⟨_, rfl, rfl, ?_⟩
    simp only [wE_v, wE_non, wE_bl, wE_int, wE_str, wE_gc, wE_tup, wE_lst, wE_dic0, wE_dicS, wE_bin, wE_cmp, wE_chn, wE_and, wE_or, wE_not, wE_neg, wE_ife, wE_idx, wE_slc, wE_rev, wE_fld, wE_call, wE_meth, wE_make, wE_blt, wE_bm, wE_isi, wE_xf, wE_xi, wTg_nm, wTg_tp, wTg_fld, wTg_sub, wIt_seq, wIt_rng0, wIt_rng1, wIt_enu, wIt_zip, wS_set, wS_expr, wS_ret, wS_retN, wS_ife, wS_raise, wS_try, wS_pass, wS_brk, wS_cont, wS_augN, wS_augF, wS_augS, wEs, wO, wAll, wTgs, wB, List.cons_append, List.nil_append, List.getElem?_cons_zero, List.getElem?_cons_succ, List.set_cons_zero, List.set_cons_succ, Option.some.injEq, exists_eq_left', D.bl.injEq, D.int.injEq, List.map_cons, List.map_nil, List.length_cons, List.length_nil, List.replicate, List.append_eq, Nat.reduceAdd, Nat.reduceSub, Nat.zero_add, Nat.add_zero, Nat.sub_zero, List.any_cons, List.any_nil, Bool.or_false, rd_int, rd_bl, rd_str, rd_non, rd_tup, rd_lst, rd_stl, reduceIte, Bool.not_true, Bool.not_false, Bool.false_eq_true, Nat.sub_self, binD, cmpD, alc_f, dwipe, leD_ii, ltD_ii, gtD_ii, addD_ii, mulD_ii, eqD_ii, len_tup, len_lst, len_str, int_int, int_bl, tuple_lst, tuple_tup, isD, isNon]
    exact Fz0 q
  | ok z =>
    obtain ⟨d, a⟩ := z
    have hle := rdP_le h
    rw [h] at q
    simp only at q
    refine ⟨_, rfl, rfl, ?_⟩
    simp only [wE_v, wE_non, wE_bl, wE_int, wE_str, wE_gc, wE_tup, wE_lst, wE_dic0, wE_dicS, wE_bin, wE_cmp, wE_chn, wE_and, wE_or, wE_not, wE_neg, wE_ife, wE_idx, wE_slc, wE_rev, wE_fld, wE_call, wE_meth, wE_make, wE_blt, wE_bm, wE_isi, wE_xf, wE_xi, wTg_nm, wTg_tp, wTg_fld, wTg_sub, wIt_seq, wIt_rng0, wIt_rng1, wIt_enu, wIt_zip, wS_set, wS_expr, wS_ret, wS_retN, wS_ife, wS_raise, wS_try, wS_pass, wS_brk, wS_cont, wS_augN, wS_augF, wS_augS, wEs, wO, wAll, wTgs, wB, List.cons_append, List.nil_append, List.getElem?_cons_zero, List.getElem?_cons_succ, List.set_cons_zero, List.set_cons_succ, Option.some.injEq, exists_eq_left', D.bl.injEq, D.int.injEq, List.map_cons, List.map_nil, List.length_cons, List.length_nil, List.replicate, List.append_eq, Nat.reduceAdd, Nat.reduceSub, Nat.zero_add, Nat.add_zero, Nat.sub_zero, List.any_cons, List.any_nil, Bool.or_false, rd_int, rd_bl, rd_str, rd_non, rd_tup, rd_lst, rd_stl, reduceIte, Bool.not_true, Bool.not_false, Bool.false_eq_true, Nat.sub_self, binD, cmpD, alc_f, dwipe, leD_ii, ltD_ii, gtD_ii, addD_ii, mulD_ii, eqD_ii, len_tup, len_lst, len_str, int_int, int_bl, tuple_lst, tuple_tup, isD, isNon, List.length_map]
    by_cases c : a < row.length
    · rw [if_pos c] at q
      rw [if_neg (by rw [decide_eq_false (by omega)]; simp)]
      exact Fz0 q
    · rw [if_neg c] at q
      rw [if_pos (decide_eq_true (by omega))]
      exact Fz0 q
end Sp

set_option maxRecDepth 100000
set_option maxHeartbeats 1000000
namespace Sp
open PySem DL Ir
theorem PoolAt.ne {H : DH} {p q r : Addr} (h : PoolAt H p q) (hr : H r = none) : r ≠ p ∧ r ≠ q := by
  obtain ⟨_, s, c, ns, h1, h2⟩ := h
  exact ⟨fun e => (by subst e; rw [h1] at hr; cases hr), fun e => (by subst e; rw [h2] at hr; cases hr)⟩
theorem PoolAt.upd {H : DH} {p q r : Addr} {o : D} (h : PoolAt H p q) (h1 : r ≠ p) (h2 : r ≠ q) : PoolAt (dupd H r o) p q := by
  obtain ⟨h0, s, c, ns, h3, h4⟩ := h
  exact ⟨h0, s, c, ns, by rw [dupd_ne (Ne.symm h1)]; exact h3, by rw [dupd_ne (Ne.symm h2)]; exact h4⟩
/-- a comprehension that draws -/
theorem comp_draws {G : Gam} {elt : Ex} {k : Nat} {own : List (Str × Nat)} {e : Ex} {X : DXS} {σ : DSt} {H : DH} {Q : DK} {p q : Addr} (ok : D → Prop)
    (h : ∀ K : DK, (∀ n H1, n ≤ 2 ^ 24 → -(2 ^ 62) ≤ n → PoolAt H1 p q → (∀ ys H2, ys.length = n.toNat → (∀ y ∈ ys, ok y) → PoolAt H2 p q → Fr p q H1 H2 → Q (.lst ys) H2) → K (.int n) H1) → wE G e X σ H K)
    (he : ∀ d H' (K : DK), PoolAt H' p q → Dr p q H' ok K → wE G elt noX ((dwipe σ (own.map (·.2))).set k (some d)) H' K) :
    wE G (.comp false elt (.nm k) own (.rng e none) []) X σ H Q := by
  rw [wE, wIt_rng0]
  refine h _ fun n H1 n1 n2 hp hq => ⟨n, rfl, n1, n2, fun hz r hr => ⟨fun i acc H => acc.length = i ∧ (∀ y ∈ acc, ok y) ∧ PoolAt H p q ∧ ∀ a, a ≠ p → a ≠ q → a ≠ r → H a = H1 a, ⟨rfl, fun y hy => (by cases hy), hp.upd (hp.ne hr).1 (hp.ne hr).2, fun a _ _ h3 => dupd_ne h3⟩, fun _ _ _ _ => trivial, ?_, ?_⟩⟩
  · rintro i d acc H' hd ⟨h1, h2, h3, h4⟩ h5 h6
    rw [wTg_nm, wAll, if_pos rfl]
    refine he d H' _ h3 fun y H2 hy hp2 hf => ⟨?_, ?_, ?_, ?_, ?_⟩
    · rw [hf r (hp.ne hr).1 (hp.ne hr).2]; exact h5
    · rw [List.length_append, h1]; rfl
    · intro z hz
      rcases List.mem_append.mp hz with hz | hz
      · exact h2 z hz
      · cases List.mem_singleton.mp hz; exact hy
    · exact hp2.upd (hp.ne hr).1 (hp.ne hr).2
    · intro a a1 a2 a3
      rw [dupd_ne a3, hf a a1 a2]; exact h4 a a1 a2 a3
  · rintro acc H' ⟨h1, h2, h3, h4⟩ h5 h6
    rw [if_neg (by simp)]
    rw [rangeD_len] at h1
    refine hq acc _ h1 h2 ?_ ?_
    · obtain ⟨h0, s, c, ns, h7, h8⟩ := h3
      exact ⟨h0, s, c, ns, by rw [minus_at, if_neg (Ne.symm (hp.ne hr).1)]; exact h7, by rw [minus_at, if_neg (Ne.symm (hp.ne hr).2)]; exact h8⟩
    · intro a a1 a2
      rw [minus_at]
      by_cases c : a = r
      · rw [if_pos c, c, hr]
      · rw [if_neg c]; exact h4 a a1 a2 c
theorem Dr.mono {p q : Addr} {H H' : DH} {ok : D → Prop} {Q : DK} (h : Dr p q H ok Q) (hf : Fr p q H H') : Dr p q H' ok Q := fun d H2 h1 h2 h3 => h d H2 h1 h2 (hf.trans h3)
def spNumber : DSp := fun ds H Q _ => ∃ (p q : Addr), ds = [.ref p] ∧ PoolAt H p q ∧ Dr p q H (fun d => ∃ i : Int, d = .int i ∧ -1000000000000000000000 < i ∧ i < 1000000000000000000000) Q
theorem sat_number {G : Gam} (h1 : G.fn "_law_draw" = spDraw) : Sat G N__law_number.length ir__law_number spNumber := by
  rintro vs H Q E ⟨p, q, rfl, hp, K⟩
  unfold ir__law_number
  simp only [wE_v, wE_non, wE_bl, wE_int, wE_str, wE_gc, wE_tup, wE_lst, wE_dic0, wE_dicS, wE_bin, wE_cmp, wE_chn, wE_and, wE_or, wE_not, wE_neg, wE_ife, wE_idx, wE_slc, wE_rev, wE_fld, wE_call, wE_meth, wE_make, wE_blt, wE_bm, wE_isi, wE_xf, wE_xi, wTg_nm, wTg_tp, wTg_fld, wTg_sub, wIt_seq, wIt_rng0, wIt_rng1, wIt_enu, wIt_zip, wS_set, wS_expr, wS_ret, wS_retN, wS_ife, wS_raise, wS_try, wS_pass, wS_brk, wS_cont, wS_augN, wS_augF, wS_augS, wEs, wO, wAll, wTgs, wB, List.cons_append, List.nil_append, List.getElem?_cons_zero, List.getElem?_cons_succ, List.set_cons_zero, List.set_cons_succ, Option.some.injEq, exists_eq_left', D.bl.injEq, D.int.injEq, List.map_cons, List.map_nil, List.length_cons, List.length_nil, List.replicate, List.append_eq, Nat.reduceAdd, Nat.reduceSub, Nat.zero_add, Nat.add_zero, Nat.sub_zero, List.any_cons, List.any_nil, Bool.or_false, rd_int, rd_bl, rd_str, rd_non, rd_tup, rd_lst, rd_stl, reduceIte, Bool.not_true, Bool.not_false, Bool.false_eq_true, Nat.sub_self, binD, cmpD, alc_f, dwipe, leD_ii, ltD_ii, gtD_ii, addD_ii, mulD_ii, eqD_ii, len_tup, len_lst, len_str, int_int, int_bl, tuple_lst, tuple_tup, N__law_number, h1]
  refine ⟨p, q, 7, rfl, hp, by decide, by decide, ?_⟩
  rintro d H1 ⟨k, k0, k1, rfl⟩ hp1 hf1
  simp only [wE_v, wE_non, wE_bl, wE_int, wE_str, wE_gc, wE_tup, wE_lst, wE_dic0, wE_dicS, wE_bin, wE_cmp, wE_chn, wE_and, wE_or, wE_not, wE_neg, wE_ife, wE_idx, wE_slc, wE_rev, wE_fld, wE_call, wE_meth, wE_make, wE_blt, wE_bm, wE_isi, wE_xf, wE_xi, wTg_nm, wTg_tp, wTg_fld, wTg_sub, wIt_seq, wIt_rng0, wIt_rng1, wIt_enu, wIt_zip, wS_set, wS_expr, wS_ret, wS_retN, wS_ife, wS_raise, wS_try, wS_pass, wS_brk, wS_cont, wS_augN, wS_augF, wS_augS, wEs, wO, wAll, wTgs, wB, List.cons_append, List.nil_append, List.getElem?_cons_zero, List.getElem?_cons_succ, List.set_cons_zero, List.set_cons_succ, Option.some.injEq, exists_eq_left', D.bl.injEq, D.int.injEq, List.map_cons, List.map_nil, List.length_cons, List.length_nil, List.replicate, List.append_eq, Nat.reduceAdd, Nat.reduceSub, Nat.zero_add, Nat.add_zero, Nat.sub_zero, List.any_cons, List.any_nil, Bool.or_false, rd_int, rd_bl, rd_str, rd_non, rd_tup, rd_lst, rd_stl, reduceIte, Bool.not_true, Bool.not_false, Bool.false_eq_true, Nat.sub_self, binD, cmpD, alc_f, dwipe, leD_ii, ltD_ii, gtD_ii, addD_ii, mulD_ii, eqD_ii, len_tup, len_lst, len_str, int_int, int_bl, tuple_lst, tuple_tup]
  by_cases c : k < 3
  · rw [if_pos (decide_eq_true c)]
    refine ⟨⟨by decide, by decide, by decide⟩, ?_⟩
    refine ⟨p, q, 13, rfl, hp1, by decide, by decide, ?_⟩
    rintro d H2 ⟨j, j0, j1, rfl⟩ hp2 hf2
    have hj : ∃ n : Nat, n < 13 ∧ j = (n : Int) := ⟨j.toNat, by omega, by omega⟩
    obtain ⟨n, hn, rfl⟩ := hj
    have e := @atI_ints [0, 1, -1, 127, 128, -128, -129, 300, 16383, 16384, -16385, 10 ^ Int.toNat 20 - 1, -(10 ^ Int.toNat 20 - 1)] n
    obtain ⟨b, hb⟩ : ∃ b, [(0 : Int), 1, -1, 127, 128, -128, -129, 300, 16383, 16384, -16385, 10 ^ Int.toNat 20 - 1, -(10 ^ Int.toNat 20 - 1)][n]? = some b := ⟨_, List.getElem?_eq_getElem hn⟩
    refine ⟨_, _, rfl, e hb, Fz0 (K _ _ ⟨b, rfl, ?_⟩ hp2 (hf1.trans hf2))⟩
    have hm := List.mem_of_getElem? hb
    have hall : ∀ b ∈ [(0 : Int), 1, -1, 127, 128, -128, -129, 300, 16383, 16384, -16385, 10 ^ Int.toNat 20 - 1, -(10 ^ Int.toNat 20 - 1)], -1000000000000000000000 < b ∧ b < 1000000000000000000000 := by decide
    exact hall b hm
  · rw [if_neg (by rw [decide_eq_false c]; simp)]
    refine ⟨p, q, 1000, rfl, hp1, by decide, by decide, ?_⟩
    rintro d H2 ⟨f, f0, f1, rfl⟩ hp2 hf2
    rw [wS]
    simp only [wE_v, wE_non, wE_bl, wE_int, wE_str, wE_gc, wE_tup, wE_lst, wE_dic0, wE_dicS, wE_bin, wE_cmp, wE_chn, wE_and, wE_or, wE_not, wE_neg, wE_ife, wE_idx, wE_slc, wE_rev, wE_fld, wE_call, wE_meth, wE_make, wE_blt, wE_bm, wE_isi, wE_xf, wE_xi, wTg_nm, wTg_tp, wTg_fld, wTg_sub, wIt_seq, wIt_rng0, wIt_rng1, wIt_enu, wIt_zip, wS_set, wS_expr, wS_ret, wS_retN, wS_ife, wS_raise, wS_try, wS_pass, wS_brk, wS_cont, wS_augN, wS_augF, wS_augS, wEs, wO, wAll, wTgs, wB, List.cons_append, List.nil_append, List.getElem?_cons_zero, List.getElem?_cons_succ, List.set_cons_zero, List.set_cons_succ, Option.some.injEq, exists_eq_left', D.bl.injEq, D.int.injEq, List.map_cons, List.map_nil, List.length_cons, List.length_nil, List.replicate, List.append_eq, Nat.reduceAdd, Nat.reduceSub, Nat.zero_add, Nat.add_zero, Nat.sub_zero, List.any_cons, List.any_nil, Bool.or_false, rd_int, rd_bl, rd_str, rd_non, rd_tup, rd_lst, rd_stl, reduceIte, Bool.not_true, Bool.not_false, Bool.false_eq_true, Nat.sub_self, binD, cmpD, alc_f, dwipe, leD_ii, ltD_ii, gtD_ii, addD_ii, mulD_ii, eqD_ii, len_tup, len_lst, len_str, int_int, int_bl, tuple_lst, tuple_tup, h1]
    refine ⟨p, q, 6, rfl, hp2, by decide, by decide, ?_⟩
    rintro d H3 ⟨t, t0, t1, rfl⟩ hp3 hf3
    refine ⟨t, rfl, by omega, by omega, fun hz => ⟨fun i σ H' => ∃ (f : Int) (o : Option D), σ = [some (.ref p), some (.int k), some (.int f), o, none] ∧ 0 ≤ f ∧ f < 1000 ^ (i + 1) ∧ PoolAt H' p q ∧ Fr p q H H', ⟨f, none, rfl, f0, f1, hp3, (hf1.trans hf2).trans hf3⟩, fun _ _ _ _ => trivial, ?_, ?_⟩⟩
    · rintro i d σ H' hi ⟨f, o, rfl, g0, g1, hp4, hf4⟩
      simp only [wE_v, wE_non, wE_bl, wE_int, wE_str, wE_gc, wE_tup, wE_lst, wE_dic0, wE_dicS, wE_bin, wE_cmp, wE_chn, wE_and, wE_or, wE_not, wE_neg, wE_ife, wE_idx, wE_slc, wE_rev, wE_fld, wE_call, wE_meth, wE_make, wE_blt, wE_bm, wE_isi, wE_xf, wE_xi, wTg_nm, wTg_tp, wTg_fld, wTg_sub, wIt_seq, wIt_rng0, wIt_rng1, wIt_enu, wIt_zip, wS_set, wS_expr, wS_ret, wS_retN, wS_ife, wS_raise, wS_try, wS_pass, wS_brk, wS_cont, wS_augN, wS_augF, wS_augS, wEs, wO, wAll, wTgs, wB, List.cons_append, List.nil_append, List.getElem?_cons_zero, List.getElem?_cons_succ, List.set_cons_zero, List.set_cons_succ, Option.some.injEq, exists_eq_left', D.bl.injEq, D.int.injEq, List.map_cons, List.map_nil, List.length_cons, List.length_nil, List.replicate, List.append_eq, Nat.reduceAdd, Nat.reduceSub, Nat.zero_add, Nat.add_zero, Nat.sub_zero, List.any_cons, List.any_nil, Bool.or_false, rd_int, rd_bl, rd_str, rd_non, rd_tup, rd_lst, rd_stl, reduceIte, Bool.not_true, Bool.not_false, Bool.false_eq_true, Nat.sub_self, binD, cmpD, alc_f, dwipe, leD_ii, ltD_ii, gtD_ii, addD_ii, mulD_ii, eqD_ii, len_tup, len_lst, len_str, int_int, int_bl, tuple_lst, tuple_tup, h1]
      refine ⟨.inr (by decide), p, q, 1000, rfl, hp4, by decide, by decide, ?_⟩
      rintro d2 H5 ⟨j, j0, j1, rfl⟩ hp5 hf5
      simp only [wE_v, wE_non, wE_bl, wE_int, wE_str, wE_gc, wE_tup, wE_lst, wE_dic0, wE_dicS, wE_bin, wE_cmp, wE_chn, wE_and, wE_or, wE_not, wE_neg, wE_ife, wE_idx, wE_slc, wE_rev, wE_fld, wE_call, wE_meth, wE_make, wE_blt, wE_bm, wE_isi, wE_xf, wE_xi, wTg_nm, wTg_tp, wTg_fld, wTg_sub, wIt_seq, wIt_rng0, wIt_rng1, wIt_enu, wIt_zip, wS_set, wS_expr, wS_ret, wS_retN, wS_ife, wS_raise, wS_try, wS_pass, wS_brk, wS_cont, wS_augN, wS_augF, wS_augS, wEs, wO, wAll, wTgs, wB, List.cons_append, List.nil_append, List.getElem?_cons_zero, List.getElem?_cons_succ, List.set_cons_zero, List.set_cons_succ, Option.some.injEq, exists_eq_left', D.bl.injEq, D.int.injEq, List.map_cons, List.map_nil, List.length_cons, List.length_nil, List.replicate, List.append_eq, Nat.reduceAdd, Nat.reduceSub, Nat.zero_add, Nat.add_zero, Nat.sub_zero, List.any_cons, List.any_nil, Bool.or_false, rd_int, rd_bl, rd_str, rd_non, rd_tup, rd_lst, rd_stl, reduceIte, Bool.not_true, Bool.not_false, Bool.false_eq_true, Nat.sub_self, binD, cmpD, alc_f, dwipe, leD_ii, ltD_ii, gtD_ii, addD_ii, mulD_ii, eqD_ii, len_tup, len_lst, len_str, int_int, int_bl, tuple_lst, tuple_tup]
      refine Fz.here ⟨_, _, rfl, by omega, ?_, hp5, hf4.trans hf5⟩
      have : f + 1 ≤ 1000 ^ (i + 1) := g1
      rw [Int.pow_succ]
      have := Int.mul_le_mul_of_nonneg_right this (show (0 : Int) ≤ 1000 by decide)
      omega
    · rintro σ H' ⟨f, o, rfl, g0, g1, hp4, hf4⟩
      rw [rangeD_len] at g1
      have ht : t.toNat ≤ 5 := by omega
      have hb : f < 1000000000000000000000 := by
        refine Int.lt_of_lt_of_le g1 ?_
        have : t.toNat = 0 ∨ t.toNat = 1 ∨ t.toNat = 2 ∨ t.toNat = 3 ∨ t.toNat = 4 ∨ t.toNat = 5 := by omega
        rcases this with e | e | e | e | e | e <;> rw [e] <;> decide
      simp only [wE_v, wE_non, wE_bl, wE_int, wE_str, wE_gc, wE_tup, wE_lst, wE_dic0, wE_dicS, wE_bin, wE_cmp, wE_chn, wE_and, wE_or, wE_not, wE_neg, wE_ife, wE_idx, wE_slc, wE_rev, wE_fld, wE_call, wE_meth, wE_make, wE_blt, wE_bm, wE_isi, wE_xf, wE_xi, wTg_nm, wTg_tp, wTg_fld, wTg_sub, wIt_seq, wIt_rng0, wIt_rng1, wIt_enu, wIt_zip, wS_set, wS_expr, wS_ret, wS_retN, wS_ife, wS_raise, wS_try, wS_pass, wS_brk, wS_cont, wS_augN, wS_augF, wS_augS, wEs, wO, wAll, wTgs, wB, List.cons_append, List.nil_append, List.getElem?_cons_zero, List.getElem?_cons_succ, List.set_cons_zero, List.set_cons_succ, Option.some.injEq, exists_eq_left', D.bl.injEq, D.int.injEq, List.map_cons, List.map_nil, List.length_cons, List.length_nil, List.replicate, List.append_eq, Nat.reduceAdd, Nat.reduceSub, Nat.zero_add, Nat.add_zero, Nat.sub_zero, List.any_cons, List.any_nil, Bool.or_false, rd_int, rd_bl, rd_str, rd_non, rd_tup, rd_lst, rd_stl, reduceIte, Bool.not_true, Bool.not_false, Bool.false_eq_true, Nat.sub_self, binD, cmpD, alc_f, dwipe, leD_ii, ltD_ii, gtD_ii, addD_ii, mulD_ii, eqD_ii, len_tup, len_lst, len_str, int_int, int_bl, tuple_lst, tuple_tup]
      by_cases c6 : k < 6
      · rw [if_pos (decide_eq_true c6)]
        exact Fz0 (K _ _ ⟨f, rfl, by omega, hb⟩ hp4 hf4)
      · rw [if_neg (by rw [decide_eq_false c6]; simp)]
        exact Fz0 (K _ _ ⟨_, rfl, by omega, by omega⟩ hp4 hf4)
end Sp

set_option maxRecDepth 100000
set_option maxHeartbeats 1000000
namespace Sp
open PySem DL Ir
theorem whN_len : ∀ (L n : Nat), n < 128 ^ (L + 1) → (whN n).length ≤ L + 1
  | 0, n, h => by
    rw [whN_lt (by omega)]
    exact Nat.le_refl _
  | L + 1, n, h => by
    by_cases c : 128 ≤ n
    · rw [whN_ge c, List.length_cons]
      have := whN_len L (n / 128) (by
        rw [Nat.pow_succ] at h
        exact Nat.div_lt_of_lt_mul (by rw [Nat.mul_comm]; exact h))
      omega
    · rw [whN_lt c]; show 1 ≤ _; omega
theorem whN_row (n : Nat) : bRow (whN n) := by
  induction n using Nat.strongRecOn with
  | ind n ih =>
    by_cases c : 128 ≤ n
    · rw [whN_ge c]
      intro b hb
      rcases List.mem_cons.mp hb with rfl | hb
      · omega
      · exact ih (n / 128) (by omega) b hb
    · rw [whN_lt c]
      intro b hb
      cases List.mem_singleton.mp hb
      omega
theorem bRow_app {a b : List Int} (ha : bRow a) (hb : bRow b) : bRow (a ++ b) := fun x hx => by
  rcases List.mem_append.mp hx with h | h
  · exact ha x h
  · exact hb x h
theorem bRow_cons {x : Int} {b : List Int} (h0 : 0 ≤ x ∧ x < 256) (hb : bRow b) : bRow (x :: b) := fun y hy => by
  rcases List.mem_cons.mp hy with rfl | h
  · exact h0
  · exact hb y h
mutual
theorem pby_row : ∀ (d : D) (n : Int), isP d = true → isPc d n = true → bRow (pby d)
  | .non, _, _, _ => by rw [pby]; exact bRow_cons (by decide) (fun _ h => (by cases h))
  | .bl b, _, _, _ => by rw [pby]; exact bRow_cons (by cases b <;> decide) (fun _ h => (by cases h))
  | .int i, _, _, _ => by
    rw [pby]
    split
    · exact bRow_cons (by decide) (whN_row _)
    · exact bRow_cons (by decide) (whN_row _)
  | .str s, _, _, hc => by
    rw [pby]
    refine bRow_cons (by decide) (bRow_app (whN_row _) ?_)
    rw [isPc] at hc
    unfold isShort at hc
    simp only [Bool.and_eq_true, decide_eq_true_eq] at hc
    intro b hb
    obtain ⟨c, hm, rfl⟩ := List.mem_map.mp hb
    have := isSign_i (List.all_eq_true.mp hc.2 c hm)
    omega
  | .tup xs, n, hp, hc => by
    rw [pby]
    rw [isP] at hp
    rw [isPc, Bool.and_eq_true] at hc
    exact bRow_cons (by decide) (bRow_app (whN_row _) (pbys_row xs _ hp hc.2))
theorem pbys_row : ∀ (xs : List D) (n : Int), isPs xs = true → isPcs xs n = true → bRow (pbys xs)
  | [], _, _, _ => by rw [pbys]; exact fun _ h => (by cases h)
  | x :: xs, n, hp, hc => by
    rw [pbys]
    rw [isPs, Bool.and_eq_true] at hp
    rw [isPcs, Bool.and_eq_true] at hc
    exact bRow_app (pby_row x n hp.1 hc.1) (pbys_row xs n hp.2 hc.2)
end
mutual
theorem isPc_mono : ∀ (d : D) (n m : Int), n ≤ m → isPc d n = true → isPc d m = true
  | .non, _, _, _, _ => by rw [isPc]
  | .bl b, _, _, _, _ => by rw [isPc]
  | .int i, _, _, _, _ => by rw [isPc]
  | .str s, _, _, _, h => by rw [isPc] at h ⊢; exact h
  | .tup xs, n, m, hnm, h => by
    rw [isPc, Bool.and_eq_true, decide_eq_true_eq] at h ⊢
    exact ⟨by omega, isPcs_mono xs (n - 1) (m - 1) (by omega) h.2⟩
theorem isPcs_mono : ∀ (xs : List D) (n m : Int), n ≤ m → isPcs xs n = true → isPcs xs m = true
  | [], _, _, _, _ => by rw [isPcs]
  | x :: xs, n, m, hnm, h => by
    rw [isPcs, Bool.and_eq_true] at h ⊢
    exact ⟨isPc_mono x n m hnm h.1, isPcs_mono xs n m hnm h.2⟩
end
mutual
theorem isP_ok : ∀ d : D, isP d = true → okP d = true
  | .non, _ => by rw [okP]
  | .bl b, _ => by rw [okP]
  | .int i, _ => by rw [okP]
  | .str s, _ => by rw [okP]
  | .tup xs, h => by rw [isP] at h; rw [okP]; exact isPs_ok xs h
theorem isPs_ok : ∀ xs : List D, isPs xs = true → okPs xs = true
  | [], _ => by rw [okPs]
  | x :: xs, h => by
    rw [isPs, Bool.and_eq_true] at h
    rw [okPs, isP_ok x h.1, isPs_ok xs h.2]; rfl
end
theorem pbys_len {B : Nat} : ∀ {xs : List D}, (∀ x ∈ xs, (pby x).length ≤ B) → (pbys xs).length ≤ xs.length * B
  | [], _ => by rw [pbys]; exact Nat.zero_le _
  | x :: xs, h => by
    rw [pbys, List.length_append, List.length_cons, Nat.add_mul, Nat.one_mul]
    have h1 := h x List.mem_cons_self
    have h2 := pbys_len (xs := xs) fun y hy => h y (List.mem_cons_of_mem _ hy)
    omega
theorem isPs_of : ∀ {xs : List D}, (∀ x ∈ xs, isP x = true) → isPs xs = true
  | [], _ => by rw [isPs]
  | x :: xs, h => by rw [isPs, h x List.mem_cons_self, isPs_of fun y hy => h y (List.mem_cons_of_mem _ hy)]; rfl
theorem isPcs_of {n : Int} : ∀ {xs : List D}, (∀ x ∈ xs, isPc x n = true) → isPcs xs n = true
  | [], _ => by rw [isPcs]
  | x :: xs, h => by rw [isPcs, h x List.mem_cons_self, isPcs_of fun y hy => h y (List.mem_cons_of_mem _ hy)]; rfl
theorem deeps_of {n : Nat} : ∀ {xs : List D}, (∀ x ∈ xs, deep x ≤ n) → deeps xs ≤ n
  | [], _ => by rw [deeps]; exact Nat.zero_le _
  | x :: xs, h => by rw [deeps]; exact Nat.max_le.mpr ⟨h x List.mem_cons_self, deeps_of fun y hy => h y (List.mem_cons_of_mem _ hy)⟩
/-- a drawn parcel -/
def okD (n : Nat) (d : D) : Prop := isP d = true ∧ isPc d n = true ∧ deep d ≤ n ∧ (pby d).length ≤ 1000 * 5 ^ n
theorem pow5 (n : Nat) : 1000 ≤ 1000 * 5 ^ n := Nat.le_mul_of_pos_right _ (Nat.pow_pos (by decide))
theorem okD_int {n : Nat} {i : Int} (h : -1000000000000000000000 < i) (h2 : i < 1000000000000000000000) : okD n (.int i) := by
  refine ⟨by rw [isP], by rw [isPc], Nat.zero_le _, ?_⟩
  have := pow5 n
  rw [pby]
  split
  · rw [List.length_cons]
    have := whN_len 10 i.toNat (Nat.lt_of_lt_of_le (show i.toNat < 1000000000000000000000 by omega) (by decide))
    omega
  · rw [List.length_cons]
    have := whN_len 10 (-1 - i).toNat (Nat.lt_of_lt_of_le (show (-1 - i).toNat < 1000000000000000000000 by omega) (by decide))
    omega
theorem okD_str {n : Nat} {s : Str} (h : isShort (.str s) = true) : okD n (.str s) := by
  refine ⟨by rw [isP], by rw [isPc]; exact h, Nat.zero_le _, ?_⟩
  have := pow5 n
  unfold isShort at h
  simp only [Bool.and_eq_true, decide_eq_true_eq] at h
  rw [pby, List.length_cons, List.length_append, List.length_map]
  have h1 : s.cps.toList.length = s.length := by rw [Array.length_toList]; rfl
  have := whN_len 0 s.length (by omega)
  omega
theorem okD_tup {n : Nat} {xs : List D} {B : Nat} (h : ∀ x ∈ xs, isP x = true ∧ isPc x n = true ∧ deep x ≤ n ∧ (pby x).length ≤ B) (hl : xs.length < 16384) (hb : 3 + xs.length * B ≤ 1000 * 5 ^ (n + 1)) : okD (n + 1) (.tup xs) := by
  refine ⟨by rw [isP]; exact isPs_of fun x hx => (h x hx).1, ?_, ?_, ?_⟩
  · rw [isPc, show ((n + 1 : Nat) : Int) - 1 = (n : Int) by omega, isPcs_of fun x hx => (h x hx).2.1, decide_eq_true (by omega)]; rfl
  · rw [deep]
    have := deeps_of (n := n) fun x hx => (h x hx).2.2.1
    omega
  · rw [pby, List.length_cons, List.length_append]
    have h1 := whN_len 1 xs.length (by omega)
    have h2 := pbys_len (B := B) fun x hx => (h x hx).2.2.2
    omega
def spParcL (n : Nat) : DSp := fun ds H Q _ => ∃ (p q : Addr), ds = [.ref p, .int n] ∧ PoolAt H p q ∧ Dr p q H (okD n) Q
def okC (y : D) : Prop := ∃ c : Nat, isSign c = true ∧ y = .str ⟨#[c]⟩
theorem okC_list : ∀ {ys : List D}, (∀ y ∈ ys, okC y) → ∃ cs : List Nat, (cs.all fun c => isSign c) = true ∧ cs.length = ys.length ∧ ys = cs.map fun c => .str ⟨#[c]⟩
  | [], _ => ⟨[], rfl, rfl, rfl⟩
  | y :: ys, h => by
    obtain ⟨c, h1, rfl⟩ := h y List.mem_cons_self
    obtain ⟨cs, h2, h3, rfl⟩ := okC_list fun z hz => h z (List.mem_cons_of_mem _ hz)
    exact ⟨c :: cs, by rw [List.all_cons, h1, h2]; rfl, by rw [List.length_cons, h3, List.length_cons], rfl⟩
theorem toSs_c : ∀ cs : List Nat, toSs (cs.map fun c => .str ⟨#[c]⟩) = some (cs.map fun c => ⟨#[c]⟩)
  | [] => rfl
  | c :: cs => by simp only [List.map_cons, toSs]; rw [toSs_c cs]; rfl
def sevenS : Str := " ~a0Zb'"
theorem seven_at : ∀ k, k < 7 → ∃ c, sevenS.cps.toList[k]? = some c ∧ isSign (c : Nat) = true := by
  intro k hk
  have h : ∀ k : Fin 7, ∃ c : Fin 128, sevenS.cps.toList[k.val]? = some c.val ∧ isSign (c.val : Nat) = true := by decide +kernel
  obtain ⟨c, h1, h2⟩ := h ⟨k, hk⟩
  exact ⟨c.val, h1, h2⟩
theorem seven_len : sevenS.cps.toList.length = 7 := by decide +kernel
theorem sat_parcL {G : Gam} (h1 : G.fn "_law_draw" = spDraw) (h2 : G.fn "_law_number" = spNumber) {n : Nat} (hc : n = 0 ∨ ∃ m, n = m + 1 ∧ G.fn "_law_parcel" = spParcL m) : Sat G N__law_parcel.length ir__law_parcel (spParcL n) := by
  rintro vs H Q E ⟨p, q, rfl, hp, K⟩
  unfold ir__law_parcel
  simp only [wE_v, wE_non, wE_bl, wE_int, wE_str, wE_gc, wE_tup, wE_lst, wE_dic0, wE_dicS, wE_bin, wE_cmp, wE_chn, wE_and, wE_or, wE_not, wE_neg, wE_ife, wE_idx, wE_slc, wE_rev, wE_fld, wE_call, wE_meth, wE_make, wE_blt, wE_bm, wE_isi, wE_xf, wE_xi, wTg_nm, wTg_tp, wTg_fld, wTg_sub, wIt_seq, wIt_rng0, wIt_rng1, wIt_enu, wIt_zip, wS_set, wS_expr, wS_ret, wS_retN, wS_ife, wS_raise, wS_try, wS_pass, wS_brk, wS_cont, wS_augN, wS_augF, wS_augS, wEs, wO, wAll, wTgs, wB, List.cons_append, List.nil_append, List.getElem?_cons_zero, List.getElem?_cons_succ, List.set_cons_zero, List.set_cons_succ, Option.some.injEq, exists_eq_left', D.bl.injEq, D.int.injEq, List.map_cons, List.map_nil, List.length_cons, List.length_nil, List.replicate, List.append_eq, Nat.reduceAdd, Nat.reduceSub, Nat.zero_add, Nat.add_zero, Nat.sub_zero, List.any_cons, List.any_nil, Bool.or_false, rd_int, rd_bl, rd_str, rd_non, rd_tup, rd_lst, rd_stl, reduceIte, Bool.not_true, Bool.not_false, Bool.false_eq_true, Nat.sub_self, binD, cmpD, alc_f, dwipe, leD_ii, ltD_ii, gtD_ii, addD_ii, mulD_ii, eqD_ii, len_tup, len_lst, len_str, int_int, int_bl, tuple_lst, tuple_tup, N__law_parcel, h1, h2]
  refine ⟨p, q, 10, rfl, hp, by decide, by decide, ?_⟩
  rintro d H1 ⟨k, k0, k1, rfl⟩ hp1 hf1
  simp only [wE_v, wE_non, wE_bl, wE_int, wE_str, wE_gc, wE_tup, wE_lst, wE_dic0, wE_dicS, wE_bin, wE_cmp, wE_chn, wE_and, wE_or, wE_not, wE_neg, wE_ife, wE_idx, wE_slc, wE_rev, wE_fld, wE_call, wE_meth, wE_make, wE_blt, wE_bm, wE_isi, wE_xf, wE_xi, wTg_nm, wTg_tp, wTg_fld, wTg_sub, wIt_seq, wIt_rng0, wIt_rng1, wIt_enu, wIt_zip, wS_set, wS_expr, wS_ret, wS_retN, wS_ife, wS_raise, wS_try, wS_pass, wS_brk, wS_cont, wS_augN, wS_augF, wS_augS, wEs, wO, wAll, wTgs, wB, List.cons_append, List.nil_append, List.getElem?_cons_zero, List.getElem?_cons_succ, List.set_cons_zero, List.set_cons_succ, Option.some.injEq, exists_eq_left', D.bl.injEq, D.int.injEq, List.map_cons, List.map_nil, List.length_cons, List.length_nil, List.replicate, List.append_eq, Nat.reduceAdd, Nat.reduceSub, Nat.zero_add, Nat.add_zero, Nat.sub_zero, List.any_cons, List.any_nil, Bool.or_false, rd_int, rd_bl, rd_str, rd_non, rd_tup, rd_lst, rd_stl, reduceIte, Bool.not_true, Bool.not_false, Bool.false_eq_true, Nat.sub_self, binD, cmpD, alc_f, dwipe, leD_ii, ltD_ii, gtD_ii, addD_ii, mulD_ii, eqD_ii, len_tup, len_lst, len_str, int_int, int_bl, tuple_lst, tuple_tup]
  by_cases c3 : k < 3
  · rw [if_pos (decide_eq_true c3)]
    refine idx3 k0 c3 ?_
    have hpw := pow5 n
    have hb : ∀ b, okD n (.bl b) := fun b => ⟨by rw [isP], by rw [isPc], Nat.zero_le _, by rw [pby]; show 1 ≤ _; omega⟩
    split
    · exact Fz0 (K _ _ ⟨by rw [isP], by rw [isPc], Nat.zero_le _, by rw [pby]; show 1 ≤ _; omega⟩ hp1 hf1)
    · split
      · exact Fz0 (K _ _ (hb _) hp1 hf1)
      · exact Fz0 (K _ _ (hb _) hp1 hf1)
  · rw [if_neg (by rw [decide_eq_false c3]; simp)]
    by_cases c5 : k < 5
    · rw [if_pos (decide_eq_true c5)]
      refine ⟨p, q, rfl, hp1, ?_⟩
      rintro d H2 ⟨i, rfl, i0, i1⟩ hp2 hf2
      exact Fz0 (K _ _ (okD_int i0 i1) hp2 (hf1.trans hf2))
    · rw [if_neg (by rw [decide_eq_false c5]; simp)]
      by_cases c7 : k < 7
      · rw [if_pos (decide_eq_true c7)]
        refine ⟨p, q, 8, rfl, hp1, by decide, by decide, ?_⟩
        rintro d H2 ⟨j, j0, j1, rfl⟩ hp2 hf2
        simp only [wE_v, wE_non, wE_bl, wE_int, wE_str, wE_gc, wE_tup, wE_lst, wE_dic0, wE_dicS, wE_bin, wE_cmp, wE_chn, wE_and, wE_or, wE_not, wE_neg, wE_ife, wE_idx, wE_slc, wE_rev, wE_fld, wE_call, wE_meth, wE_make, wE_blt, wE_bm, wE_isi, wE_xf, wE_xi, wTg_nm, wTg_tp, wTg_fld, wTg_sub, wIt_seq, wIt_rng0, wIt_rng1, wIt_enu, wIt_zip, wS_set, wS_expr, wS_ret, wS_retN, wS_ife, wS_raise, wS_try, wS_pass, wS_brk, wS_cont, wS_augN, wS_augF, wS_augS, wEs, wO, wAll, wTgs, wB, List.cons_append, List.nil_append, List.getElem?_cons_zero, List.getElem?_cons_succ, List.set_cons_zero, List.set_cons_succ, Option.some.injEq, exists_eq_left', D.bl.injEq, D.int.injEq, List.map_cons, List.map_nil, List.length_cons, List.length_nil, List.replicate, List.append_eq, Nat.reduceAdd, Nat.reduceSub, Nat.zero_add, Nat.add_zero, Nat.sub_zero, List.any_cons, List.any_nil, Bool.or_false, rd_int, rd_bl, rd_str, rd_non, rd_tup, rd_lst, rd_stl, reduceIte, Bool.not_true, Bool.not_false, Bool.false_eq_true, Nat.sub_self, binD, cmpD, alc_f, dwipe, leD_ii, ltD_ii, gtD_ii, addD_ii, mulD_ii, eqD_ii, len_tup, len_lst, len_str, int_int, int_bl, tuple_lst, tuple_tup]
        have str : ∀ (m : Int) (H2 : DH), 1 ≤ m → m ≤ 20 → PoolAt H2 p q → Fr p q H H2 → wE G (.comp false (.idx (.str " ~a0Zb'") (.call "_law_draw" [.v 0, .int 7])) (.nm 5) [("_law_at", 5)] (.rng (.v 3) none) []) (fun c fs _ H1 => E c fs H1) [some (.ref p), some (.int n), some (.int k), some (.int m), none, none] H2 (fun x H1 => bmD .join false (.str "") [x] H1 fun x H1 => FzV x H1 Q) := by
          intro m H2 m1 m20 hp2 hf2
          refine comp_draws okC (p := p) (q := q) ?_ ?_
          · intro K2 h
            simp only [wE_v, wE_non, wE_bl, wE_int, wE_str, wE_gc, wE_tup, wE_lst, wE_dic0, wE_dicS, wE_bin, wE_cmp, wE_chn, wE_and, wE_or, wE_not, wE_neg, wE_ife, wE_idx, wE_slc, wE_rev, wE_fld, wE_call, wE_meth, wE_make, wE_blt, wE_bm, wE_isi, wE_xf, wE_xi, wTg_nm, wTg_tp, wTg_fld, wTg_sub, wIt_seq, wIt_rng0, wIt_rng1, wIt_enu, wIt_zip, wS_set, wS_expr, wS_ret, wS_retN, wS_ife, wS_raise, wS_try, wS_pass, wS_brk, wS_cont, wS_augN, wS_augF, wS_augS, wEs, wO, wAll, wTgs, wB, List.cons_append, List.nil_append, List.getElem?_cons_zero, List.getElem?_cons_succ, List.set_cons_zero, List.set_cons_succ, Option.some.injEq, exists_eq_left', D.bl.injEq, D.int.injEq, List.map_cons, List.map_nil, List.length_cons, List.length_nil, List.replicate, List.append_eq, Nat.reduceAdd, Nat.reduceSub, Nat.zero_add, Nat.add_zero, Nat.sub_zero, List.any_cons, List.any_nil, Bool.or_false, rd_int, rd_bl, rd_str, rd_non, rd_tup, rd_lst, rd_stl, reduceIte, Bool.not_true, Bool.not_false, Bool.false_eq_true, Nat.sub_self, binD, cmpD, alc_f, dwipe, leD_ii, ltD_ii, gtD_ii, addD_ii, mulD_ii, eqD_ii, len_tup, len_lst, len_str, int_int, int_bl, tuple_lst, tuple_tup]
            refine h m H2 (by omega) (by omega) hp2 ?_
            intro ys H3 hl hy hp3 hf3
            obtain ⟨cs, h4, h5, rfl⟩ := okC_list hy
            refine ⟨_, _, _, rfl, rfl, toSs_c cs, ?_, ?_⟩
            · rw [sum_ones, h5, hl]
              show _ + _ * 0 ≤ _
              omega
            · rw [join_sg]
              refine Fz0 (K _ _ (okD_str ?_) hp3 (hf2.trans hf3))
              show (decide (1 ≤ (⟨cs.toArray⟩ : Str).length) && decide ((⟨cs.toArray⟩ : Str).length ≤ 20) && cs.toArray.toList.all fun c => isSign (c : Nat)) = true
              have e : (⟨cs.toArray⟩ : Str).length = m.toNat := by
                show cs.toArray.size = _
                rw [List.size_toArray, h5, hl]
              rw [e, decide_eq_true (show 1 ≤ m.toNat by omega), decide_eq_true (show m.toNat ≤ 20 by omega)]
              exact h4
          · intro d H' K2 hp' hk
            simp only [wE_v, wE_non, wE_bl, wE_int, wE_str, wE_gc, wE_tup, wE_lst, wE_dic0, wE_dicS, wE_bin, wE_cmp, wE_chn, wE_and, wE_or, wE_not, wE_neg, wE_ife, wE_idx, wE_slc, wE_rev, wE_fld, wE_call, wE_meth, wE_make, wE_blt, wE_bm, wE_isi, wE_xf, wE_xi, wTg_nm, wTg_tp, wTg_fld, wTg_sub, wIt_seq, wIt_rng0, wIt_rng1, wIt_enu, wIt_zip, wS_set, wS_expr, wS_ret, wS_retN, wS_ife, wS_raise, wS_try, wS_pass, wS_brk, wS_cont, wS_augN, wS_augF, wS_augS, wEs, wO, wAll, wTgs, wB, List.cons_append, List.nil_append, List.getElem?_cons_zero, List.getElem?_cons_succ, List.set_cons_zero, List.set_cons_succ, Option.some.injEq, exists_eq_left', D.bl.injEq, D.int.injEq, List.map_cons, List.map_nil, List.length_cons, List.length_nil, List.replicate, List.append_eq, Nat.reduceAdd, Nat.reduceSub, Nat.zero_add, Nat.add_zero, Nat.sub_zero, List.any_cons, List.any_nil, Bool.or_false, rd_int, rd_bl, rd_str, rd_non, rd_tup, rd_lst, rd_stl, reduceIte, Bool.not_true, Bool.not_false, Bool.false_eq_true, Nat.sub_self, binD, cmpD, alc_f, dwipe, leD_ii, ltD_ii, gtD_ii, addD_ii, mulD_ii, eqD_ii, len_tup, len_lst, len_str, int_int, int_bl, tuple_lst, tuple_tup, h1]
            refine ⟨p, q, 7, rfl, hp', by decide, by decide, ?_⟩
            rintro d H3 ⟨j, j0, j1, rfl⟩ hp3 hf3
            obtain ⟨c, hc1, hc2⟩ := seven_at j.toNat (by omega)
            refine ⟨j, c, rfl, ?_, hk _ _ ⟨c, hc2, rfl⟩ hp3 hf3⟩
            unfold L2.atI L2.ixN
            show (if 0 ≤ j then if j < (sevenS.cps.toList.length : Int) then some j.toNat else none else _).bind (fun t => sevenS.cps.toList[t]?) = some c
            rw [seven_len, if_pos j0, if_pos (by omega)]
            exact hc1
        by_cases cj : j = 0
        · rw [if_pos (decide_eq_true cj)]
          exact ⟨rfl, str 20 H2 (by decide) (by decide) hp2 (hf1.trans hf2)⟩
        · rw [if_neg (by rw [decide_eq_false cj]; simp)]
          refine ⟨p, q, 6, rfl, hp2, by decide, by decide, ?_⟩
          rintro d H3 ⟨t, t0, t1, rfl⟩ hp3 hf3
          simp only [wE_v, wE_non, wE_bl, wE_int, wE_str, wE_gc, wE_tup, wE_lst, wE_dic0, wE_dicS, wE_bin, wE_cmp, wE_chn, wE_and, wE_or, wE_not, wE_neg, wE_ife, wE_idx, wE_slc, wE_rev, wE_fld, wE_call, wE_meth, wE_make, wE_blt, wE_bm, wE_isi, wE_xf, wE_xi, wTg_nm, wTg_tp, wTg_fld, wTg_sub, wIt_seq, wIt_rng0, wIt_rng1, wIt_enu, wIt_zip, wS_set, wS_expr, wS_ret, wS_retN, wS_ife, wS_raise, wS_try, wS_pass, wS_brk, wS_cont, wS_augN, wS_augF, wS_augS, wEs, wO, wAll, wTgs, wB, List.cons_append, List.nil_append, List.getElem?_cons_zero, List.getElem?_cons_succ, List.set_cons_zero, List.set_cons_succ, Option.some.injEq, exists_eq_left', D.bl.injEq, D.int.injEq, List.map_cons, List.map_nil, List.length_cons, List.length_nil, List.replicate, List.append_eq, Nat.reduceAdd, Nat.reduceSub, Nat.zero_add, Nat.add_zero, Nat.sub_zero, List.any_cons, List.any_nil, Bool.or_false, rd_int, rd_bl, rd_str, rd_non, rd_tup, rd_lst, rd_stl, reduceIte, Bool.not_true, Bool.not_false, Bool.false_eq_true, Nat.sub_self, binD, cmpD, alc_f, dwipe, leD_ii, ltD_ii, gtD_ii, addD_ii, mulD_ii, eqD_ii, len_tup, len_lst, len_str, int_int, int_bl, tuple_lst, tuple_tup]
          exact ⟨rfl, str (1 + t) H3 (by omega) (by omega) hp3 ((hf1.trans hf2).trans hf3)⟩
      · rw [if_neg (by rw [decide_eq_false c7]; simp)]
        rcases hc with rfl | ⟨m, rfl, hm⟩
        · rw [if_pos (by simp)]
          exact Fz0 (K _ _ (okD_int (by decide) (by decide)) hp1 hf1)
        · rw [if_neg (by rw [decide_eq_false (by omega)]; simp)]
          refine ⟨p, q, 90, rfl, hp1, by decide, by decide, ?_⟩
          rintro d H2 ⟨j, j0, j1, rfl⟩ hp2 hf2
          simp only [wE_v, wE_non, wE_bl, wE_int, wE_str, wE_gc, wE_tup, wE_lst, wE_dic0, wE_dicS, wE_bin, wE_cmp, wE_chn, wE_and, wE_or, wE_not, wE_neg, wE_ife, wE_idx, wE_slc, wE_rev, wE_fld, wE_call, wE_meth, wE_make, wE_blt, wE_bm, wE_isi, wE_xf, wE_xi, wTg_nm, wTg_tp, wTg_fld, wTg_sub, wIt_seq, wIt_rng0, wIt_rng1, wIt_enu, wIt_zip, wS_set, wS_expr, wS_ret, wS_retN, wS_ife, wS_raise, wS_try, wS_pass, wS_brk, wS_cont, wS_augN, wS_augF, wS_augS, wEs, wO, wAll, wTgs, wB, List.cons_append, List.nil_append, List.getElem?_cons_zero, List.getElem?_cons_succ, List.set_cons_zero, List.set_cons_succ, Option.some.injEq, exists_eq_left', D.bl.injEq, D.int.injEq, List.map_cons, List.map_nil, List.length_cons, List.length_nil, List.replicate, List.append_eq, Nat.reduceAdd, Nat.reduceSub, Nat.zero_add, Nat.add_zero, Nat.sub_zero, List.any_cons, List.any_nil, Bool.or_false, rd_int, rd_bl, rd_str, rd_non, rd_tup, rd_lst, rd_stl, reduceIte, Bool.not_true, Bool.not_false, Bool.false_eq_true, Nat.sub_self, binD, cmpD, alc_f, dwipe, leD_ii, ltD_ii, gtD_ii, addD_ii, mulD_ii, eqD_ii, len_tup, len_lst, len_str, int_int, int_bl, tuple_lst, tuple_tup]
          by_cases cj : j = 0
          · rw [if_pos (decide_eq_true cj)]
            refine comp_draws (fun d => ∃ i : Int, d = .int i ∧ 0 ≤ i ∧ i < 300) (p := p) (q := q) ?_ ?_
            · intro K2 h
              simp only [wE_v, wE_non, wE_bl, wE_int, wE_str, wE_gc, wE_tup, wE_lst, wE_dic0, wE_dicS, wE_bin, wE_cmp, wE_chn, wE_and, wE_or, wE_not, wE_neg, wE_ife, wE_idx, wE_slc, wE_rev, wE_fld, wE_call, wE_meth, wE_make, wE_blt, wE_bm, wE_isi, wE_xf, wE_xi, wTg_nm, wTg_tp, wTg_fld, wTg_sub, wIt_seq, wIt_rng0, wIt_rng1, wIt_enu, wIt_zip, wS_set, wS_expr, wS_ret, wS_retN, wS_ife, wS_raise, wS_try, wS_pass, wS_brk, wS_cont, wS_augN, wS_augF, wS_augS, wEs, wO, wAll, wTgs, wB, List.cons_append, List.nil_append, List.getElem?_cons_zero, List.getElem?_cons_succ, List.set_cons_zero, List.set_cons_succ, Option.some.injEq, exists_eq_left', D.bl.injEq, D.int.injEq, List.map_cons, List.map_nil, List.length_cons, List.length_nil, List.replicate, List.append_eq, Nat.reduceAdd, Nat.reduceSub, Nat.zero_add, Nat.add_zero, Nat.sub_zero, List.any_cons, List.any_nil, Bool.or_false, rd_int, rd_bl, rd_str, rd_non, rd_tup, rd_lst, rd_stl, reduceIte, Bool.not_true, Bool.not_false, Bool.false_eq_true, Nat.sub_self, binD, cmpD, alc_f, dwipe, leD_ii, ltD_ii, gtD_ii, addD_ii, mulD_ii, eqD_ii, len_tup, len_lst, len_str, int_int, int_bl, tuple_lst, tuple_tup, h1]
              refine ⟨p, q, 200, rfl, hp2, by decide, by decide, ?_⟩
              rintro d H3 ⟨t, t0, t1, rfl⟩ hp3 hf3
              refine h (100 + t) H3 (by omega) (by omega) hp3 ?_
              intro ys H4 hl hy hp4 hf4
              simp only [wE_v, wE_non, wE_bl, wE_int, wE_str, wE_gc, wE_tup, wE_lst, wE_dic0, wE_dicS, wE_bin, wE_cmp, wE_chn, wE_and, wE_or, wE_not, wE_neg, wE_ife, wE_idx, wE_slc, wE_rev, wE_fld, wE_call, wE_meth, wE_make, wE_blt, wE_bm, wE_isi, wE_xf, wE_xi, wTg_nm, wTg_tp, wTg_fld, wTg_sub, wIt_seq, wIt_rng0, wIt_rng1, wIt_enu, wIt_zip, wS_set, wS_expr, wS_ret, wS_retN, wS_ife, wS_raise, wS_try, wS_pass, wS_brk, wS_cont, wS_augN, wS_augF, wS_augS, wEs, wO, wAll, wTgs, wB, List.cons_append, List.nil_append, List.getElem?_cons_zero, List.getElem?_cons_succ, List.set_cons_zero, List.set_cons_succ, Option.some.injEq, exists_eq_left', D.bl.injEq, D.int.injEq, List.map_cons, List.map_nil, List.length_cons, List.length_nil, List.replicate, List.append_eq, Nat.reduceAdd, Nat.reduceSub, Nat.zero_add, Nat.add_zero, Nat.sub_zero, List.any_cons, List.any_nil, Bool.or_false, rd_int, rd_bl, rd_str, rd_non, rd_tup, rd_lst, rd_stl, reduceIte, Bool.not_true, Bool.not_false, Bool.false_eq_true, Nat.sub_self, binD, cmpD, alc_f, dwipe, leD_ii, ltD_ii, gtD_ii, addD_ii, mulD_ii, eqD_ii, len_tup, len_lst, len_str, int_int, int_bl, tuple_lst, tuple_tup]
              refine Fz0 (K _ _ (okD_tup (B := 3) ?_ (by omega) ?_) hp4 (((hf1.trans hf2).trans hf3).trans hf4))
              · intro x hx
                obtain ⟨i, rfl, i0, i1⟩ := hy x hx
                refine ⟨by rw [isP], by rw [isPc], Nat.zero_le _, ?_⟩
                rw [pby, if_pos i0, List.length_cons]
                have := whN_len 1 i.toNat (by omega)
                omega
              · rw [hl]
                have := pow5 (m + 1)
                omega
            · intro d H' K2 hp' hk
              simp only [wE_v, wE_non, wE_bl, wE_int, wE_str, wE_gc, wE_tup, wE_lst, wE_dic0, wE_dicS, wE_bin, wE_cmp, wE_chn, wE_and, wE_or, wE_not, wE_neg, wE_ife, wE_idx, wE_slc, wE_rev, wE_fld, wE_call, wE_meth, wE_make, wE_blt, wE_bm, wE_isi, wE_xf, wE_xi, wTg_nm, wTg_tp, wTg_fld, wTg_sub, wIt_seq, wIt_rng0, wIt_rng1, wIt_enu, wIt_zip, wS_set, wS_expr, wS_ret, wS_retN, wS_ife, wS_raise, wS_try, wS_pass, wS_brk, wS_cont, wS_augN, wS_augF, wS_augS, wEs, wO, wAll, wTgs, wB, List.cons_append, List.nil_append, List.getElem?_cons_zero, List.getElem?_cons_succ, List.set_cons_zero, List.set_cons_succ, Option.some.injEq, exists_eq_left', D.bl.injEq, D.int.injEq, List.map_cons, List.map_nil, List.length_cons, List.length_nil, List.replicate, List.append_eq, Nat.reduceAdd, Nat.reduceSub, Nat.zero_add, Nat.add_zero, Nat.sub_zero, List.any_cons, List.any_nil, Bool.or_false, rd_int, rd_bl, rd_str, rd_non, rd_tup, rd_lst, rd_stl, reduceIte, Bool.not_true, Bool.not_false, Bool.false_eq_true, Nat.sub_self, binD, cmpD, alc_f, dwipe, leD_ii, ltD_ii, gtD_ii, addD_ii, mulD_ii, eqD_ii, len_tup, len_lst, len_str, int_int, int_bl, tuple_lst, tuple_tup, h1]
              refine ⟨p, q, 300, rfl, hp', by decide, by decide, ?_⟩
              rintro d H3 ⟨t, t0, t1, rfl⟩ hp3 hf3
              exact hk _ _ ⟨t, rfl, t0, t1⟩ hp3 hf3
          · rw [if_neg (by rw [decide_eq_false cj]; simp)]
            refine comp_draws (okD m) (p := p) (q := q) ?_ ?_
            · intro K2 h
              simp only [wE_v, wE_non, wE_bl, wE_int, wE_str, wE_gc, wE_tup, wE_lst, wE_dic0, wE_dicS, wE_bin, wE_cmp, wE_chn, wE_and, wE_or, wE_not, wE_neg, wE_ife, wE_idx, wE_slc, wE_rev, wE_fld, wE_call, wE_meth, wE_make, wE_blt, wE_bm, wE_isi, wE_xf, wE_xi, wTg_nm, wTg_tp, wTg_fld, wTg_sub, wIt_seq, wIt_rng0, wIt_rng1, wIt_enu, wIt_zip, wS_set, wS_expr, wS_ret, wS_retN, wS_ife, wS_raise, wS_try, wS_pass, wS_brk, wS_cont, wS_augN, wS_augF, wS_augS, wEs, wO, wAll, wTgs, wB, List.cons_append, List.nil_append, List.getElem?_cons_zero, List.getElem?_cons_succ, List.set_cons_zero, List.set_cons_succ, Option.some.injEq, exists_eq_left', D.bl.injEq, D.int.injEq, List.map_cons, List.map_nil, List.length_cons, List.length_nil, List.replicate, List.append_eq, Nat.reduceAdd, Nat.reduceSub, Nat.zero_add, Nat.add_zero, Nat.sub_zero, List.any_cons, List.any_nil, Bool.or_false, rd_int, rd_bl, rd_str, rd_non, rd_tup, rd_lst, rd_stl, reduceIte, Bool.not_true, Bool.not_false, Bool.false_eq_true, Nat.sub_self, binD, cmpD, alc_f, dwipe, leD_ii, ltD_ii, gtD_ii, addD_ii, mulD_ii, eqD_ii, len_tup, len_lst, len_str, int_int, int_bl, tuple_lst, tuple_tup, h1]
              refine ⟨p, q, 5, rfl, hp2, by decide, by decide, ?_⟩
              rintro d H3 ⟨t, t0, t1, rfl⟩ hp3 hf3
              refine h t H3 (by omega) (by omega) hp3 ?_
              intro ys H4 hl hy hp4 hf4
              simp only [wE_v, wE_non, wE_bl, wE_int, wE_str, wE_gc, wE_tup, wE_lst, wE_dic0, wE_dicS, wE_bin, wE_cmp, wE_chn, wE_and, wE_or, wE_not, wE_neg, wE_ife, wE_idx, wE_slc, wE_rev, wE_fld, wE_call, wE_meth, wE_make, wE_blt, wE_bm, wE_isi, wE_xf, wE_xi, wTg_nm, wTg_tp, wTg_fld, wTg_sub, wIt_seq, wIt_rng0, wIt_rng1, wIt_enu, wIt_zip, wS_set, wS_expr, wS_ret, wS_retN, wS_ife, wS_raise, wS_try, wS_pass, wS_brk, wS_cont, wS_augN, wS_augF, wS_augS, wEs, wO, wAll, wTgs, wB, List.cons_append, List.nil_append, List.getElem?_cons_zero, List.getElem?_cons_succ, List.set_cons_zero, List.set_cons_succ, Option.some.injEq, exists_eq_left', D.bl.injEq, D.int.injEq, List.map_cons, List.map_nil, List.length_cons, List.length_nil, List.replicate, List.append_eq, Nat.reduceAdd, Nat.reduceSub, Nat.zero_add, Nat.add_zero, Nat.sub_zero, List.any_cons, List.any_nil, Bool.or_false, rd_int, rd_bl, rd_str, rd_non, rd_tup, rd_lst, rd_stl, reduceIte, Bool.not_true, Bool.not_false, Bool.false_eq_true, Nat.sub_self, binD, cmpD, alc_f, dwipe, leD_ii, ltD_ii, gtD_ii, addD_ii, mulD_ii, eqD_ii, len_tup, len_lst, len_str, int_int, int_bl, tuple_lst, tuple_tup]
              refine Fz0 (K _ _ (okD_tup (B := 1000 * 5 ^ m) hy (by omega) ?_) hp4 (((hf1.trans hf2).trans hf3).trans hf4))
              rw [hl, Nat.pow_succ]
              have h6 : t.toNat * (1000 * 5 ^ m) ≤ 4 * (1000 * 5 ^ m) := Nat.mul_le_mul_right _ (by omega)
              have := pow5 m
              omega
            · intro d H' K2 hp' hk
              simp only [wE_v, wE_non, wE_bl, wE_int, wE_str, wE_gc, wE_tup, wE_lst, wE_dic0, wE_dicS, wE_bin, wE_cmp, wE_chn, wE_and, wE_or, wE_not, wE_neg, wE_ife, wE_idx, wE_slc, wE_rev, wE_fld, wE_call, wE_meth, wE_make, wE_blt, wE_bm, wE_isi, wE_xf, wE_xi, wTg_nm, wTg_tp, wTg_fld, wTg_sub, wIt_seq, wIt_rng0, wIt_rng1, wIt_enu, wIt_zip, wS_set, wS_expr, wS_ret, wS_retN, wS_ife, wS_raise, wS_try, wS_pass, wS_brk, wS_cont, wS_augN, wS_augF, wS_augS, wEs, wO, wAll, wTgs, wB, List.cons_append, List.nil_append, List.getElem?_cons_zero, List.getElem?_cons_succ, List.set_cons_zero, List.set_cons_succ, Option.some.injEq, exists_eq_left', D.bl.injEq, D.int.injEq, List.map_cons, List.map_nil, List.length_cons, List.length_nil, List.replicate, List.append_eq, Nat.reduceAdd, Nat.reduceSub, Nat.zero_add, Nat.add_zero, Nat.sub_zero, List.any_cons, List.any_nil, Bool.or_false, rd_int, rd_bl, rd_str, rd_non, rd_tup, rd_lst, rd_stl, reduceIte, Bool.not_true, Bool.not_false, Bool.false_eq_true, Nat.sub_self, binD, cmpD, alc_f, dwipe, leD_ii, ltD_ii, gtD_ii, addD_ii, mulD_ii, eqD_ii, len_tup, len_lst, len_str, int_int, int_bl, tuple_lst, tuple_tup, hm]
              refine ⟨p, q, ?_, hp', hk⟩
              rw [show ((m + 1 : Nat) : Int) - 1 = (m : Int) by omega]
end Sp

set_option maxRecDepth 100000
set_option maxHeartbeats 1000000
namespace Sp
open PySem DL Ir
/-! ### what was read is the row of it -/
def seg (row : List Int) (a e : Nat) : List Int := (row.drop a).take (e - a)
theorem seg_app {row : List Int} {a b e : Nat} (h1 : a ≤ b) (h2 : b ≤ e) : seg row a e = seg row a b ++ seg row b e := by
  unfold seg
  rw [show e - a = (b - a) + (e - b) by omega, List.take_add, List.drop_drop, show a + (b - a) = b by omega]
theorem seg_one {row : List Int} {a : Nat} {b : Int} (h : row[a]? = some b) : seg row a (a + 1) = [b] := by
  unfold seg
  have h3 := List.getElem?_eq_some_iff.mp h
  rw [List.drop_eq_getElem_cons h3.1, h3.2, show a + 1 - a = 1 by omega]; rfl
theorem rgo_inv : ∀ {l : List Int} {k : Nat} {f w : Int} {v : Int} {n : Nat}, bRow l → rgo l k f w = some (v, n) → ∃ m : Nat, v = f + m * w ∧ l.take (n - k) = whN m ∧ (m ≠ 0 ∨ k = 0)
  | [], _, _, _, _, _, _, h => by cases h
  | b :: r, k, f, w, v, n, hr, h => by
    have hb := hr b List.mem_cons_self
    unfold rgo at h
    split at h
    · rename_i h1
      split at h
      · cases h
      · rename_i h2
        cases h
        refine ⟨b.toNat, ?_, ?_, ?_⟩
        · have : ((b.toNat : Nat) : Int) = b % 128 := by omega
          rw [this]
        · rw [show k + 1 - k = 1 by omega, whN_lt (by omega), show ((b.toNat : Nat) : Int) = b by omega]; rfl
        · by_cases c : k = 0
          · exact .inr c
          · exact .inl fun e => h2 ⟨by omega, by omega⟩
    · rename_i h1
      have hle := rgo_le h
      obtain ⟨m, e1, e2, e3⟩ := rgo_inv (fun x hx => hr x (List.mem_cons_of_mem _ hx)) h
      have hm : m ≠ 0 := by rcases e3 with e3 | e3; exact e3; omega
      refine ⟨(b % 128).toNat + 128 * m, ?_, ?_, .inl (by omega)⟩
      · have : (((b % 128).toNat + 128 * m : Nat) : Int) = b % 128 + 128 * m := by omega
        rw [e1, this, Int.add_mul, Int.add_assoc]
        congr 2
        rw [Int.mul_comm w 128, ← Int.mul_assoc, Int.mul_comm (m : Int) 128]
      · rw [show n - k = (n - (k + 1)) + 1 by omega, List.take_succ_cons, e2, whN_ge (show 128 ≤ (b % 128).toNat + 128 * m by omega)]
        congr 1
        · omega
        · congr 1; omega
theorem bRow_drop {l : List Int} {a : Nat} (h : bRow l) : bRow (l.drop a) := fun b hb => h b (List.mem_of_mem_drop hb)
theorem rdW_inv {row : List Int} {a e : Nat} {v : Int} (hr : bRow row) (h : rdW row a = some (v, e)) : ∃ m : Nat, v = m ∧ seg row a e = whN m := by
  unfold rdW at h
  obtain ⟨⟨v', n⟩, h1, h2⟩ := Option.map_eq_some_iff.mp h
  cases h2
  obtain ⟨m, e1, e2, _⟩ := rgo_inv (bRow_drop hr) h1
  refine ⟨m, by dsimp only; omega, ?_⟩
  unfold seg
  rw [Nat.sub_zero] at e2
  rw [show a + n - a = n by omega, e2]
theorem rdStr_inv {row : List Int} {a e : Nat} {d : D} (hr : bRow row) (h : rdStr row a = .ok (d, e)) : ∃ s : Str, d = .str s ∧ isShort (.str s) = true ∧ seg row a e = whN s.length ++ s.cps.toList.map fun (c : Nat) => (c : Int) := by
  unfold rdStr at h
  split at h
  · cases h
  · rename_i m a1 hw
    have hle := rdW_le hw
    obtain ⟨k, rfl, hs⟩ := rdW_inv hr hw
    split at h
    · rename_i h1
      split at h
      · rename_i cs e' h2
        cases h
        obtain ⟨i1, i2, i3, i4⟩ := rdT_at_inv h2
        rw [Int.toNat_natCast] at i1 i2 i4
        have hl : (⟨cs.toArray⟩ : Str).length = cs.length := by show cs.toArray.size = _; rw [List.size_toArray]
        refine ⟨_, rfl, ?_, ?_⟩
        · show (decide (1 ≤ (⟨cs.toArray⟩ : Str).length) && decide ((⟨cs.toArray⟩ : Str).length ≤ 20) && cs.toArray.toList.all fun c => isSign (c : Nat)) = true
          rw [hl, i4, decide_eq_true (by omega), decide_eq_true (by omega)]
          exact i3
        · rw [seg_app (b := a1) (by omega) (by omega), hs, hl, i4]
          congr 1
          unfold seg
          rw [i1, show a1 + k - a1 = k by omega, i2]
      · cases h
    · cases h
theorem isPc_isP : ∀ (d : D) (n : Int), isPc d n = true → isP d = true ∧ True := fun d n h => ⟨by
  have key : ∀ d : D, (∀ n : Int, isPc d n = true → isP d = true) := by
    intro d
    exact (go d)
  exact key d n h, trivial⟩
where
  go : ∀ (d : D) (n : Int), isPc d n = true → isP d = true
    | .non, _, _ => by rw [isP]
    | .bl _, _, _ => by rw [isP]
    | .int _, _, _ => by rw [isP]
    | .str _, _, _ => by rw [isP]
    | .tup xs, n, h => by
      rw [isPc, Bool.and_eq_true] at h
      rw [isP]
      exact gos xs _ h.2
  gos : ∀ (xs : List D) (n : Int), isPcs xs n = true → isPs xs = true
    | [], _, _ => by rw [isPs]
    | x :: xs, n, h => by
      rw [isPcs, Bool.and_eq_true] at h
      rw [isPs, go x n h.1, gos xs n h.2]; rfl
mutual
theorem rdMany_inv {row : List Int} (hr : bRow row) : ∀ {n k a : Nat} {ds : List D} {e : Nat}, a ≤ row.length → rdMany (rdP n row) k a = .ok (ds, e) → seg row a e = pbys ds ∧ isPcs ds n = true ∧ ds.length = k
  | n, 0, a, ds, e, _, h => by
    cases h
    exact ⟨by unfold seg; rw [Nat.sub_self, List.take_zero, pbys], by rw [isPcs], rfl⟩
  | n, k + 1, a, ds, e, ha, h => by
    rw [rdMany] at h
    split at h
    · cases h
    · rename_i d a1 h1
      split at h
      · cases h
      · rename_i ds' a2 h2
        cases h
        have l1 := rdP_le h1
        have l2 := rdMany_le (fun a d e h => rdP_le h) l1.2 h2
        have i1 := rdP_inv hr h1
        have i2 := rdMany_inv hr l1.2 h2
        refine ⟨?_, by rw [isPcs, i1.2, i2.2.1]; rfl, by rw [List.length_cons, i2.2.2]⟩
        rw [seg_app (b := a1) (by omega) l2.1, i1.1, i2.1, pbys]
termination_by n k => (n, k + 1)
theorem rdP_inv {row : List Int} (hr : bRow row) : ∀ {n a : Nat} {d : D} {e : Nat}, rdP n row a = .ok (d, e) → seg row a e = pby d ∧ isPc d n = true
  | n, a, d, e, h => by
    have hq : ∃ sev, rdC sev row a = .ok (d, e) ∧ ((n = 0 ∧ sev = none) ∨ ∃ m, n = m + 1 ∧ sev = some (rdSev (rdP m row) row)) := by
      cases n with
      | zero => exact ⟨none, h, .inl ⟨rfl, rfl⟩⟩
      | succ m => exact ⟨_, h, .inr ⟨m, rfl, rfl⟩⟩
    have hle := rdP_le h
    obtain ⟨sev, h, hs⟩ := hq
    unfold rdC at h
    split at h
    · cases h
    · rename_i b hb
      have hby := hr b (List.mem_of_getElem? hb)
      have s1 : seg row a e = b :: seg row (a + 1) e := by
        rw [seg_app (b := a + 1) (by omega) (by omega), seg_one hb]; rfl
      have s0 : seg row (a + 1) (a + 1) = [] := by unfold seg; rw [Nat.sub_self, List.take_zero]
      split at h
      · cases h
      · split at h
        · rename_i e6
          rcases hs with ⟨rfl, rfl⟩ | ⟨m, rfl, rfl⟩
          · cases h
          · have h : rdSev (rdP m row) row (a + 1) = .ok (d, e) := h
            unfold rdSev at h
            split at h
            · cases h
            · rename_i m' a1 hw
              have l1 := rdW_le hw
              obtain ⟨k, rfl, hk⟩ := rdW_inv hr hw
              split at h
              · rename_i ds e' h'
                cases h
                rw [Int.toNat_natCast] at h'
                have l2 := rdMany_le (fun a d e h => rdP_le h) l1.2 h'
                have i := rdMany_inv hr l1.2 h'
                refine ⟨?_, ?_⟩
                · rw [s1, seg_app (b := a1) (by omega) l2.1, hk, i.1, pby, i.2.2, e6]
                · rw [isPc, show ((m + 1 : Nat) : Int) - 1 = (m : Int) by omega, i.2.1, decide_eq_true (by omega)]; rfl
              · cases h
        · split at h
          · rename_i e0
            cases h
            exact ⟨by rw [s1, s0, e0, pby], by rw [isPc]⟩
          · split at h
            · rename_i e12
              cases h
              refine ⟨?_, by rw [isPc]⟩
              rw [s1, s0, pby]
              rcases e12 with rfl | rfl <;> rfl
            · split at h
              · rename_i e5
                obtain ⟨s, rfl, h1, h2⟩ := rdStr_inv hr h
                exact ⟨by rw [s1, h2, e5, pby], by rw [isPc]; exact h1⟩
              · split at h
                · cases h
                · rename_i v e' hw
                  obtain ⟨k, rfl, hk⟩ := rdW_inv hr hw
                  cases h
                  refine ⟨?_, by rw [isPc]⟩
                  rw [s1, hk, pby]
                  by_cases c : b = 3
                  · rw [if_pos c, if_pos (by omega), c, Int.toNat_natCast]
                  · rw [if_neg c, if_neg (by omega), show b = 4 by omega, show (-1 - (-1 - (k : Int))).toNat = k by omega]
termination_by n => (n, 0)
end
theorem told_inv {row : List Int} {d : D} (hr : bRow row) (h : told row = .ok d) : pby d = row ∧ isPc d 20 = true ∧ isP d = true ∧ deep d ≤ 20 := by
  unfold told at h
  split at h
  · rename_i d' a h'
    split at h
    · cases h
    · cases h
      have hle := rdP_le h'
      have i := rdP_inv hr h'
      refine ⟨?_, i.2, (isPc_isP _ _ i.2).1, ?_⟩
      · rw [← i.1]
        unfold seg
        rw [List.drop_zero, List.take_of_length_le (by omega)]
      · exact deep_of _ _ i.2
  · cases h
where
  deep_of : ∀ (d : D) (n : Nat), isPc d n = true → deep d ≤ n
    | .non, _, _ => Nat.zero_le _
    | .bl _, _, _ => Nat.zero_le _
    | .int _, _, _ => Nat.zero_le _
    | .str _, _, _ => Nat.zero_le _
    | .tup xs, n, h => by
      rw [isPc, Bool.and_eq_true, decide_eq_true_eq] at h
      obtain ⟨m, rfl⟩ : ∃ m, n = m + 1 := ⟨n - 1, by omega⟩
      rw [show ((m + 1 : Nat) : Int) - 1 = (m : Int) by omega] at h
      rw [deep]
      have := deeps_of' xs m h.2
      omega
  deeps_of' : ∀ (xs : List D) (n : Nat), isPcs xs n = true → deeps xs ≤ n
    | [], _, _ => by rw [deeps]; exact Nat.zero_le _
    | x :: xs, n, h => by
      rw [isPcs, Bool.and_eq_true] at h
      rw [deeps]
      exact Nat.max_le.mpr ⟨deep_of x n h.1, deeps_of' xs n h.2⟩
end Sp

set_option maxRecDepth 100000
set_option maxHeartbeats 1000000
namespace Sp
open PySem DL Ir
def deepL : Nat → D
  | 0 => .lst [.non]
  | n + 1 => .lst [deepL n]
theorem deepL_deep : ∀ n, deep (deepL n) = n + 1
  | 0 => rfl
  | n + 1 => by show max (deep (deepL n)) 0 + 1 = _; rw [deepL_deep n]; omega
def spDeep : DSp := fun ds H Q _ => ds = [] ∧ Q (deepL 35) H
theorem sat_deep {G : Gam} : Sat G N__law_deep.length ir__law_deep spDeep := by
  rintro vs H Q E ⟨rfl, q⟩
  unfold ir__law_deep
  simp only [wE_v, wE_non, wE_bl, wE_int, wE_str, wE_gc, wE_tup, wE_lst, wE_dic0, wE_dicS, wE_bin, wE_cmp, wE_chn, wE_and, wE_or, wE_not, wE_neg, wE_ife, wE_idx, wE_slc, wE_rev, wE_fld, wE_call, wE_meth, wE_make, wE_blt, wE_bm, wE_isi, wE_xf, wE_xi, wTg_nm, wTg_tp, wTg_fld, wTg_sub, wIt_seq, wIt_rng0, wIt_rng1, wIt_enu, wIt_zip, wS_set, wS_expr, wS_ret, wS_retN, wS_ife, wS_raise, wS_try, wS_pass, wS_brk, wS_cont, wS_augN, wS_augF, wS_augS, wEs, wO, wAll, wTgs, wB, List.cons_append, List.nil_append, List.getElem?_cons_zero, List.getElem?_cons_succ, List.set_cons_zero, List.set_cons_succ, Option.some.injEq, exists_eq_left', D.bl.injEq, D.int.injEq, List.map_cons, List.map_nil, List.length_cons, List.length_nil, List.replicate, List.append_eq, Nat.reduceAdd, Nat.reduceSub, Nat.zero_add, Nat.add_zero, Nat.sub_zero, List.any_cons, List.any_nil, Bool.or_false, rd_int, rd_bl, rd_str, rd_non, rd_tup, rd_lst, rd_stl, reduceIte, Bool.not_true, Bool.not_false, Bool.false_eq_true, Nat.sub_self, binD, cmpD, alc_f, dwipe, leD_ii, ltD_ii, gtD_ii, addD_ii, mulD_ii, eqD_ii, len_tup, len_lst, len_str, int_int, int_bl, tuple_lst, tuple_tup, N__law_deep]
  rw [wS]
  simp only [wE_v, wE_non, wE_bl, wE_int, wE_str, wE_gc, wE_tup, wE_lst, wE_dic0, wE_dicS, wE_bin, wE_cmp, wE_chn, wE_and, wE_or, wE_not, wE_neg, wE_ife, wE_idx, wE_slc, wE_rev, wE_fld, wE_call, wE_meth, wE_make, wE_blt, wE_bm, wE_isi, wE_xf, wE_xi, wTg_nm, wTg_tp, wTg_fld, wTg_sub, wIt_seq, wIt_rng0, wIt_rng1, wIt_enu, wIt_zip, wS_set, wS_expr, wS_ret, wS_retN, wS_ife, wS_raise, wS_try, wS_pass, wS_brk, wS_cont, wS_augN, wS_augF, wS_augS, wEs, wO, wAll, wTgs, wB, List.cons_append, List.nil_append, List.getElem?_cons_zero, List.getElem?_cons_succ, List.set_cons_zero, List.set_cons_succ, Option.some.injEq, exists_eq_left', D.bl.injEq, D.int.injEq, List.map_cons, List.map_nil, List.length_cons, List.length_nil, List.replicate, List.append_eq, Nat.reduceAdd, Nat.reduceSub, Nat.zero_add, Nat.add_zero, Nat.sub_zero, List.any_cons, List.any_nil, Bool.or_false, rd_int, rd_bl, rd_str, rd_non, rd_tup, rd_lst, rd_stl, reduceIte, Bool.not_true, Bool.not_false, Bool.false_eq_true, Nat.sub_self, binD, cmpD, alc_f, dwipe, leD_ii, ltD_ii, gtD_ii, addD_ii, mulD_ii, eqD_ii, len_tup, len_lst, len_str, int_int, int_bl, tuple_lst, tuple_tup]
  refine ⟨by decide, by decide, fun hz => ⟨fun i σ H' => ∃ o : Option D, σ = [some (deepL i), o] ∧ H' = H, ⟨none, rfl, rfl⟩, fun _ _ _ _ => trivial, ?_, ?_⟩⟩
  · rintro i d σ H' hi ⟨o, rfl, rfl⟩
    simp only [wE_v, wE_non, wE_bl, wE_int, wE_str, wE_gc, wE_tup, wE_lst, wE_dic0, wE_dicS, wE_bin, wE_cmp, wE_chn, wE_and, wE_or, wE_not, wE_neg, wE_ife, wE_idx, wE_slc, wE_rev, wE_fld, wE_call, wE_meth, wE_make, wE_blt, wE_bm, wE_isi, wE_xf, wE_xi, wTg_nm, wTg_tp, wTg_fld, wTg_sub, wIt_seq, wIt_rng0, wIt_rng1, wIt_enu, wIt_zip, wS_set, wS_expr, wS_ret, wS_retN, wS_ife, wS_raise, wS_try, wS_pass, wS_brk, wS_cont, wS_augN, wS_augF, wS_augS, wEs, wO, wAll, wTgs, wB, List.cons_append, List.nil_append, List.getElem?_cons_zero, List.getElem?_cons_succ, List.set_cons_zero, List.set_cons_succ, Option.some.injEq, exists_eq_left', D.bl.injEq, D.int.injEq, List.map_cons, List.map_nil, List.length_cons, List.length_nil, List.replicate, List.append_eq, Nat.reduceAdd, Nat.reduceSub, Nat.zero_add, Nat.add_zero, Nat.sub_zero, List.any_cons, List.any_nil, Bool.or_false, rd_int, rd_bl, rd_str, rd_non, rd_tup, rd_lst, rd_stl, reduceIte, Bool.not_true, Bool.not_false, Bool.false_eq_true, Nat.sub_self, binD, cmpD, alc_f, dwipe, leD_ii, ltD_ii, gtD_ii, addD_ii, mulD_ii, eqD_ii, len_tup, len_lst, len_str, int_int, int_bl, tuple_lst, tuple_tup]
    exact Fz.here ⟨_, rfl, rfl⟩
  · rintro σ H' ⟨o, rfl, rfl⟩
    exact ⟨_, rfl, Fz0 q⟩
def spFlag : DSp := fun ds H Q _ => ∃ b : Bool, ds = [.bl b, .bl b] ∧ Q (.bl true) H
theorem sat_flag {G : Gam} : Sat G N__law_flag.length ir__law_flag spFlag := by
  rintro vs H Q E ⟨b, rfl, q⟩
  unfold ir__law_flag
  simp only [wE_v, wE_non, wE_bl, wE_int, wE_str, wE_gc, wE_tup, wE_lst, wE_dic0, wE_dicS, wE_bin, wE_cmp, wE_chn, wE_and, wE_or, wE_not, wE_neg, wE_ife, wE_idx, wE_slc, wE_rev, wE_fld, wE_call, wE_meth, wE_make, wE_blt, wE_bm, wE_isi, wE_xf, wE_xi, wTg_nm, wTg_tp, wTg_fld, wTg_sub, wIt_seq, wIt_rng0, wIt_rng1, wIt_enu, wIt_zip, wS_set, wS_expr, wS_ret, wS_retN, wS_ife, wS_raise, wS_try, wS_pass, wS_brk, wS_cont, wS_augN, wS_augF, wS_augS, wEs, wO, wAll, wTgs, wB, List.cons_append, List.nil_append, List.getElem?_cons_zero, List.getElem?_cons_succ, List.set_cons_zero, List.set_cons_succ, Option.some.injEq, exists_eq_left', D.bl.injEq, D.int.injEq, List.map_cons, List.map_nil, List.length_cons, List.length_nil, List.replicate, List.append_eq, Nat.reduceAdd, Nat.reduceSub, Nat.zero_add, Nat.add_zero, Nat.sub_zero, List.any_cons, List.any_nil, Bool.or_false, rd_int, rd_bl, rd_str, rd_non, rd_tup, rd_lst, rd_stl, reduceIte, Bool.not_true, Bool.not_false, Bool.false_eq_true, Nat.sub_self, binD, cmpD, alc_f, dwipe, leD_ii, ltD_ii, gtD_ii, addD_ii, mulD_ii, eqD_ii, len_tup, len_lst, len_str, int_int, int_bl, tuple_lst, tuple_tup, N__law_flag, tyD]
  exact ⟨rfl, eqD_same rfl (Nat.zero_le _) deq_bl (Fz0 q)⟩
def nest : Nat → D → D
  | 0, d => d
  | k + 1, d => .tup [nest k d]
theorem nest_succ (k : Nat) (d : D) : nest (k + 1) d = .tup [nest k d] := rfl
def spNested : DSp := fun ds H Q _ => ∃ (k : Nat) (d : D), ds = [.int k, d] ∧ k ≤ 100 ∧ Q (nest k d) H
theorem sat_nested {G : Gam} : Sat G N__law_nested.length ir__law_nested spNested := by
  rintro vs H Q E ⟨k, d, rfl, hk, q⟩
  unfold ir__law_nested
  simp only [wE_v, wE_non, wE_bl, wE_int, wE_str, wE_gc, wE_tup, wE_lst, wE_dic0, wE_dicS, wE_bin, wE_cmp, wE_chn, wE_and, wE_or, wE_not, wE_neg, wE_ife, wE_idx, wE_slc, wE_rev, wE_fld, wE_call, wE_meth, wE_make, wE_blt, wE_bm, wE_isi, wE_xf, wE_xi, wTg_nm, wTg_tp, wTg_fld, wTg_sub, wIt_seq, wIt_rng0, wIt_rng1, wIt_enu, wIt_zip, wS_set, wS_expr, wS_ret, wS_retN, wS_ife, wS_raise, wS_try, wS_pass, wS_brk, wS_cont, wS_augN, wS_augF, wS_augS, wEs, wO, wAll, wTgs, wB, List.cons_append, List.nil_append, List.getElem?_cons_zero, List.getElem?_cons_succ, List.set_cons_zero, List.set_cons_succ, Option.some.injEq, exists_eq_left', D.bl.injEq, D.int.injEq, List.map_cons, List.map_nil, List.length_cons, List.length_nil, List.replicate, List.append_eq, Nat.reduceAdd, Nat.reduceSub, Nat.zero_add, Nat.add_zero, Nat.sub_zero, List.any_cons, List.any_nil, Bool.or_false, rd_int, rd_bl, rd_str, rd_non, rd_tup, rd_lst, rd_stl, reduceIte, Bool.not_true, Bool.not_false, Bool.false_eq_true, Nat.sub_self, binD, cmpD, alc_f, dwipe, leD_ii, ltD_ii, gtD_ii, addD_ii, mulD_ii, eqD_ii, len_tup, len_lst, len_str, int_int, int_bl, tuple_lst, tuple_tup, N__law_nested]
  rw [wS]
  simp only [wE_v, wE_non, wE_bl, wE_int, wE_str, wE_gc, wE_tup, wE_lst, wE_dic0, wE_dicS, wE_bin, wE_cmp, wE_chn, wE_and, wE_or, wE_not, wE_neg, wE_ife, wE_idx, wE_slc, wE_rev, wE_fld, wE_call, wE_meth, wE_make, wE_blt, wE_bm, wE_isi, wE_xf, wE_xi, wTg_nm, wTg_tp, wTg_fld, wTg_sub, wIt_seq, wIt_rng0, wIt_rng1, wIt_enu, wIt_zip, wS_set, wS_expr, wS_ret, wS_retN, wS_ife, wS_raise, wS_try, wS_pass, wS_brk, wS_cont, wS_augN, wS_augF, wS_augS, wEs, wO, wAll, wTgs, wB, List.cons_append, List.nil_append, List.getElem?_cons_zero, List.getElem?_cons_succ, List.set_cons_zero, List.set_cons_succ, Option.some.injEq, exists_eq_left', D.bl.injEq, D.int.injEq, List.map_cons, List.map_nil, List.length_cons, List.length_nil, List.replicate, List.append_eq, Nat.reduceAdd, Nat.reduceSub, Nat.zero_add, Nat.add_zero, Nat.sub_zero, List.any_cons, List.any_nil, Bool.or_false, rd_int, rd_bl, rd_str, rd_non, rd_tup, rd_lst, rd_stl, reduceIte, Bool.not_true, Bool.not_false, Bool.false_eq_true, Nat.sub_self, binD, cmpD, alc_f, dwipe, leD_ii, ltD_ii, gtD_ii, addD_ii, mulD_ii, eqD_ii, len_tup, len_lst, len_str, int_int, int_bl, tuple_lst, tuple_tup]
  refine ⟨by omega, by omega, fun hz => ⟨fun i σ H' => ∃ o : Option D, σ = [some (.int k), some d, some (nest i d), o] ∧ H' = H, ⟨none, rfl, rfl⟩, fun _ _ _ _ => trivial, ?_, ?_⟩⟩
  · rintro i x σ H' hi ⟨o, rfl, rfl⟩
    simp only [wE_v, wE_non, wE_bl, wE_int, wE_str, wE_gc, wE_tup, wE_lst, wE_dic0, wE_dicS, wE_bin, wE_cmp, wE_chn, wE_and, wE_or, wE_not, wE_neg, wE_ife, wE_idx, wE_slc, wE_rev, wE_fld, wE_call, wE_meth, wE_make, wE_blt, wE_bm, wE_isi, wE_xf, wE_xi, wTg_nm, wTg_tp, wTg_fld, wTg_sub, wIt_seq, wIt_rng0, wIt_rng1, wIt_enu, wIt_zip, wS_set, wS_expr, wS_ret, wS_retN, wS_ife, wS_raise, wS_try, wS_pass, wS_brk, wS_cont, wS_augN, wS_augF, wS_augS, wEs, wO, wAll, wTgs, wB, List.cons_append, List.nil_append, List.getElem?_cons_zero, List.getElem?_cons_succ, List.set_cons_zero, List.set_cons_succ, Option.some.injEq, exists_eq_left', D.bl.injEq, D.int.injEq, List.map_cons, List.map_nil, List.length_cons, List.length_nil, List.replicate, List.append_eq, Nat.reduceAdd, Nat.reduceSub, Nat.zero_add, Nat.add_zero, Nat.sub_zero, List.any_cons, List.any_nil, Bool.or_false, rd_int, rd_bl, rd_str, rd_non, rd_tup, rd_lst, rd_stl, reduceIte, Bool.not_true, Bool.not_false, Bool.false_eq_true, Nat.sub_self, binD, cmpD, alc_f, dwipe, leD_ii, ltD_ii, gtD_ii, addD_ii, mulD_ii, eqD_ii, len_tup, len_lst, len_str, int_int, int_bl, tuple_lst, tuple_tup]
    exact Fz.here ⟨_, rfl, rfl⟩
  · rintro σ H' ⟨o, rfl, rfl⟩
    rw [rangeD_len, Int.toNat_natCast]
    exact ⟨_, rfl, Fz0 q⟩
mutual
/-- no per cent -/
def noP : D → Bool
  | .tup xs => noPs xs
  | .str s => s.cps.toList.all fun c => c != 37
  | .non => true | .int _ => true | .bl _ => true | .ref _ => true | .lst _ => true | .stl _ => true | .stp _ => true | .dic _ _ => true | .ins _ _ => true | .exn _ _ _ _ => true
def noPs : List D → Bool
  | [] => true
  | x :: xs => noP x && noPs xs
end
theorem noPs_mem {d : D} : ∀ {xs : List D}, noPs xs = true → d ∈ xs → noP d = true
  | x :: xs, h, m => by
    rw [noPs, Bool.and_eq_true] at h
    rcases List.mem_cons.mp m with rfl | m
    · exact h.1
    · exact noPs_mem h.2 m
theorem le_str {a b : Nat} {Q : Bool → Prop} : leD (.str ⟨#[a]⟩) (.str ⟨#[b]⟩) Q = Q (decide (a ≤ b)) := by
  show Q (!decide ([b] < [a])) = _
  congr 1
  have e : ([b] : List Nat) < [a] ↔ b < a := by
    rw [List.cons_lt_cons_iff]
    constructor
    · rintro (h | ⟨_, h⟩)
      · exact h
      · exact absurd h (List.not_lt_nil _)
    · exact .inl
  by_cases h : a ≤ b
  · rw [decide_eq_true h, decide_eq_false (fun z => by have := e.mp z; omega)]; rfl
  · rw [decide_eq_false h, decide_eq_true (e.mpr (by omega))]; rfl
def sgL : D → D
  | .str t => .bl (decide (32 ≤ t.cps.getD 0 0) && decide (t.cps.getD 0 0 ≤ 126))
  | _ => .bl false
theorem toBs_sgL : ∀ l : List Nat, (l.all fun c => c != 37) = true → toBs (l.map (sgL ∘ fun c => .str ⟨#[c]⟩)) = some (l.map fun c => isSign (c : Nat))
  | [], _ => rfl
  | c :: l, h => by
    rw [List.all_cons, Bool.and_eq_true] at h
    have hc : c ≠ 37 := by simpa using h.1
    have e : (decide (32 ≤ c) && decide (c ≤ 126)) = isSign (c : Nat) := by
      unfold isSign
      rw [decide_eq_true (show ((c : Nat) : Int) ≠ 37 by omega), Bool.and_true]
      congr 1
      · exact decide_eq_decide.mpr (by omega)
      · exact decide_eq_decide.mpr (by omega)
    rw [List.map_cons, List.map_cons, ← e]
    show toBs (.bl (decide (32 ≤ c) && decide (c ≤ 126)) :: _) = _
    rw [toBs, toBs_sgL l h.2]; rfl
def spLIP (n : Nat) : DSp := fun ds H Q _ => ∃ d k, ds = [d, .int k] ∧ okQ H d = true ∧ noP d = true ∧ deep d < n ∧ Q (.bl (isPc d k)) H
theorem sat_lip {G : Gam} {n : Nat} (h2 : G.fn "_law_is_parcel" = spLIP n) : Sat G N__law_is_parcel.length ir__law_is_parcel (spLIP (n + 1)) := by
  rintro vs H Q E ⟨d, k, rfl, ho, hn, hd, q⟩
  unfold ir__law_is_parcel
  simp only [wE_v, wE_non, wE_bl, wE_int, wE_str, wE_gc, wE_tup, wE_lst, wE_dic0, wE_dicS, wE_bin, wE_cmp, wE_chn, wE_and, wE_or, wE_not, wE_neg, wE_ife, wE_idx, wE_slc, wE_rev, wE_fld, wE_call, wE_meth, wE_make, wE_blt, wE_bm, wE_isi, wE_xf, wE_xi, wTg_nm, wTg_tp, wTg_fld, wTg_sub, wIt_seq, wIt_rng0, wIt_rng1, wIt_enu, wIt_zip, wS_set, wS_expr, wS_ret, wS_retN, wS_ife, wS_raise, wS_try, wS_pass, wS_brk, wS_cont, wS_augN, wS_augF, wS_augS, wEs, wO, wAll, wTgs, wB, List.cons_append, List.nil_append, List.getElem?_cons_zero, List.getElem?_cons_succ, List.set_cons_zero, List.set_cons_succ, Option.some.injEq, exists_eq_left', D.bl.injEq, D.int.injEq, List.map_cons, List.map_nil, List.length_cons, List.length_nil, List.replicate, List.append_eq, Nat.reduceAdd, Nat.reduceSub, Nat.zero_add, Nat.add_zero, Nat.sub_zero, List.any_cons, List.any_nil, Bool.or_false, rd_int, rd_bl, rd_str, rd_non, rd_tup, rd_lst, rd_stl, reduceIte, Bool.not_true, Bool.not_false, Bool.false_eq_true, Nat.sub_self, binD, cmpD, alc_f, dwipe, leD_ii, ltD_ii, gtD_ii, addD_ii, mulD_ii, eqD_ii, len_tup, len_lst, len_str, int_int, int_bl, tuple_lst, tuple_tup, N__law_is_parcel]
  cases d with
  | tup xs =>
    simp only [wE_v, wE_non, wE_bl, wE_int, wE_str, wE_gc, wE_tup, wE_lst, wE_dic0, wE_dicS, wE_bin, wE_cmp, wE_chn, wE_and, wE_or, wE_not, wE_neg, wE_ife, wE_idx, wE_slc, wE_rev, wE_fld, wE_call, wE_meth, wE_make, wE_blt, wE_bm, wE_isi, wE_xf, wE_xi, wTg_nm, wTg_tp, wTg_fld, wTg_sub, wIt_seq, wIt_rng0, wIt_rng1, wIt_enu, wIt_zip, wS_set, wS_expr, wS_ret, wS_retN, wS_ife, wS_raise, wS_try, wS_pass, wS_brk, wS_cont, wS_augN, wS_augF, wS_augS, wEs, wO, wAll, wTgs, wB, List.cons_append, List.nil_append, List.getElem?_cons_zero, List.getElem?_cons_succ, List.set_cons_zero, List.set_cons_succ, Option.some.injEq, exists_eq_left', D.bl.injEq, D.int.injEq, List.map_cons, List.map_nil, List.length_cons, List.length_nil, List.replicate, List.append_eq, Nat.reduceAdd, Nat.reduceSub, Nat.zero_add, Nat.add_zero, Nat.sub_zero, List.any_cons, List.any_nil, Bool.or_false, rd_int, rd_bl, rd_str, rd_non, rd_tup, rd_lst, rd_stl, reduceIte, Bool.not_true, Bool.not_false, Bool.false_eq_true, Nat.sub_self, binD, cmpD, alc_f, dwipe, leD_ii, ltD_ii, gtD_ii, addD_ii, mulD_ii, eqD_ii, len_tup, len_lst, len_str, int_int, int_bl, tuple_lst, tuple_tup, tyD]
    refine ⟨rfl, ?_⟩
    by_cases a : 0 < k
    · rw [if_pos (decide_eq_true a)]
      refine comp_map (ds := xs) (st := fun _ => seqOf (.tup xs) = some xs) (fun d => .bl (isPc d (k - 1))) ?_ (fun _ _ _ => rfl) ?_ ?_
      · intro K hK
        simp only [wE_v, wE_non, wE_bl, wE_int, wE_str, wE_gc, wE_tup, wE_lst, wE_dic0, wE_dicS, wE_bin, wE_cmp, wE_chn, wE_and, wE_or, wE_not, wE_neg, wE_ife, wE_idx, wE_slc, wE_rev, wE_fld, wE_call, wE_meth, wE_make, wE_blt, wE_bm, wE_isi, wE_xf, wE_xi, wTg_nm, wTg_tp, wTg_fld, wTg_sub, wIt_seq, wIt_rng0, wIt_rng1, wIt_enu, wIt_zip, wS_set, wS_expr, wS_ret, wS_retN, wS_ife, wS_raise, wS_try, wS_pass, wS_brk, wS_cont, wS_augN, wS_augF, wS_augS, wEs, wO, wAll, wTgs, wB, List.cons_append, List.nil_append, List.getElem?_cons_zero, List.getElem?_cons_succ, List.set_cons_zero, List.set_cons_succ, Option.some.injEq, exists_eq_left', D.bl.injEq, D.int.injEq, List.map_cons, List.map_nil, List.length_cons, List.length_nil, List.replicate, List.append_eq, Nat.reduceAdd, Nat.reduceSub, Nat.zero_add, Nat.add_zero, Nat.sub_zero, List.any_cons, List.any_nil, Bool.or_false, rd_int, rd_bl, rd_str, rd_non, rd_tup, rd_lst, rd_stl, reduceIte, Bool.not_true, Bool.not_false, Bool.false_eq_true, Nat.sub_self, binD, cmpD, alc_f, dwipe, leD_ii, ltD_ii, gtD_ii, addD_ii, mulD_ii, eqD_ii, len_tup, len_lst, len_str, int_int, int_bl, tuple_lst, tuple_tup]
        exact ⟨xs, rfl, hK⟩
      · intro d hm p acc K hp hK
        simp only [wE_v, wE_non, wE_bl, wE_int, wE_str, wE_gc, wE_tup, wE_lst, wE_dic0, wE_dicS, wE_bin, wE_cmp, wE_chn, wE_and, wE_or, wE_not, wE_neg, wE_ife, wE_idx, wE_slc, wE_rev, wE_fld, wE_call, wE_meth, wE_make, wE_blt, wE_bm, wE_isi, wE_xf, wE_xi, wTg_nm, wTg_tp, wTg_fld, wTg_sub, wIt_seq, wIt_rng0, wIt_rng1, wIt_enu, wIt_zip, wS_set, wS_expr, wS_ret, wS_retN, wS_ife, wS_raise, wS_try, wS_pass, wS_brk, wS_cont, wS_augN, wS_augF, wS_augS, wEs, wO, wAll, wTgs, wB, List.cons_append, List.nil_append, List.getElem?_cons_zero, List.getElem?_cons_succ, List.set_cons_zero, List.set_cons_succ, Option.some.injEq, exists_eq_left', D.bl.injEq, D.int.injEq, List.map_cons, List.map_nil, List.length_cons, List.length_nil, List.replicate, List.append_eq, Nat.reduceAdd, Nat.reduceSub, Nat.zero_add, Nat.add_zero, Nat.sub_zero, List.any_cons, List.any_nil, Bool.or_false, rd_int, rd_bl, rd_str, rd_non, rd_tup, rd_lst, rd_stl, reduceIte, Bool.not_true, Bool.not_false, Bool.false_eq_true, Nat.sub_self, binD, cmpD, alc_f, dwipe, leD_ii, ltD_ii, gtD_ii, addD_ii, mulD_ii, eqD_ii, len_tup, len_lst, len_str, int_int, int_bl, tuple_lst, tuple_tup]
        refine hK _ fun K2 hK2 => ?_
        simp only [wE_v, wE_non, wE_bl, wE_int, wE_str, wE_gc, wE_tup, wE_lst, wE_dic0, wE_dicS, wE_bin, wE_cmp, wE_chn, wE_and, wE_or, wE_not, wE_neg, wE_ife, wE_idx, wE_slc, wE_rev, wE_fld, wE_call, wE_meth, wE_make, wE_blt, wE_bm, wE_isi, wE_xf, wE_xi, wTg_nm, wTg_tp, wTg_fld, wTg_sub, wIt_seq, wIt_rng0, wIt_rng1, wIt_enu, wIt_zip, wS_set, wS_expr, wS_ret, wS_retN, wS_ife, wS_raise, wS_try, wS_pass, wS_brk, wS_cont, wS_augN, wS_augF, wS_augS, wEs, wO, wAll, wTgs, wB, List.cons_append, List.nil_append, List.getElem?_cons_zero, List.getElem?_cons_succ, List.set_cons_zero, List.set_cons_succ, Option.some.injEq, exists_eq_left', D.bl.injEq, D.int.injEq, List.map_cons, List.map_nil, List.length_cons, List.length_nil, List.replicate, List.append_eq, Nat.reduceAdd, Nat.reduceSub, Nat.zero_add, Nat.add_zero, Nat.sub_zero, List.any_cons, List.any_nil, Bool.or_false, rd_int, rd_bl, rd_str, rd_non, rd_tup, rd_lst, rd_stl, reduceIte, Bool.not_true, Bool.not_false, Bool.false_eq_true, Nat.sub_self, binD, cmpD, alc_f, dwipe, leD_ii, ltD_ii, gtD_ii, addD_ii, mulD_ii, eqD_ii, len_tup, len_lst, len_str, int_int, int_bl, tuple_lst, tuple_tup, h2]
        rw [okQ] at ho
        rw [deep] at hd
        rw [noP] at hn
        have := deeps_mem hm
        exact ⟨d, _, rfl, okQ_dupd hp d (okQs_mem ho hm), noPs_mem hn hm, by omega, hK2⟩
      · rw [alc_f]
        refine all_lst (toBs_map _ xs) (Fz0 ?_)
        rw [isPc, decide_eq_true a, Bool.true_and, isPcs_all] at q
        exact q
    · rw [if_neg (by rw [decide_eq_false a]; simp)]
      refine Fz0 ?_
      rw [isPc, decide_eq_false a, Bool.false_and] at q
      exact q
  | str s =>
    simp only [wE_v, wE_non, wE_bl, wE_int, wE_str, wE_gc, wE_tup, wE_lst, wE_dic0, wE_dicS, wE_bin, wE_cmp, wE_chn, wE_and, wE_or, wE_not, wE_neg, wE_ife, wE_idx, wE_slc, wE_rev, wE_fld, wE_call, wE_meth, wE_make, wE_blt, wE_bm, wE_isi, wE_xf, wE_xi, wTg_nm, wTg_tp, wTg_fld, wTg_sub, wIt_seq, wIt_rng0, wIt_rng1, wIt_enu, wIt_zip, wS_set, wS_expr, wS_ret, wS_retN, wS_ife, wS_raise, wS_try, wS_pass, wS_brk, wS_cont, wS_augN, wS_augF, wS_augS, wEs, wO, wAll, wTgs, wB, List.cons_append, List.nil_append, List.getElem?_cons_zero, List.getElem?_cons_succ, List.set_cons_zero, List.set_cons_succ, Option.some.injEq, exists_eq_left', D.bl.injEq, D.int.injEq, List.map_cons, List.map_nil, List.length_cons, List.length_nil, List.replicate, List.append_eq, Nat.reduceAdd, Nat.reduceSub, Nat.zero_add, Nat.add_zero, Nat.sub_zero, List.any_cons, List.any_nil, Bool.or_false, rd_int, rd_bl, rd_str, rd_non, rd_tup, rd_lst, rd_stl, reduceIte, Bool.not_true, Bool.not_false, Bool.false_eq_true, Nat.sub_self, binD, cmpD, alc_f, dwipe, leD_ii, ltD_ii, gtD_ii, addD_ii, mulD_ii, eqD_ii, len_tup, len_lst, len_str, int_int, int_bl, tuple_lst, tuple_tup, tyD]
    refine ⟨rfl, rfl, ?_⟩
    rw [isPc] at q
    by_cases a : 1 ≤ s.length
    · rw [if_pos (decide_eq_true (by omega))]
      by_cases b : s.length ≤ 20
      · rw [if_pos (decide_eq_true (by omega))]
        refine comp_map (ds := chars s) (st := fun _ => seqOf (.str s) = some (chars s)) sgL ?_ (fun _ _ _ => rfl) ?_ ?_
        · intro K hK
          simp only [wE_v, wE_non, wE_bl, wE_int, wE_str, wE_gc, wE_tup, wE_lst, wE_dic0, wE_dicS, wE_bin, wE_cmp, wE_chn, wE_and, wE_or, wE_not, wE_neg, wE_ife, wE_idx, wE_slc, wE_rev, wE_fld, wE_call, wE_meth, wE_make, wE_blt, wE_bm, wE_isi, wE_xf, wE_xi, wTg_nm, wTg_tp, wTg_fld, wTg_sub, wIt_seq, wIt_rng0, wIt_rng1, wIt_enu, wIt_zip, wS_set, wS_expr, wS_ret, wS_retN, wS_ife, wS_raise, wS_try, wS_pass, wS_brk, wS_cont, wS_augN, wS_augF, wS_augS, wEs, wO, wAll, wTgs, wB, List.cons_append, List.nil_append, List.getElem?_cons_zero, List.getElem?_cons_succ, List.set_cons_zero, List.set_cons_succ, Option.some.injEq, exists_eq_left', D.bl.injEq, D.int.injEq, List.map_cons, List.map_nil, List.length_cons, List.length_nil, List.replicate, List.append_eq, Nat.reduceAdd, Nat.reduceSub, Nat.zero_add, Nat.add_zero, Nat.sub_zero, List.any_cons, List.any_nil, Bool.or_false, rd_int, rd_bl, rd_str, rd_non, rd_tup, rd_lst, rd_stl, reduceIte, Bool.not_true, Bool.not_false, Bool.false_eq_true, Nat.sub_self, binD, cmpD, alc_f, dwipe, leD_ii, ltD_ii, gtD_ii, addD_ii, mulD_ii, eqD_ii, len_tup, len_lst, len_str, int_int, int_bl, tuple_lst, tuple_tup]
          exact ⟨chars s, rfl, hK⟩
        · intro d hd p acc K hp hK
          obtain ⟨c, -, rfl⟩ := List.mem_map.mp hd
          simp only [wE_v, wE_non, wE_bl, wE_int, wE_str, wE_gc, wE_tup, wE_lst, wE_dic0, wE_dicS, wE_bin, wE_cmp, wE_chn, wE_and, wE_or, wE_not, wE_neg, wE_ife, wE_idx, wE_slc, wE_rev, wE_fld, wE_call, wE_meth, wE_make, wE_blt, wE_bm, wE_isi, wE_xf, wE_xi, wTg_nm, wTg_tp, wTg_fld, wTg_sub, wIt_seq, wIt_rng0, wIt_rng1, wIt_enu, wIt_zip, wS_set, wS_expr, wS_ret, wS_retN, wS_ife, wS_raise, wS_try, wS_pass, wS_brk, wS_cont, wS_augN, wS_augF, wS_augS, wEs, wO, wAll, wTgs, wB, List.cons_append, List.nil_append, List.getElem?_cons_zero, List.getElem?_cons_succ, List.set_cons_zero, List.set_cons_succ, Option.some.injEq, exists_eq_left', D.bl.injEq, D.int.injEq, List.map_cons, List.map_nil, List.length_cons, List.length_nil, List.replicate, List.append_eq, Nat.reduceAdd, Nat.reduceSub, Nat.zero_add, Nat.add_zero, Nat.sub_zero, List.any_cons, List.any_nil, Bool.or_false, rd_int, rd_bl, rd_str, rd_non, rd_tup, rd_lst, rd_stl, reduceIte, Bool.not_true, Bool.not_false, Bool.false_eq_true, Nat.sub_self, binD, cmpD, alc_f, dwipe, leD_ii, ltD_ii, gtD_ii, addD_ii, mulD_ii, eqD_ii, len_tup, len_lst, len_str, int_int, int_bl, tuple_lst, tuple_tup]
          refine hK _ fun K2 hK2 => ?_
          simp only [wE_v, wE_non, wE_bl, wE_int, wE_str, wE_gc, wE_tup, wE_lst, wE_dic0, wE_dicS, wE_bin, wE_cmp, wE_chn, wE_and, wE_or, wE_not, wE_neg, wE_ife, wE_idx, wE_slc, wE_rev, wE_fld, wE_call, wE_meth, wE_make, wE_blt, wE_bm, wE_isi, wE_xf, wE_xi, wTg_nm, wTg_tp, wTg_fld, wTg_sub, wIt_seq, wIt_rng0, wIt_rng1, wIt_enu, wIt_zip, wS_set, wS_expr, wS_ret, wS_retN, wS_ife, wS_raise, wS_try, wS_pass, wS_brk, wS_cont, wS_augN, wS_augF, wS_augS, wEs, wO, wAll, wTgs, wB, List.cons_append, List.nil_append, List.getElem?_cons_zero, List.getElem?_cons_succ, List.set_cons_zero, List.set_cons_succ, Option.some.injEq, exists_eq_left', D.bl.injEq, D.int.injEq, List.map_cons, List.map_nil, List.length_cons, List.length_nil, List.replicate, List.append_eq, Nat.reduceAdd, Nat.reduceSub, Nat.zero_add, Nat.add_zero, Nat.sub_zero, List.any_cons, List.any_nil, Bool.or_false, rd_int, rd_bl, rd_str, rd_non, rd_tup, rd_lst, rd_stl, reduceIte, Bool.not_true, Bool.not_false, Bool.false_eq_true, Nat.sub_self, binD, cmpD, alc_f, dwipe, leD_ii, ltD_ii, gtD_ii, addD_ii, mulD_ii, eqD_ii, len_tup, len_lst, len_str, int_int, int_bl, tuple_lst, tuple_tup]
          show leD (.str ⟨#[32]⟩) (.str ⟨#[c]⟩) _
          rw [le_str]
          have hK2 : K2 (.bl (decide (32 ≤ c) && decide (c ≤ 126))) (dupd H p (.lst acc)) := hK2
          by_cases c1 : 32 ≤ c
          · rw [if_pos (decide_eq_true c1)]
            show leD (.str ⟨#[c]⟩) (.str ⟨#[126]⟩) _
            rw [le_str]
            rw [decide_eq_true c1, Bool.true_and] at hK2
            exact hK2
          · rw [if_neg (by rw [decide_eq_false c1]; simp)]
            rw [decide_eq_false c1, Bool.false_and] at hK2
            exact hK2
        · rw [alc_f]
          rw [noP] at hn
          refine all_lst (bs := s.cps.toList.map fun (c : Nat) => isSign c) ?_ (Fz0 ?_)
          · unfold chars
            rw [List.map_map]
            exact toBs_sgL s.cps.toList hn
          · simpa [isShort, a, b, List.all_map] using q
      · rw [if_neg (by rw [decide_eq_false (by omega)]; simp)]
        exact Fz0 (by simpa [isShort, a, b] using q)
    · rw [if_neg (by rw [decide_eq_false (by omega)]; simp)]
      exact Fz0 (by simpa [isShort, a] using q)
  | ref a =>
    obtain ⟨t, kv, e⟩ := okQ_ref ho
    simp only [wE_v, wE_non, wE_bl, wE_int, wE_str, wE_gc, wE_tup, wE_lst, wE_dic0, wE_dicS, wE_bin, wE_cmp, wE_chn, wE_and, wE_or, wE_not, wE_neg, wE_ife, wE_idx, wE_slc, wE_rev, wE_fld, wE_call, wE_meth, wE_make, wE_blt, wE_bm, wE_isi, wE_xf, wE_xi, wTg_nm, wTg_tp, wTg_fld, wTg_sub, wIt_seq, wIt_rng0, wIt_rng1, wIt_enu, wIt_zip, wS_set, wS_expr, wS_ret, wS_retN, wS_ife, wS_raise, wS_try, wS_pass, wS_brk, wS_cont, wS_augN, wS_augF, wS_augS, wEs, wO, wAll, wTgs, wB, List.cons_append, List.nil_append, List.getElem?_cons_zero, List.getElem?_cons_succ, List.set_cons_zero, List.set_cons_succ, Option.some.injEq, exists_eq_left', D.bl.injEq, D.int.injEq, List.map_cons, List.map_nil, List.length_cons, List.length_nil, List.replicate, List.append_eq, Nat.reduceAdd, Nat.reduceSub, Nat.zero_add, Nat.add_zero, Nat.sub_zero, List.any_cons, List.any_nil, Bool.or_false, rd_int, rd_bl, rd_str, rd_non, rd_tup, rd_lst, rd_stl, reduceIte, Bool.not_true, Bool.not_false, Bool.false_eq_true, Nat.sub_self, binD, cmpD, alc_f, dwipe, leD_ii, ltD_ii, gtD_ii, addD_ii, mulD_ii, eqD_ii, len_tup, len_lst, len_str, int_int, int_bl, tuple_lst, tuple_tup, e, tyD, isD, isNon]
    exact ⟨rfl, rfl, rfl, Fz0 q⟩
  | _ =>
    first
      | (cases ho; done)
      | (simp only [wE_v, wE_non, wE_bl, wE_int, wE_str, wE_gc, wE_tup, wE_lst, wE_dic0, wE_dicS, wE_bin, wE_cmp, wE_chn, wE_and, wE_or, wE_not, wE_neg, wE_ife, wE_idx, wE_slc, wE_rev, wE_fld, wE_call, wE_meth, wE_make, wE_blt, wE_bm, wE_isi, wE_xf, wE_xi, wTg_nm, wTg_tp, wTg_fld, wTg_sub, wIt_seq, wIt_rng0, wIt_rng1, wIt_enu, wIt_zip, wS_set, wS_expr, wS_ret, wS_retN, wS_ife, wS_raise, wS_try, wS_pass, wS_brk, wS_cont, wS_augN, wS_augF, wS_augS, wEs, wO, wAll, wTgs, wB, List.cons_append, List.nil_append, List.getElem?_cons_zero, List.getElem?_cons_succ, List.set_cons_zero, List.set_cons_succ, Option.some.injEq, exists_eq_left', D.bl.injEq, D.int.injEq, List.map_cons, List.map_nil, List.length_cons, List.length_nil, List.replicate, List.append_eq, Nat.reduceAdd, Nat.reduceSub, Nat.zero_add, Nat.add_zero, Nat.sub_zero, List.any_cons, List.any_nil, Bool.or_false, rd_int, rd_bl, rd_str, rd_non, rd_tup, rd_lst, rd_stl, reduceIte, Bool.not_true, Bool.not_false, Bool.false_eq_true, Nat.sub_self, binD, cmpD, alc_f, dwipe, leD_ii, ltD_ii, gtD_ii, addD_ii, mulD_ii, eqD_ii, len_tup, len_lst, len_str, int_int, int_bl, tuple_lst, tuple_tup, tyD, isD, isNon]
         first
           | exact ⟨rfl, rfl, Fz0 q⟩
           | exact ⟨rfl, rfl, rfl, Fz0 q⟩)
end Sp

set_option maxRecDepth 100000
set_option maxHeartbeats 1000000
namespace Sp
open PySem DL Ir
theorem log_small {i : Int} (h0 : 0 ≤ i) (h1 : i < 2305843009213693951) : i.natAbs.log2 < 1920 := by
  by_cases c : i.natAbs = 0
  · rw [c]; decide
  · rw [Nat.log2_lt c]
    exact Nat.lt_of_lt_of_le (show i.natAbs < 2305843009213693951 by omega) (by decide +kernel)
def isBn (n : Nat) (d : D) : Prop := ∃ bs : List Int, d = .tup (bs.map .int) ∧ bRow bs ∧ bs.length ≤ n
theorem isBn_mono {n m : Nat} {d : D} (h : isBn n d) (hm : n ≤ m) : isBn m d := by
  obtain ⟨bs, e, h1, h2⟩ := h
  exact ⟨bs, e, h1, by omega⟩
theorem isBn_len {n : Nat} {xs : List D} (h : isBn n (.tup xs)) : xs.length ≤ n := by
  obtain ⟨bs, e, h1, h2⟩ := h
  rw [D.tup.injEq] at e
  rw [e, List.length_map]; exact h2
theorem isBn_app {n m : Nat} {xs ys : List D} (h1 : isBn n (.tup xs)) (h2 : isBn m (.tup ys)) : isBn (n + m) (.tup (xs ++ ys)) := by
  obtain ⟨a, e1, h3, h4⟩ := h1
  obtain ⟨b, e2, h5, h6⟩ := h2
  rw [D.tup.injEq] at e1 e2
  exact ⟨a ++ b, by rw [e1, e2, List.map_append], bRow_app h3 h5, by rw [List.length_append]; omega⟩
theorem isBn_cut {n : Nat} {xs : List D} (lo hi : Option Int) (h : isBn n (.tup xs)) : isBn n (.tup (dcut xs lo hi)) := by
  obtain ⟨a, e1, h3, h4⟩ := h
  rw [D.tup.injEq] at e1
  refine ⟨dcut a lo hi, by rw [e1, dcut_map], fun b hb => h3 b ?_, ?_⟩
  · exact List.mem_of_mem_drop (List.mem_of_mem_take hb)
  · unfold dcut
    rw [List.length_take, List.length_drop]
    omega
theorem isBn_1 {b : Int} (h0 : 0 ≤ b) (h1 : b < 256) : isBn 1 (.tup [.int b]) := ⟨[b], rfl, fun c hc => (by cases List.mem_singleton.mp hc; exact ⟨h0, h1⟩), Nat.le_refl _⟩
theorem sea_row (n : Int) : bRow (sea n) := fun b hb => by
  unfold sea at hb
  simp only [List.mem_cons, List.not_mem_nil, or_false] at hb
  rcases hb with rfl | rfl | rfl | rfl <;> omega
theorem addD_tt {m : Bool} {a b : List D} {H : DH} {Q : DK} : addD m (.tup a) (.tup b) H Q = (a.length + b.length ≤ sizeLine ∧ Q (.tup (a ++ b)) H) := rfl
theorem addD_ll {m : Bool} {a b : List D} {H : DH} {Q : DK} : addD m (.lst a) (.lst b) H Q = (a.length + b.length ≤ sizeLine ∧ alc m (.lst (a ++ b)) H Q) := rfl
theorem app_ok {n m : Nat} {xs ys : List D} (h1 : isBn n (.tup xs)) (h2 : isBn m (.tup ys)) (h : n + m ≤ 2000000 := by decide) : xs.length + ys.length ≤ sizeLine := by
  have := isBn_len h1
  have := isBn_len h2
  exact Nat.le_trans (show _ ≤ 2000000 by omega) (by decide)
theorem list_tup {m : Bool} {xs : List D} {H : DH} {Q : DK} : bltD .list m [.tup xs] H Q = alc m (.lst xs) H Q := rfl
theorem mulD_t5 {m : Bool} {x : D} {H : DH} {Q : DK} (q : Q (.tup [x, x, x, x, x]) H) : mulD m (.tup [x]) (.int 5) H Q := ⟨by simp, by decide, by decide, by simp, q⟩
theorem idx_mem {xs : List D} {j : Int} {Q : D → Prop} (h0 : 0 ≤ j) (h1 : j < xs.length) (q : ∀ d ∈ xs, Q d) : idxD (.lst xs) (.int j) Q := by
  refine ⟨j, xs[j.toNat]'(by omega), rfl, ?_, q _ (List.getElem_mem _)⟩
  unfold L2.atI L2.ixN
  rw [if_pos h0, if_pos h1]
  exact List.getElem?_eq_getElem _
theorem eq_nil {Q : Bool → Prop} (q : Q true) : eqD (.tup []) (.tup []) Q := by
  have := @eqD_tints [] [] Q
  rw [List.map_nil] at this
  rw [this]
  exact q
theorem isBn_ys {n : Nat} {ys : List D} (hl : ys.length ≤ n) (hy : ∀ y ∈ ys, ∃ i : Int, y = .int i ∧ 0 ≤ i ∧ i < 256) : isBn n (.tup ys) := by
  induction ys generalizing n with
  | nil => exact ⟨[], rfl, fun _ h => (by cases h), Nat.zero_le _⟩
  | cons y ys ih =>
    obtain ⟨i, rfl, h0, h1⟩ := hy y List.mem_cons_self
    obtain ⟨bs, e, h2, h3⟩ := ih (n := ys.length) (Nat.le_refl _) fun z hz => hy z (List.mem_cons_of_mem _ hz)
    rw [D.tup.injEq] at e
    rw [List.length_cons] at hl
    exact ⟨i :: bs, by rw [e]; rfl, bRow_cons ⟨h0, h1⟩ h2, by rw [List.length_cons]; omega⟩

theorem idx_lm {xs : List D} {j : Int} {Q : D → Prop} (h0 : 0 ≤ j) (h1 : j < xs.length) (q : ∀ d ∈ xs, Q d) : idxD (.lst xs) (.int j) Q := idx_mem h0 h1 q
def spWord : DSp := fun ds H Q _ => ∃ (w : Int) (d : D), ds = [.int w, d] ∧ okQ H d = true ∧ deep d < 40 ∧ (isPc d 20 = true → isP d = true ∧ (pby d).length ≤ 1000000) ∧ Q (.str (if isPc d 20 = true then "let" else "parcel")) H
theorem sat_word {G : Gam} (hs : G.sub = src.sub) (h1 : G.fn "row_of" = spRowOf) (h2 : G.fn "sealed" = spSealed) : Sat G N__law_word.length ir__law_word spWord := by
  rintro vs H Q E ⟨w, d, rfl, ho, hd, hp, q⟩
  unfold ir__law_word
  simp only [wE_v, wE_non, wE_bl, wE_int, wE_str, wE_gc, wE_tup, wE_lst, wE_dic0, wE_dicS, wE_bin, wE_cmp, wE_chn, wE_and, wE_or, wE_not, wE_neg, wE_ife, wE_idx, wE_slc, wE_rev, wE_fld, wE_call, wE_meth, wE_make, wE_blt, wE_bm, wE_isi, wE_xf, wE_xi, wTg_nm, wTg_tp, wTg_fld, wTg_sub, wIt_seq, wIt_rng0, wIt_rng1, wIt_enu, wIt_zip, wS_set, wS_expr, wS_ret, wS_retN, wS_ife, wS_raise, wS_try, wS_pass, wS_brk, wS_cont, wS_augN, wS_augF, wS_augS, wEs, wO, wAll, wTgs, wB, List.cons_append, List.nil_append, List.getElem?_cons_zero, List.getElem?_cons_succ, List.set_cons_zero, List.set_cons_succ, Option.some.injEq, exists_eq_left', D.bl.injEq, D.int.injEq, List.map_cons, List.map_nil, List.length_cons, List.length_nil, List.replicate, List.append_eq, Nat.reduceAdd, Nat.reduceSub, Nat.zero_add, Nat.add_zero, Nat.sub_zero, List.any_cons, List.any_nil, Bool.or_false, rd_int, rd_bl, rd_str, rd_non, rd_tup, rd_lst, rd_stl, reduceIte, Bool.not_true, Bool.not_false, Bool.false_eq_true, Nat.sub_self, binD, cmpD, alc_f, dwipe, leD_ii, ltD_ii, gtD_ii, addD_ii, mulD_ii, eqD_ii, len_tup, len_lst, len_str, int_int, int_bl, tuple_lst, tuple_tup, N__law_word, h1, h2]
  have s1 : src.sub "NoParcel" "RoadError" = true := by decide +kernel
  have s2 : src.sub "NoParcel" "BaseException" = true := by decide +kernel
  have s3 : src.sub "NoParcel" "NoParcel" = true := by decide +kernel
  have s4 : src.sub "NoParcel" "ValueError" = true := by decide +kernel
  have caught : isPc d 20 = false → wHs G [(["RoadError"], some 3, [.set (.nm 2) (.ife (.and (.xi 3 (.cls "NoParcel")) (.xi 3 (.cls "ValueError"))) (.str "parcel") (.str "other"))])] "NoParcel" [] { nx := fun σ H' => ∃ d, σ[2]? = some (some d) ∧ FzV d H' Q, rt := Q, ex := fun c fs x H1 => E c fs H1 } [some (.int w), some d, some (.str "let"), none] H := by
    intro z
    rw [wHs, if_pos (by rw [hs]; simp [s1])]
    intro a dd he
    simp only [wE_v, wE_non, wE_bl, wE_int, wE_str, wE_gc, wE_tup, wE_lst, wE_dic0, wE_dicS, wE_bin, wE_cmp, wE_chn, wE_and, wE_or, wE_not, wE_neg, wE_ife, wE_idx, wE_slc, wE_rev, wE_fld, wE_call, wE_meth, wE_make, wE_blt, wE_bm, wE_isi, wE_xf, wE_xi, wTg_nm, wTg_tp, wTg_fld, wTg_sub, wIt_seq, wIt_rng0, wIt_rng1, wIt_enu, wIt_zip, wS_set, wS_expr, wS_ret, wS_retN, wS_ife, wS_raise, wS_try, wS_pass, wS_brk, wS_cont, wS_augN, wS_augF, wS_augS, wEs, wO, wAll, wTgs, wB, List.cons_append, List.nil_append, List.getElem?_cons_zero, List.getElem?_cons_succ, List.set_cons_zero, List.set_cons_succ, Option.some.injEq, exists_eq_left', D.bl.injEq, D.int.injEq, List.map_cons, List.map_nil, List.length_cons, List.length_nil, List.replicate, List.append_eq, Nat.reduceAdd, Nat.reduceSub, Nat.zero_add, Nat.add_zero, Nat.sub_zero, List.any_cons, List.any_nil, Bool.or_false, rd_int, rd_bl, rd_str, rd_non, rd_tup, rd_lst, rd_stl, reduceIte, Bool.not_true, Bool.not_false, Bool.false_eq_true, Nat.sub_self, binD, cmpD, alc_f, dwipe, leD_ii, ltD_ii, gtD_ii, addD_ii, mulD_ii, eqD_ii, len_tup, len_lst, len_str, int_int, int_bl, tuple_lst, tuple_tup]
    refine ⟨a, dd, _, [], rfl, rfl, by rw [hs]; exact s2, ?_⟩
    rw [if_pos (show isX G.sub "NoParcel" (.cls "NoParcel") = true by show G.sub "NoParcel" "NoParcel" = true; rw [hs]; exact s3)]
    refine ⟨a, dd, _, [], rfl, rfl, by rw [hs]; exact s2, ?_⟩
    rw [if_pos (show isX G.sub "NoParcel" (.cls "ValueError") = true by show G.sub "NoParcel" "ValueError" = true; rw [hs]; exact s4)]
    rw [z] at q
    exact Fz0 q
  have let' : isPc d 20 = true → FzV (.str "let") H Q := by
    intro z
    rw [z] at q
    exact Fz0 q
  split
  · exact ⟨d, rfl, ho, hd, fun z => ⟨(hp z).1, (hp z).2, let' z⟩, caught⟩
  · exact ⟨d, rfl, ho, hd, fun z => ⟨(hp z).1, (hp z).2, let' z⟩, caught⟩
def spRB : DSp := fun ds H Q _ => ∃ row : List Int, ds = [.tup (row.map .int)] ∧ bRow row ∧ row.length ≤ 2000000 ∧ Q (encT (told row)) H
theorem sat_rb {G : Gam} (hs : G.sub = src.sub) (hx : G.xf "BadRow" = [("place" : Str)]) (h1 : G.fn "parcel_of" = spPO) : Sat G N__law_read_by.length ir__law_read_by spRB := by
  rintro vs H Q E ⟨row, rfl, hb, hl, q⟩
  unfold ir__law_read_by
  simp only [wE_v, wE_non, wE_bl, wE_int, wE_str, wE_gc, wE_tup, wE_lst, wE_dic0, wE_dicS, wE_bin, wE_cmp, wE_chn, wE_and, wE_or, wE_not, wE_neg, wE_ife, wE_idx, wE_slc, wE_rev, wE_fld, wE_call, wE_meth, wE_make, wE_blt, wE_bm, wE_isi, wE_xf, wE_xi, wTg_nm, wTg_tp, wTg_fld, wTg_sub, wIt_seq, wIt_rng0, wIt_rng1, wIt_enu, wIt_zip, wS_set, wS_expr, wS_ret, wS_retN, wS_ife, wS_raise, wS_try, wS_pass, wS_brk, wS_cont, wS_augN, wS_augF, wS_augS, wEs, wO, wAll, wTgs, wB, List.cons_append, List.nil_append, List.getElem?_cons_zero, List.getElem?_cons_succ, List.set_cons_zero, List.set_cons_succ, Option.some.injEq, exists_eq_left', D.bl.injEq, D.int.injEq, List.map_cons, List.map_nil, List.length_cons, List.length_nil, List.replicate, List.append_eq, Nat.reduceAdd, Nat.reduceSub, Nat.zero_add, Nat.add_zero, Nat.sub_zero, List.any_cons, List.any_nil, Bool.or_false, rd_int, rd_bl, rd_str, rd_non, rd_tup, rd_lst, rd_stl, reduceIte, Bool.not_true, Bool.not_false, Bool.false_eq_true, Nat.sub_self, binD, cmpD, alc_f, dwipe, leD_ii, ltD_ii, gtD_ii, addD_ii, mulD_ii, eqD_ii, len_tup, len_lst, len_str, int_int, int_bl, tuple_lst, tuple_tup, N__law_read_by, h1]
  have s1 : src.sub "BadRow" "BadRow" = true := by decide +kernel
  have s2 : src.sub "BadRow" "BaseException" = true := by decide +kernel
  have s3 : src.sub "BadRow" "RoadError" = true := by decide +kernel
  have s4 : src.sub "BadRow" "ValueError" = true := by decide +kernel
  refine ⟨row, rfl, hb, hl, fun d hd => ?_, fun e he H' hE => ?_⟩
  · rw [hd] at q
    exact Fz0 q
  · rw [he] at q
    rw [wHs, if_pos (by rw [hs]; simp [s1])]
    intro a dd _
    simp only [wE_v, wE_non, wE_bl, wE_int, wE_str, wE_gc, wE_tup, wE_lst, wE_dic0, wE_dicS, wE_bin, wE_cmp, wE_chn, wE_and, wE_or, wE_not, wE_neg, wE_ife, wE_idx, wE_slc, wE_rev, wE_fld, wE_call, wE_meth, wE_make, wE_blt, wE_bm, wE_isi, wE_xf, wE_xi, wTg_nm, wTg_tp, wTg_fld, wTg_sub, wIt_seq, wIt_rng0, wIt_rng1, wIt_enu, wIt_zip, wS_set, wS_expr, wS_ret, wS_retN, wS_ife, wS_raise, wS_try, wS_pass, wS_brk, wS_cont, wS_augN, wS_augF, wS_augS, wEs, wO, wAll, wTgs, wB, List.cons_append, List.nil_append, List.getElem?_cons_zero, List.getElem?_cons_succ, List.set_cons_zero, List.set_cons_succ, Option.some.injEq, exists_eq_left', D.bl.injEq, D.int.injEq, List.map_cons, List.map_nil, List.length_cons, List.length_nil, List.replicate, List.append_eq, Nat.reduceAdd, Nat.reduceSub, Nat.zero_add, Nat.add_zero, Nat.sub_zero, List.any_cons, List.any_nil, Bool.or_false, rd_int, rd_bl, rd_str, rd_non, rd_tup, rd_lst, rd_stl, reduceIte, Bool.not_true, Bool.not_false, Bool.false_eq_true, Nat.sub_self, binD, cmpD, alc_f, dwipe, leD_ii, ltD_ii, gtD_ii, addD_ii, mulD_ii, eqD_ii, len_tup, len_lst, len_str, int_int, int_bl, tuple_lst, tuple_tup]
    refine ⟨a, dd, _, _, rfl, rfl, by rw [hs]; exact s2, ?_⟩
    rw [if_pos (show isX G.sub "BadRow" (.cls "RoadError") = true by show G.sub "BadRow" "RoadError" = true; rw [hs]; exact s3)]
    refine ⟨a, dd, _, _, rfl, rfl, by rw [hs]; exact s2, ?_⟩
    rw [if_pos (show isX G.sub "BadRow" (.cls "ValueError") = true by show G.sub "BadRow" "ValueError" = true; rw [hs]; exact s4)]
    refine ⟨a, dd, _, _, _, rfl, rfl, hx, rfl, ?_⟩
    exact hE.back q
def spSpoilt : DSp := fun ds H Q _ => ∃ (p q : Addr) (n : Nat) (xs : List D), ds = [.ref p, .tup xs] ∧ PoolAt H p q ∧ isBn n (.tup xs) ∧ n ≤ 900000 ∧ Dr p q H (isBn (n + 1)) Q
theorem isBn_cut2 {n : Nat} {xs : List D} (k : Int) (lo hi : Option Int) (h : isBn n (.tup xs)) : isBn n (.tup (dcut xs lo hi)) := isBn_cut lo hi h
theorem cuts_len {α : Type} (xs : List α) {k : Int} (h0 : 0 ≤ k) : (dcut xs none (some k)).length + (dcut xs (some k) none).length = xs.length := by
  obtain ⟨n, rfl⟩ : ∃ n : Nat, k = n := ⟨k.toNat, by omega⟩
  rw [dcut_to, dcut_from, List.length_take, List.length_drop]; omega
theorem cuts1_len {α : Type} (xs : List α) {k : Int} (h0 : 0 ≤ k) : (dcut xs none (some k)).length + (dcut xs (some (k + 1)) none).length ≤ xs.length := by
  obtain ⟨n, rfl⟩ : ∃ n : Nat, k = n := ⟨k.toNat, by omega⟩
  rw [show (n : Int) + 1 = ((n + 1 : Nat) : Int) by omega, dcut_to, dcut_from, List.length_take, List.length_drop]; omega
theorem isBn_as {n m : Nat} {xs : List D} (h : isBn n (.tup xs)) (hl : xs.length ≤ m) : isBn m (.tup xs) := by
  obtain ⟨bs, e, h1, h2⟩ := h
  have e' := e
  rw [D.tup.injEq] at e'
  exact ⟨bs, e, h1, by rw [e', List.length_map] at hl; exact hl⟩
theorem sat_spoilt {G : Gam} (h1 : G.fn "_law_draw" = spDraw) : Sat G N__law_spoilt.length ir__law_spoilt spSpoilt := by
  rintro vs H Q E ⟨p, q, n, xs, rfl, hp, hx, hn, K⟩
  unfold ir__law_spoilt
  simp only [wE_v, wE_non, wE_bl, wE_int, wE_str, wE_gc, wE_tup, wE_lst, wE_dic0, wE_dicS, wE_bin, wE_cmp, wE_chn, wE_and, wE_or, wE_not, wE_neg, wE_ife, wE_idx, wE_slc, wE_rev, wE_fld, wE_call, wE_meth, wE_make, wE_blt, wE_bm, wE_isi, wE_xf, wE_xi, wTg_nm, wTg_tp, wTg_fld, wTg_sub, wIt_seq, wIt_rng0, wIt_rng1, wIt_enu, wIt_zip, wS_set, wS_expr, wS_ret, wS_retN, wS_ife, wS_raise, wS_try, wS_pass, wS_brk, wS_cont, wS_augN, wS_augF, wS_augS, wEs, wO, wAll, wTgs, wB, List.cons_append, List.nil_append, List.getElem?_cons_zero, List.getElem?_cons_succ, List.set_cons_zero, List.set_cons_succ, Option.some.injEq, exists_eq_left', D.bl.injEq, D.int.injEq, List.map_cons, List.map_nil, List.length_cons, List.length_nil, List.replicate, List.append_eq, Nat.reduceAdd, Nat.reduceSub, Nat.zero_add, Nat.add_zero, Nat.sub_zero, List.any_cons, List.any_nil, Bool.or_false, rd_int, rd_bl, rd_str, rd_non, rd_tup, rd_lst, rd_stl, reduceIte, Bool.not_true, Bool.not_false, Bool.false_eq_true, Nat.sub_self, binD, cmpD, alc_f, dwipe, leD_ii, ltD_ii, gtD_ii, addD_ii, mulD_ii, eqD_ii, len_tup, len_lst, len_str, int_int, int_bl, tuple_lst, tuple_tup, N__law_spoilt, h1]
  have hxl := isBn_len hx
  refine ⟨p, q, _, rfl, hp, by omega, by omega, ?_⟩
  rintro _ H1 ⟨k, k0, k1, rfl⟩ hp1 hf1
  simp only [wE_v, wE_non, wE_bl, wE_int, wE_str, wE_gc, wE_tup, wE_lst, wE_dic0, wE_dicS, wE_bin, wE_cmp, wE_chn, wE_and, wE_or, wE_not, wE_neg, wE_ife, wE_idx, wE_slc, wE_rev, wE_fld, wE_call, wE_meth, wE_make, wE_blt, wE_bm, wE_isi, wE_xf, wE_xi, wTg_nm, wTg_tp, wTg_fld, wTg_sub, wIt_seq, wIt_rng0, wIt_rng1, wIt_enu, wIt_zip, wS_set, wS_expr, wS_ret, wS_retN, wS_ife, wS_raise, wS_try, wS_pass, wS_brk, wS_cont, wS_augN, wS_augF, wS_augS, wEs, wO, wAll, wTgs, wB, List.cons_append, List.nil_append, List.getElem?_cons_zero, List.getElem?_cons_succ, List.set_cons_zero, List.set_cons_succ, Option.some.injEq, exists_eq_left', D.bl.injEq, D.int.injEq, List.map_cons, List.map_nil, List.length_cons, List.length_nil, List.replicate, List.append_eq, Nat.reduceAdd, Nat.reduceSub, Nat.zero_add, Nat.add_zero, Nat.sub_zero, List.any_cons, List.any_nil, Bool.or_false, rd_int, rd_bl, rd_str, rd_non, rd_tup, rd_lst, rd_stl, reduceIte, Bool.not_true, Bool.not_false, Bool.false_eq_true, Nat.sub_self, binD, cmpD, alc_f, dwipe, leD_ii, ltD_ii, gtD_ii, addD_ii, mulD_ii, eqD_ii, len_tup, len_lst, len_str, int_int, int_bl, tuple_lst, tuple_tup]
  refine ⟨p, q, 16, rfl, hp1, by decide, by decide, ?_⟩
  rintro _ H2 ⟨j, j0, j1, rfl⟩ hp2 hf2
  simp only [wE_v, wE_non, wE_bl, wE_int, wE_str, wE_gc, wE_tup, wE_lst, wE_dic0, wE_dicS, wE_bin, wE_cmp, wE_chn, wE_and, wE_or, wE_not, wE_neg, wE_ife, wE_idx, wE_slc, wE_rev, wE_fld, wE_call, wE_meth, wE_make, wE_blt, wE_bm, wE_isi, wE_xf, wE_xi, wTg_nm, wTg_tp, wTg_fld, wTg_sub, wIt_seq, wIt_rng0, wIt_rng1, wIt_enu, wIt_zip, wS_set, wS_expr, wS_ret, wS_retN, wS_ife, wS_raise, wS_try, wS_pass, wS_brk, wS_cont, wS_augN, wS_augF, wS_augS, wEs, wO, wAll, wTgs, wB, List.cons_append, List.nil_append, List.getElem?_cons_zero, List.getElem?_cons_succ, List.set_cons_zero, List.set_cons_succ, Option.some.injEq, exists_eq_left', D.bl.injEq, D.int.injEq, List.map_cons, List.map_nil, List.length_cons, List.length_nil, List.replicate, List.append_eq, Nat.reduceAdd, Nat.reduceSub, Nat.zero_add, Nat.add_zero, Nat.sub_zero, List.any_cons, List.any_nil, Bool.or_false, rd_int, rd_bl, rd_str, rd_non, rd_tup, rd_lst, rd_stl, reduceIte, Bool.not_true, Bool.not_false, Bool.false_eq_true, Nat.sub_self, binD, cmpD, alc_f, dwipe, leD_ii, ltD_ii, gtD_ii, addD_ii, mulD_ii, eqD_ii, len_tup, len_lst, len_str, int_int, int_bl, tuple_lst, tuple_tup]
  refine idx_mem j0 (by simpa using j1) ?_
  have hb : ∀ d ∈ [D.int 0, .int 1, .int 3, .int 4, .int 5, .int 6, .int 7, .int 20, .int 21, .int 127, .int 128, .int 129, .int 255, .int 32, .int 31, .int 37], ∃ b : Int, d = .int b ∧ 0 ≤ b ∧ b < 256 := by
    intro d hd
    simp only [List.mem_cons, List.not_mem_nil, or_false] at hd
    rcases hd with rfl | rfl | rfl | rfl | rfl | rfl | rfl | rfl | rfl | rfl | rfl | rfl | rfl | rfl | rfl | rfl <;> exact ⟨_, rfl, by decide, by decide⟩
  intro d hd
  obtain ⟨b, rfl, b0, b1⟩ := hb d hd
  have hA := isBn_cut none (some k) hx
  have hB := isBn_1 b0 b1
  have hC := isBn_cut (some (k + 1)) none hx
  have hD := isBn_cut (some k) none hx
  have lA := isBn_len hA
  have lC := isBn_len hC
  have lD := isBn_len hD
  have l1 := cuts_len xs k0
  have l2 := cuts1_len xs k0
  have sz : 2000000 ≤ sizeLine := by decide
  simp only [wE_v, wE_non, wE_bl, wE_int, wE_str, wE_gc, wE_tup, wE_lst, wE_dic0, wE_dicS, wE_bin, wE_cmp, wE_chn, wE_and, wE_or, wE_not, wE_neg, wE_ife, wE_idx, wE_slc, wE_rev, wE_fld, wE_call, wE_meth, wE_make, wE_blt, wE_bm, wE_isi, wE_xf, wE_xi, wTg_nm, wTg_tp, wTg_fld, wTg_sub, wIt_seq, wIt_rng0, wIt_rng1, wIt_enu, wIt_zip, wS_set, wS_expr, wS_ret, wS_retN, wS_ife, wS_raise, wS_try, wS_pass, wS_brk, wS_cont, wS_augN, wS_augF, wS_augS, wEs, wO, wAll, wTgs, wB, List.cons_append, List.nil_append, List.getElem?_cons_zero, List.getElem?_cons_succ, List.set_cons_zero, List.set_cons_succ, Option.some.injEq, exists_eq_left', D.bl.injEq, D.int.injEq, List.map_cons, List.map_nil, List.length_cons, List.length_nil, List.replicate, List.append_eq, Nat.reduceAdd, Nat.reduceSub, Nat.zero_add, Nat.add_zero, Nat.sub_zero, List.any_cons, List.any_nil, Bool.or_false, rd_int, rd_bl, rd_str, rd_non, rd_tup, rd_lst, rd_stl, reduceIte, Bool.not_true, Bool.not_false, Bool.false_eq_true, Nat.sub_self, binD, cmpD, alc_f, dwipe, leD_ii, ltD_ii, gtD_ii, addD_ii, mulD_ii, eqD_ii, len_tup, len_lst, len_str, int_int, int_bl, tuple_lst, tuple_tup, slc_tup, addD_tt, addD_ll, List.length_append]
  refine ⟨by omega, by omega, by omega, by omega, by omega, by omega, by omega, ?_⟩
  refine ⟨p, q, 5, rfl, hp2, by decide, by decide, ?_⟩
  rintro _ H3 ⟨t, t0, t1, rfl⟩ hp3 hf3
  refine idx_mem t0 (by simpa using t1) ?_
  refine List.forall_mem_cons.mpr ⟨?_, List.forall_mem_cons.mpr ⟨?_, List.forall_mem_cons.mpr ⟨?_, List.forall_mem_cons.mpr ⟨?_, List.forall_mem_cons.mpr ⟨?_, fun _ h => (by cases h)⟩⟩⟩⟩⟩
  · exact Fz0 (K _ _ (isBn_mono hA (by omega)) hp3 ((hf1.trans hf2).trans hf3))
  · exact Fz0 (K _ _ (isBn_as (isBn_app (isBn_app hA hB) hD) (by simp only [List.length_append, List.length_cons, List.length_nil]; omega)) hp3 ((hf1.trans hf2).trans hf3))
  · exact Fz0 (K _ _ (isBn_as (isBn_app (isBn_app hA hB) hC) (by simp only [List.length_append, List.length_cons, List.length_nil]; omega)) hp3 ((hf1.trans hf2).trans hf3))
  · exact Fz0 (K _ _ (isBn_as (isBn_app hA hC) (by simp only [List.length_append]; omega)) hp3 ((hf1.trans hf2).trans hf3))
  · exact Fz0 (K _ _ (isBn_app hx hB) hp3 ((hf1.trans hf2).trans hf3))
mutual
theorem okP_okQ {H : DH} : ∀ d : D, isP d = true → okQ H d = true
  | .non, _ => by rw [okQ]
  | .bl b, _ => by rw [okQ]
  | .int i, _ => by rw [okQ]
  | .str s, _ => by rw [okQ]
  | .tup xs, h => by rw [isP] at h; rw [okQ]; exact okPs_okQ xs h
theorem okPs_okQ {H : DH} : ∀ xs : List D, isPs xs = true → okQs H xs = true
  | [], _ => by rw [okQs]
  | x :: xs, h => by
    rw [isPs, Bool.and_eq_true] at h
    rw [okQs, okP_okQ x h.1, okPs_okQ xs h.2]; rfl
end
def spRight : DSp := fun ds H Q _ => ∃ row : List Int, ds = [.tup (row.map .int)] ∧ bRow row ∧ row.length ≤ 1000000 ∧ Q (.bl true) H
theorem rdT_errle : ∀ {row : List Int} {k a : Nat} {e : Nat}, a ≤ row.length → rdT row k a = .error e → e ≤ row.length
  | row, 0, a, e, ha, h => by cases h
  | row, k + 1, a, e, ha, h => by
    rw [rdT] at h
    split at h
    · cases h; exact Nat.le_refl _
    · rename_i b hb
      have hl := (List.getElem?_eq_some_iff.mp hb).1
      split at h
      · split at h
        · cases h
        · rename_i e' h'
          cases h
          exact rdT_errle (by omega) h'
      · cases h; exact ha
theorem rdStr_errle {row : List Int} {a e : Nat} (ha : a ≤ row.length) (h : rdStr row a = .error e) : e ≤ row.length := by
  unfold rdStr at h
  split at h
  · cases h; exact ha
  · rename_i m a1 hw
    have h0 := rdW_le hw
    split at h
    · split at h
      · cases h
      · rename_i e' h'
        cases h
        exact rdT_errle h0.2 h'
    · cases h; exact ha
theorem rdMany_errle {f : Nat → Except Nat (D × Nat)} {n : Nat} (hf : ∀ a d e, f a = .ok (d, e) → a < e ∧ e ≤ n) (he : ∀ a e, a ≤ n → f a = .error e → e ≤ n) : ∀ {k a : Nat} {e : Nat}, a ≤ n → rdMany f k a = .error e → e ≤ n
  | 0, a, e, ha, h => by cases h
  | k + 1, a, e, ha, h => by
    rw [rdMany] at h
    split at h
    · rename_i e' h1
      cases h
      exact he _ _ ha h1
    · rename_i d a1 h1
      split at h
      · rename_i e' h2
        cases h
        exact rdMany_errle hf he (hf _ _ _ h1).2 h2
      · cases h
theorem rdC_errle {sev : Option (Nat → Except Nat (D × Nat))} {row : List Int} (hf : ∀ f, sev = some f → ∀ a e, a ≤ row.length → f a = .error e → e ≤ row.length) {a e : Nat} (ha : a ≤ row.length) (h : rdC sev row a = .error e) : e ≤ row.length := by
  unfold rdC at h
  split at h
  · cases h; exact Nat.le_refl _
  · rename_i b hb
    have hl := (List.getElem?_eq_some_iff.mp hb).1
    split at h
    · cases h; exact ha
    · split at h
      · split at h
        · cases h; exact ha
        · rename_i f
          exact hf f rfl _ _ (by omega) h
      · split at h
        · cases h
        · split at h
          · cases h
          · split at h
            · exact rdStr_errle (by omega) h
            · split at h
              · cases h; omega
              · cases h
theorem rdP_errle {row : List Int} : ∀ {n a e : Nat}, a ≤ row.length → rdP n row a = .error e → e ≤ row.length
  | 0, _, _, ha, h => rdC_errle (fun f hf => by cases hf) ha h
  | n + 1, _, _, ha, h => rdC_errle (fun f hf => by
      cases hf
      intro a e ha h
      unfold rdSev at h
      split at h
      · cases h; exact ha
      · rename_i m a1 hw
        split at h
        · cases h
        · rename_i e' h'
          cases h
          exact rdMany_errle (fun a d e h => rdP_le h) (fun a e ha h => rdP_errle ha h) (rdW_le hw).2 h') ha h
theorem rdP_err {row : List Int} (hr : row.length ≤ 1000000) {e : Nat} (h : told row = .error e) : e ≤ 3000000 := by
  unfold told at h
  split at h
  · rename_i d a h'
    split at h
    · cases h
      have := rdP_le h'
      omega
    · cases h
  · rename_i e' h'
    cases h
    have := rdP_errle (Nat.zero_le _) h'
    omega
theorem sat_right {G : Gam} (h1 : G.fn "_law_told" = spTold) (h2 : G.fn "_law_read_by" = spRB) (h3 : G.fn "_law_is" = spIs) (h4 : G.fn "_law_same" = spSame 40) (h5 : G.fn "row_of" = spRowOf) : Sat G N__law_right.length ir__law_right spRight := by
  rintro vs H Q E ⟨row, rfl, hb, hl, q⟩
  unfold ir__law_right
  simp only [wE_v, wE_non, wE_bl, wE_int, wE_str, wE_gc, wE_tup, wE_lst, wE_dic0, wE_dicS, wE_bin, wE_cmp, wE_chn, wE_and, wE_or, wE_not, wE_neg, wE_ife, wE_idx, wE_slc, wE_rev, wE_fld, wE_call, wE_meth, wE_make, wE_blt, wE_bm, wE_isi, wE_xf, wE_xi, wTg_nm, wTg_tp, wTg_fld, wTg_sub, wIt_seq, wIt_rng0, wIt_rng1, wIt_enu, wIt_zip, wS_set, wS_expr, wS_ret, wS_retN, wS_ife, wS_raise, wS_try, wS_pass, wS_brk, wS_cont, wS_augN, wS_augF, wS_augS, wEs, wO, wAll, wTgs, wB, List.cons_append, List.nil_append, List.getElem?_cons_zero, List.getElem?_cons_succ, List.set_cons_zero, List.set_cons_succ, Option.some.injEq, exists_eq_left', D.bl.injEq, D.int.injEq, List.map_cons, List.map_nil, List.length_cons, List.length_nil, List.replicate, List.append_eq, Nat.reduceAdd, Nat.reduceSub, Nat.zero_add, Nat.add_zero, Nat.sub_zero, List.any_cons, List.any_nil, Bool.or_false, rd_int, rd_bl, rd_str, rd_non, rd_tup, rd_lst, rd_stl, reduceIte, Bool.not_true, Bool.not_false, Bool.false_eq_true, Nat.sub_self, binD, cmpD, alc_f, dwipe, leD_ii, ltD_ii, gtD_ii, addD_ii, mulD_ii, eqD_ii, len_tup, len_lst, len_str, int_int, int_bl, tuple_lst, tuple_tup, N__law_right, h1, h2, h3, h4, h5]
  refine ⟨row, rfl, hb, by omega, row, rfl, hb, by omega, _, rfl, rfl, ?_⟩
  simp only [wE_v, wE_non, wE_bl, wE_int, wE_str, wE_gc, wE_tup, wE_lst, wE_dic0, wE_dicS, wE_bin, wE_cmp, wE_chn, wE_and, wE_or, wE_not, wE_neg, wE_ife, wE_idx, wE_slc, wE_rev, wE_fld, wE_call, wE_meth, wE_make, wE_blt, wE_bm, wE_isi, wE_xf, wE_xi, wTg_nm, wTg_tp, wTg_fld, wTg_sub, wIt_seq, wIt_rng0, wIt_rng1, wIt_enu, wIt_zip, wS_set, wS_expr, wS_ret, wS_retN, wS_ife, wS_raise, wS_try, wS_pass, wS_brk, wS_cont, wS_augN, wS_augF, wS_augS, wEs, wO, wAll, wTgs, wB, List.cons_append, List.nil_append, List.getElem?_cons_zero, List.getElem?_cons_succ, List.set_cons_zero, List.set_cons_succ, Option.some.injEq, exists_eq_left', D.bl.injEq, D.int.injEq, List.map_cons, List.map_nil, List.length_cons, List.length_nil, List.replicate, List.append_eq, Nat.reduceAdd, Nat.reduceSub, Nat.zero_add, Nat.add_zero, Nat.sub_zero, List.any_cons, List.any_nil, Bool.or_false, rd_int, rd_bl, rd_str, rd_non, rd_tup, rd_lst, rd_stl, reduceIte, Bool.not_true, Bool.not_false, Bool.false_eq_true, Nat.sub_self, binD, cmpD, alc_f, dwipe, leD_ii, ltD_ii, gtD_ii, addD_ii, mulD_ii, eqD_ii, len_tup, len_lst, len_str, int_int, int_bl, tuple_lst, tuple_tup]
  cases ht : told row with
  | error e =>
    simp only [encT, wE_v, wE_non, wE_bl, wE_int, wE_str, wE_gc, wE_tup, wE_lst, wE_dic0, wE_dicS, wE_bin, wE_cmp, wE_chn, wE_and, wE_or, wE_not, wE_neg, wE_ife, wE_idx, wE_slc, wE_rev, wE_fld, wE_call, wE_meth, wE_make, wE_blt, wE_bm, wE_isi, wE_xf, wE_xi, wTg_nm, wTg_tp, wTg_fld, wTg_sub, wIt_seq, wIt_rng0, wIt_rng1, wIt_enu, wIt_zip, wS_set, wS_expr, wS_ret, wS_retN, wS_ife, wS_raise, wS_try, wS_pass, wS_brk, wS_cont, wS_augN, wS_augF, wS_augS, wEs, wO, wAll, wTgs, wB, List.cons_append, List.nil_append, List.getElem?_cons_zero, List.getElem?_cons_succ, List.set_cons_zero, List.set_cons_succ, Option.some.injEq, exists_eq_left', D.bl.injEq, D.int.injEq, List.map_cons, List.map_nil, List.length_cons, List.length_nil, List.replicate, List.append_eq, Nat.reduceAdd, Nat.reduceSub, Nat.zero_add, Nat.add_zero, Nat.sub_zero, List.any_cons, List.any_nil, Bool.or_false, rd_int, rd_bl, rd_str, rd_non, rd_tup, rd_lst, rd_stl, reduceIte, Bool.not_true, Bool.not_false, Bool.false_eq_true, Nat.sub_self, binD, cmpD, alc_f, dwipe, leD_ii, ltD_ii, gtD_ii, addD_ii, mulD_ii, eqD_ii, len_tup, len_lst, len_str, int_int, int_bl, tuple_lst, tuple_tup, tyD]
    have := rdP_err hl ht
    refine ⟨rfl, (e : Int), rfl, log_small (by omega) (by omega), Fz0 q⟩
  | ok d =>
    obtain ⟨t1, t2, t3, t4⟩ := told_inv hb ht
    simp only [encT, wE_v, wE_non, wE_bl, wE_int, wE_str, wE_gc, wE_tup, wE_lst, wE_dic0, wE_dicS, wE_bin, wE_cmp, wE_chn, wE_and, wE_or, wE_not, wE_neg, wE_ife, wE_idx, wE_slc, wE_rev, wE_fld, wE_call, wE_meth, wE_make, wE_blt, wE_bm, wE_isi, wE_xf, wE_xi, wTg_nm, wTg_tp, wTg_fld, wTg_sub, wIt_seq, wIt_rng0, wIt_rng1, wIt_enu, wIt_zip, wS_set, wS_expr, wS_ret, wS_retN, wS_ife, wS_raise, wS_try, wS_pass, wS_brk, wS_cont, wS_augN, wS_augF, wS_augS, wEs, wO, wAll, wTgs, wB, List.cons_append, List.nil_append, List.getElem?_cons_zero, List.getElem?_cons_succ, List.set_cons_zero, List.set_cons_succ, Option.some.injEq, exists_eq_left', D.bl.injEq, D.int.injEq, List.map_cons, List.map_nil, List.length_cons, List.length_nil, List.replicate, List.append_eq, Nat.reduceAdd, Nat.reduceSub, Nat.zero_add, Nat.add_zero, Nat.sub_zero, List.any_cons, List.any_nil, Bool.or_false, rd_int, rd_bl, rd_str, rd_non, rd_tup, rd_lst, rd_stl, reduceIte, Bool.not_true, Bool.not_false, Bool.false_eq_true, Nat.sub_self, binD, cmpD, alc_f, dwipe, leD_ii, ltD_ii, gtD_ii, addD_ii, mulD_ii, eqD_ii, len_tup, len_lst, len_str, int_int, int_bl, tuple_lst, tuple_tup, tyD]
    refine ⟨rfl, rfl, ?_⟩
    refine ⟨.tup [d], rfl, by rw [isP, isPs, t3, isPs]; rfl, by rw [deep, deeps, deeps]; omega, true, rfl, ?_⟩
    simp only [wE_v, wE_non, wE_bl, wE_int, wE_str, wE_gc, wE_tup, wE_lst, wE_dic0, wE_dicS, wE_bin, wE_cmp, wE_chn, wE_and, wE_or, wE_not, wE_neg, wE_ife, wE_idx, wE_slc, wE_rev, wE_fld, wE_call, wE_meth, wE_make, wE_blt, wE_bm, wE_isi, wE_xf, wE_xi, wTg_nm, wTg_tp, wTg_fld, wTg_sub, wIt_seq, wIt_rng0, wIt_rng1, wIt_enu, wIt_zip, wS_set, wS_expr, wS_ret, wS_retN, wS_ife, wS_raise, wS_try, wS_pass, wS_brk, wS_cont, wS_augN, wS_augF, wS_augS, wEs, wO, wAll, wTgs, wB, List.cons_append, List.nil_append, List.getElem?_cons_zero, List.getElem?_cons_succ, List.set_cons_zero, List.set_cons_succ, Option.some.injEq, exists_eq_left', D.bl.injEq, D.int.injEq, List.map_cons, List.map_nil, List.length_cons, List.length_nil, List.replicate, List.append_eq, Nat.reduceAdd, Nat.reduceSub, Nat.zero_add, Nat.add_zero, Nat.sub_zero, List.any_cons, List.any_nil, Bool.or_false, rd_int, rd_bl, rd_str, rd_non, rd_tup, rd_lst, rd_stl, reduceIte, Bool.not_true, Bool.not_false, Bool.false_eq_true, Nat.sub_self, binD, cmpD, alc_f, dwipe, leD_ii, ltD_ii, gtD_ii, addD_ii, mulD_ii, eqD_ii, len_tup, len_lst, len_str, int_int, int_bl, tuple_lst, tuple_tup]
    refine ⟨0, d, rfl, rfl, d, rfl, okP_okQ d t3, by omega, fun _ => ⟨t3, by rw [t1]; exact hl, ?_⟩, fun z => by rw [t2] at z; cases z⟩
    rw [t1]
    dsimp only
    rw [rd_tup, eqD_tints, decide_eq_true rfl]
    exact Fz0 q
end Sp

set_option maxRecDepth 100000
set_option maxHeartbeats 4000000
namespace Sp
open PySem DL Ir
theorem nest_isP : ∀ (k : Nat) {d : D}, isP d = true → isP (nest k d) = true
  | 0, _, h => h
  | k + 1, _, h => by rw [nest_succ, isP, isPs, nest_isP k h, isPs]; rfl
theorem nest_isPc : ∀ (k : Nat) {d : D} {m : Int}, 0 ≤ m → isPc d m = true → isPc (nest k d) (m + k) = true
  | 0, d, m, _, h => by rw [show m + ((0 : Nat) : Int) = m by omega]; exact h
  | k + 1, d, m, hm, h => by
    rw [nest_succ, isPc, show m + ((k + 1 : Nat) : Int) - 1 = m + k by omega, isPcs, nest_isPc k hm h, isPcs, decide_eq_true (by omega)]; rfl
theorem nest_deep : ∀ (k : Nat) (d : D), deep (nest k d) = k + deep d
  | 0, d => by rw [nest, Nat.zero_add]
  | k + 1, d => by rw [nest_succ, deep, deeps, deeps, nest_deep k d]; omega
theorem whN_1 : whN 1 = [1] := whN_lt (by decide)
theorem nest_len : ∀ (k : Nat) (d : D), (pby (nest k d)).length = 2 * k + (pby d).length
  | 0, d => by rw [nest]; omega
  | k + 1, d => by
    rw [nest_succ, pby, pbys, pbys, List.length_cons, List.length_append, List.length_append, nest_len k d]
    show (whN 1).length + _ + 1 = _
    rw [whN_1, List.length_cons, List.length_nil]; omega
theorem nest_okQ {H : DH} : ∀ (k : Nat) {d : D}, okQ H d = true → okQ H (nest k d) = true
  | 0, _, h => h
  | k + 1, _, h => by rw [nest_succ, okQ, okQs, nest_okQ k h, okQs]; rfl
theorem nest_noP : ∀ (k : Nat) {d : D}, noP d = true → noP (nest k d) = true
  | 0, _, h => h
  | k + 1, _, h => by rw [nest_succ, noP, noPs, nest_noP k h, noPs]; rfl
def spSecond : DSp := fun ds H Q _ => ∃ ns : List Int, ds = [.stl (ns.map D.int)] ∧ ns.length ≤ 63 ∧ ∀ H', Q (.bl true) H'
theorem rightB {n : Nat} {xs : List D} {H : DH} {Q : DK} {E : DXK} (h : isBn n (.tup xs)) (hn : n ≤ 1000000) (q : Q (.bl true) H) : spRight [.tup xs] H Q E := by
  obtain ⟨bs, e, h1, h2⟩ := h
  exact ⟨bs, by rw [e], h1, by omega, q⟩
theorem sat_second {G : Gam} (h1 : G.fn "_law_pool" = spPool) (h2 : G.fn "_law_parcel" = spParcL 3) (h3 : G.fn "_law_bytes" = spBytes 40) (h4 : G.fn "_law_right" = spRight) (h5 : G.fn "_law_spoilt" = spSpoilt) (h6 : G.fn "_law_draw" = spDraw) (h7 : G.fn "_law_nested" = spNested) : Sat G N__law_second.length ir__law_second spSecond := by
  rintro vs H Q E ⟨ns, rfl, hn, q⟩
  unfold ir__law_second
  simp only [wE_v, wE_non, wE_bl, wE_int, wE_str, wE_gc, wE_tup, wE_lst, wE_dic0, wE_dicS, wE_bin, wE_cmp, wE_chn, wE_and, wE_or, wE_not, wE_neg, wE_ife, wE_idx, wE_slc, wE_rev, wE_fld, wE_call, wE_meth, wE_make, wE_blt, wE_bm, wE_isi, wE_xf, wE_xi, wTg_nm, wTg_tp, wTg_fld, wTg_sub, wIt_seq, wIt_rng0, wIt_rng1, wIt_enu, wIt_zip, wS_set, wS_expr, wS_ret, wS_retN, wS_ife, wS_raise, wS_try, wS_pass, wS_brk, wS_cont, wS_augN, wS_augF, wS_augS, wEs, wO, wAll, wTgs, wB, List.cons_append, List.nil_append, List.getElem?_cons_zero, List.getElem?_cons_succ, List.set_cons_zero, List.set_cons_succ, Option.some.injEq, exists_eq_left', D.bl.injEq, D.int.injEq, List.map_cons, List.map_nil, List.length_cons, List.length_nil, List.replicate, List.append_eq, Nat.reduceAdd, Nat.reduceSub, Nat.zero_add, Nat.add_zero, Nat.sub_zero, List.any_cons, List.any_nil, Bool.or_false, rd_int, rd_bl, rd_str, rd_non, rd_tup, rd_lst, rd_stl, reduceIte, Bool.not_true, Bool.not_false, Bool.false_eq_true, Nat.sub_self, binD, cmpD, alc_f, dwipe, leD_ii, ltD_ii, gtD_ii, addD_ii, mulD_ii, eqD_ii, len_tup, len_lst, len_str, int_int, int_bl, tuple_lst, tuple_tup, N__law_second, h1, h4]
  refine ⟨ns, rfl, hn, fun p r H1 _ _ hp _ => ?_⟩
  simp only [wE_v, wE_non, wE_bl, wE_int, wE_str, wE_gc, wE_tup, wE_lst, wE_dic0, wE_dicS, wE_bin, wE_cmp, wE_chn, wE_and, wE_or, wE_not, wE_neg, wE_ife, wE_idx, wE_slc, wE_rev, wE_fld, wE_call, wE_meth, wE_make, wE_blt, wE_bm, wE_isi, wE_xf, wE_xi, wTg_nm, wTg_tp, wTg_fld, wTg_sub, wIt_seq, wIt_rng0, wIt_rng1, wIt_enu, wIt_zip, wS_set, wS_expr, wS_ret, wS_retN, wS_ife, wS_raise, wS_try, wS_pass, wS_brk, wS_cont, wS_augN, wS_augF, wS_augS, wEs, wO, wAll, wTgs, wB, List.cons_append, List.nil_append, List.getElem?_cons_zero, List.getElem?_cons_succ, List.set_cons_zero, List.set_cons_succ, Option.some.injEq, exists_eq_left', D.bl.injEq, D.int.injEq, List.map_cons, List.map_nil, List.length_cons, List.length_nil, List.replicate, List.append_eq, Nat.reduceAdd, Nat.reduceSub, Nat.zero_add, Nat.add_zero, Nat.sub_zero, List.any_cons, List.any_nil, Bool.or_false, rd_int, rd_bl, rd_str, rd_non, rd_tup, rd_lst, rd_stl, reduceIte, Bool.not_true, Bool.not_false, Bool.false_eq_true, Nat.sub_self, binD, cmpD, alc_f, dwipe, leD_ii, ltD_ii, gtD_ii, addD_ii, mulD_ii, eqD_ii, len_tup, len_lst, len_str, int_int, int_bl, tuple_lst, tuple_tup]
  rw [wS]
  simp only [wE_v, wE_non, wE_bl, wE_int, wE_str, wE_gc, wE_tup, wE_lst, wE_dic0, wE_dicS, wE_bin, wE_cmp, wE_chn, wE_and, wE_or, wE_not, wE_neg, wE_ife, wE_idx, wE_slc, wE_rev, wE_fld, wE_call, wE_meth, wE_make, wE_blt, wE_bm, wE_isi, wE_xf, wE_xi, wTg_nm, wTg_tp, wTg_fld, wTg_sub, wIt_seq, wIt_rng0, wIt_rng1, wIt_enu, wIt_zip, wS_set, wS_expr, wS_ret, wS_retN, wS_ife, wS_raise, wS_try, wS_pass, wS_brk, wS_cont, wS_augN, wS_augF, wS_augS, wEs, wO, wAll, wTgs, wB, List.cons_append, List.nil_append, List.getElem?_cons_zero, List.getElem?_cons_succ, List.set_cons_zero, List.set_cons_succ, Option.some.injEq, exists_eq_left', D.bl.injEq, D.int.injEq, List.map_cons, List.map_nil, List.length_cons, List.length_nil, List.replicate, List.append_eq, Nat.reduceAdd, Nat.reduceSub, Nat.zero_add, Nat.add_zero, Nat.sub_zero, List.any_cons, List.any_nil, Bool.or_false, rd_int, rd_bl, rd_str, rd_non, rd_tup, rd_lst, rd_stl, reduceIte, Bool.not_true, Bool.not_false, Bool.false_eq_true, Nat.sub_self, binD, cmpD, alc_f, dwipe, leD_ii, ltD_ii, gtD_ii, addD_ii, mulD_ii, eqD_ii, len_tup, len_lst, len_str, int_int, int_bl, tuple_lst, tuple_tup]
  refine ⟨by decide, by decide, fun hz => ⟨fun i σ H' => PoolAt H' p r ∧ ∃ o2 o3 o4 o5 o6 o7 o8 : Option D, σ = [some (.stl (ns.map .int)), some (.ref p), o2, o3, o4, o5, o6, o7, o8], ⟨hp, _, _, _, _, _, _, _, rfl⟩, fun _ _ _ _ => trivial, ?_, ?_⟩⟩
  · rintro i d σ H2 _ ⟨hp2, o2, o3, o4, o5, o6, o7, o8, rfl⟩
    simp only [wE_v, wE_non, wE_bl, wE_int, wE_str, wE_gc, wE_tup, wE_lst, wE_dic0, wE_dicS, wE_bin, wE_cmp, wE_chn, wE_and, wE_or, wE_not, wE_neg, wE_ife, wE_idx, wE_slc, wE_rev, wE_fld, wE_call, wE_meth, wE_make, wE_blt, wE_bm, wE_isi, wE_xf, wE_xi, wTg_nm, wTg_tp, wTg_fld, wTg_sub, wIt_seq, wIt_rng0, wIt_rng1, wIt_enu, wIt_zip, wS_set, wS_expr, wS_ret, wS_retN, wS_ife, wS_raise, wS_try, wS_pass, wS_brk, wS_cont, wS_augN, wS_augF, wS_augS, wEs, wO, wAll, wTgs, wB, List.cons_append, List.nil_append, List.getElem?_cons_zero, List.getElem?_cons_succ, List.set_cons_zero, List.set_cons_succ, Option.some.injEq, exists_eq_left', D.bl.injEq, D.int.injEq, List.map_cons, List.map_nil, List.length_cons, List.length_nil, List.replicate, List.append_eq, Nat.reduceAdd, Nat.reduceSub, Nat.zero_add, Nat.add_zero, Nat.sub_zero, List.any_cons, List.any_nil, Bool.or_false, rd_int, rd_bl, rd_str, rd_non, rd_tup, rd_lst, rd_stl, reduceIte, Bool.not_true, Bool.not_false, Bool.false_eq_true, Nat.sub_self, binD, cmpD, alc_f, dwipe, leD_ii, ltD_ii, gtD_ii, addD_ii, mulD_ii, eqD_ii, len_tup, len_lst, len_str, int_int, int_bl, tuple_lst, tuple_tup, h2, h3, h4, h5, h6, h7]
    refine ⟨p, r, rfl, hp2, ?_⟩
    rintro pc H3 ⟨d1, d2, d3, d4⟩ hp3 hf3
    have hrow := pby_row pc 3 d1 d2
    have d4' : (pby pc).length ≤ 125000 := d4
    refine ⟨pc, rfl, d1, by omega, by omega, ?_⟩
    have hR : isBn 125000 (.tup ((pby pc).map .int)) := ⟨_, rfl, hrow, d4'⟩
    generalize (pby pc).map D.int = ro at hR ⊢
    dsimp only
    rw [tuple_lst]
    rw [wS]
    simp only [wE_v, wE_non, wE_bl, wE_int, wE_str, wE_gc, wE_tup, wE_lst, wE_dic0, wE_dicS, wE_bin, wE_cmp, wE_chn, wE_and, wE_or, wE_not, wE_neg, wE_ife, wE_idx, wE_slc, wE_rev, wE_fld, wE_call, wE_meth, wE_make, wE_blt, wE_bm, wE_isi, wE_xf, wE_xi, wTg_nm, wTg_tp, wTg_fld, wTg_sub, wIt_seq, wIt_rng0, wIt_rng1, wIt_enu, wIt_zip, wS_set, wS_expr, wS_ret, wS_retN, wS_ife, wS_raise, wS_try, wS_pass, wS_brk, wS_cont, wS_augN, wS_augF, wS_augS, wEs, wO, wAll, wTgs, wB, List.cons_append, List.nil_append, List.getElem?_cons_zero, List.getElem?_cons_succ, List.set_cons_zero, List.set_cons_succ, Option.some.injEq, exists_eq_left', D.bl.injEq, D.int.injEq, List.map_cons, List.map_nil, List.length_cons, List.length_nil, List.replicate, List.append_eq, Nat.reduceAdd, Nat.reduceSub, Nat.zero_add, Nat.add_zero, Nat.sub_zero, List.any_cons, List.any_nil, Bool.or_false, rd_int, rd_bl, rd_str, rd_non, rd_tup, rd_lst, rd_stl, reduceIte, Bool.not_true, Bool.not_false, Bool.false_eq_true, Nat.sub_self, binD, cmpD, alc_f, dwipe, leD_ii, ltD_ii, gtD_ii, addD_ii, mulD_ii, eqD_ii, len_tup, len_lst, len_str, int_int, int_bl, tuple_lst, tuple_tup, h4, h5, h6, h7]
    refine ⟨p, r, 4, rfl, hp3, by decide, by decide, ?_⟩
    rintro _ H4 ⟨t, t0, t1, rfl⟩ hp4 hf4
    simp only [wE_v, wE_non, wE_bl, wE_int, wE_str, wE_gc, wE_tup, wE_lst, wE_dic0, wE_dicS, wE_bin, wE_cmp, wE_chn, wE_and, wE_or, wE_not, wE_neg, wE_ife, wE_idx, wE_slc, wE_rev, wE_fld, wE_call, wE_meth, wE_make, wE_blt, wE_bm, wE_isi, wE_xf, wE_xi, wTg_nm, wTg_tp, wTg_fld, wTg_sub, wIt_seq, wIt_rng0, wIt_rng1, wIt_enu, wIt_zip, wS_set, wS_expr, wS_ret, wS_retN, wS_ife, wS_raise, wS_try, wS_pass, wS_brk, wS_cont, wS_augN, wS_augF, wS_augS, wEs, wO, wAll, wTgs, wB, List.cons_append, List.nil_append, List.getElem?_cons_zero, List.getElem?_cons_succ, List.set_cons_zero, List.set_cons_succ, Option.some.injEq, exists_eq_left', D.bl.injEq, D.int.injEq, List.map_cons, List.map_nil, List.length_cons, List.length_nil, List.replicate, List.append_eq, Nat.reduceAdd, Nat.reduceSub, Nat.zero_add, Nat.add_zero, Nat.sub_zero, List.any_cons, List.any_nil, Bool.or_false, rd_int, rd_bl, rd_str, rd_non, rd_tup, rd_lst, rd_stl, reduceIte, Bool.not_true, Bool.not_false, Bool.false_eq_true, Nat.sub_self, binD, cmpD, alc_f, dwipe, leD_ii, ltD_ii, gtD_ii, addD_ii, mulD_ii, eqD_ii, len_tup, len_lst, len_str, int_int, int_bl, tuple_lst, tuple_tup]
    refine ⟨by omega, by omega, fun hz => ⟨fun i σ H' => ∃ (xs : List D) (o4 : Option D), PoolAt H' p r ∧ isBn (125000 + i) (.tup xs) ∧ σ = [some (.stl (ns.map .int)), some (.ref p), some d, some (.tup xs), o4, o5, o6, o7, o8], ⟨ro, o4, hp4, hR, rfl⟩, fun _ _ _ _ => trivial, ?_, ?_⟩⟩
    · rintro i x σ H5 hi ⟨xs, o4, hp5, hxs, rfl⟩
      have hi' : i < 5 := by
        have := (List.getElem?_eq_some_iff.mp hi).1
        rw [rangeD_len] at this
        omega
      simp only [wE_v, wE_non, wE_bl, wE_int, wE_str, wE_gc, wE_tup, wE_lst, wE_dic0, wE_dicS, wE_bin, wE_cmp, wE_chn, wE_and, wE_or, wE_not, wE_neg, wE_ife, wE_idx, wE_slc, wE_rev, wE_fld, wE_call, wE_meth, wE_make, wE_blt, wE_bm, wE_isi, wE_xf, wE_xi, wTg_nm, wTg_tp, wTg_fld, wTg_sub, wIt_seq, wIt_rng0, wIt_rng1, wIt_enu, wIt_zip, wS_set, wS_expr, wS_ret, wS_retN, wS_ife, wS_raise, wS_try, wS_pass, wS_brk, wS_cont, wS_augN, wS_augF, wS_augS, wEs, wO, wAll, wTgs, wB, List.cons_append, List.nil_append, List.getElem?_cons_zero, List.getElem?_cons_succ, List.set_cons_zero, List.set_cons_succ, Option.some.injEq, exists_eq_left', D.bl.injEq, D.int.injEq, List.map_cons, List.map_nil, List.length_cons, List.length_nil, List.replicate, List.append_eq, Nat.reduceAdd, Nat.reduceSub, Nat.zero_add, Nat.add_zero, Nat.sub_zero, List.any_cons, List.any_nil, Bool.or_false, rd_int, rd_bl, rd_str, rd_non, rd_tup, rd_lst, rd_stl, reduceIte, Bool.not_true, Bool.not_false, Bool.false_eq_true, Nat.sub_self, binD, cmpD, alc_f, dwipe, leD_ii, ltD_ii, gtD_ii, addD_ii, mulD_ii, eqD_ii, len_tup, len_lst, len_str, int_int, int_bl, tuple_lst, tuple_tup, h4, h5]
      refine rightB hxs (by omega) ⟨true, rfl, ?_⟩
      rw [if_neg (by simp)]
      refine ⟨p, r, _, xs, rfl, hp5, hxs, by omega, ?_⟩
      rintro y H6 hy hp6 hf6
      obtain ⟨bs, rfl, _, _⟩ := id hy
      exact Fz.here ⟨_, _, hp6, hy, rfl⟩
    · rintro σ H5 ⟨xs, o4, hp5, hxs, rfl⟩
      rw [rangeD_len] at hxs
      have hxs := isBn_mono hxs (show _ ≤ 126000 by omega)
      simp only [wE_v, wE_non, wE_bl, wE_int, wE_str, wE_gc, wE_tup, wE_lst, wE_dic0, wE_dicS, wE_bin, wE_cmp, wE_chn, wE_and, wE_or, wE_not, wE_neg, wE_ife, wE_idx, wE_slc, wE_rev, wE_fld, wE_call, wE_meth, wE_make, wE_blt, wE_bm, wE_isi, wE_xf, wE_xi, wTg_nm, wTg_tp, wTg_fld, wTg_sub, wIt_seq, wIt_rng0, wIt_rng1, wIt_enu, wIt_zip, wS_set, wS_expr, wS_ret, wS_retN, wS_ife, wS_raise, wS_try, wS_pass, wS_brk, wS_cont, wS_augN, wS_augF, wS_augS, wEs, wO, wAll, wTgs, wB, List.cons_append, List.nil_append, List.getElem?_cons_zero, List.getElem?_cons_succ, List.set_cons_zero, List.set_cons_succ, Option.some.injEq, exists_eq_left', D.bl.injEq, D.int.injEq, List.map_cons, List.map_nil, List.length_cons, List.length_nil, List.replicate, List.append_eq, Nat.reduceAdd, Nat.reduceSub, Nat.zero_add, Nat.add_zero, Nat.sub_zero, List.any_cons, List.any_nil, Bool.or_false, rd_int, rd_bl, rd_str, rd_non, rd_tup, rd_lst, rd_stl, reduceIte, Bool.not_true, Bool.not_false, Bool.false_eq_true, Nat.sub_self, binD, cmpD, alc_f, dwipe, leD_ii, ltD_ii, gtD_ii, addD_ii, mulD_ii, eqD_ii, len_tup, len_lst, len_str, int_int, int_bl, tuple_lst, tuple_tup, h4, h5, h6, h7]
      refine comp_draws (fun d => ∃ i : Int, d = .int i ∧ 0 ≤ i ∧ i < 256) (p := p) (q := r) ?_ ?_
      · intro K2 h
        simp only [wE_v, wE_non, wE_bl, wE_int, wE_str, wE_gc, wE_tup, wE_lst, wE_dic0, wE_dicS, wE_bin, wE_cmp, wE_chn, wE_and, wE_or, wE_not, wE_neg, wE_ife, wE_idx, wE_slc, wE_rev, wE_fld, wE_call, wE_meth, wE_make, wE_blt, wE_bm, wE_isi, wE_xf, wE_xi, wTg_nm, wTg_tp, wTg_fld, wTg_sub, wIt_seq, wIt_rng0, wIt_rng1, wIt_enu, wIt_zip, wS_set, wS_expr, wS_ret, wS_retN, wS_ife, wS_raise, wS_try, wS_pass, wS_brk, wS_cont, wS_augN, wS_augF, wS_augS, wEs, wO, wAll, wTgs, wB, List.cons_append, List.nil_append, List.getElem?_cons_zero, List.getElem?_cons_succ, List.set_cons_zero, List.set_cons_succ, Option.some.injEq, exists_eq_left', D.bl.injEq, D.int.injEq, List.map_cons, List.map_nil, List.length_cons, List.length_nil, List.replicate, List.append_eq, Nat.reduceAdd, Nat.reduceSub, Nat.zero_add, Nat.add_zero, Nat.sub_zero, List.any_cons, List.any_nil, Bool.or_false, rd_int, rd_bl, rd_str, rd_non, rd_tup, rd_lst, rd_stl, reduceIte, Bool.not_true, Bool.not_false, Bool.false_eq_true, Nat.sub_self, binD, cmpD, alc_f, dwipe, leD_ii, ltD_ii, gtD_ii, addD_ii, mulD_ii, eqD_ii, len_tup, len_lst, len_str, int_int, int_bl, tuple_lst, tuple_tup, h6]
        refine ⟨p, r, 12, rfl, hp5, by decide, by decide, ?_⟩
        rintro _ H6 ⟨t, t0, t1, rfl⟩ hp6 hf6
        refine h t H6 (by omega) (by omega) hp6 ?_
        intro ys H7 hl hy hp7 hf7
        have hys : isBn 12 (.tup ys) := isBn_ys (by omega) hy
        simp only [wE_v, wE_non, wE_bl, wE_int, wE_str, wE_gc, wE_tup, wE_lst, wE_dic0, wE_dicS, wE_bin, wE_cmp, wE_chn, wE_and, wE_or, wE_not, wE_neg, wE_ife, wE_idx, wE_slc, wE_rev, wE_fld, wE_call, wE_meth, wE_make, wE_blt, wE_bm, wE_isi, wE_xf, wE_xi, wTg_nm, wTg_tp, wTg_fld, wTg_sub, wIt_seq, wIt_rng0, wIt_rng1, wIt_enu, wIt_zip, wS_set, wS_expr, wS_ret, wS_retN, wS_ife, wS_raise, wS_try, wS_pass, wS_brk, wS_cont, wS_augN, wS_augF, wS_augS, wEs, wO, wAll, wTgs, wB, List.cons_append, List.nil_append, List.getElem?_cons_zero, List.getElem?_cons_succ, List.set_cons_zero, List.set_cons_succ, Option.some.injEq, exists_eq_left', D.bl.injEq, D.int.injEq, List.map_cons, List.map_nil, List.length_cons, List.length_nil, List.replicate, List.append_eq, Nat.reduceAdd, Nat.reduceSub, Nat.zero_add, Nat.add_zero, Nat.sub_zero, List.any_cons, List.any_nil, Bool.or_false, rd_int, rd_bl, rd_str, rd_non, rd_tup, rd_lst, rd_stl, reduceIte, Bool.not_true, Bool.not_false, Bool.false_eq_true, Nat.sub_self, binD, cmpD, alc_f, dwipe, leD_ii, ltD_ii, gtD_ii, addD_ii, mulD_ii, eqD_ii, len_tup, len_lst, len_str, int_int, int_bl, tuple_lst, tuple_tup]
        refine rightB hxs (by decide) ⟨true, rfl, ?_⟩
        rw [if_neg (by simp)]
        refine rightB hys (by decide) ⟨true, rfl, ?_⟩
        rw [if_neg (by simp)]
        refine ⟨p, r, 5, rfl, hp7, by decide, by decide, ?_⟩
        rintro _ H8 ⟨u, u0, u1, rfl⟩ hp8 hf8
        simp only [wE_v, wE_non, wE_bl, wE_int, wE_str, wE_gc, wE_tup, wE_lst, wE_dic0, wE_dicS, wE_bin, wE_cmp, wE_chn, wE_and, wE_or, wE_not, wE_neg, wE_ife, wE_idx, wE_slc, wE_rev, wE_fld, wE_call, wE_meth, wE_make, wE_blt, wE_bm, wE_isi, wE_xf, wE_xi, wTg_nm, wTg_tp, wTg_fld, wTg_sub, wIt_seq, wIt_rng0, wIt_rng1, wIt_enu, wIt_zip, wS_set, wS_expr, wS_ret, wS_retN, wS_ife, wS_raise, wS_try, wS_pass, wS_brk, wS_cont, wS_augN, wS_augF, wS_augS, wEs, wO, wAll, wTgs, wB, List.cons_append, List.nil_append, List.getElem?_cons_zero, List.getElem?_cons_succ, List.set_cons_zero, List.set_cons_succ, Option.some.injEq, exists_eq_left', D.bl.injEq, D.int.injEq, List.map_cons, List.map_nil, List.length_cons, List.length_nil, List.replicate, List.append_eq, Nat.reduceAdd, Nat.reduceSub, Nat.zero_add, Nat.add_zero, Nat.sub_zero, List.any_cons, List.any_nil, Bool.or_false, rd_int, rd_bl, rd_str, rd_non, rd_tup, rd_lst, rd_stl, reduceIte, Bool.not_true, Bool.not_false, Bool.false_eq_true, Nat.sub_self, binD, cmpD, alc_f, dwipe, leD_ii, ltD_ii, gtD_ii, addD_ii, mulD_ii, eqD_ii, len_tup, len_lst, len_str, int_int, int_bl, tuple_lst, tuple_tup]
        refine ⟨p, r, 3, rfl, hp8, by decide, by decide, ?_⟩
        rintro _ H9 ⟨w, w0, w1, rfl⟩ hp9 hf9
        have hin : ∀ x ∈ [D.int 0, .tup [], .str "ab"], isP x = true ∧ isPc x 1 = true ∧ deep x ≤ 1 ∧ (pby x).length ≤ 20 := by
          have hw : (whN 2).length ≤ 1 := whN_len 0 2 (by decide)
          have hw0 : (whN 0).length ≤ 1 := whN_len 0 0 (by decide)
          intro x hx
          simp only [List.mem_cons, List.not_mem_nil, or_false] at hx
          rcases hx with rfl | rfl | rfl
          · exact ⟨rfl, rfl, by decide, by rw [pby, if_pos (by decide), List.length_cons]; show (whN 0).length + 1 ≤ 20; omega⟩
          · exact ⟨rfl, rfl, by decide, by rw [pby, pbys, List.length_cons, List.length_append]; show (whN 0).length + 0 + 1 ≤ 20; omega⟩
          · exact ⟨rfl, by decide +kernel, by decide, by rw [pby, List.length_cons, List.length_append, List.length_map]; show (whN 2).length + 2 + 1 ≤ 20; omega⟩
        refine idx_mem w0 (by simpa using w1) fun x hx => ?_
        obtain ⟨x1, x2, x3, x4⟩ := hin x hx
        obtain ⟨k, hk, rfl⟩ : ∃ k : Nat, k ≤ 4 ∧ u = k := ⟨u.toNat, by omega, by omega⟩
        refine ⟨18 + k, x, by rw [show ((18 + k : Nat) : Int) = 18 + (k : Int) by omega], by omega, ?_⟩
        have ln := nest_len (18 + k) x
        have dn := nest_deep (18 + k) x
        have hnr := pby_row _ _ (nest_isP (18 + k) x1) (nest_isPc (18 + k) (by decide) x2)
        refine ⟨_, rfl, nest_isP _ x1, by omega, by omega, ?_⟩
        have hN : isBn 1000 (.tup ((pby (nest (18 + k) x)).map .int)) := ⟨_, rfl, hnr, by omega⟩
        generalize (pby (nest (18 + k) x)).map D.int = zs at hN ⊢
        dsimp only
        rw [tuple_lst]
        refine rightB hN (by decide) ⟨true, rfl, ?_⟩
        rw [if_neg (by simp)]
        refine ⟨p, r, _, zs, rfl, hp9, hN, by decide, ?_⟩
        rintro y H10 hy hp10 hf10
        obtain ⟨bs, rfl, _, _⟩ := id hy
        refine rightB hy (by decide) ⟨true, rfl, ?_⟩
        rw [if_neg (by simp)]
        exact Fz.here ⟨hp10, _, _, _, _, _, _, _, rfl⟩
      · intro d' H' K2 hp' hk
        simp only [wE_v, wE_non, wE_bl, wE_int, wE_str, wE_gc, wE_tup, wE_lst, wE_dic0, wE_dicS, wE_bin, wE_cmp, wE_chn, wE_and, wE_or, wE_not, wE_neg, wE_ife, wE_idx, wE_slc, wE_rev, wE_fld, wE_call, wE_meth, wE_make, wE_blt, wE_bm, wE_isi, wE_xf, wE_xi, wTg_nm, wTg_tp, wTg_fld, wTg_sub, wIt_seq, wIt_rng0, wIt_rng1, wIt_enu, wIt_zip, wS_set, wS_expr, wS_ret, wS_retN, wS_ife, wS_raise, wS_try, wS_pass, wS_brk, wS_cont, wS_augN, wS_augF, wS_augS, wEs, wO, wAll, wTgs, wB, List.cons_append, List.nil_append, List.getElem?_cons_zero, List.getElem?_cons_succ, List.set_cons_zero, List.set_cons_succ, Option.some.injEq, exists_eq_left', D.bl.injEq, D.int.injEq, List.map_cons, List.map_nil, List.length_cons, List.length_nil, List.replicate, List.append_eq, Nat.reduceAdd, Nat.reduceSub, Nat.zero_add, Nat.add_zero, Nat.sub_zero, List.any_cons, List.any_nil, Bool.or_false, rd_int, rd_bl, rd_str, rd_non, rd_tup, rd_lst, rd_stl, reduceIte, Bool.not_true, Bool.not_false, Bool.false_eq_true, Nat.sub_self, binD, cmpD, alc_f, dwipe, leD_ii, ltD_ii, gtD_ii, addD_ii, mulD_ii, eqD_ii, len_tup, len_lst, len_str, int_int, int_bl, tuple_lst, tuple_tup, h6]
        refine ⟨p, r, 13, rfl, hp', by decide, by decide, ?_⟩
        rintro _ H6 ⟨t, t0, t1, rfl⟩ hp6 hf6
        have hb : ∀ d ∈ [D.int 0, .int 1, .int 2, .int 3, .int 4, .int 5, .int 6, .int 6, .int 6, .int 7, .int 65, .int 128, .int 130], ∃ b : Int, d = .int b ∧ 0 ≤ b ∧ b < 256 := by
          intro d hd
          simp only [List.mem_cons, List.not_mem_nil, or_false] at hd
          rcases hd with rfl | rfl | rfl | rfl | rfl | rfl | rfl | rfl | rfl | rfl | rfl | rfl | rfl <;> exact ⟨_, rfl, by decide, by decide⟩
        exact idx_mem t0 (by simpa using t1) fun x hx => hk _ _ (hb x hx) hp6 hf6
  · rintro σ H2 ⟨hp2, o2, o3, o4, o5, o6, o7, o8, rfl⟩
    exact rightB (n := 0) ⟨[], rfl, fun _ h => (by cases h), Nat.le_refl _⟩ (by decide) (Fz0 (q _))
end Sp

set_option maxRecDepth 100000
set_option maxHeartbeats 400000
namespace Sp
open PySem DL Ir
mutual
theorem isPc_noP : ∀ (d : D) (n : Int), isPc d n = true → noP d = true
  | .non, _, _ => by rw [noP]
  | .bl _, _, _ => by rw [noP]
  | .int _, _, _ => by rw [noP]
  | .str s, _, h => by
    rw [isPc] at h
    unfold isShort at h
    simp only [Bool.and_eq_true] at h
    rw [noP, List.all_eq_true]
    intro c hc
    have := (isSign_i (List.all_eq_true.mp h.2 c hc)).2.2
    have : c ≠ 37 := by omega
    simpa using this
  | .tup xs, n, h => by
    rw [isPc, Bool.and_eq_true] at h
    rw [noP]
    exact isPcs_noP xs _ h.2
theorem isPcs_noP : ∀ (xs : List D) (n : Int), isPcs xs n = true → noPs xs = true
  | [], _, _ => by rw [noPs]
  | x :: xs, n, h => by
    rw [isPcs, Bool.and_eq_true] at h
    rw [noPs, isPc_noP x n h.1, isPcs_noP xs n h.2]; rfl
end
/-- one of the things that are judged -/
def okOne (H : DH) (d : D) : Prop := okQ H d = true ∧ deep d < 40 ∧ noP d = true ∧ (isPc d 20 = true → isP d = true ∧ (pby d).length ≤ 1000000)
def okTh (H : DH) (d : D) : Prop := okQ H d = true ∧ deep d ≤ 37 ∧ noP d = true ∧ (pby d).length ≤ 200
theorem okTh_one {H : DH} {d : D} (h : okTh H d) : okOne H d := ⟨h.1, by have := h.2.1; omega, h.2.2.1, fun z => ⟨(isPc_isP _ _ z).1, by have := h.2.2.2; omega⟩⟩
/-- a drawn parcel, nested or not -/
def okF (d : D) : Prop := isP d = true ∧ isPc d 20 = true ∧ deep d ≤ 30 ∧ (pby d).length ≤ 200000
theorem okF_one {H : DH} {d : D} (h : okF d) : okOne H d := ⟨okP_okQ d h.1, by have := h.2.2.1; omega, isPc_noP _ _ h.2.1, fun _ => ⟨h.1, by have := h.2.2.2; omega⟩⟩
theorem okTF_one {H : DH} {t d : D} (ht : okTh H t) (h : okF d) : okOne H (.tup [t, d]) := by
  obtain ⟨t1, t2, t3, t4⟩ := ht
  obtain ⟨d1, d2, d3, d4⟩ := h
  refine ⟨by rw [okQ, okQs, okQs, okQs, t1, okP_okQ d d1]; rfl, by rw [deep, deeps, deeps, deeps]; omega, by rw [noP, noPs, noPs, noPs, t3, isPc_noP _ _ d2]; rfl, fun z => ⟨(isPc_isP _ _ z).1, ?_⟩⟩
  rw [pby, pbys, pbys, pbys, List.length_cons, List.length_append, List.length_append, List.length_append]
  have : (whN 2).length ≤ 1 := whN_len 0 2 (by decide)
  show (whN 2).length + (_ + (_ + 0)) + 1 ≤ _
  omega
theorem okTh_str {H : DH} {s : Str} (h : noP (.str s) = true) (hl : s.length ≤ 100) : okTh H (.str s) := by
  refine ⟨by rw [okQ], Nat.zero_le _, h, ?_⟩
  have h1 : s.cps.toList.length = s.length := by rw [Array.length_toList]; rfl
  have := whN_len 0 s.length (by omega)
  rw [pby, List.length_cons, List.length_append, List.length_map]
  omega
theorem okTh_lst {H : DH} {xs : List D} (h : deep (.lst xs) ≤ 37) : okTh H (.lst xs) := ⟨by rw [okQ], h, by rw [noP], by rw [pby]; decide⟩
theorem okTh_nest {H : DH} {d : D} {k : Nat} (hk : k ≤ 21) (h1 : okQ H d = true) (h2 : deep d ≤ 1) (h3 : noP d = true) (h4 : (pby d).length ≤ 20) : okTh H (nest k d) := by
  have := nest_len k d
  have := nest_deep k d
  exact ⟨nest_okQ k h1, by omega, nest_noP k h3, by omega⟩
theorem deq_pp : deq (.lst [.str "parcel", .str "parcel"]) (.lst [.str "parcel", .str "parcel"]) = true := by decide +kernel
theorem deq_ll : deq (.lst [.str "let", .str "let"]) (.lst [.str "let", .str "let"]) = true := by decide +kernel
theorem rest_ok {G : Gam} {D0 : Ends} {p r : Addr} {H : DH} {scr turn : D} {pc : D} {o4 o5 o6 o7 o8 o9 o10 : Option D} (h1 : G.fn "row_of" = spRowOf) (h2 : G.fn "_law_bytes" = spBytes 40) (h3 : G.fn "_law_same" = spSame 40) (h4 : G.fn "parcel_of" = spPO) (h5 : G.fn "_law_deep" = spDeep)
    (h6 : G.fn "_law_nested" = spNested) (h7 : G.fn "_law_draw" = spDraw) (h8 : G.fn "_law_is_parcel" = spLIP 40) (h9 : G.fn "_law_word" = spWord) (h10 : G.fn "_law_flag" = spFlag) (h11 : G.fn "is_parcel" = spIsPc)
    (hp : PoolAt H p r) (ok : okF pc) (hnx : ∀ H' o4 o5 o6 o7 o8 o9 o10, PoolAt H' p r → D0.nx [some scr, some (.ref p), some turn, some pc, o4, o5, o6, o7, o8, o9, o10] H') :
    wB G [.set (.nm 4) (.call "row_of" [.v 3]), .ife (.or (.cmp .ne (.v 4) (.blt .tuple false [.call "_law_bytes" [.v 3]])) (.or (.not (.isi (.v 4) [.tuple])) (.not (.call "_law_same" [.call "parcel_of" [.v 4], .v 3])))) [.ret (.bl false)] [], .set (.nm 5) (.lst false [.str "", .bin .mul false (.str "a") (.int 21), .bin .mul false (.str "a") (.int 20), .str "a\n", .lst false [], .lst false [.int 1], .dic0 false, .call "_law_deep" []]), .set (.nm 5) (.bin .add false (.v 5) (.lst false [.call "_law_nested" [.int 21, .int 0], .call "_law_nested" [.int 20, .tup []], .call "_law_nested" [.int 20, .int 0]])), .set (.nm 5) (.bin .add false (.v 5) (.lst false [.tup [.int 1, .lst false []], .tup [.str "", .int 1]])), .set (.nm 6) (.idx (.v 5) (.call "_law_draw" [.v 1, .int 13])), .for (.nm 7) (.seq (.lst false [.v 3, .v 6, .tup [.v 6, .v 3]])) [.set (.nm 8) (.call "_law_is_parcel" [.v 7, .int 20]), .set (.nm 9) (.comp false (.call "_law_word" [.v 10, .v 7]) (.nm 10) [("_law_which", 10)] (.rng (.int 2) none) []), .ife (.or (.not (.call "_law_flag" [.call "is_parcel" [.v 7], .v 8])) (.cmp .ne (.v 9) (.bin .mul false (.lst false [.idx (.lst false [.str "parcel", .str "let"]) (.blt .int false [.v 8])]) (.int 2)))) [.ret (.bl false)] []]] D0 [some scr, some (.ref p), some turn, some pc, o4, o5, o6, o7, o8, o9, o10] H := by
  obtain ⟨d1, d2, d3, d4⟩ := id ok
  have hrow := pby_row pc 20 d1 d2
  simp only [wE_v, wE_non, wE_bl, wE_int, wE_str, wE_gc, wE_tup, wE_lst, wE_dic0, wE_dicS, wE_bin, wE_cmp, wE_chn, wE_and, wE_or, wE_not, wE_neg, wE_ife, wE_idx, wE_slc, wE_rev, wE_fld, wE_call, wE_meth, wE_make, wE_blt, wE_bm, wE_isi, wE_xf, wE_xi, wTg_nm, wTg_tp, wTg_fld, wTg_sub, wIt_seq, wIt_rng0, wIt_rng1, wIt_enu, wIt_zip, wS_set, wS_expr, wS_ret, wS_retN, wS_ife, wS_raise, wS_try, wS_pass, wS_brk, wS_cont, wS_augN, wS_augF, wS_augS, wEs, wO, wAll, wTgs, wB, List.cons_append, List.nil_append, List.getElem?_cons_zero, List.getElem?_cons_succ, List.set_cons_zero, List.set_cons_succ, Option.some.injEq, exists_eq_left', D.bl.injEq, D.int.injEq, List.map_cons, List.map_nil, List.length_cons, List.length_nil, List.replicate, List.append_eq, Nat.reduceAdd, Nat.reduceSub, Nat.zero_add, Nat.add_zero, Nat.sub_zero, List.any_cons, List.any_nil, Bool.or_false, rd_int, rd_bl, rd_str, rd_non, rd_tup, rd_lst, rd_stl, reduceIte, Bool.not_true, Bool.not_false, Bool.false_eq_true, Nat.sub_self, binD, cmpD, alc_f, dwipe, leD_ii, ltD_ii, gtD_ii, addD_ii, mulD_ii, eqD_ii, len_tup, len_lst, len_str, int_int, int_bl, tuple_lst, tuple_tup, h1, h2, h3, h4, h5, h6, h7, h8, h9, h10, h11]
  refine ⟨pc, rfl, okP_okQ pc d1, by omega, fun _ => ⟨d1, by omega, ?_⟩, fun z => by rw [d2] at z; cases z⟩
  refine ⟨pc, rfl, d1, by omega, by omega, ?_⟩
  try dsimp only
  rw [tuple_lst, rd_tup, eqD_tints, decide_eq_true rfl]
  simp only [wE_v, wE_non, wE_bl, wE_int, wE_str, wE_gc, wE_tup, wE_lst, wE_dic0, wE_dicS, wE_bin, wE_cmp, wE_chn, wE_and, wE_or, wE_not, wE_neg, wE_ife, wE_idx, wE_slc, wE_rev, wE_fld, wE_call, wE_meth, wE_make, wE_blt, wE_bm, wE_isi, wE_xf, wE_xi, wTg_nm, wTg_tp, wTg_fld, wTg_sub, wIt_seq, wIt_rng0, wIt_rng1, wIt_enu, wIt_zip, wS_set, wS_expr, wS_ret, wS_retN, wS_ife, wS_raise, wS_try, wS_pass, wS_brk, wS_cont, wS_augN, wS_augF, wS_augS, wEs, wO, wAll, wTgs, wB, List.cons_append, List.nil_append, List.getElem?_cons_zero, List.getElem?_cons_succ, List.set_cons_zero, List.set_cons_succ, Option.some.injEq, exists_eq_left', D.bl.injEq, D.int.injEq, List.map_cons, List.map_nil, List.length_cons, List.length_nil, List.replicate, List.append_eq, Nat.reduceAdd, Nat.reduceSub, Nat.zero_add, Nat.add_zero, Nat.sub_zero, List.any_cons, List.any_nil, Bool.or_false, rd_int, rd_bl, rd_str, rd_non, rd_tup, rd_lst, rd_stl, reduceIte, Bool.not_true, Bool.not_false, Bool.false_eq_true, Nat.sub_self, binD, cmpD, alc_f, dwipe, leD_ii, ltD_ii, gtD_ii, addD_ii, mulD_ii, eqD_ii, len_tup, len_lst, len_str, int_int, int_bl, tuple_lst, tuple_tup, tyD, addD_ll]
  refine ⟨rfl, pby pc, rfl, hrow, by omega, fun d hd => ?_, fun e he => by rw [told_pby d1 d2] at he; cases he⟩
  rw [told_pby d1 d2] at hd
  cases hd
  refine ⟨pc, rfl, d1, by omega, true, rfl, ?_⟩
  rw [if_neg (by simp)]
  refine ⟨by decide, by decide, by decide, by decide, ⟨by decide, by decide, by decide, by decide, ?_⟩⟩
  try dsimp only
  rw [alc_t]
  intro t ht
  have htp := hp.ne ht
  refine ⟨rfl, 21, .int 0, rfl, by decide, 20, .tup [], rfl, by decide, 20, .int 0, rfl, by decide, by decide, by decide, ?_⟩
  refine ⟨p, r, 13, rfl, hp.upd htp.1 htp.2, by decide, by decide, ?_⟩
  rintro _ H8 ⟨j, j0, j1, rfl⟩ hp8 hf8
  have ht8 : H8 t = some (.dic false []) := by rw [hf8 t htp.1 htp.2, dupd_same]
  have hin : ∀ x ∈ [D.int 0, .tup []], deep x ≤ 1 ∧ noP x = true ∧ (pby x).length ≤ 20 := by
    have hw0 : (whN 0).length ≤ 1 := whN_len 0 0 (by decide)
    intro x hx
    simp only [List.mem_cons, List.not_mem_nil, or_false] at hx
    rcases hx with rfl | rfl
    · exact ⟨by decide, rfl, by rw [pby, if_pos (by decide), List.length_cons]; show (whN 0).length + 1 ≤ 20; omega⟩
    · exact ⟨by decide, rfl, by rw [pby, pbys, List.length_cons, List.length_append]; show (whN 0).length + 0 + 1 ≤ 20; omega⟩
  have hall : ∀ x ∈ [D.str "", .str (repS "a" (Int.toNat 21)), .str (repS "a" (Int.toNat 20)), .str "a\n", .lst [], .lst [.int 1], .ref t, deepL 35, nest 21 (.int 0), nest 20 (.tup []), nest 20 (.int 0), .tup [.int 1, .lst []], .tup [.str "", .int 1]], okTh H8 x := by
    have i0 := hin _ (List.mem_cons_self)
    have i1 := hin _ (List.mem_cons_of_mem _ List.mem_cons_self)
    have w2 : (whN 2).length ≤ 1 := whN_len 0 2 (by decide)
    have w1 : (whN 1).length ≤ 1 := whN_len 0 1 (by decide)
    have w0 : (whN 0).length ≤ 1 := whN_len 0 0 (by decide)
    refine List.forall_mem_cons.mpr ⟨okTh_str (by decide +kernel) (by decide +kernel), List.forall_mem_cons.mpr ⟨okTh_str (by decide +kernel) (by decide +kernel), List.forall_mem_cons.mpr ⟨okTh_str (by decide +kernel) (by decide +kernel), List.forall_mem_cons.mpr ⟨okTh_str (by decide +kernel) (by decide +kernel), List.forall_mem_cons.mpr ⟨okTh_lst (by decide), List.forall_mem_cons.mpr ⟨okTh_lst (by decide), List.forall_mem_cons.mpr ⟨?_, List.forall_mem_cons.mpr ⟨?_, List.forall_mem_cons.mpr ⟨okTh_nest (by decide) rfl i0.1 i0.2.1 i0.2.2, List.forall_mem_cons.mpr ⟨okTh_nest (by decide) rfl i1.1 i1.2.1 i1.2.2, List.forall_mem_cons.mpr ⟨okTh_nest (by decide) rfl i0.1 i0.2.1 i0.2.2, List.forall_mem_cons.mpr ⟨?_, List.forall_mem_cons.mpr ⟨?_, fun _ h => (by cases h)⟩⟩⟩⟩⟩⟩⟩⟩⟩⟩⟩⟩⟩
    · exact ⟨by rw [okQ, ht8], by show 1 ≤ 37; decide, rfl, by rw [pby]; decide⟩
    · have := deepL_deep 35
      exact okTh_lst (xs := [deepL 34]) (by show deep (deepL 35) ≤ 37; omega)
    · refine ⟨rfl, by decide, rfl, ?_⟩
      rw [pby, pbys, pbys, pbys, pby, pby, if_pos (by decide)]
      simp only [List.length_cons, List.length_append, List.length_nil]
      show (whN 2).length + ((whN 1).length + 1 + (0 + 0)) + 1 ≤ 200
      omega
    · refine ⟨rfl, by decide, by decide +kernel, ?_⟩
      rw [pby, pbys, pbys, pbys, pby, pby, if_pos (by decide)]
      simp only [List.length_cons, List.length_append, List.length_nil, List.length_map]
      show (whN 2).length + ((whN 0).length + 0 + 1 + ((whN 1).length + 1 + 0)) + 1 ≤ 200
      omega
  refine idx_mem j0 (by simpa using j1) fun th hth => ?_
  have hth := hall th hth
  clear hall
  try dsimp only
  rw [wS]
  simp only [wE_v, wE_non, wE_bl, wE_int, wE_str, wE_gc, wE_tup, wE_lst, wE_dic0, wE_dicS, wE_bin, wE_cmp, wE_chn, wE_and, wE_or, wE_not, wE_neg, wE_ife, wE_idx, wE_slc, wE_rev, wE_fld, wE_call, wE_meth, wE_make, wE_blt, wE_bm, wE_isi, wE_xf, wE_xi, wTg_nm, wTg_tp, wTg_fld, wTg_sub, wIt_seq, wIt_rng0, wIt_rng1, wIt_enu, wIt_zip, wS_set, wS_expr, wS_ret, wS_retN, wS_ife, wS_raise, wS_try, wS_pass, wS_brk, wS_cont, wS_augN, wS_augF, wS_augS, wEs, wO, wAll, wTgs, wB, List.cons_append, List.nil_append, List.getElem?_cons_zero, List.getElem?_cons_succ, List.set_cons_zero, List.set_cons_succ, Option.some.injEq, exists_eq_left', D.bl.injEq, D.int.injEq, List.map_cons, List.map_nil, List.length_cons, List.length_nil, List.replicate, List.append_eq, Nat.reduceAdd, Nat.reduceSub, Nat.zero_add, Nat.add_zero, Nat.sub_zero, List.any_cons, List.any_nil, Bool.or_false, rd_int, rd_bl, rd_str, rd_non, rd_tup, rd_lst, rd_stl, reduceIte, Bool.not_true, Bool.not_false, Bool.false_eq_true, Nat.sub_self, binD, cmpD, alc_f, dwipe, leD_ii, ltD_ii, gtD_ii, addD_ii, mulD_ii, eqD_ii, len_tup, len_lst, len_str, int_int, int_bl, tuple_lst, tuple_tup]
  have h3s : ∀ x ∈ [pc, th, .tup [th, pc]], okOne H8 x := List.forall_mem_cons.mpr ⟨okF_one ok, List.forall_mem_cons.mpr ⟨okTh_one hth, List.forall_mem_cons.mpr ⟨okTF_one hth ok, fun _ h => (by cases h)⟩⟩⟩
  refine ⟨_, rfl, fun hz => ⟨fun i σ H' => H' = H8 ∧ ∃ o5 o7 o8 o9 o10 : Option D, σ = [some scr, some (.ref p), some turn, some pc, some (.tup ((pby pc).map .int)), o5, some th, o7, o8, o9, o10], ⟨rfl, _, _, _, _, _, rfl⟩, ?_, ?_, ?_⟩⟩
  · rintro i σ H' ⟨rfl, _⟩; rfl
  · rintro i x σ H' hi ⟨rfl, o5, o7, o8, o9, o10, rfl⟩
    have ho := h3s x (List.mem_of_getElem? hi)
    obtain ⟨x1, x2, x3, x4⟩ := ho
    simp only [wE_v, wE_non, wE_bl, wE_int, wE_str, wE_gc, wE_tup, wE_lst, wE_dic0, wE_dicS, wE_bin, wE_cmp, wE_chn, wE_and, wE_or, wE_not, wE_neg, wE_ife, wE_idx, wE_slc, wE_rev, wE_fld, wE_call, wE_meth, wE_make, wE_blt, wE_bm, wE_isi, wE_xf, wE_xi, wTg_nm, wTg_tp, wTg_fld, wTg_sub, wIt_seq, wIt_rng0, wIt_rng1, wIt_enu, wIt_zip, wS_set, wS_expr, wS_ret, wS_retN, wS_ife, wS_raise, wS_try, wS_pass, wS_brk, wS_cont, wS_augN, wS_augF, wS_augS, wEs, wO, wAll, wTgs, wB, List.cons_append, List.nil_append, List.getElem?_cons_zero, List.getElem?_cons_succ, List.set_cons_zero, List.set_cons_succ, Option.some.injEq, exists_eq_left', D.bl.injEq, D.int.injEq, List.map_cons, List.map_nil, List.length_cons, List.length_nil, List.replicate, List.append_eq, Nat.reduceAdd, Nat.reduceSub, Nat.zero_add, Nat.add_zero, Nat.sub_zero, List.any_cons, List.any_nil, Bool.or_false, rd_int, rd_bl, rd_str, rd_non, rd_tup, rd_lst, rd_stl, reduceIte, Bool.not_true, Bool.not_false, Bool.false_eq_true, Nat.sub_self, binD, cmpD, alc_f, dwipe, leD_ii, ltD_ii, gtD_ii, addD_ii, mulD_ii, eqD_ii, len_tup, len_lst, len_str, int_int, int_bl, tuple_lst, tuple_tup, h8, h9, h10, h11]
    refine ⟨x, 20, rfl, x1, x3, x2, ?_⟩
    try dsimp only
    refine comp_map (ds := rangeD 0 2) (st := fun _ => True) (fun _ => .str (if isPc x 20 = true then "let" else "parcel")) ?_ (fun _ _ _ => trivial) ?_ ?_
    · intro K hK
      simp only [wE_v, wE_non, wE_bl, wE_int, wE_str, wE_gc, wE_tup, wE_lst, wE_dic0, wE_dicS, wE_bin, wE_cmp, wE_chn, wE_and, wE_or, wE_not, wE_neg, wE_ife, wE_idx, wE_slc, wE_rev, wE_fld, wE_call, wE_meth, wE_make, wE_blt, wE_bm, wE_isi, wE_xf, wE_xi, wTg_nm, wTg_tp, wTg_fld, wTg_sub, wIt_seq, wIt_rng0, wIt_rng1, wIt_enu, wIt_zip, wS_set, wS_expr, wS_ret, wS_retN, wS_ife, wS_raise, wS_try, wS_pass, wS_brk, wS_cont, wS_augN, wS_augF, wS_augS, wEs, wO, wAll, wTgs, wB, List.cons_append, List.nil_append, List.getElem?_cons_zero, List.getElem?_cons_succ, List.set_cons_zero, List.set_cons_succ, Option.some.injEq, exists_eq_left', D.bl.injEq, D.int.injEq, List.map_cons, List.map_nil, List.length_cons, List.length_nil, List.replicate, List.append_eq, Nat.reduceAdd, Nat.reduceSub, Nat.zero_add, Nat.add_zero, Nat.sub_zero, List.any_cons, List.any_nil, Bool.or_false, rd_int, rd_bl, rd_str, rd_non, rd_tup, rd_lst, rd_stl, reduceIte, Bool.not_true, Bool.not_false, Bool.false_eq_true, Nat.sub_self, binD, cmpD, alc_f, dwipe, leD_ii, ltD_ii, gtD_ii, addD_ii, mulD_ii, eqD_ii, len_tup, len_lst, len_str, int_int, int_bl, tuple_lst, tuple_tup]
      exact ⟨by decide, by decide, hK⟩
    · intro w hw p2 acc K hp2 hK
      obtain ⟨wi, rfl⟩ : ∃ i : Int, w = .int i := by
        simp only [rangeD, List.mem_cons, List.not_mem_nil, or_false] at hw
        rcases hw with rfl | rfl <;> exact ⟨_, rfl⟩
      simp only [wE_v, wE_non, wE_bl, wE_int, wE_str, wE_gc, wE_tup, wE_lst, wE_dic0, wE_dicS, wE_bin, wE_cmp, wE_chn, wE_and, wE_or, wE_not, wE_neg, wE_ife, wE_idx, wE_slc, wE_rev, wE_fld, wE_call, wE_meth, wE_make, wE_blt, wE_bm, wE_isi, wE_xf, wE_xi, wTg_nm, wTg_tp, wTg_fld, wTg_sub, wIt_seq, wIt_rng0, wIt_rng1, wIt_enu, wIt_zip, wS_set, wS_expr, wS_ret, wS_retN, wS_ife, wS_raise, wS_try, wS_pass, wS_brk, wS_cont, wS_augN, wS_augF, wS_augS, wEs, wO, wAll, wTgs, wB, List.cons_append, List.nil_append, List.getElem?_cons_zero, List.getElem?_cons_succ, List.set_cons_zero, List.set_cons_succ, Option.some.injEq, exists_eq_left', D.bl.injEq, D.int.injEq, List.map_cons, List.map_nil, List.length_cons, List.length_nil, List.replicate, List.append_eq, Nat.reduceAdd, Nat.reduceSub, Nat.zero_add, Nat.add_zero, Nat.sub_zero, List.any_cons, List.any_nil, Bool.or_false, rd_int, rd_bl, rd_str, rd_non, rd_tup, rd_lst, rd_stl, reduceIte, Bool.not_true, Bool.not_false, Bool.false_eq_true, Nat.sub_self, binD, cmpD, alc_f, dwipe, leD_ii, ltD_ii, gtD_ii, addD_ii, mulD_ii, eqD_ii, len_tup, len_lst, len_str, int_int, int_bl, tuple_lst, tuple_tup]
      refine hK _ fun K2 hK2 => ?_
      simp only [wE_v, wE_non, wE_bl, wE_int, wE_str, wE_gc, wE_tup, wE_lst, wE_dic0, wE_dicS, wE_bin, wE_cmp, wE_chn, wE_and, wE_or, wE_not, wE_neg, wE_ife, wE_idx, wE_slc, wE_rev, wE_fld, wE_call, wE_meth, wE_make, wE_blt, wE_bm, wE_isi, wE_xf, wE_xi, wTg_nm, wTg_tp, wTg_fld, wTg_sub, wIt_seq, wIt_rng0, wIt_rng1, wIt_enu, wIt_zip, wS_set, wS_expr, wS_ret, wS_retN, wS_ife, wS_raise, wS_try, wS_pass, wS_brk, wS_cont, wS_augN, wS_augF, wS_augS, wEs, wO, wAll, wTgs, wB, List.cons_append, List.nil_append, List.getElem?_cons_zero, List.getElem?_cons_succ, List.set_cons_zero, List.set_cons_succ, Option.some.injEq, exists_eq_left', D.bl.injEq, D.int.injEq, List.map_cons, List.map_nil, List.length_cons, List.length_nil, List.replicate, List.append_eq, Nat.reduceAdd, Nat.reduceSub, Nat.zero_add, Nat.add_zero, Nat.sub_zero, List.any_cons, List.any_nil, Bool.or_false, rd_int, rd_bl, rd_str, rd_non, rd_tup, rd_lst, rd_stl, reduceIte, Bool.not_true, Bool.not_false, Bool.false_eq_true, Nat.sub_self, binD, cmpD, alc_f, dwipe, leD_ii, ltD_ii, gtD_ii, addD_ii, mulD_ii, eqD_ii, len_tup, len_lst, len_str, int_int, int_bl, tuple_lst, tuple_tup, h9]
      exact ⟨wi, x, rfl, okQ_dupd hp2 x x1, x2, x4, hK2⟩
    · rw [alc_f]
      try dsimp only
      refine ⟨x, rfl, x1, x2, isPc x 20, rfl, true, rfl, ?_⟩
      rw [if_neg (by simp)]
      generalize isPc x 20 = b
      cases b
      · rw [int_bl]
        refine ⟨0, .str "parcel", rfl, rfl, by decide, by decide, by decide, ?_⟩
        rw [alc_f]
        refine eqD_same (d := .lst [.str "parcel", .str "parcel"]) rfl (by decide) deq_pp ?_
        rw [if_neg (by simp)]
        exact Fz.here ⟨rfl, _, _, _, _, _, rfl⟩
      · rw [int_bl]
        refine ⟨1, .str "let", rfl, rfl, by decide, by decide, by decide, ?_⟩
        rw [alc_f]
        refine eqD_same (d := .lst [.str "let", .str "let"]) rfl (by decide) deq_ll ?_
        rw [if_neg (by simp)]
        exact Fz.here ⟨rfl, _, _, _, _, _, rfl⟩
  · rintro σ H' ⟨rfl, o5, o7, o8, o9, o10, rfl⟩
    exact hnx _ _ _ _ _ _ _ _ hp8
def spFirst : DSp := fun ds H Q _ => ∃ ns : List Int, ds = [.stl (ns.map D.int)] ∧ ns.length ≤ 63 ∧ ∀ H', Q (.bl true) H'
theorem sat_first {G : Gam} (h0 : G.fn "_law_pool" = spPool) (h00 : G.fn "_law_parcel" = spParcL 3) (h1 : G.fn "row_of" = spRowOf) (h2 : G.fn "_law_bytes" = spBytes 40) (h3 : G.fn "_law_same" = spSame 40) (h4 : G.fn "parcel_of" = spPO) (h5 : G.fn "_law_deep" = spDeep)
    (h6 : G.fn "_law_nested" = spNested) (h7 : G.fn "_law_draw" = spDraw) (h8 : G.fn "_law_is_parcel" = spLIP 40) (h9 : G.fn "_law_word" = spWord) (h10 : G.fn "_law_flag" = spFlag) (h11 : G.fn "is_parcel" = spIsPc) : Sat G N__law_first.length ir__law_first spFirst := by
  rintro vs H Q E ⟨ns, rfl, hn, q⟩
  unfold ir__law_first
  simp only [wE_v, wE_non, wE_bl, wE_int, wE_str, wE_gc, wE_tup, wE_lst, wE_dic0, wE_dicS, wE_bin, wE_cmp, wE_chn, wE_and, wE_or, wE_not, wE_neg, wE_ife, wE_idx, wE_slc, wE_rev, wE_fld, wE_call, wE_meth, wE_make, wE_blt, wE_bm, wE_isi, wE_xf, wE_xi, wTg_nm, wTg_tp, wTg_fld, wTg_sub, wIt_seq, wIt_rng0, wIt_rng1, wIt_enu, wIt_zip, wS_set, wS_expr, wS_ret, wS_retN, wS_ife, wS_raise, wS_try, wS_pass, wS_brk, wS_cont, wS_augN, wS_augF, wS_augS, wEs, wO, wAll, wTgs, wB, List.cons_append, List.nil_append, List.getElem?_cons_zero, List.getElem?_cons_succ, List.set_cons_zero, List.set_cons_succ, Option.some.injEq, exists_eq_left', D.bl.injEq, D.int.injEq, List.map_cons, List.map_nil, List.length_cons, List.length_nil, List.replicate, List.append_eq, Nat.reduceAdd, Nat.reduceSub, Nat.zero_add, Nat.add_zero, Nat.sub_zero, List.any_cons, List.any_nil, Bool.or_false, rd_int, rd_bl, rd_str, rd_non, rd_tup, rd_lst, rd_stl, reduceIte, Bool.not_true, Bool.not_false, Bool.false_eq_true, Nat.sub_self, binD, cmpD, alc_f, dwipe, leD_ii, ltD_ii, gtD_ii, addD_ii, mulD_ii, eqD_ii, len_tup, len_lst, len_str, int_int, int_bl, tuple_lst, tuple_tup, N__law_first, h0]
  refine ⟨ns, rfl, hn, fun p r H1 _ _ hp _ => ?_⟩
  simp only [wE_v, wE_non, wE_bl, wE_int, wE_str, wE_gc, wE_tup, wE_lst, wE_dic0, wE_dicS, wE_bin, wE_cmp, wE_chn, wE_and, wE_or, wE_not, wE_neg, wE_ife, wE_idx, wE_slc, wE_rev, wE_fld, wE_call, wE_meth, wE_make, wE_blt, wE_bm, wE_isi, wE_xf, wE_xi, wTg_nm, wTg_tp, wTg_fld, wTg_sub, wIt_seq, wIt_rng0, wIt_rng1, wIt_enu, wIt_zip, wS_set, wS_expr, wS_ret, wS_retN, wS_ife, wS_raise, wS_try, wS_pass, wS_brk, wS_cont, wS_augN, wS_augF, wS_augS, wEs, wO, wAll, wTgs, wB, List.cons_append, List.nil_append, List.getElem?_cons_zero, List.getElem?_cons_succ, List.set_cons_zero, List.set_cons_succ, Option.some.injEq, exists_eq_left', D.bl.injEq, D.int.injEq, List.map_cons, List.map_nil, List.length_cons, List.length_nil, List.replicate, List.append_eq, Nat.reduceAdd, Nat.reduceSub, Nat.zero_add, Nat.add_zero, Nat.sub_zero, List.any_cons, List.any_nil, Bool.or_false, rd_int, rd_bl, rd_str, rd_non, rd_tup, rd_lst, rd_stl, reduceIte, Bool.not_true, Bool.not_false, Bool.false_eq_true, Nat.sub_self, binD, cmpD, alc_f, dwipe, leD_ii, ltD_ii, gtD_ii, addD_ii, mulD_ii, eqD_ii, len_tup, len_lst, len_str, int_int, int_bl, tuple_lst, tuple_tup]
  rw [wS]
  simp only [wE_v, wE_non, wE_bl, wE_int, wE_str, wE_gc, wE_tup, wE_lst, wE_dic0, wE_dicS, wE_bin, wE_cmp, wE_chn, wE_and, wE_or, wE_not, wE_neg, wE_ife, wE_idx, wE_slc, wE_rev, wE_fld, wE_call, wE_meth, wE_make, wE_blt, wE_bm, wE_isi, wE_xf, wE_xi, wTg_nm, wTg_tp, wTg_fld, wTg_sub, wIt_seq, wIt_rng0, wIt_rng1, wIt_enu, wIt_zip, wS_set, wS_expr, wS_ret, wS_retN, wS_ife, wS_raise, wS_try, wS_pass, wS_brk, wS_cont, wS_augN, wS_augF, wS_augS, wEs, wO, wAll, wTgs, List.cons_append, List.nil_append, List.getElem?_cons_zero, List.getElem?_cons_succ, List.set_cons_zero, List.set_cons_succ, Option.some.injEq, exists_eq_left', D.bl.injEq, D.int.injEq, List.map_cons, List.map_nil, List.length_cons, List.length_nil, List.replicate, List.append_eq, Nat.reduceAdd, Nat.reduceSub, Nat.zero_add, Nat.add_zero, Nat.sub_zero, List.any_cons, List.any_nil, Bool.or_false, rd_int, rd_bl, rd_str, rd_non, rd_tup, rd_lst, rd_stl, reduceIte, Bool.not_true, Bool.not_false, Bool.false_eq_true, Nat.sub_self, binD, cmpD, alc_f, dwipe, leD_ii, ltD_ii, gtD_ii, addD_ii, mulD_ii, eqD_ii, len_tup, len_lst, len_str, int_int, int_bl, tuple_lst, tuple_tup]
  refine ⟨by decide, by decide, fun hz => ⟨fun i σ H' => PoolAt H' p r ∧ ∃ o2 o3 o4 o5 o6 o7 o8 o9 o10 : Option D, σ = [some (.stl (ns.map .int)), some (.ref p), o2, o3, o4, o5, o6, o7, o8, o9, o10], ⟨hp, _, _, _, _, _, _, _, _, _, rfl⟩, fun _ _ _ _ => trivial, ?_, ?_⟩⟩
  · rintro i d σ H2 _ ⟨hp2, o2, o3, o4, o5, o6, o7, o8, o9, o10, rfl⟩
    rw [wB]
    simp only [wE_v, wE_non, wE_bl, wE_int, wE_str, wE_gc, wE_tup, wE_lst, wE_dic0, wE_dicS, wE_bin, wE_cmp, wE_chn, wE_and, wE_or, wE_not, wE_neg, wE_ife, wE_idx, wE_slc, wE_rev, wE_fld, wE_call, wE_meth, wE_make, wE_blt, wE_bm, wE_isi, wE_xf, wE_xi, wTg_nm, wTg_tp, wTg_fld, wTg_sub, wIt_seq, wIt_rng0, wIt_rng1, wIt_enu, wIt_zip, wS_set, wS_expr, wS_ret, wS_retN, wS_ife, wS_raise, wS_try, wS_pass, wS_brk, wS_cont, wS_augN, wS_augF, wS_augS, wEs, wO, wAll, wTgs, List.cons_append, List.nil_append, List.getElem?_cons_zero, List.getElem?_cons_succ, List.set_cons_zero, List.set_cons_succ, Option.some.injEq, exists_eq_left', D.bl.injEq, D.int.injEq, List.map_cons, List.map_nil, List.length_cons, List.length_nil, List.replicate, List.append_eq, Nat.reduceAdd, Nat.reduceSub, Nat.zero_add, Nat.add_zero, Nat.sub_zero, List.any_cons, List.any_nil, Bool.or_false, rd_int, rd_bl, rd_str, rd_non, rd_tup, rd_lst, rd_stl, reduceIte, Bool.not_true, Bool.not_false, Bool.false_eq_true, Nat.sub_self, binD, cmpD, alc_f, dwipe, leD_ii, ltD_ii, gtD_ii, addD_ii, mulD_ii, eqD_ii, len_tup, len_lst, len_str, int_int, int_bl, tuple_lst, tuple_tup, h00]
    refine ⟨p, r, rfl, hp2, ?_⟩
    rintro pc H3 ⟨d1, d2, d3, d4⟩ hp3 hf3
    have d4' : (pby pc).length ≤ 125000 := d4
    try dsimp only
    rw [wB]
    simp only [wE_v, wE_non, wE_bl, wE_int, wE_str, wE_gc, wE_tup, wE_lst, wE_dic0, wE_dicS, wE_bin, wE_cmp, wE_chn, wE_and, wE_or, wE_not, wE_neg, wE_ife, wE_idx, wE_slc, wE_rev, wE_fld, wE_call, wE_meth, wE_make, wE_blt, wE_bm, wE_isi, wE_xf, wE_xi, wTg_nm, wTg_tp, wTg_fld, wTg_sub, wIt_seq, wIt_rng0, wIt_rng1, wIt_enu, wIt_zip, wS_set, wS_expr, wS_ret, wS_retN, wS_ife, wS_raise, wS_try, wS_pass, wS_brk, wS_cont, wS_augN, wS_augF, wS_augS, wEs, wO, wAll, wTgs, List.cons_append, List.nil_append, List.getElem?_cons_zero, List.getElem?_cons_succ, List.set_cons_zero, List.set_cons_succ, Option.some.injEq, exists_eq_left', D.bl.injEq, D.int.injEq, List.map_cons, List.map_nil, List.length_cons, List.length_nil, List.replicate, List.append_eq, Nat.reduceAdd, Nat.reduceSub, Nat.zero_add, Nat.add_zero, Nat.sub_zero, List.any_cons, List.any_nil, Bool.or_false, rd_int, rd_bl, rd_str, rd_non, rd_tup, rd_lst, rd_stl, reduceIte, Bool.not_true, Bool.not_false, Bool.false_eq_true, Nat.sub_self, binD, cmpD, alc_f, dwipe, leD_ii, ltD_ii, gtD_ii, addD_ii, mulD_ii, eqD_ii, len_tup, len_lst, len_str, int_int, int_bl, tuple_lst, tuple_tup, h7]
    refine ⟨p, r, 6, rfl, hp3, by decide, by decide, ?_⟩
    rintro _ H4 ⟨j, j0, j1, rfl⟩ hp4 hf4
    simp only [wE_v, wE_non, wE_bl, wE_int, wE_str, wE_gc, wE_tup, wE_lst, wE_dic0, wE_dicS, wE_bin, wE_cmp, wE_chn, wE_and, wE_or, wE_not, wE_neg, wE_ife, wE_idx, wE_slc, wE_rev, wE_fld, wE_call, wE_meth, wE_make, wE_blt, wE_bm, wE_isi, wE_xf, wE_xi, wTg_nm, wTg_tp, wTg_fld, wTg_sub, wIt_seq, wIt_rng0, wIt_rng1, wIt_enu, wIt_zip, wS_set, wS_expr, wS_ret, wS_retN, wS_ife, wS_raise, wS_try, wS_pass, wS_brk, wS_cont, wS_augN, wS_augF, wS_augS, wEs, wO, wAll, wTgs, List.cons_append, List.nil_append, List.getElem?_cons_zero, List.getElem?_cons_succ, List.set_cons_zero, List.set_cons_succ, Option.some.injEq, exists_eq_left', D.bl.injEq, D.int.injEq, List.map_cons, List.map_nil, List.length_cons, List.length_nil, List.replicate, List.append_eq, Nat.reduceAdd, Nat.reduceSub, Nat.zero_add, Nat.add_zero, Nat.sub_zero, List.any_cons, List.any_nil, Bool.or_false, rd_int, rd_bl, rd_str, rd_non, rd_tup, rd_lst, rd_stl, reduceIte, Bool.not_true, Bool.not_false, Bool.false_eq_true, Nat.sub_self, binD, cmpD, alc_f, dwipe, leD_ii, ltD_ii, gtD_ii, addD_ii, mulD_ii, eqD_ii, len_tup, len_lst, len_str, int_int, int_bl, tuple_lst, tuple_tup]
    have ok1 : okF pc := ⟨d1, isPc_mono pc 3 20 (by decide) d2, by omega, by omega⟩
    by_cases cj : j = 0
    · rw [if_pos (decide_eq_true cj)]
      rw [wB]
      simp only [wE_v, wE_non, wE_bl, wE_int, wE_str, wE_gc, wE_tup, wE_lst, wE_dic0, wE_dicS, wE_bin, wE_cmp, wE_chn, wE_and, wE_or, wE_not, wE_neg, wE_ife, wE_idx, wE_slc, wE_rev, wE_fld, wE_call, wE_meth, wE_make, wE_blt, wE_bm, wE_isi, wE_xf, wE_xi, wTg_nm, wTg_tp, wTg_fld, wTg_sub, wIt_seq, wIt_rng0, wIt_rng1, wIt_enu, wIt_zip, wS_set, wS_expr, wS_ret, wS_retN, wS_ife, wS_raise, wS_try, wS_pass, wS_brk, wS_cont, wS_augN, wS_augF, wS_augS, wEs, wO, wAll, wTgs, List.cons_append, List.nil_append, List.getElem?_cons_zero, List.getElem?_cons_succ, List.set_cons_zero, List.set_cons_succ, Option.some.injEq, exists_eq_left', D.bl.injEq, D.int.injEq, List.map_cons, List.map_nil, List.length_cons, List.length_nil, List.replicate, List.append_eq, Nat.reduceAdd, Nat.reduceSub, Nat.zero_add, Nat.add_zero, Nat.sub_zero, List.any_cons, List.any_nil, Bool.or_false, rd_int, rd_bl, rd_str, rd_non, rd_tup, rd_lst, rd_stl, reduceIte, Bool.not_true, Bool.not_false, Bool.false_eq_true, Nat.sub_self, binD, cmpD, alc_f, dwipe, leD_ii, ltD_ii, gtD_ii, addD_ii, mulD_ii, eqD_ii, len_tup, len_lst, len_str, int_int, int_bl, tuple_lst, tuple_tup, h6, h7]
      refine ⟨p, r, 3, rfl, hp4, by decide, by decide, ?_⟩
      rintro _ H5 ⟨u, u0, u1, rfl⟩ hp5 hf5
      have h3d : ∀ x ∈ [D.int 20, .int 19, .int 5], ∃ n : Nat, x = .int n ∧ 5 ≤ n ∧ n ≤ 20 := by
        intro x hx
        simp only [List.mem_cons, List.not_mem_nil, or_false] at hx
        rcases hx with rfl | rfl | rfl
        · exact ⟨20, rfl, by decide, by decide⟩
        · exact ⟨19, rfl, by decide, by decide⟩
        · exact ⟨5, rfl, by decide, by decide⟩
      refine idx_mem u0 (by simpa using u1) fun x hx => ?_
      obtain ⟨n, rfl, n5, n20⟩ := h3d x hx
      obtain ⟨e1, e2⟩ := isP_isi (G := G) (H := H5) d1
      rw [e1]
      refine ⟨e2, .inr (by decide), ?_⟩
      have ok2 : ∀ k : Nat, (isPc pc 3 = true ∧ k ≤ 16) ∨ (isPc pc 0 = true ∧ k ≤ 20) → okF (nest k pc) := by
        intro k hk
        have := nest_len k pc
        have := nest_deep k pc
        refine ⟨nest_isP k d1, ?_, by omega, by omega⟩
        rcases hk with ⟨a, b⟩ | ⟨a, b⟩
        · exact isPc_mono _ _ _ (by omega) (nest_isPc k (by decide) a)
        · exact isPc_mono _ _ _ (by omega) (nest_isPc k (by decide) a)
      obtain ⟨k, ek, hk, okk⟩ : ∃ k : Nat, (n : Int) - b2i (tyD pc .tuple) * 4 = k ∧ k ≤ 100 ∧ okF (nest k pc) := by
        cases pc with
        | tup xs => exact ⟨n - 4, by show (n : Int) - 1 * 4 = _; omega, by omega, ok2 _ (.inl ⟨d2, by omega⟩)⟩
        | non => exact ⟨n, by show (n : Int) - 0 * 4 = _; omega, by omega, ok2 _ (.inr ⟨by rw [isPc], n20⟩)⟩
        | bl b => exact ⟨n, by show (n : Int) - 0 * 4 = _; omega, by omega, ok2 _ (.inr ⟨by rw [isPc], n20⟩)⟩
        | int i => exact ⟨n, by show (n : Int) - 0 * 4 = _; omega, by omega, ok2 _ (.inr ⟨by rw [isPc], n20⟩)⟩
        | str s => exact ⟨n, by show (n : Int) - 0 * 4 = _; omega, by omega, ok2 _ (.inr ⟨by rw [isPc] at d2 ⊢; exact d2, n20⟩)⟩
        | _ => cases d1
      show spNested [D.int ((n : Int) - b2i (tyD pc .tuple) * 4), pc] H5 _ _
      rw [ek]
      refine ⟨k, pc, rfl, hk, ?_⟩
      dsimp only
      rw [wB]
      dsimp only
      refine rest_ok h1 h2 h3 h4 h5 h6 h7 h8 h9 h10 h11 hp5 okk ?_
      intro H' o4 o5 o6 o7 o8 o9 o10 hp'
      try dsimp only
      exact Fz.here ⟨hp', _, _, _, _, _, _, _, _, _, rfl⟩
    · rw [if_neg (by rw [decide_eq_false cj]; simp)]
      rw [wB]
      dsimp only
      refine rest_ok h1 h2 h3 h4 h5 h6 h7 h8 h9 h10 h11 hp4 ok1 ?_
      intro H' o4 o5 o6 o7 o8 o9 o10 hp'
      try dsimp only
      exact Fz.here ⟨hp', _, _, _, _, _, _, _, _, _, rfl⟩
  · rintro σ H2 ⟨hp2, o2, o3, o4, o5, o6, o7, o8, o9, o10, rfl⟩
    exact Fz0 (q _)
theorem sat_law31 {G : Gam} (h1 : G.fn "_law_first" = spFirst) (h2 : G.fn "_law_second" = spSecond) : Sat G N_law.length ir_law (spLaw 63) := by
  rintro vs H Q E ⟨ns, rfl, hn, hH, q⟩
  unfold ir_law
  simp only [wE_v, wE_non, wE_bl, wE_int, wE_str, wE_gc, wE_tup, wE_lst, wE_dic0, wE_dicS, wE_bin, wE_cmp, wE_chn, wE_and, wE_or, wE_not, wE_neg, wE_ife, wE_idx, wE_slc, wE_rev, wE_fld, wE_call, wE_meth, wE_make, wE_blt, wE_bm, wE_isi, wE_xf, wE_xi, wTg_nm, wTg_tp, wTg_fld, wTg_sub, wIt_seq, wIt_rng0, wIt_rng1, wIt_enu, wIt_zip, wS_set, wS_expr, wS_ret, wS_retN, wS_ife, wS_raise, wS_try, wS_pass, wS_brk, wS_cont, wS_augN, wS_augF, wS_augS, wEs, wO, wAll, wTgs, wB, List.cons_append, List.nil_append, List.getElem?_cons_zero, List.getElem?_cons_succ, List.set_cons_zero, List.set_cons_succ, Option.some.injEq, exists_eq_left', D.bl.injEq, D.int.injEq, List.map_cons, List.map_nil, List.length_cons, List.length_nil, List.replicate, List.append_eq, Nat.reduceAdd, Nat.reduceSub, Nat.zero_add, Nat.add_zero, Nat.sub_zero, List.any_cons, List.any_nil, Bool.or_false, rd_int, rd_bl, rd_str, rd_non, rd_tup, rd_lst, rd_stl, reduceIte, Bool.not_true, Bool.not_false, Bool.false_eq_true, Nat.sub_self, binD, cmpD, alc_f, dwipe, leD_ii, ltD_ii, gtD_ii, addD_ii, mulD_ii, eqD_ii, len_tup, len_lst, len_str, int_int, int_bl, tuple_lst, tuple_tup, N_law, h1, h2]
  refine ⟨ns, rfl, hn, fun H' => ⟨true, rfl, ?_⟩⟩
  rw [if_pos rfl]
  exact ⟨ns, rfl, hn, fun H2 => Fz0 (q _)⟩
end Sp

set_option maxRecDepth 100000
set_option maxHeartbeats 1000000
namespace Sp
open PySem DL Ir
theorem fn_same {G : Gam} {x : Str} {sp : DSp} : (G.setFn x sp).fn x = sp := if_pos rfl
theorem fn_ne {G : Gam} {x y : Str} {sp : DSp} (h : y ≠ x) : (G.setFn x sp).fn y = G.fn y := if_neg h
theorem mt_same {G : Gam} {C m : Str} {sp : DSp} : (G.setMt C m sp).mt C m = sp := if_pos ⟨rfl, rfl⟩
theorem mt_ne {G : Gam} {C m D y : Str} {sp : DSp} (h : y ≠ m) : (G.setMt C m sp).mt D y = G.mt D y := if_neg fun e => h e.2
theorem mt_fn {G : Gam} {x C m : Str} {sp : DSp} : (G.setFn x sp).mt C m = G.mt C m := rfl
theorem fn_mt {G : Gam} {y C m : Str} {sp : DSp} : (G.setMt C m sp).fn y = G.fn y := rfl
theorem sat_parc0 {G : Gam} {N : Nat} {b : List Cmd} : Sat G N b (spParc 0) := by
  rintro vs H Q E ⟨d, k, _, _, h, _⟩; exact absurd h (Nat.not_lt_zero _)
theorem sat_bytes0 {G : Gam} {N : Nat} {b : List Cmd} : Sat G N b (spBytes 0) := by
  rintro vs H Q E ⟨d, _, _, h, _⟩; exact absurd h (Nat.not_lt_zero _)
theorem sat_lip0 {G : Gam} {N : Nat} {b : List Cmd} : Sat G N b (spLIP 0) := by
  rintro vs H Q E ⟨d, k, _, _, _, h, _⟩; exact absurd h (Nat.not_lt_zero _)
theorem sat_same0 {G : Gam} {N : Nat} {b : List Cmd} : Sat G N b (spSame 0) := by
  rintro vs H Q E ⟨d, _, _, h, _⟩; exact absurd h (Nat.not_lt_zero _)
section
variable {L : Lang src.T}
theorem he_is_row : src.fns.find? (fun e => e.x == ("is_row" : Str)) = some ⟨"is_row", st_is_row, ps_is_row⟩ := by rfl
theorem F_is_row (tx : Texts L src) (hs : L.sub = src.sub) (hc : L.gcv = fun x => src.gcs.lookup x) : FnP L 3 "is_row" 1 spIsRow := by
  have g0 : Good L (baseG src.T L.sub L.gcv) 1 := good0 xfb (by omega)
  exact fnP tx g0 rfl he_is_row sc_is_row chk_is_row (sat_is_row hc)
theorem he_check_row : src.fns.find? (fun e => e.x == ("check_row" : Str)) = some ⟨"check_row", st_check_row, ps_check_row⟩ := by rfl
theorem F_check_row (tx : Texts L src) (hs : L.sub = src.sub) (hc : L.gcv = fun x => src.gcs.lookup x) : FnP L 5 "check_row" 1 spCheckRow := by
  have g0 : Good L (baseG src.T L.sub L.gcv) 3 := good0 xfb (by omega)
  have g1 := g0.fnp (F_is_row tx hs hc) (by omega)
  exact fnP tx g1 rfl he_check_row sc_check_row chk_check_row (sat_check_row (by rfl) (fn_same))
theorem he_is_sign : src.fns.find? (fun e => e.x == ("is_sign" : Str)) = some ⟨"is_sign", st_is_sign, ps_is_sign⟩ := by rfl
theorem F_is_sign (tx : Texts L src) (hs : L.sub = src.sub) (hc : L.gcv = fun x => src.gcs.lookup x) : FnP L 3 "is_sign" 1 spIsSign := by
  have g0 : Good L (baseG src.T L.sub L.gcv) 1 := good0 xfb (by omega)
  exact fnP tx g0 rfl he_is_sign sc_is_sign chk_is_sign (sat_is_sign hc)
theorem he_is_short_string : src.fns.find? (fun e => e.x == ("is_short_string" : Str)) = some ⟨"is_short_string", st_is_short_string, ps_is_short_string⟩ := by rfl
theorem F_is_short_string (tx : Texts L src) (hs : L.sub = src.sub) (hc : L.gcv = fun x => src.gcs.lookup x) : FnP L 5 "is_short_string" 1 spShort := by
  have g0 : Good L (baseG src.T L.sub L.gcv) 3 := good0 xfb (by omega)
  have g1 := g0.fnp (F_is_sign tx hs hc) (by omega)
  exact fnP tx g1 rfl he_is_short_string sc_is_short_string chk_is_short_string (sat_short hc (fn_same))
theorem he_is_parcel_deep : src.fns.find? (fun e => e.x == ("is_parcel_deep" : Str)) = some ⟨"is_parcel_deep", st_is_parcel_deep, ps_is_parcel_deep⟩ := by rfl
theorem F_is_parcel_deep_at (tx : Texts L src) (hs : L.sub = src.sub) (hc : L.gcv = fun x => src.gcs.lookup x) : ∀ n : Nat, FnP L (7 + 2 * n) "is_parcel_deep" 2 (spParc n)
  | 0 => by
    have g0 : Good L (baseG src.T L.sub L.gcv) 5 := good0 xfb (by omega)
    have g1 := g0.fnp (F_is_short_string tx hs hc) (by omega)
    exact fnP tx g1 rfl he_is_parcel_deep sc_is_parcel_deep chk_is_parcel_deep sat_parc0
  | n + 1 => by
    have g0 : Good L (baseG src.T L.sub L.gcv) (7 + 2 * n) := good0 xfb (by omega)
    have g1 := g0.fnp (F_is_short_string tx hs hc) (by omega)
    have g2 := g1.fnp (F_is_parcel_deep_at tx hs hc n) (by omega)
    exact fnP tx g2 rfl he_is_parcel_deep sc_is_parcel_deep chk_is_parcel_deep (sat_parc ((fn_ne (by decide +kernel)).trans (fn_same)) (n := n) (fn_same))
theorem F_is_parcel_deep (tx : Texts L src) (hs : L.sub = src.sub) (hc : L.gcv = fun x => src.gcs.lookup x) : FnP L 87 "is_parcel_deep" 2 (spParc 40) := F_is_parcel_deep_at tx hs hc 40
theorem he_is_parcel : src.fns.find? (fun e => e.x == ("is_parcel" : Str)) = some ⟨"is_parcel", st_is_parcel, ps_is_parcel⟩ := by rfl
theorem F_is_parcel (tx : Texts L src) (hs : L.sub = src.sub) (hc : L.gcv = fun x => src.gcs.lookup x) : FnP L 89 "is_parcel" 1 spIsPc := by
  have g0 : Good L (baseG src.T L.sub L.gcv) 87 := good0 xfb (by omega)
  have g1 := g0.fnp (F_is_parcel_deep tx hs hc) (by omega)
  exact fnP tx g1 rfl he_is_parcel sc_is_parcel chk_is_parcel (sat_is_parcel hc (fn_same))
theorem he_whole : src.fns.find? (fun e => e.x == ("whole" : Str)) = some ⟨"whole", st_whole, ps_whole⟩ := by rfl
theorem F_whole (tx : Texts L src) (hs : L.sub = src.sub) (hc : L.gcv = fun x => src.gcs.lookup x) : FnP L 3 "whole" 1 spWhole := by
  have g0 : Good L (baseG src.T L.sub L.gcv) 1 := good0 xfb (by omega)
  exact fnP tx g0 rfl he_whole sc_whole chk_whole (sat_whole hc)
theorem he_bytes_of : src.fns.find? (fun e => e.x == ("bytes_of" : Str)) = some ⟨"bytes_of", st_bytes_of, ps_bytes_of⟩ := by rfl
theorem F_bytes_of_at (tx : Texts L src) (hs : L.sub = src.sub) (hc : L.gcv = fun x => src.gcs.lookup x) : ∀ n : Nat, FnP L (5 + 2 * n) "bytes_of" 1 (spBytes n)
  | 0 => by
    have g0 : Good L (baseG src.T L.sub L.gcv) 3 := good0 xfb (by omega)
    have g1 := g0.fnp (F_whole tx hs hc) (by omega)
    exact fnP tx g1 rfl he_bytes_of sc_bytes_of chk_bytes_of sat_bytes0
  | n + 1 => by
    have g0 : Good L (baseG src.T L.sub L.gcv) (5 + 2 * n) := good0 xfb (by omega)
    have g1 := g0.fnp (F_whole tx hs hc) (by omega)
    have g2 := g1.fnp (F_bytes_of_at tx hs hc n) (by omega)
    exact fnP tx g2 rfl he_bytes_of sc_bytes_of chk_bytes_of (sat_bytes hc ((fn_ne (by decide +kernel)).trans (fn_same)) (n := n) (fn_same))
theorem F_bytes_of (tx : Texts L src) (hs : L.sub = src.sub) (hc : L.gcv = fun x => src.gcs.lookup x) : FnP L 85 "bytes_of" 1 (spBytes 40) := F_bytes_of_at tx hs hc 40
theorem he_row_of : src.fns.find? (fun e => e.x == ("row_of" : Str)) = some ⟨"row_of", st_row_of, ps_row_of⟩ := by rfl
theorem F_row_of (tx : Texts L src) (hs : L.sub = src.sub) (hc : L.gcv = fun x => src.gcs.lookup x) : FnP L 91 "row_of" 1 spRowOf := by
  have g0 : Good L (baseG src.T L.sub L.gcv) 89 := good0 xfb (by omega)
  have g1 := g0.fnp (F_is_parcel tx hs hc) (by omega)
  have g2 := g1.fnp (F_bytes_of tx hs hc) (by omega)
  exact fnP tx g2 rfl he_row_of sc_row_of chk_row_of (sat_row_of (by rfl) ((fn_ne (by decide +kernel)).trans (fn_same)) (fn_same))
theorem he_RowReader_init : src.mts.find? (fun e => e.C == ("RowReader" : Str) && e.m == ("__init__" : Str)) = some ⟨"RowReader", "__init__", "RowReader.__init__", st_RowReader_init, ps_RowReader_init⟩ := by rfl
theorem F_RowReader_init (tx : Texts L src) (hs : L.sub = src.sub) (hc : L.gcv = fun x => src.gcs.lookup x) : MtP L 3 "RowReader" "__init__" 2 spInit := by
  have g0 : Good L (baseG src.T L.sub L.gcv) 1 := good0 xfb (by omega)
  exact mtP tx g0 rfl he_RowReader_init sc_RowReader_init chk_RowReader_init sat_init
theorem he_RowReader_next_byte : src.mts.find? (fun e => e.C == ("RowReader" : Str) && e.m == ("next_byte" : Str)) = some ⟨"RowReader", "next_byte", "RowReader.next_byte", st_RowReader_next_byte, ps_RowReader_next_byte⟩ := by rfl
theorem F_RowReader_next_byte (tx : Texts L src) (hs : L.sub = src.sub) (hc : L.gcv = fun x => src.gcs.lookup x) : MtP L 3 "RowReader" "next_byte" 1 spNext := by
  have g0 : Good L (baseG src.T L.sub L.gcv) 1 := good0 xfb (by omega)
  exact mtP tx g0 rfl he_RowReader_next_byte sc_RowReader_next_byte chk_RowReader_next_byte (sat_next (by rfl))
theorem he_RowReader_read_whole : src.mts.find? (fun e => e.C == ("RowReader" : Str) && e.m == ("read_whole" : Str)) = some ⟨"RowReader", "read_whole", "RowReader.read_whole", st_RowReader_read_whole, ps_RowReader_read_whole⟩ := by rfl
theorem F_RowReader_read_whole (tx : Texts L src) (hs : L.sub = src.sub) (hc : L.gcv = fun x => src.gcs.lookup x) : MtP L 3 "RowReader" "read_whole" 1 spRdW := by
  have g0 : Good L (baseG src.T L.sub L.gcv) 1 := good0 xfb (by omega)
  exact mtP tx g0 rfl he_RowReader_read_whole sc_RowReader_read_whole chk_RowReader_read_whole (sat_rdw hc (by rfl))
theorem he_RowReader_read_string : src.mts.find? (fun e => e.C == ("RowReader" : Str) && e.m == ("read_string" : Str)) = some ⟨"RowReader", "read_string", "RowReader.read_string", st_RowReader_read_string, ps_RowReader_read_string⟩ := by rfl
theorem F_RowReader_read_string (tx : Texts L src) (hs : L.sub = src.sub) (hc : L.gcv = fun x => src.gcs.lookup x) : MtP L 5 "RowReader" "read_string" 1 (spRd rdStr) := by
  have g0 : Good L (baseG src.T L.sub L.gcv) 3 := good0 xfb (by omega)
  have g1 := g0.mtp (F_RowReader_read_whole tx hs hc) (by omega)
  have g2 := g1.mtp (F_RowReader_next_byte tx hs hc) (by omega)
  have g3 := g2.fnp (F_is_sign tx hs hc) (by omega)
  exact mtP tx g3 rfl he_RowReader_read_string sc_RowReader_read_string chk_RowReader_read_string (sat_rds hc (by rfl) ((mt_fn).trans ((mt_ne (by decide +kernel)).trans (mt_same))) ((mt_fn).trans (mt_same)) (fn_same))
theorem he_RowReader_read_several : src.mts.find? (fun e => e.C == ("RowReader" : Str) && e.m == ("read_several" : Str)) = some ⟨"RowReader", "read_several", "RowReader.read_several", st_RowReader_read_several, ps_RowReader_read_several⟩ := by rfl
theorem he_RowReader_read_parcel : src.mts.find? (fun e => e.C == ("RowReader" : Str) && e.m == ("read_parcel" : Str)) = some ⟨"RowReader", "read_parcel", "RowReader.read_parcel", st_RowReader_read_parcel, ps_RowReader_read_parcel⟩ := by rfl
theorem F_par_at (tx : Texts L src) (hs : L.sub = src.sub) (hc : L.gcv = fun x => src.gcs.lookup x) : ∀ n : Nat, MtP L (7 + 4 * n) "RowReader" "read_parcel" 2 (spPar n)
  | 0 => by
    have g0 : Good L (baseG src.T L.sub L.gcv) 5 := good0 xfb (by omega)
    have g1 := g0.mtp (F_RowReader_read_whole tx hs hc) (by omega)
    have g2 := g1.mtp (F_RowReader_next_byte tx hs hc) (by omega)
    have g3 := g2.mtp (F_RowReader_read_string tx hs hc) (by omega)
    exact mtP tx g3 rfl he_RowReader_read_parcel sc_RowReader_read_parcel chk_RowReader_read_parcel (sat_par hc (by rfl) ((mt_ne (by decide +kernel)).trans ((mt_ne (by decide +kernel)).trans mt_same)) ((mt_ne (by decide +kernel)).trans mt_same) mt_same (.inl rfl))
  | n + 1 => by
    have g0 : Good L (baseG src.T L.sub L.gcv) (7 + 4 * n) := good0 xfb (by omega)
    have g1 := g0.mtp (F_RowReader_read_whole tx hs hc) (by omega)
    have g2 := g1.mtp (F_par_at tx hs hc n) (by omega)
    have s := mtP tx g2 rfl he_RowReader_read_several sc_RowReader_read_several chk_RowReader_read_several (sat_sev ((mt_ne (by decide +kernel)).trans mt_same) (n := n) mt_same)
    have g0 : Good L (baseG src.T L.sub L.gcv) (9 + 4 * n) := good0 xfb (by omega)
    have g1 := g0.mtp (F_RowReader_read_whole tx hs hc) (by omega)
    have g2 := g1.mtp (F_RowReader_next_byte tx hs hc) (by omega)
    have g3 := g2.mtp (F_RowReader_read_string tx hs hc) (by omega)
    have g4 := g3.mtp s (by omega)
    have r := mtP tx g4 rfl he_RowReader_read_parcel sc_RowReader_read_parcel chk_RowReader_read_parcel (sat_par (n := n + 1) hc (by rfl) ((mt_ne (by decide +kernel)).trans ((mt_ne (by decide +kernel)).trans ((mt_ne (by decide +kernel)).trans mt_same))) ((mt_ne (by decide +kernel)).trans ((mt_ne (by decide +kernel)).trans mt_same)) ((mt_ne (by decide +kernel)).trans mt_same) (.inr ⟨n, rfl, mt_same⟩))
    rw [show 7 + 4 * (n + 1) = 9 + 4 * n + 2 by omega]
    exact r
theorem F_RowReader_read_parcel (tx : Texts L src) (hs : L.sub = src.sub) (hc : L.gcv = fun x => src.gcs.lookup x) : MtP L 87 "RowReader" "read_parcel" 2 (spPar 20) := F_par_at tx hs hc 20
theorem he_parcel_of : src.fns.find? (fun e => e.x == ("parcel_of" : Str)) = some ⟨"parcel_of", st_parcel_of, ps_parcel_of⟩ := by rfl
theorem F_parcel_of (tx : Texts L src) (hs : L.sub = src.sub) (hc : L.gcv = fun x => src.gcs.lookup x) : FnP L 89 "parcel_of" 1 spPO := by
  have g0 : Good L (baseG src.T L.sub L.gcv) 87 := good0 xfb (by omega)
  have g1 := g0.fnp (F_check_row tx hs hc) (by omega)
  have g2 := g1.mtp (F_RowReader_init tx hs hc) (by omega)
  have g3 := g2.mtp (F_RowReader_read_parcel tx hs hc) (by omega)
  exact fnP tx g3 rfl he_parcel_of sc_parcel_of chk_parcel_of (sat_po hc (by rfl) ((fn_mt).trans ((fn_mt).trans (fn_same))) ((mt_ne (by decide +kernel)).trans (mt_same)) (mt_same))
theorem he_raw_mark : src.fns.find? (fun e => e.x == ("raw_mark" : Str)) = some ⟨"raw_mark", st_raw_mark, ps_raw_mark⟩ := by rfl
theorem F_raw_mark (tx : Texts L src) (hs : L.sub = src.sub) (hc : L.gcv = fun x => src.gcs.lookup x) : FnP L 3 "raw_mark" 1 spMark1 := by
  have g0 : Good L (baseG src.T L.sub L.gcv) 1 := good0 xfb (by omega)
  exact fnP tx g0 rfl he_raw_mark sc_raw_mark chk_raw_mark (sat_raw_mark hc)
theorem he_seal_of : src.fns.find? (fun e => e.x == ("seal_of" : Str)) = some ⟨"seal_of", st_seal_of, ps_seal_of⟩ := by rfl
theorem F_seal_of (tx : Texts L src) (hs : L.sub = src.sub) (hc : L.gcv = fun x => src.gcs.lookup x) : FnP L 5 "seal_of" 1 spSeal := by
  have g0 : Good L (baseG src.T L.sub L.gcv) 3 := good0 xfb (by omega)
  have g1 := g0.fnp (F_raw_mark tx hs hc) (by omega)
  exact fnP tx g1 rfl he_seal_of sc_seal_of chk_seal_of (sat_seal_of hc (fn_same))
theorem he_sealed : src.fns.find? (fun e => e.x == ("sealed" : Str)) = some ⟨"sealed", st_sealed, ps_sealed⟩ := by rfl
theorem F_sealed (tx : Texts L src) (hs : L.sub = src.sub) (hc : L.gcv = fun x => src.gcs.lookup x) : FnP L 93 "sealed" 1 spSealed := by
  have g0 : Good L (baseG src.T L.sub L.gcv) 91 := good0 xfb (by omega)
  have g1 := g0.fnp (F_row_of tx hs hc) (by omega)
  have g2 := g1.fnp (F_seal_of tx hs hc) (by omega)
  exact fnP tx g2 rfl he_sealed sc_sealed chk_sealed (sat_sealed ((fn_ne (by decide +kernel)).trans (fn_same)) (fn_same))
theorem he__law_pool : src.fns.find? (fun e => e.x == ("_law_pool" : Str)) = some ⟨"_law_pool", st__law_pool, ps__law_pool⟩ := by rfl
theorem F__law_pool (tx : Texts L src) (hs : L.sub = src.sub) (hc : L.gcv = fun x => src.gcs.lookup x) : FnP L 3 "_law_pool" 1 spPool := by
  have g0 : Good L (baseG src.T L.sub L.gcv) 1 := good0 xfb (by omega)
  exact fnP tx g0 rfl he__law_pool sc__law_pool chk__law_pool sat_pool
theorem he__law_draw : src.fns.find? (fun e => e.x == ("_law_draw" : Str)) = some ⟨"_law_draw", st__law_draw, ps__law_draw⟩ := by rfl
theorem F__law_draw (tx : Texts L src) (hs : L.sub = src.sub) (hc : L.gcv = fun x => src.gcs.lookup x) : FnP L 3 "_law_draw" 2 spDraw := by
  have g0 : Good L (baseG src.T L.sub L.gcv) 1 := good0 xfb (by omega)
  exact fnP tx g0 rfl he__law_draw sc__law_draw chk__law_draw sat_draw
theorem he__law_is : src.fns.find? (fun e => e.x == ("_law_is" : Str)) = some ⟨"_law_is", st__law_is, ps__law_is⟩ := by rfl
theorem F__law_is (tx : Texts L src) (hs : L.sub = src.sub) (hc : L.gcv = fun x => src.gcs.lookup x) : FnP L 3 "_law_is" 2 spIs := by
  have g0 : Good L (baseG src.T L.sub L.gcv) 1 := good0 xfb (by omega)
  exact fnP tx g0 rfl he__law_is sc__law_is chk__law_is sat_is
theorem he__law_whole : src.fns.find? (fun e => e.x == ("_law_whole" : Str)) = some ⟨"_law_whole", st__law_whole, ps__law_whole⟩ := by rfl
theorem F__law_whole (tx : Texts L src) (hs : L.sub = src.sub) (hc : L.gcv = fun x => src.gcs.lookup x) : FnP L 3 "_law_whole" 1 spWhole := by
  have g0 : Good L (baseG src.T L.sub L.gcv) 1 := good0 xfb (by omega)
  exact fnP tx g0 rfl he__law_whole sc__law_whole chk__law_whole sat_lwhole
theorem he__law_bytes : src.fns.find? (fun e => e.x == ("_law_bytes" : Str)) = some ⟨"_law_bytes", st__law_bytes, ps__law_bytes⟩ := by rfl
theorem F__law_bytes_at (tx : Texts L src) (hs : L.sub = src.sub) (hc : L.gcv = fun x => src.gcs.lookup x) : ∀ n : Nat, FnP L (5 + 2 * n) "_law_bytes" 1 (spBytes n)
  | 0 => by
    have g0 : Good L (baseG src.T L.sub L.gcv) 3 := good0 xfb (by omega)
    have g1 := g0.fnp (F__law_whole tx hs hc) (by omega)
    exact fnP tx g1 rfl he__law_bytes sc__law_bytes chk__law_bytes sat_bytes0
  | n + 1 => by
    have g0 : Good L (baseG src.T L.sub L.gcv) (5 + 2 * n) := good0 xfb (by omega)
    have g1 := g0.fnp (F__law_whole tx hs hc) (by omega)
    have g2 := g1.fnp (F__law_bytes_at tx hs hc n) (by omega)
    exact fnP tx g2 rfl he__law_bytes sc__law_bytes chk__law_bytes (sat_lbytes ((fn_ne (by decide +kernel)).trans (fn_same)) (n := n) (fn_same))
theorem F__law_bytes (tx : Texts L src) (hs : L.sub = src.sub) (hc : L.gcv = fun x => src.gcs.lookup x) : FnP L 85 "_law_bytes" 1 (spBytes 40) := F__law_bytes_at tx hs hc 40
theorem he__law_number : src.fns.find? (fun e => e.x == ("_law_number" : Str)) = some ⟨"_law_number", st__law_number, ps__law_number⟩ := by rfl
theorem F__law_number (tx : Texts L src) (hs : L.sub = src.sub) (hc : L.gcv = fun x => src.gcs.lookup x) : FnP L 5 "_law_number" 1 spNumber := by
  have g0 : Good L (baseG src.T L.sub L.gcv) 3 := good0 xfb (by omega)
  have g1 := g0.fnp (F__law_draw tx hs hc) (by omega)
  exact fnP tx g1 rfl he__law_number sc__law_number chk__law_number (sat_number (fn_same))
theorem he__law_parcel : src.fns.find? (fun e => e.x == ("_law_parcel" : Str)) = some ⟨"_law_parcel", st__law_parcel, ps__law_parcel⟩ := by rfl
theorem F__law_parcel_at (tx : Texts L src) (hs : L.sub = src.sub) (hc : L.gcv = fun x => src.gcs.lookup x) : ∀ n : Nat, FnP L (7 + 2 * n) "_law_parcel" 2 (spParcL n)
  | 0 => by
    have g0 : Good L (baseG src.T L.sub L.gcv) 5 := good0 xfb (by omega)
    have g1 := g0.fnp (F__law_draw tx hs hc) (by omega)
    have g2 := g1.fnp (F__law_number tx hs hc) (by omega)
    exact fnP tx g2 rfl he__law_parcel sc__law_parcel chk__law_parcel (sat_parcL ((fn_ne (by decide +kernel)).trans fn_same) fn_same (.inl rfl))
  | n + 1 => by
    have g0 : Good L (baseG src.T L.sub L.gcv) (7 + 2 * n) := good0 xfb (by omega)
    have g1 := g0.fnp (F__law_draw tx hs hc) (by omega)
    have g2 := g1.fnp (F__law_number tx hs hc) (by omega)
    have g3 := g2.fnp (F__law_parcel_at tx hs hc n) (by omega)
    exact fnP tx g3 rfl he__law_parcel sc__law_parcel chk__law_parcel (sat_parcL (n := n + 1) ((fn_ne (by decide +kernel)).trans ((fn_ne (by decide +kernel)).trans fn_same)) ((fn_ne (by decide +kernel)).trans fn_same) (.inr ⟨n, rfl, fn_same⟩))
theorem F__law_parcel (tx : Texts L src) (hs : L.sub = src.sub) (hc : L.gcv = fun x => src.gcs.lookup x) : FnP L 13 "_law_parcel" 2 (spParcL 3) := F__law_parcel_at tx hs hc 3
theorem he__law_same : src.fns.find? (fun e => e.x == ("_law_same" : Str)) = some ⟨"_law_same", st__law_same, ps__law_same⟩ := by rfl
theorem F__law_same_at (tx : Texts L src) (hs : L.sub = src.sub) (hc : L.gcv = fun x => src.gcs.lookup x) : ∀ n : Nat, FnP L (3 + 2 * n) "_law_same" 2 (spSame n)
  | 0 => by
    have g0 : Good L (baseG src.T L.sub L.gcv) 1 := good0 xfb (by omega)
    exact fnP tx g0 rfl he__law_same sc__law_same chk__law_same sat_same0
  | n + 1 => by
    have g0 : Good L (baseG src.T L.sub L.gcv) (3 + 2 * n) := good0 xfb (by omega)
    have g1 := g0.fnp (F__law_same_at tx hs hc n) (by omega)
    exact fnP tx g1 rfl he__law_same sc__law_same chk__law_same (sat_same (n := n) (fn_same))
theorem F__law_same (tx : Texts L src) (hs : L.sub = src.sub) (hc : L.gcv = fun x => src.gcs.lookup x) : FnP L 83 "_law_same" 2 (spSame 40) := F__law_same_at tx hs hc 40
theorem he__law_sign : src.fns.find? (fun e => e.x == ("_law_sign" : Str)) = some ⟨"_law_sign", st__law_sign, ps__law_sign⟩ := by rfl
theorem F__law_sign (tx : Texts L src) (hs : L.sub = src.sub) (hc : L.gcv = fun x => src.gcs.lookup x) : FnP L 3 "_law_sign" 1 spSign := by
  have g0 : Good L (baseG src.T L.sub L.gcv) 1 := good0 xfb (by omega)
  exact fnP tx g0 rfl he__law_sign sc__law_sign chk__law_sign sat_sign
theorem he__law_read_whole : src.fns.find? (fun e => e.x == ("_law_read_whole" : Str)) = some ⟨"_law_read_whole", st__law_read_whole, ps__law_read_whole⟩ := by rfl
theorem F__law_read_whole (tx : Texts L src) (hs : L.sub = src.sub) (hc : L.gcv = fun x => src.gcs.lookup x) : FnP L 3 "_law_read_whole" 2 spLRW := by
  have g0 : Good L (baseG src.T L.sub L.gcv) 1 := good0 xfb (by omega)
  exact fnP tx g0 rfl he__law_read_whole sc__law_read_whole chk__law_read_whole sat_lrw
theorem he__law_read_string : src.fns.find? (fun e => e.x == ("_law_read_string" : Str)) = some ⟨"_law_read_string", st__law_read_string, ps__law_read_string⟩ := by rfl
theorem F__law_read_string (tx : Texts L src) (hs : L.sub = src.sub) (hc : L.gcv = fun x => src.gcs.lookup x) : FnP L 5 "_law_read_string" 4 spLRS := by
  have g0 : Good L (baseG src.T L.sub L.gcv) 3 := good0 xfb (by omega)
  have g1 := g0.fnp (F__law_sign tx hs hc) (by omega)
  exact fnP tx g1 rfl he__law_read_string sc__law_read_string chk__law_read_string (sat_lrs (fn_same))
theorem he__law_read : src.fns.find? (fun e => e.x == ("_law_read" : Str)) = some ⟨"_law_read", st__law_read, ps__law_read⟩ := by rfl
theorem F__law_read_at (tx : Texts L src) (hs : L.sub = src.sub) (hc : L.gcv = fun x => src.gcs.lookup x) : ∀ n : Nat, FnP L (7 + 2 * n) "_law_read" 3 (spLR n)
  | 0 => by
    have g0 : Good L (baseG src.T L.sub L.gcv) 5 := good0 xfb (by omega)
    have g1 := g0.fnp (F__law_read_whole tx hs hc) (by omega)
    have g2 := g1.fnp (F__law_read_string tx hs hc) (by omega)
    exact fnP tx g2 rfl he__law_read sc__law_read chk__law_read (sat_lr ((fn_ne (by decide +kernel)).trans fn_same) fn_same (.inl rfl))
  | n + 1 => by
    have g0 : Good L (baseG src.T L.sub L.gcv) (7 + 2 * n) := good0 xfb (by omega)
    have g1 := g0.fnp (F__law_read_whole tx hs hc) (by omega)
    have g2 := g1.fnp (F__law_read_string tx hs hc) (by omega)
    have g3 := g2.fnp (F__law_read_at tx hs hc n) (by omega)
    exact fnP tx g3 rfl he__law_read sc__law_read chk__law_read (sat_lr (n := n + 1) ((fn_ne (by decide +kernel)).trans ((fn_ne (by decide +kernel)).trans fn_same)) ((fn_ne (by decide +kernel)).trans fn_same) (.inr ⟨n, rfl, fn_same⟩))
theorem F__law_read (tx : Texts L src) (hs : L.sub = src.sub) (hc : L.gcv = fun x => src.gcs.lookup x) : FnP L 47 "_law_read" 3 (spLR 20) := F__law_read_at tx hs hc 20
theorem he__law_told : src.fns.find? (fun e => e.x == ("_law_told" : Str)) = some ⟨"_law_told", st__law_told, ps__law_told⟩ := by rfl
theorem F__law_told (tx : Texts L src) (hs : L.sub = src.sub) (hc : L.gcv = fun x => src.gcs.lookup x) : FnP L 49 "_law_told" 1 spTold := by
  have g0 : Good L (baseG src.T L.sub L.gcv) 47 := good0 xfb (by omega)
  have g1 := g0.fnp (F__law_read tx hs hc) (by omega)
  exact fnP tx g1 rfl he__law_told sc__law_told chk__law_told (sat_told (fn_same))
theorem he__law_deep : src.fns.find? (fun e => e.x == ("_law_deep" : Str)) = some ⟨"_law_deep", st__law_deep, ps__law_deep⟩ := by rfl
theorem F__law_deep (tx : Texts L src) (hs : L.sub = src.sub) (hc : L.gcv = fun x => src.gcs.lookup x) : FnP L 3 "_law_deep" 0 spDeep := by
  have g0 : Good L (baseG src.T L.sub L.gcv) 1 := good0 xfb (by omega)
  exact fnP tx g0 rfl he__law_deep sc__law_deep chk__law_deep sat_deep
theorem he__law_flag : src.fns.find? (fun e => e.x == ("_law_flag" : Str)) = some ⟨"_law_flag", st__law_flag, ps__law_flag⟩ := by rfl
theorem F__law_flag (tx : Texts L src) (hs : L.sub = src.sub) (hc : L.gcv = fun x => src.gcs.lookup x) : FnP L 3 "_law_flag" 2 spFlag := by
  have g0 : Good L (baseG src.T L.sub L.gcv) 1 := good0 xfb (by omega)
  exact fnP tx g0 rfl he__law_flag sc__law_flag chk__law_flag sat_flag
theorem he__law_nested : src.fns.find? (fun e => e.x == ("_law_nested" : Str)) = some ⟨"_law_nested", st__law_nested, ps__law_nested⟩ := by rfl
theorem F__law_nested (tx : Texts L src) (hs : L.sub = src.sub) (hc : L.gcv = fun x => src.gcs.lookup x) : FnP L 3 "_law_nested" 2 spNested := by
  have g0 : Good L (baseG src.T L.sub L.gcv) 1 := good0 xfb (by omega)
  exact fnP tx g0 rfl he__law_nested sc__law_nested chk__law_nested sat_nested
theorem he__law_is_parcel : src.fns.find? (fun e => e.x == ("_law_is_parcel" : Str)) = some ⟨"_law_is_parcel", st__law_is_parcel, ps__law_is_parcel⟩ := by rfl
theorem F__law_is_parcel_at (tx : Texts L src) (hs : L.sub = src.sub) (hc : L.gcv = fun x => src.gcs.lookup x) : ∀ n : Nat, FnP L (3 + 2 * n) "_law_is_parcel" 2 (spLIP n)
  | 0 => by
    have g0 : Good L (baseG src.T L.sub L.gcv) 1 := good0 xfb (by omega)
    exact fnP tx g0 rfl he__law_is_parcel sc__law_is_parcel chk__law_is_parcel sat_lip0
  | n + 1 => by
    have g0 : Good L (baseG src.T L.sub L.gcv) (3 + 2 * n) := good0 xfb (by omega)
    have g1 := g0.fnp (F__law_is_parcel_at tx hs hc n) (by omega)
    exact fnP tx g1 rfl he__law_is_parcel sc__law_is_parcel chk__law_is_parcel (sat_lip (n := n) (fn_same))
theorem F__law_is_parcel (tx : Texts L src) (hs : L.sub = src.sub) (hc : L.gcv = fun x => src.gcs.lookup x) : FnP L 83 "_law_is_parcel" 2 (spLIP 40) := F__law_is_parcel_at tx hs hc 40
theorem he__law_word : src.fns.find? (fun e => e.x == ("_law_word" : Str)) = some ⟨"_law_word", st__law_word, ps__law_word⟩ := by rfl
theorem F__law_word (tx : Texts L src) (hs : L.sub = src.sub) (hc : L.gcv = fun x => src.gcs.lookup x) : FnP L 95 "_law_word" 2 spWord := by
  have g0 : Good L (baseG src.T L.sub L.gcv) 93 := good0 xfb (by omega)
  have g1 := g0.fnp (F_row_of tx hs hc) (by omega)
  have g2 := g1.fnp (F_sealed tx hs hc) (by omega)
  exact fnP tx g2 rfl he__law_word sc__law_word chk__law_word (sat_word hs ((fn_ne (by decide +kernel)).trans (fn_same)) (fn_same))
theorem he__law_read_by : src.fns.find? (fun e => e.x == ("_law_read_by" : Str)) = some ⟨"_law_read_by", st__law_read_by, ps__law_read_by⟩ := by rfl
theorem F__law_read_by (tx : Texts L src) (hs : L.sub = src.sub) (hc : L.gcv = fun x => src.gcs.lookup x) : FnP L 91 "_law_read_by" 1 spRB := by
  have g0 : Good L (baseG src.T L.sub L.gcv) 89 := good0 xfb (by omega)
  have g1 := g0.fnp (F_parcel_of tx hs hc) (by omega)
  exact fnP tx g1 rfl he__law_read_by sc__law_read_by chk__law_read_by (sat_rb hs (by rfl) (fn_same))
theorem he__law_spoilt : src.fns.find? (fun e => e.x == ("_law_spoilt" : Str)) = some ⟨"_law_spoilt", st__law_spoilt, ps__law_spoilt⟩ := by rfl
theorem F__law_spoilt (tx : Texts L src) (hs : L.sub = src.sub) (hc : L.gcv = fun x => src.gcs.lookup x) : FnP L 5 "_law_spoilt" 2 spSpoilt := by
  have g0 : Good L (baseG src.T L.sub L.gcv) 3 := good0 xfb (by omega)
  have g1 := g0.fnp (F__law_draw tx hs hc) (by omega)
  exact fnP tx g1 rfl he__law_spoilt sc__law_spoilt chk__law_spoilt (sat_spoilt (fn_same))
theorem he__law_right : src.fns.find? (fun e => e.x == ("_law_right" : Str)) = some ⟨"_law_right", st__law_right, ps__law_right⟩ := by rfl
theorem F__law_right (tx : Texts L src) (hs : L.sub = src.sub) (hc : L.gcv = fun x => src.gcs.lookup x) : FnP L 93 "_law_right" 1 spRight := by
  have g0 : Good L (baseG src.T L.sub L.gcv) 91 := good0 xfb (by omega)
  have g1 := g0.fnp (F__law_told tx hs hc) (by omega)
  have g2 := g1.fnp (F__law_read_by tx hs hc) (by omega)
  have g3 := g2.fnp (F__law_is tx hs hc) (by omega)
  have g4 := g3.fnp (F__law_same tx hs hc) (by omega)
  have g5 := g4.fnp (F_row_of tx hs hc) (by omega)
  exact fnP tx g5 rfl he__law_right sc__law_right chk__law_right (sat_right ((fn_ne (by decide +kernel)).trans ((fn_ne (by decide +kernel)).trans ((fn_ne (by decide +kernel)).trans ((fn_ne (by decide +kernel)).trans (fn_same))))) ((fn_ne (by decide +kernel)).trans ((fn_ne (by decide +kernel)).trans ((fn_ne (by decide +kernel)).trans (fn_same)))) ((fn_ne (by decide +kernel)).trans ((fn_ne (by decide +kernel)).trans (fn_same))) ((fn_ne (by decide +kernel)).trans (fn_same)) (fn_same))
theorem he__law_first : src.fns.find? (fun e => e.x == ("_law_first" : Str)) = some ⟨"_law_first", st__law_first, ps__law_first⟩ := by rfl
theorem F__law_first (tx : Texts L src) (hs : L.sub = src.sub) (hc : L.gcv = fun x => src.gcs.lookup x) : FnP L 97 "_law_first" 1 spFirst := by
  have g0 : Good L (baseG src.T L.sub L.gcv) 95 := good0 xfb (by omega)
  have g1 := g0.fnp (F__law_pool tx hs hc) (by omega)
  have g2 := g1.fnp (F__law_parcel tx hs hc) (by omega)
  have g3 := g2.fnp (F_row_of tx hs hc) (by omega)
  have g4 := g3.fnp (F__law_bytes tx hs hc) (by omega)
  have g5 := g4.fnp (F__law_same tx hs hc) (by omega)
  have g6 := g5.fnp (F_parcel_of tx hs hc) (by omega)
  have g7 := g6.fnp (F__law_deep tx hs hc) (by omega)
  have g8 := g7.fnp (F__law_nested tx hs hc) (by omega)
  have g9 := g8.fnp (F__law_draw tx hs hc) (by omega)
  have g10 := g9.fnp (F__law_is_parcel tx hs hc) (by omega)
  have g11 := g10.fnp (F__law_word tx hs hc) (by omega)
  have g12 := g11.fnp (F__law_flag tx hs hc) (by omega)
  have g13 := g12.fnp (F_is_parcel tx hs hc) (by omega)
  exact fnP tx g13 rfl he__law_first sc__law_first chk__law_first (sat_first ((fn_ne (by decide +kernel)).trans ((fn_ne (by decide +kernel)).trans ((fn_ne (by decide +kernel)).trans ((fn_ne (by decide +kernel)).trans ((fn_ne (by decide +kernel)).trans ((fn_ne (by decide +kernel)).trans ((fn_ne (by decide +kernel)).trans ((fn_ne (by decide +kernel)).trans ((fn_ne (by decide +kernel)).trans ((fn_ne (by decide +kernel)).trans ((fn_ne (by decide +kernel)).trans ((fn_ne (by decide +kernel)).trans (fn_same))))))))))))) ((fn_ne (by decide +kernel)).trans ((fn_ne (by decide +kernel)).trans ((fn_ne (by decide +kernel)).trans ((fn_ne (by decide +kernel)).trans ((fn_ne (by decide +kernel)).trans ((fn_ne (by decide +kernel)).trans ((fn_ne (by decide +kernel)).trans ((fn_ne (by decide +kernel)).trans ((fn_ne (by decide +kernel)).trans ((fn_ne (by decide +kernel)).trans ((fn_ne (by decide +kernel)).trans (fn_same)))))))))))) ((fn_ne (by decide +kernel)).trans ((fn_ne (by decide +kernel)).trans ((fn_ne (by decide +kernel)).trans ((fn_ne (by decide +kernel)).trans ((fn_ne (by decide +kernel)).trans ((fn_ne (by decide +kernel)).trans ((fn_ne (by decide +kernel)).trans ((fn_ne (by decide +kernel)).trans ((fn_ne (by decide +kernel)).trans ((fn_ne (by decide +kernel)).trans (fn_same))))))))))) ((fn_ne (by decide +kernel)).trans ((fn_ne (by decide +kernel)).trans ((fn_ne (by decide +kernel)).trans ((fn_ne (by decide +kernel)).trans ((fn_ne (by decide +kernel)).trans ((fn_ne (by decide +kernel)).trans ((fn_ne (by decide +kernel)).trans ((fn_ne (by decide +kernel)).trans ((fn_ne (by decide +kernel)).trans (fn_same)))))))))) ((fn_ne (by decide +kernel)).trans ((fn_ne (by decide +kernel)).trans ((fn_ne (by decide +kernel)).trans ((fn_ne (by decide +kernel)).trans ((fn_ne (by decide +kernel)).trans ((fn_ne (by decide +kernel)).trans ((fn_ne (by decide +kernel)).trans ((fn_ne (by decide +kernel)).trans (fn_same))))))))) ((fn_ne (by decide +kernel)).trans ((fn_ne (by decide +kernel)).trans ((fn_ne (by decide +kernel)).trans ((fn_ne (by decide +kernel)).trans ((fn_ne (by decide +kernel)).trans ((fn_ne (by decide +kernel)).trans ((fn_ne (by decide +kernel)).trans (fn_same)))))))) ((fn_ne (by decide +kernel)).trans ((fn_ne (by decide +kernel)).trans ((fn_ne (by decide +kernel)).trans ((fn_ne (by decide +kernel)).trans ((fn_ne (by decide +kernel)).trans ((fn_ne (by decide +kernel)).trans (fn_same))))))) ((fn_ne (by decide +kernel)).trans ((fn_ne (by decide +kernel)).trans ((fn_ne (by decide +kernel)).trans ((fn_ne (by decide +kernel)).trans ((fn_ne (by decide +kernel)).trans (fn_same)))))) ((fn_ne (by decide +kernel)).trans ((fn_ne (by decide +kernel)).trans ((fn_ne (by decide +kernel)).trans ((fn_ne (by decide +kernel)).trans (fn_same))))) ((fn_ne (by decide +kernel)).trans ((fn_ne (by decide +kernel)).trans ((fn_ne (by decide +kernel)).trans (fn_same)))) ((fn_ne (by decide +kernel)).trans ((fn_ne (by decide +kernel)).trans (fn_same))) ((fn_ne (by decide +kernel)).trans (fn_same)) (fn_same))
theorem he__law_second : src.fns.find? (fun e => e.x == ("_law_second" : Str)) = some ⟨"_law_second", st__law_second, ps__law_second⟩ := by rfl
theorem F__law_second (tx : Texts L src) (hs : L.sub = src.sub) (hc : L.gcv = fun x => src.gcs.lookup x) : FnP L 95 "_law_second" 1 spSecond := by
  have g0 : Good L (baseG src.T L.sub L.gcv) 93 := good0 xfb (by omega)
  have g1 := g0.fnp (F__law_pool tx hs hc) (by omega)
  have g2 := g1.fnp (F__law_parcel tx hs hc) (by omega)
  have g3 := g2.fnp (F__law_bytes tx hs hc) (by omega)
  have g4 := g3.fnp (F__law_right tx hs hc) (by omega)
  have g5 := g4.fnp (F__law_spoilt tx hs hc) (by omega)
  have g6 := g5.fnp (F__law_draw tx hs hc) (by omega)
  have g7 := g6.fnp (F__law_nested tx hs hc) (by omega)
  exact fnP tx g7 rfl he__law_second sc__law_second chk__law_second (sat_second ((fn_ne (by decide +kernel)).trans ((fn_ne (by decide +kernel)).trans ((fn_ne (by decide +kernel)).trans ((fn_ne (by decide +kernel)).trans ((fn_ne (by decide +kernel)).trans ((fn_ne (by decide +kernel)).trans (fn_same))))))) ((fn_ne (by decide +kernel)).trans ((fn_ne (by decide +kernel)).trans ((fn_ne (by decide +kernel)).trans ((fn_ne (by decide +kernel)).trans ((fn_ne (by decide +kernel)).trans (fn_same)))))) ((fn_ne (by decide +kernel)).trans ((fn_ne (by decide +kernel)).trans ((fn_ne (by decide +kernel)).trans ((fn_ne (by decide +kernel)).trans (fn_same))))) ((fn_ne (by decide +kernel)).trans ((fn_ne (by decide +kernel)).trans ((fn_ne (by decide +kernel)).trans (fn_same)))) ((fn_ne (by decide +kernel)).trans ((fn_ne (by decide +kernel)).trans (fn_same))) ((fn_ne (by decide +kernel)).trans (fn_same)) (fn_same))
theorem he_law : src.fns.find? (fun e => e.x == ("law" : Str)) = some ⟨"law", st_law, ps_law⟩ := by rfl
theorem F_law (tx : Texts L src) (hs : L.sub = src.sub) (hc : L.gcv = fun x => src.gcs.lookup x) : FnP L 99 "law" 1 (spLaw 63) := by
  have g0 : Good L (baseG src.T L.sub L.gcv) 97 := good0 xfb (by omega)
  have g1 := g0.fnp (F__law_first tx hs hc) (by omega)
  have g2 := g1.fnp (F__law_second tx hs hc) (by omega)
  exact fnP tx g2 rfl he_law sc_law chk_law (sat_law31 ((fn_ne (by decide +kernel)).trans (fn_same)) (fn_same))
end
end Sp
theorem Ir.law_ok (L : DL.Lang Ir.src.T) (tx : DL.Texts L Ir.src) (hs : L.sub = Ir.src.sub) (hc : L.gcv = fun x => Ir.src.gcs.lookup x) : DL.FnP L 99 "law" 1 (DL.spLaw 63) := Sp.F_law tx hs hc


open PySem PySem.W PyProof.Rows in
set_option maxRecDepth 100000 in
set_option maxHeartbeats 0 in
theorem PySem.Challenge.cw_leastroads_k31_whole_rows_there_and_back_holds : PySem.Challenge.rw_leastroads_k31_whole_rows_there_and_back.Holds := by
  w_on; o_law; k_head; (case hw => w_witness2)
  k_fill
  refine DL.law_done (l := PySem.Challenge.rw_leastroads_k31_whole_rows_there_and_back) (S := Ir.src) (k := 99) (x := "_law_script") (st := Ir.st_law) rfl rfl (by decide) ⟨rfl, by decide, by decide⟩ (fun w h Y => PySem.W.kIn_of Y) (by rfl) Ir.fit ?F Ir.law_ok
  case F =>
    intro p
    refine ⟨?F1, ?F2, ?F3⟩
    case F1 =>
      refine' Ir.fns_ok ?h_is_row ?h_check_row ?h_is_sign ?h_is_short_string ?h_is_parcel_deep ?h_is_parcel ?h_whole ?h_bytes_of ?h_row_of ?h_parcel_of ?h_raw_mark ?h_seal_of ?h_sealed ?h__law_pool ?h__law_draw ?h__law_deep ?h__law_flag ?h__law_whole ?h__law_bytes ?h__law_number ?h__law_parcel ?h__law_nested ?h__law_same ?h__law_is_parcel ?h__law_word ?h__law_first ?h__law_is ?h__law_sign ?h__law_read_whole ?h__law_read ?h__law_read_string ?h__law_told ?h__law_read_by ?h__law_spoilt ?h__law_right ?h__law_second ?h_law
      case h_is_row => refine' DL.FnAt.of Ir.bd_is_row ?a ?l ?c ?k; (case a => k_is); (case l => k_is); (case c => k_is); (case k => k_is)
      case h_check_row => refine' DL.FnAt.of Ir.bd_check_row ?a ?l ?c ?k; (case a => k_is); (case l => k_is); (case c => k_is); (case k => k_is)
      case h_is_sign => refine' DL.FnAt.of Ir.bd_is_sign ?a ?l ?c ?k; (case a => k_is); (case l => k_is); (case c => k_is); (case k => k_is)
      case h_is_short_string => refine' DL.FnAt.of Ir.bd_is_short_string ?a ?l ?c ?k; (case a => k_is); (case l => k_is); (case c => k_is); (case k => k_is)
      case h_is_parcel_deep => refine' DL.FnAt.of Ir.bd_is_parcel_deep ?a ?l ?c ?k; (case a => k_is); (case l => k_is); (case c => k_is); (case k => k_is)
      case h_is_parcel => refine' DL.FnAt.of Ir.bd_is_parcel ?a ?l ?c ?k; (case a => k_is); (case l => k_is); (case c => k_is); (case k => k_is)
      case h_whole => refine' DL.FnAt.of Ir.bd_whole ?a ?l ?c ?k; (case a => k_is); (case l => k_is); (case c => k_is); (case k => k_is)
      case h_bytes_of => refine' DL.FnAt.of Ir.bd_bytes_of ?a ?l ?c ?k; (case a => k_is); (case l => k_is); (case c => k_is); (case k => k_is)
      case h_row_of => refine' DL.FnAt.of Ir.bd_row_of ?a ?l ?c ?k; (case a => k_is); (case l => k_is); (case c => k_is); (case k => k_is)
      case h_parcel_of => refine' DL.FnAt.of Ir.bd_parcel_of ?a ?l ?c ?k; (case a => k_is); (case l => k_is); (case c => k_is); (case k => k_is)
      case h_raw_mark => refine' DL.FnAt.of Ir.bd_raw_mark ?a ?l ?c ?k; (case a => k_is); (case l => k_is); (case c => k_is); (case k => k_is)
      case h_seal_of => refine' DL.FnAt.of Ir.bd_seal_of ?a ?l ?c ?k; (case a => k_is); (case l => k_is); (case c => k_is); (case k => k_is)
      case h_sealed => refine' DL.FnAt.of Ir.bd_sealed ?a ?l ?c ?k; (case a => k_is); (case l => k_is); (case c => k_is); (case k => k_is)
      case h__law_pool => refine' DL.FnAt.of Ir.bd__law_pool ?a ?l ?c ?k; (case a => k_is); (case l => k_is); (case c => k_is); (case k => k_is)
      case h__law_draw => refine' DL.FnAt.of Ir.bd__law_draw ?a ?l ?c ?k; (case a => k_is); (case l => k_is); (case c => k_is); (case k => k_is)
      case h__law_deep => refine' DL.FnAt.of Ir.bd__law_deep ?a ?l ?c ?k; (case a => k_is); (case l => k_is); (case c => k_is); (case k => k_is)
      case h__law_flag => refine' DL.FnAt.of Ir.bd__law_flag ?a ?l ?c ?k; (case a => k_is); (case l => k_is); (case c => k_is); (case k => k_is)
      case h__law_whole => refine' DL.FnAt.of Ir.bd__law_whole ?a ?l ?c ?k; (case a => k_is); (case l => k_is); (case c => k_is); (case k => k_is)
      case h__law_bytes => refine' DL.FnAt.of Ir.bd__law_bytes ?a ?l ?c ?k; (case a => k_is); (case l => k_is); (case c => k_is); (case k => k_is)
      case h__law_number => refine' DL.FnAt.of Ir.bd__law_number ?a ?l ?c ?k; (case a => k_is); (case l => k_is); (case c => k_is); (case k => k_is)
      case h__law_parcel => refine' DL.FnAt.of Ir.bd__law_parcel ?a ?l ?c ?k; (case a => k_is); (case l => k_is); (case c => k_is); (case k => k_is)
      case h__law_nested => refine' DL.FnAt.of Ir.bd__law_nested ?a ?l ?c ?k; (case a => k_is); (case l => k_is); (case c => k_is); (case k => k_is)
      case h__law_same => refine' DL.FnAt.of Ir.bd__law_same ?a ?l ?c ?k; (case a => k_is); (case l => k_is); (case c => k_is); (case k => k_is)
      case h__law_is_parcel => refine' DL.FnAt.of Ir.bd__law_is_parcel ?a ?l ?c ?k; (case a => k_is); (case l => k_is); (case c => k_is); (case k => k_is)
      case h__law_word => refine' DL.FnAt.of Ir.bd__law_word ?a ?l ?c ?k; (case a => k_is); (case l => k_is); (case c => k_is); (case k => k_is)
      case h__law_first => refine' DL.FnAt.of Ir.bd__law_first ?a ?l ?c ?k; (case a => k_is); (case l => k_is); (case c => k_is); (case k => k_is)
      case h__law_is => refine' DL.FnAt.of Ir.bd__law_is ?a ?l ?c ?k; (case a => k_is); (case l => k_is); (case c => k_is); (case k => k_is)
      case h__law_sign => refine' DL.FnAt.of Ir.bd__law_sign ?a ?l ?c ?k; (case a => k_is); (case l => k_is); (case c => k_is); (case k => k_is)
      case h__law_read_whole => refine' DL.FnAt.of Ir.bd__law_read_whole ?a ?l ?c ?k; (case a => k_is); (case l => k_is); (case c => k_is); (case k => k_is)
      case h__law_read => refine' DL.FnAt.of Ir.bd__law_read ?a ?l ?c ?k; (case a => k_is); (case l => k_is); (case c => k_is); (case k => k_is)
      case h__law_read_string => refine' DL.FnAt.of Ir.bd__law_read_string ?a ?l ?c ?k; (case a => k_is); (case l => k_is); (case c => k_is); (case k => k_is)
      case h__law_told => refine' DL.FnAt.of Ir.bd__law_told ?a ?l ?c ?k; (case a => k_is); (case l => k_is); (case c => k_is); (case k => k_is)
      case h__law_read_by => refine' DL.FnAt.of Ir.bd__law_read_by ?a ?l ?c ?k; (case a => k_is); (case l => k_is); (case c => k_is); (case k => k_is)
      case h__law_spoilt => refine' DL.FnAt.of Ir.bd__law_spoilt ?a ?l ?c ?k; (case a => k_is); (case l => k_is); (case c => k_is); (case k => k_is)
      case h__law_right => refine' DL.FnAt.of Ir.bd__law_right ?a ?l ?c ?k; (case a => k_is); (case l => k_is); (case c => k_is); (case k => k_is)
      case h__law_second => refine' DL.FnAt.of Ir.bd__law_second ?a ?l ?c ?k; (case a => k_is); (case l => k_is); (case c => k_is); (case k => k_is)
      case h_law => refine' DL.FnAt.of Ir.bd_law ?a ?l ?c ?k; (case a => k_is); (case l => k_is); (case c => k_is); (case k => k_is)
    case F2 =>
      refine' Ir.mts_ok ?h_BadRow_init ?h_RowReader_init ?h_RowReader_next_byte ?h_RowReader_read_whole ?h_RowReader_read_string ?h_RowReader_read_several ?h_RowReader_read_parcel
      case h_BadRow_init => refine' DL.MtAt.of Ir.bd_BadRow_init ?n ?a ?i ?l ?c ?k; (case n => k_is); (case a => k_is); (case i => k_is); (case l => k_is); (case c => k_is); (case k => k_is)
      case h_RowReader_init => refine' DL.MtAt.of Ir.bd_RowReader_init ?n ?a ?i ?l ?c ?k; (case n => k_is); (case a => k_is); (case i => k_is); (case l => k_is); (case c => k_is); (case k => k_is)
      case h_RowReader_next_byte => refine' DL.MtAt.of Ir.bd_RowReader_next_byte ?n ?a ?i ?l ?c ?k; (case n => k_is); (case a => k_is); (case i => k_is); (case l => k_is); (case c => k_is); (case k => k_is)
      case h_RowReader_read_whole => refine' DL.MtAt.of Ir.bd_RowReader_read_whole ?n ?a ?i ?l ?c ?k; (case n => k_is); (case a => k_is); (case i => k_is); (case l => k_is); (case c => k_is); (case k => k_is)
      case h_RowReader_read_string => refine' DL.MtAt.of Ir.bd_RowReader_read_string ?n ?a ?i ?l ?c ?k; (case n => k_is); (case a => k_is); (case i => k_is); (case l => k_is); (case c => k_is); (case k => k_is)
      case h_RowReader_read_several => refine' DL.MtAt.of Ir.bd_RowReader_read_several ?n ?a ?i ?l ?c ?k; (case n => k_is); (case a => k_is); (case i => k_is); (case l => k_is); (case c => k_is); (case k => k_is)
      case h_RowReader_read_parcel => refine' DL.MtAt.of Ir.bd_RowReader_read_parcel ?n ?a ?i ?l ?c ?k; (case n => k_is); (case a => k_is); (case i => k_is); (case l => k_is); (case c => k_is); (case k => k_is)
    case F3 => kernel_rfl
