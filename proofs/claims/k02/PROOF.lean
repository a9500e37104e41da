import PyProof.Rows.All
import Wide.All
import OpenK.AllK
import Wide.FinOn
import HandS.ForMost
import KE.KDictKeyed
import HandS.TupAny
import HandS.TupMul
import HandS.Deep
import HandS.IsInst
import KE.KIndexOf
import HandS.SetFor
import HandS.Style
import KE.KRevSl
import KE.SortData
import KE.DataMinMax
import HandS.SortInts
import KE.KDictCopyH
import KE.KDictSum
import HandS.Nested
import KE.GoesEnum
import KE.GoesNew
import HandS.Zip
import HandS.Words
import PySem.Challenge.RW_shortlines_k02_stories_judged
set_option Elab.async false
set_option linter.all false
set_option maxRecDepth 100000
/-! SLa: a small language of data and its evaluator. Values D, cells of the store, expressions Ex, statements SS; evE, exS. -/
namespace SL
open PySem

/-- data: tuples and lists that nobody changes are values; ro: a list handed in from outside; obj n is the n-th cell of the store -/
inductive D where
  | non | bl (b : Bool) | int (i : Int) | str (x : Str) | tup (ds : List D) | lst (ds : List D) | ro (ds : List D) | obj (n : Nat)

namespace D
mutual
def beq : D → D → Bool
  | .non, .non => true
  | .bl a, .bl b => a == b
  | .int a, .int b => decide (a = b)
  | .str a, .str b => decide (a = b)
  | .tup a, .tup b => beqs a b
  | .lst a, .lst b => beqs a b
  | .ro a, .ro b => beqs a b
  | .obj a, .obj b => decide (a = b)
  | _, _ => false
def beqs : List D → List D → Bool
  | [], [] => true
  | a :: as, b :: bs => beq a b && beqs as bs
  | _, _ => false
end
mutual
theorem beq_self : ∀ a : D, beq a a = true
  | .non => by simp [beq]
  | .bl a => by simp [beq]
  | .int a => by simp [beq]
  | .str a => by simp [beq]
  | .tup a => by rw [beq]; exact beqs_self a
  | .lst a => by rw [beq]; exact beqs_self a
  | .ro a => by rw [beq]; exact beqs_self a
  | .obj a => by simp [beq]
theorem beqs_self : ∀ a : List D, beqs a a = true
  | [] => by simp [beqs]
  | a :: as => by rw [beqs, beq_self a, beqs_self as]; rfl
end
mutual
theorem eq_of_beq : ∀ a b : D, beq a b = true → a = b
  | .non, b, h => by cases b <;> simp [beq] at h ⊢
  | .bl a, b, h => by cases b <;> simp [beq] at h ⊢; exact h
  | .int a, b, h => by cases b <;> simp [beq] at h ⊢; exact h
  | .str a, b, h => by cases b <;> simp [beq] at h ⊢; exact h
  | .tup a, b, h => by cases b <;> simp [beq] at h ⊢; exact eq_of_beqs a _ h
  | .lst a, b, h => by cases b <;> simp [beq] at h ⊢; exact eq_of_beqs a _ h
  | .ro a, b, h => by cases b <;> simp [beq] at h ⊢; exact eq_of_beqs a _ h
  | .obj a, b, h => by cases b <;> simp [beq] at h ⊢; exact h
theorem eq_of_beqs : ∀ a b : List D, beqs a b = true → a = b
  | [], [], _ => rfl
  | [], _ :: _, h => by simp [beqs] at h
  | _ :: _, [], h => by simp [beqs] at h
  | a :: as, b :: bs, h => by
    rw [beqs, Bool.and_eq_true] at h
    rw [eq_of_beq a b h.1, eq_of_beqs as bs h.2]
end
instance : DecidableEq D := fun a b => if h : beq a b = true then .isTrue (eq_of_beq a b h) else .isFalse fun e => h (e ▸ beq_self a)
end D

/-- a cell of the store: a list, a dict by its keys (ep: how often a key was added), an instance of an own class -/
inductive Cell where
  | lst (ds : List D) | dct (ep : Nat) (kvs : List (NestedKey × D)) | ins (c : Str) (fs : List (Str × D))
abbrev Sto := List Cell
abbrev En := List (Option D)

-- a key; a truth is none
mutual
def keyOf : D → Option NestedKey
  | .non => some .none
  | .int i => some (.num i)
  | .str x => some (.text x)
  | .tup ds => (keysOf ds).map .tup
  | .bl _ => none
  | .lst _ => none
  | .ro _ => none
  | .obj _ => none
def keysOf : List D → Option (List NestedKey)
  | [] => some []
  | d :: ds => match keyOf d, keysOf ds with
    | some k, some ks => some (k :: ks)
    | _, _ => none
end
mutual
def ofKey : NestedKey → D
  | .none => .non
  | .num i => .int i
  | .text x => .str x
  | .tup ks => .tup (ofKeys ks)
def ofKeys : List NestedKey → List D
  | [] => []
  | k :: ks => ofKey k :: ofKeys ks
end

-- as the library's data; no object within
mutual
def pyF : D → Option PyData
  | .non => some .none
  | .bl b => some (.bool b)
  | .int i => some (.int i)
  | .str x => some (.str x)
  | .tup ds => (pysF ds).map .tuple
  | .lst ds => (pysF ds).map .list
  | .ro _ => none
  | .obj _ => none
def pysF : List D → Option (List PyData)
  | [] => some []
  | d :: ds => match pyF d, pysF ds with
    | some p, some ps => some (p :: ps)
    | _, _ => none
end
/-- a list: a value, or a cell of the store -/
def lstOf (S : Sto) : D → Option (List D)
  | .lst ds => some ds
  | .obj n => match S[n]? with
    | some (.lst ds) => some ds
    | _ => none
  | _ => none
def seqOf (S : Sto) : D → Option (List D)
  | .tup ds => some ds
  | d => lstOf S d
def pyOf (S : Sto) (d : D) : Option PyData := match d with
  | .obj n => match S[n]? with
    | some (.lst ds) => (pysF ds).map .list
    | _ => none
  | d => pyF d
def eqB (S : Sto) (x y : D) : Option Bool := match pyOf S x, pyOf S y with
  | some a, some b => if SeqAt.shaped a && SeqAt.shaped b then some (PyData.eqv a b) else none
  | _, _ => none
def intOf : D → Option Int
  | .int i => some i
  | _ => none
def intsOf : List D → Option (List Int)
  | [] => some []
  | .int i :: ds => (intsOf ds).map (i :: ·)
  | _ :: _ => none
def blsOf : List D → Option (List Bool)
  | [] => some []
  | .bl i :: ds => (blsOf ds).map (i :: ·)
  | _ :: _ => none
/-- none, truths, ints, texts alone -/
def flatD : D → Bool
  | .non => true | .bl _ => true | .int _ => true | .str _ => true
  | _ => false
/-- a list made: al: a new cell of the store; else a value -/
def mk (al : Bool) (ds : List D) (S : Sto) : D × Sto := if al then (.obj S.length, S ++ [.lst ds]) else (.lst ds, S)

inductive BOp where | add | sub | mul | fdiv | mod | pow
inductive COp where | lt | le | gt | ge | eq | ne | in_ | nin
inductive Ty where | int | bool | str | tuple | list
inductive Bi where | len | min | max | sum | all | tuple | list | int | sorted | sortedSet | vsum | index | count | listZip
  deriving DecidableEq

inductive Tg where | name (i : Nat) | tup (ts : List Tg)
mutual
inductive Ex where
  | var (i : Nat) | con (d : D)
  | tup (es : Exs) | lst (al : Bool) (es : Exs)
  | bin (al : Bool) (o : BOp) (a b : Ex)
  | neg (a : Ex)
  | cmp (o : COp) (a b : Ex)
  | chain (o o' : COp) (a b c : Ex)
  | isN (neg : Bool) (a : Ex)
  | and_ (a b : Ex) | or_ (a b : Ex) | not_ (a : Ex)
  | ite (c a b : Ex)
  | sub (a i : Ex)
  | slice (al : Bool) (a : Ex) (lo hi : Exo) | rev (al : Bool) (a : Ex)
  | call (f : Str) (es : Exs)
  | bi (al : Bool) (f : Bi) (es : Exs)
  | isi (a : Ex) (ts : List Ty)
  | fld (a : Ex) (f : Str)
  | meth (a : Ex) (c m : Str) (es : Exs)
  | new (c : Str) (es : Exs)
  | mget (a k d : Ex)
  | mth (f : Bi) (a b : Ex)
  | isB (neg b : Bool) (a : Ex)
  | dct (ks vs : Exs)
  | lc (al : Bool) (own : List Nat) (it : Itr) (tg : Tg) (ifs : Exo) (elt : Ex)
  | lc2 (al : Bool) (own own1 : List Nat) (it : Itr) (tg : Tg) (it1 : Itr) (tg1 : Tg) (ifs1 : Exo) (elt : Ex)
inductive Exs where | nil | cons (e : Ex) (es : Exs)
inductive Exo where | no | so (e : Ex)
inductive Itr where | of (e : Ex) | range1 (a : Ex) | range2 (a b : Ex) | enum (a : Ex) | zip2 (a b : Ex) | zip3 (a b c : Ex)
end
mutual
inductive SS where
  | asg (t : Tg) (e : Ex)
  | setSub (a i e : Ex)
  | setFld (a : Ex) (f : Str) (e : Ex)
  | append (a e : Ex)
  | extend (a e : Ex)
  | ex (e : Ex)
  | ret (e : Ex) | retN
  | ifs (c : Ex) (a b : SSs)
  | for_ (tg : Tg) (it : Itr) (body : SSs)
  | while_ (c : Ex) (body : SSs)
  | brk | pass
  | bad
inductive SSs where | nil | cons (s : SS) (ss : SSs)
end
inductive Fl where | nx | brk | ret (d : D)

-- targets
mutual
def asgT : Tg → D → En → Option En
  | .name i, d, env => if i < env.length then some (env.set i (some d)) else none
  | .tup ts, .tup ds, env => asgTs ts ds env
  | .tup _, _, _ => none
def asgTs : List Tg → List D → En → Option En
  | [], [], env => some env
  | t :: ts, d :: ds, env => (asgT t d env).bind (asgTs ts ds)
  | _, _, _ => none
end
def wipeE (env : En) : List Nat → En
  | [] => env
  | v :: vs => (wipeE env vs).set v none

def tyIs (S : Sto) : D → Ty → Bool
  | .int _, .int => true
  | .bl _, .int => true
  | .bl _, .bool => true
  | .str _, .str => true
  | .tup _, .tuple => true
  | .lst _, .list => true
  | .obj n, .list => match S[n]? with | some (.lst _) => true | _ => false
  | _, _ => false
/-- kinds are known of all values but instances -/
def kindOk (S : Sto) : D → Bool
  | .ro _ => false
  | .obj n => match S[n]? with | some (.lst _) => true | _ => false
  | _ => true

def binD (al : Bool) (o : BOp) (x y : D) (S : Sto) : Option (D × Sto) := match o, x, y with
  | .add, .int i, .int j => some (.int (i + j), S)
  | .sub, .int i, .int j => some (.int (i - j), S)
  | .mul, .int i, .int j => if i.natAbs < 2 ^ 64 ∨ j.natAbs < 2 ^ 64 then some (.int (i * j), S) else none
  | .fdiv, .int i, .int j => if 0 < j ∧ j < 1073741824 then some (.int (i / j), S) else none
  | .mod, .int i, .int j => if 0 < j then some (.int (i % j), S) else none
  | .pow, .int i, .int j => if 0 ≤ j ∧ j ≤ 1000000 ∧ i.natAbs < 2 ^ 64 then some (.int (i ^ j.toNat), S) else none
  | .add, .tup a, .tup b => if a.length + b.length ≤ 16777216 then some (.tup (a ++ b), S) else none
  | .mul, .tup a, .int j => if a ≠ [] ∧ 1 ≤ j ∧ j ≤ 1000 ∧ a.length ≤ 1000 then some (.tup (List.replicate j.toNat a).flatten, S) else none
  | .add, x, y => match lstOf S x, lstOf S y with
    | some a, some b => if a.length + b.length ≤ 16777216 then some (mk al (a ++ b) S) else none
    | _, _ => none
  | .mul, x, .int j => match lstOf S x with
    | some a => if j.natAbs < 2 ^ 63 ∧ a.length * j.toNat ≤ 16777216 then some (mk al (List.replicate j.toNat a).flatten S) else none
    | _ => none
  | _, _, _ => none

def lexLtD (a b : List D) : Option Bool := match intsOf a, intsOf b with
  | some a, some b => some (HT.lexLt a b)
  | _, _ => none
def atK : List (NestedKey × D) → NestedKey → Option D
  | [], _ => none
  | (k, v) :: r, x => if k = x then some v else atK r x
def putK : List (NestedKey × D) → NestedKey → D → List (NestedKey × D)
  | [], x, v => [(x, v)]
  | (k, u) :: r, x, v => if k = x then (k, v) :: r else (k, u) :: putK r x v
/-- a key that is no text -/
def goodKey (x : D) : Option NestedKey := match x with
  | .str _ => none
  | x => match keyOf x with
    | some k => if k.depth ≤ 8 then some k else none
    | none => none
def inDict (kvs : List (NestedKey × D)) (x : D) : Option Bool := (goodKey x).map fun k => (atK kvs k).isSome
/-- x in a list or tuple: of flat things; or a list of data -/
def inSeq (x : D) (ds : List D) : Option Bool := match pyF x, pysF ds with
  | some d, some es => if SeqAt.shaped d && SeqAt.shaped (.list es) then some (es.any fun z => PyData.eqv z d) else none
  | _, _ => none
def inFlat (x : D) (ds : List D) : Option Bool := if flatD x && ds.all flatD then inSeq x ds else none
def inD (S : Sto) (x y : D) : Option Bool := match y with
  | .obj n => match S[n]? with
    | some (.lst ds) => inSeq x ds
    | some (.dct _ kvs) => inDict kvs x
    | _ => none
  | .lst ds => inSeq x ds
  | .tup ds => inFlat x ds
  | _ => none
def cmpD (o : COp) (x y : D) (S : Sto) : Option Bool := match o with
  | .lt => match x, y with
    | .int i, .int j => some (decide (i < j))
    | .tup a, .tup b => lexLtD a b
    | _, _ => none
  | .le => match x, y with
    | .int i, .int j => some (decide (i ≤ j))
    | _, _ => none
  | .gt => match x, y with
    | .int i, .int j => some (decide (j < i))
    | _, _ => none
  | .ge => match x, y with
    | .int i, .int j => some (decide (j ≤ i))
    | _, _ => none
  | .eq => eqB S x y
  | .ne => (eqB S x y).map (!·)
  | .in_ => inD S x y
  | .nin => (inD S x y).map (!·)

def dictAt (S : Sto) : D → Option (Nat × List (NestedKey × D))
  | .obj n => match S[n]? with
    | some (.dct _ kvs) => some (n, kvs)
    | _ => none
  | _ => none
def subD (S : Sto) (x i : D) : Option D := match seqOf S x with
  | some ds => match i with
    | .int i => L2.atI ds i
    | _ => none
  | none => match dictAt S x, goodKey i with
    | some (_, kvs), some k => atK kvs k
    | _, _ => none
def cutD (ds : List D) (lo hi : Option Int) : List D := (ds.drop (HT.sIx ds.length 0 lo)).take (HT.sIx ds.length ds.length hi - HT.sIx ds.length 0 lo)
def sliceD (al : Bool) (S : Sto) (x : D) (lo hi : Option Int) : Option (D × Sto) := match x with
  | .tup ds => some (.tup (cutD ds lo hi), S)
  | .ro ds => some (mk al (cutD ds lo hi) S)
  | x => (lstOf S x).map fun ds => mk al (cutD ds lo hi) S
def revD (al : Bool) (S : Sto) (x : D) : Option (D × Sto) := match x with
  | .tup ds => some (.tup ds.reverse, S)
  | x => (lstOf S x).map fun ds => mk al ds.reverse S

def minL : List Int → Option Int
  | [] => none
  | x :: xs => some (xs.foldl min x)
def maxL : List Int → Option Int
  | [] => none
  | x :: xs => some (xs.foldl max x)
def sortI (is : List Int) : List Int := is.mergeSort fun a b => decide (a ≤ b)
/-- lists of ints in order as tuples -/
def lexLe (a b : List Int) : Bool := !decide (b < a)
def sortT (ts : List (List Int)) : List (List Int) := ts.mergeSort lexLe
def tupInts : List D → Option (List (List Int))
  | [] => some []
  | .tup a :: ds => match intsOf a, tupInts ds with
    | some i, some r => some (i :: r)
    | _, _ => none
  | _ :: _ => none
def ofTup (a : List Int) : D := .tup (a.map .int)
/-- all of one length, which is 1 at least -/
def oneLen : List (List Int) → Bool
  | [] => true
  | a :: as => !a.isEmpty && as.all fun b => b.length == a.length
def sortD (ds : List D) : Option (List D) := match intsOf ds with
  | some is => some ((sortI is).map .int)
  | none => match tupInts ds with
    | some ts => if oneLen ts then some ((sortT ts).map ofTup) else none
    | none => none
def dedupI : List Int → List Int
  | [] => []
  | x :: xs => if x ∈ xs then dedupI xs else x :: dedupI xs
def dedupT : List (List Int) → List (List Int)
  | [] => []
  | x :: xs => if x ∈ xs then dedupT xs else x :: dedupT xs
def sortSetD (ds : List D) : Option (List D) := match intsOf ds with
  | some is => if is.length < 4096 then some ((sortI (dedupI is)).map .int) else none
  | none => match tupInts ds with
    | some ts => if oneLen ts && decide (ts.length < 64) then some ((sortT (dedupT ts)).map ofTup) else none
    | none => none
def zipT (a b : List D) : List D := (a.zip b).map fun p => .tup [p.1, p.2]
abbrev R (α : Type) := Option (α × Sto)
def bLen (S : Sto) : List D → R D
  | [x] => (seqOf S x).map fun ds => (.int ds.length, S)
  | _ => none
def bMin (S : Sto) : List D → R D
  | [x] => (((seqOf S x).bind intsOf).bind minL).map fun m => (.int m, S)
  | _ => none
def bMax (S : Sto) : List D → R D
  | [x] => (((seqOf S x).bind intsOf).bind maxL).map fun m => (.int m, S)
  | _ => none
def bSum (S : Sto) : List D → R D
  | [x] => ((lstOf S x).bind intsOf).map fun is => (.int is.sum, S)
  | _ => none
def bAll (S : Sto) : List D → R D
  | [x] => ((lstOf S x).bind blsOf).map fun bs => (.bl (bs.all id), S)
  | _ => none
def bTuple (S : Sto) : List D → R D
  | [x] => (seqOf S x).map fun ds => (.tup ds, S)
  | _ => none
def bList (al : Bool) (S : Sto) : List D → R D
  | [x] => (seqOf S x).map fun ds => mk al ds S
  | _ => none
def bInt (S : Sto) : List D → R D
  | [.int i] => some (.int i, S)
  | [.bl b] => some (.int (if b then 1 else 0), S)
  | _ => none
def sortTD (ds : List D) : Option (List D) := match tupInts ds with
  | some ts => if oneLen ts then some ((sortT ts).map ofTup) else none
  | none => none
def sortSrc (S : Sto) (x : D) : Option (List D) := match lstOf S x with
  | some ds => sortD ds
  | none => match dictAt S x with
    | some p => sortTD (p.2.map fun q => ofKey q.1)
    | none => none
def bSorted (al : Bool) (S : Sto) : List D → R D
  | [x] => (sortSrc S x).map fun ds => mk al ds S
  | _ => none
def bSortedSet (al : Bool) (S : Sto) : List D → R D
  | [x] => ((seqOf S x).bind sortSetD).map fun ds => mk al ds S
  | _ => none
def bVsum (S : Sto) : List D → R D
  | [x] => ((dictAt S x).bind fun p => intsOf (p.2.map Prod.snd)).map fun is => (.int is.sum, S)
  | _ => none
def bIndex (S : Sto) : List D → R D
  | [x, .int j] => ((lstOf S x).bind intsOf).bind fun ns => if j ∈ ns then some (.int (ns.idxOf j), S) else none
  | _ => none
def bCount (S : Sto) : List D → R D
  | [x, .int j] => ((lstOf S x).bind intsOf).map fun ns => (.int (ns.count j), S)
  | _ => none
def bListZip (al : Bool) (S : Sto) : List D → R D
  | [x, y] => match seqOf S x, seqOf S y with
    | some a, some b => some (mk al (zipT a b) S)
    | _, _ => none
  | _ => none
def biD (al : Bool) (f : Bi) (xs : List D) (S : Sto) : R D := match f with
  | .len => bLen S xs
  | .min => bMin S xs
  | .max => bMax S xs
  | .sum => bSum S xs
  | .all => bAll S xs
  | .tuple => bTuple S xs
  | .list => bList al S xs
  | .int => bInt S xs
  | .sorted => bSorted al S xs
  | .sortedSet => bSortedSet al S xs
  | .vsum => bVsum S xs
  | .index => bIndex S xs
  | .count => bCount S xs
  | .listZip => bListZip al S xs

/-- what is walked may be a cell: it must stand as it stood -/
abbrev Src := List (Nat × Cell)
instance : DecidableEq Cell := fun a b => match a, b with
  | .lst x, .lst y => if h : x = y then .isTrue (by rw [h]) else .isFalse (fun e => h (Cell.lst.inj e))
  | .dct n x, .dct m y => if h : n = m ∧ x = y then .isTrue (by rw [h.1, h.2]) else .isFalse (fun e => h (Cell.dct.inj e))
  | .ins c x, .ins d y => if h : c = d ∧ x = y then .isTrue (by rw [h.1, h.2]) else .isFalse (fun e => h (Cell.ins.inj e))
  | .lst _, .dct _ _ => .isFalse (fun e => nomatch e)
  | .lst _, .ins _ _ => .isFalse (fun e => nomatch e)
  | .dct _ _, .lst _ => .isFalse (fun e => nomatch e)
  | .dct _ _, .ins _ _ => .isFalse (fun e => nomatch e)
  | .ins _ _, .lst _ => .isFalse (fun e => nomatch e)
  | .ins _ _, .dct _ _ => .isFalse (fun e => nomatch e)
def srcOk (src : Src) (S : Sto) : Bool := src.all fun p => decide (S[p.1]? = some p.2)
def srcOf (S : Sto) : D → Src
  | .obj n => match S[n]? with
    | some c => [(n, c)]
    | none => []
  | _ => []
/-- walked: a list, a tuple, a dict by its keys -/
def walkD (S : Sto) (x : D) : Option (List D) := match seqOf S x with
  | some ds => some ds
  | none => (dictAt S x).map fun p => p.2.map fun q => ofKey q.1
def rangeD (lo : Int) : Nat → List D
  | 0 => []
  | n + 1 => .int lo :: rangeD (lo + 1) n
def enumD (i : Int) : List D → List D
  | [] => []
  | d :: ds => .tup [.int i, d] :: enumD (i + 1) ds
def zip3T : List D → List D → List D → List D
  | a :: as, b :: bs, c :: cs => .tup [a, b, c] :: zip3T as bs cs
  | _, _, _ => []

abbrev Orc := Str → List D → Sto → R D
def dctOf : List D → List D → Option (List (NestedKey × D))
  | [], [] => some []
  | k :: ks, v :: vs => match goodKey k, dctOf ks vs with
    | some k, some r => some ((k, v) :: r)
    | _, _ => none
  | _, _ => none
def isiD (S : Sto) (x : D) (ts : List Ty) : Option Bool := if kindOk S x then some (ts.any (tyIs S x)) else none
def fldD (S : Sto) (x : D) (f : Str) : Option D := match x with
  | .obj n => match S[n]? with
    | some (.ins _ fs) => fs.lookup f
    | _ => none
  | _ => none
def clsD (S : Sto) (x : D) : Option Str := match x with
  | .obj n => match S[n]? with
    | some (.ins c _) => some c
    | _ => none
  | _ => none
/-- the evaluator's own words -/
def bnd {α β : Type} (x : Option α) (f : α → Option β) : Option β := match x with
  | some a => f a
  | none => none
@[simp] theorem bnd_some {α β : Type} (a : α) (f : α → Option β) : bnd (some a) f = f a := rfl
@[simp] theorem bnd_none {α β : Type} (f : α → Option β) : bnd none f = none := rfl
theorem bnd_eq {α β : Type} {x : Option α} {f : α → Option β} {b : β} (h : bnd x f = some b) : ∃ a, x = some a ∧ f a = some b := by
  cases x with
  | none => cases h
  | some a => exact ⟨a, rfl, h⟩
def guardB {β : Type} (b : Bool) (x : Option β) : Option β := if b then x else none
theorem guardB_eq {β : Type} {b : Bool} {x : Option β} {y : β} (h : guardB b x = some y) : b = true ∧ x = some y := by
  cases b with
  | false => cases h
  | true => exact ⟨rfl, h⟩
@[simp] theorem guardB_true {β : Type} (x : Option β) : guardB true x = x := rfl
def putFD (f : Str) (v : D) : List (Str × D) → List (Str × D)
  | [] => [(f, v)]
  | (g, u) :: r => if g = f then (g, v) :: r else (g, u) :: putFD f v r
/-- a comprehension's turns -/
def lcGo (src : Src) (asg : D → Option En) (tst : En → Sto → R Bool) (el : En → Sto → R D) : List D → Sto → List D → Option (List D × Sto)
  | [], S, acc => some (acc, S)
  | d :: ds, S, acc => bnd (asg d) fun env => bnd (tst env S) fun (b, S1) =>
    if b then bnd (el env S1) fun (x, S2) => guardB (decide (acc.length < 16777216) && srcOk src S2) (lcGo src asg tst el ds S2 (acc ++ [x]))
    else guardB (srcOk src S1) (lcGo src asg tst el ds S1 acc)
/-- two clauses: the outer turns -/
def lcGo2 (src : Src) (asg : D → Option En) (inner : En → Sto → List D → Option (List D × Sto)) : List D → Sto → List D → Option (List D × Sto)
  | [], S, acc => some (acc, S)
  | d :: ds, S, acc => bnd (asg d) fun env => bnd (inner env S acc) fun (acc1, S1) => guardB (srcOk src S1) (lcGo2 src asg inner ds S1 acc1)
def boolOf : D → Option Bool
  | .bl b => some b
  | _ => none
def optInt : Option D → Option (Option Int)
  | none => some none
  | some (.int i) => some (some i)
  | some _ => none
def rng1 : D → Option (List D)
  | .int j => guardB (decide (j.natAbs < 2 ^ 62)) (some (rangeD 0 j.toNat))
  | _ => none
def rng2 : D → D → Option (List D)
  | .int i, .int j => guardB (decide (i.natAbs < 2 ^ 62 ∧ j.natAbs < 2 ^ 62)) (some (rangeD i (j - i).toNat))
  | _, _ => none

variable (C : Orc)
mutual
def evE : Ex → En → Sto → R D
  | .var i, env, S => match env[i]? with
    | some (some d) => some (d, S)
    | _ => none
  | .con d, _, S => some (d, S)
  | .tup es, env, S => bnd (evs es env S) fun (ds, S1) => some (.tup ds, S1)
  | .lst al es, env, S => bnd (evs es env S) fun (ds, S1) => some (mk al ds S1)
  | .bin al o a b, env, S => bnd (evE a env S) fun (x, S1) => bnd (evE b env S1) fun (y, S2) => binD al o x y S2
  | .neg a, env, S => bnd (evE a env S) fun (x, S1) => match x with
    | .int i => some (.int (-i), S1)
    | _ => none
  | .cmp o a b, env, S => bnd (evE a env S) fun (x, S1) => bnd (evE b env S1) fun (y, S2) => bnd (cmpD o x y S2) fun c => some (.bl c, S2)
  | .chain o o' a b c, env, S => bnd (evE a env S) fun (x, S1) => bnd (evE b env S1) fun (y, S2) => bnd (cmpD o x y S2) fun k =>
    if k then bnd (evE c env S2) fun (z, S3) => bnd (cmpD o' y z S3) fun k' => some (.bl k', S3) else some (.bl false, S2)
  | .isN neg a, env, S => bnd (evE a env S) fun (x, S1) => some (.bl (if neg then !decide (x = .non) else decide (x = .non)), S1)
  | .isB neg b a, env, S => bnd (evE a env S) fun (x, S1) => bnd (boolOf x) fun k => some (.bl (if neg then k != b else k == b), S1)
  | .and_ a b, env, S => bnd (evE a env S) fun (x, S1) => bnd (boolOf x) fun k => if k then evE b env S1 else some (.bl false, S1)
  | .or_ a b, env, S => bnd (evE a env S) fun (x, S1) => bnd (boolOf x) fun k => if k then some (.bl true, S1) else evE b env S1
  | .not_ a, env, S => bnd (evE a env S) fun (x, S1) => bnd (boolOf x) fun k => some (.bl (!k), S1)
  | .ite c a b, env, S => bnd (evE c env S) fun (x, S1) => bnd (boolOf x) fun k => if k then evE a env S1 else evE b env S1
  | .sub a i, env, S => bnd (evE a env S) fun (x, S1) => bnd (evE i env S1) fun (y, S2) => bnd (subD S2 x y) fun d => some (d, S2)
  | .slice al a lo hi, env, S => bnd (evE a env S) fun (x, S1) => bnd (evO lo env S1) fun (l, S2) => bnd (evO hi env S2) fun (h, S3) =>
    bnd (optInt l) fun l => bnd (optInt h) fun h => sliceD al S3 x l h
  | .rev al a, env, S => bnd (evE a env S) fun (x, S1) => revD al S1 x
  | .call f es, env, S => bnd (evs es env S) fun (ds, S1) => C f ds S1
  | .bi al f es, env, S => bnd (evs es env S) fun (ds, S1) => biD al f ds S1
  | .isi a ts, env, S => bnd (evE a env S) fun (x, S1) => bnd (isiD S1 x ts) fun b => some (.bl b, S1)
  | .fld a f, env, S => bnd (evE a env S) fun (x, S1) => bnd (fldD S1 x f) fun d => some (d, S1)
  | .meth a c m es, env, S => bnd (evE a env S) fun (x, S1) => guardB (decide (clsD S1 x = some c) && (fldD S1 x m).isNone) (bnd (evs es env S1) fun (ds, S2) => C m (x :: ds) S2)
  | .new c es, env, S => bnd (evs es env S) fun (ds, S1) => bnd (C c (.obj S1.length :: ds) (S1 ++ [.ins c []])) fun (r, S2) =>
    guardB (decide (r = .non)) (some (.obj S1.length, S2))
  | .mth f a b, env, S => bnd (evE a env S) fun (x, S1) => guardB (lstOf S1 x).isSome (bnd (evE b env S1) fun (y, S2) => biD false f [x, y] S2)
  | .mget a k d, env, S => bnd (evE a env S) fun (x, S1) => guardB (dictAt S1 x).isSome <| bnd (evE k env S1) fun (y, S2) => bnd (evE d env S2) fun (z, S3) =>
    bnd (dictAt S3 x) fun (_, kvs) => bnd (goodKey y) fun k => some ((atK kvs k).getD z, S3)
  | .dct ks vs, env, S => bnd (evs ks env S) fun (k, S1) => bnd (evs vs env S1) fun (v, S2) => bnd (dctOf k v) fun kvs => some (.obj S2.length, S2 ++ [.dct kvs.length kvs])
  | .lc al own it tg ifs elt, env, S => bnd (evI it env S) fun (src, ds, S1) =>
    bnd (lcGo src (fun d => asgT tg d (wipeE env own)) (fun env S => evT ifs env S) (fun env S => evE elt env S) ds S1 []) fun (acc, S2) => some (mk al acc S2)
  | .lc2 al own own1 it tg it1 tg1 ifs1 elt, env, S => bnd (evI it env S) fun (src, ds, S1) =>
    bnd (lcGo2 src (fun d => asgT tg d (wipeE env own)) (fun env S acc => bnd (evI it1 env S) fun (src1, ds1, S1) =>
      lcGo src1 (fun d => asgT tg1 d (wipeE env own1)) (fun env S => evT ifs1 env S) (fun env S => evE elt env S) ds1 S1 acc) ds S1 []) fun (acc, S2) => some (mk al acc S2)
def evs : Exs → En → Sto → R (List D)
  | .nil, _, S => some ([], S)
  | .cons e es, env, S => bnd (evE e env S) fun (d, S1) => bnd (evs es env S1) fun (ds, S2) => some (d :: ds, S2)
def evO : Exo → En → Sto → R (Option D)
  | .no, _, S => some (none, S)
  | .so e, env, S => bnd (evE e env S) fun (d, S1) => some (some d, S1)
def evT : Exo → En → Sto → R Bool
  | .no, _, S => some (true, S)
  | .so e, env, S => bnd (evE e env S) fun (d, S1) => bnd (boolOf d) fun b => some (b, S1)
def evI : Itr → En → Sto → Option (Src × List D × Sto)
  | .of e, env, S => bnd (evE e env S) fun (x, S1) => bnd (walkD S1 x) fun ds => some (srcOf S1 x, ds, S1)
  | .range1 a, env, S => bnd (evE a env S) fun (x, S1) => bnd (rng1 x) fun ds => some ([], ds, S1)
  | .range2 a b, env, S => bnd (evE a env S) fun (x, S1) => bnd (evE b env S1) fun (y, S2) => bnd (rng2 x y) fun ds => some ([], ds, S2)
  | .enum a, env, S => bnd (evE a env S) fun (x, S1) => bnd (seqOf S1 x) fun ds => some (srcOf S1 x, enumD 0 ds, S1)
  | .zip2 a b, env, S => bnd (evE a env S) fun (x, S1) => bnd (evE b env S1) fun (y, S2) => bnd (seqOf S2 x) fun xs => bnd (seqOf S2 y) fun ys =>
    some (srcOf S2 x ++ srcOf S2 y, zipT xs ys, S2)
  | .zip3 a b c, env, S => bnd (evE a env S) fun (x, S1) => bnd (evE b env S1) fun (y, S2) => bnd (evE c env S2) fun (z, S3) =>
    bnd (seqOf S3 x) fun xs => bnd (seqOf S3 y) fun ys => bnd (seqOf S3 z) fun zs => some (srcOf S3 x ++ srcOf S3 y ++ srcOf S3 z, zip3T xs ys zs, S3)
end

abbrev RS := Option (Fl × En × Sto)
/-- a for loop's turns -/
def forGo (src : Src) (asg : D → En → Option En) (body : En → Sto → RS) : List D → En → Sto → RS
  | [], env, S => some (.nx, env, S)
  | d :: ds, env, S => bnd (asg d env) fun env1 => bnd (body env1 S) fun (f, env2, S2) => match f with
    | .nx => guardB (srcOk src S2) (forGo src asg body ds env2 S2)
    | .brk => some (.nx, env2, S2)
    | .ret d => some (.ret d, env2, S2)
/-- so many turns at most -/
def whileGo (c : En → Sto → R Bool) (body : En → Sto → RS) : Nat → En → Sto → RS
  | 0, _, _ => none
  | n + 1, env, S => bnd (c env S) fun (b, S1) => if b then bnd (body env S1) fun (f, env2, S2) => match f with
      | .nx => whileGo c body n env2 S2
      | .brk => some (.nx, env2, S2)
      | .ret d => some (.ret d, env2, S2)
    else some (.nx, env, S1)
def setSubD (x i v : D) (S : Sto) : Option Sto := match x with
  | .obj n => match S[n]? with
    | some (.lst ds) => match i with
      | .int i => (L2.ixN ds.length i).map fun j => S.set n (.lst (ds.set j v))
      | _ => none
    | some (.dct ep kvs) => bnd (goodKey i) fun k => guardB (decide (kvs.length < 16777216)) (some (S.set n (.dct (if (atK kvs k).isSome then ep else ep + 1) (putK kvs k v))))
    | _ => none
  | _ => none
def setFldD (x : D) (f : Str) (v : D) (S : Sto) : Option Sto := match x with
  | .obj n => match S[n]? with
    | some (.ins c fs) => guardB (decide (fs.length < 900)) (some (S.set n (.ins c (putFD f v fs))))
    | _ => none
  | _ => none
def appendD (x v : D) (S : Sto) : Option Sto := match x with
  | .obj n => match S[n]? with
    | some (.lst ds) => guardB (decide (ds.length < 16777216)) (some (S.set n (.lst (ds ++ [v]))))
    | _ => none
  | _ => none
def extendD (x v : D) (S : Sto) : Option Sto := match x with
  | .obj n => match S[n]?, lstOf S v with
    | some (.lst ds), some es => guardB (decide (ds.length + es.length ≤ 16777216 ∧ v ≠ .obj n)) (some (S.set n (.lst (ds ++ es))))
    | _, _ => none
  | _ => none
mutual
def exS : SS → En → Sto → RS
  | .asg t e, env, S => bnd (evE C e env S) fun (d, S1) => bnd (asgT t d env) fun env1 => some (.nx, env1, S1)
  | .setSub a i e, env, S => bnd (evE C e env S) fun (v, S1) => bnd (evE C a env S1) fun (x, S2) => bnd (evE C i env S2) fun (y, S3) => bnd (setSubD x y v S3) fun S4 => some (.nx, env, S4)
  | .setFld a f e, env, S => bnd (evE C e env S) fun (v, S1) => bnd (evE C a env S1) fun (x, S2) => bnd (setFldD x f v S2) fun S3 => some (.nx, env, S3)
  | .append a e, env, S => bnd (evE C a env S) fun (x, S1) => guardB (lstOf S1 x).isSome (bnd (evE C e env S1) fun (v, S2) => bnd (appendD x v S2) fun S3 => some (.nx, env, S3))
  | .extend a e, env, S => bnd (evE C a env S) fun (x, S1) => guardB (lstOf S1 x).isSome (bnd (evE C e env S1) fun (v, S2) => bnd (extendD x v S2) fun S3 => some (.nx, env, S3))
  | .ex e, env, S => bnd (evE C e env S) fun (_, S1) => some (.nx, env, S1)
  | .ret e, env, S => bnd (evE C e env S) fun (d, S1) => some (.ret d, env, S1)
  | .retN, env, S => some (.ret .non, env, S)
  | .ifs c a b, env, S => bnd (evE C c env S) fun (x, S1) => bnd (boolOf x) fun k => if k then exSs a env S1 else exSs b env S1
  | .for_ tg it body, env, S => bnd (evI C it env S) fun (src, ds, S1) => forGo src (asgT tg) (fun env S => exSs body env S) ds env S1
  | .while_ c body, env, S => whileGo (fun env S => bnd (evE C c env S) fun (x, S1) => bnd (boolOf x) fun k => some (k, S1)) (fun env S => exSs body env S) 100000 env S
  | .brk, env, S => some (.brk, env, S)
  | .pass, env, S => some (.nx, env, S)
  | .bad, _, _ => none
def exSs : SSs → En → Sto → RS
  | .nil, env, S => some (.nx, env, S)
  | .cons s ss, env, S => bnd (exS s env S) fun (f, env1, S1) => match f with
    | .nx => exSs ss env1 S1
    | f => some (f, env1, S1)
end
/-- a def: how many parameters, how many names, its body -/
structure Fn where
  ps : Nat
  ns : Nat
  body : SSs
def startE (n : Nat) (ds : List D) : En := ds.map some ++ List.replicate (n - ds.length) none
def callK (Γ : Str → Option Fn) : Nat → Orc
  | 0, _, _, _ => none
  | k + 1, f, ds, S => bnd (Γ f) fun fn => guardB (decide (ds.length = fn.ps)) (bnd (exSs (callK Γ k) fn.body (startE fn.ns ds) S) fun (f, _, S1) => match f with
    | .nx => some (.non, S1)
    | .ret d => some (d, S1)
    | .brk => none)
end SL

/-! SLb: how data lies in the abstract heap: RepV, RepC, RepS; the heap's growth Ext. -/
namespace SL
open PySem PySem.Spec PyProof.Rows L2

structure Ctx where
  P : Program
  w : World
  K : PySem.W.Frag
  cl : Str → Option Addr

/-- the cells' addresses; addresses that are filled right now, which nothing names yet -/
structure Rho where
  c : List Addr
  v : List Addr
instance : Membership Addr Rho := ⟨fun ρ a => a ∈ ρ.c ∨ a ∈ ρ.v⟩
instance : HAppend Rho (List Addr) Rho := ⟨fun ρ t => ⟨ρ.c ++ t, ρ.v⟩⟩
theorem mem_rho {a : Addr} {ρ : Rho} : a ∈ ρ ↔ a ∈ ρ.c ∨ a ∈ ρ.v := Iff.rfl
theorem mem_app {a : Addr} {ρ : Rho} {t : List Addr} : a ∈ ρ ++ t ↔ a ∈ ρ ∨ a ∈ t := by
  show (a ∈ ρ.c ++ t ∨ a ∈ ρ.v) ↔ (a ∈ ρ.c ∨ a ∈ ρ.v) ∨ a ∈ t
  rw [List.mem_append]
  constructor
  · rintro ((h | h) | h)
    · exact .inl (.inl h)
    · exact .inr h
    · exact .inl (.inr h)
  · rintro ((h | h) | h)
    · exact .inl (.inl h)
    · exact .inr h
    · exact .inl (.inr h)
/-- a list that nobody changes -/
def FL (K : PySem.W.Frag) (ρ : Rho) (H : Hp) (a : Addr) (vs : List V) : Prop := (Rd H a (.lst vs) ∧ a ∉ ρ) ∨ SqL K (fun _ => none) a vs
-- how data lies
mutual
def RepV (K : PySem.W.Frag) (ρ : Rho) (H : Hp) : D → V → Prop
  | .non, v => v = .non
  | .bl b, v => v = .bl b
  | .int i, v => v = .int i
  | .str x, v => v = .str x
  | .tup ds, v => ∃ a vs, v = .ref a ∧ (H a = some (.tup vs) ∧ a ∉ ρ) ∧ RepVs K ρ H ds vs
  | .lst ds, v => ∃ a vs, v = .ref a ∧ (H a = some (.lst vs) ∧ a ∉ ρ) ∧ RepVs K ρ H ds vs
  | .ro ds, v => ∃ a vs, v = .ref a ∧ FL K ρ H a vs ∧ RepVs K ρ H ds vs
  | .obj n, v => ∃ a, v = .ref a ∧ ρ.c[n]? = some a
def RepVs (K : PySem.W.Frag) (ρ : Rho) (H : Hp) : List D → List V → Prop
  | [], vs => vs = []
  | d :: ds, vs => ∃ v r, vs = v :: r ∧ RepV K ρ H d v ∧ RepVs K ρ H ds r
end
/-- the entries of a dict as they stand in its object -/
def RawD (a : Addr) (es : List DictEntry) (ep : Nat) : HO := .ext fun h => ∃ o, h.get? a = some o ∧ o.ExactDict ∧ o.data = .dict es.toArray ep
def RepEn (T : Ctx) (ρ : Rho) (H : Hp) (p : NestedKey × D) (e : DictEntry) : Prop :=
  e.hash = p.1.hash T.w ∧ p.1.depth ≤ 8 ∧ (∃ kv, RelV kv e.key ∧ RepV T.K ρ H (ofKey p.1) kv) ∧ ∃ vv, RelV vv e.val ∧ RepV T.K ρ H p.2 vv
def RepF (K : PySem.W.Frag) (ρ : Rho) (H : Hp) : List (Str × D) → List (Str × V) → Prop := Paired fun p q => p.1 = q.1 ∧ RepV K ρ H p.2 q.2
def RepC (T : Ctx) (ρ : Rho) (H : Hp) (a : Addr) : Cell → Prop
  | .lst ds => ∃ vs, H a = some (.lst vs) ∧ RepVs T.K ρ H ds vs
  | .dct ep kvs => ∃ es, H a = some (RawD a es ep) ∧ (a == sysModules) = false ∧ kvs.length ≤ sizeLine ∧ (kvs.map (·.1)).Nodup ∧ Paired (RepEn T ρ H) kvs es
  | .ins c fs => ∃ C dx gs, T.cl c = some C ∧ H a = some (.ins C dx gs) ∧ RepF T.K ρ H fs gs
structure RepS (T : Ctx) (ρ : Rho) (S : Sto) (H : Hp) : Prop where
  len : ρ.c.length = S.length
  nd : ρ.c.Nodup
  at_ : ∀ (n : Nat) (c : Cell) (a : Addr), S[n]? = some c → ρ.c[n]? = some a → RepC T ρ H a c
  dj : ∀ a ∈ ρ.c, a ∉ ρ.v
  vt : ∀ a ∈ ρ.v, ∃ o, H a = some o ∧ Mut (some o)
/-- the heap grows: what was tracked outside of the cells stands; new cells were nothing; what is filled right now stands -/
structure Ext (ρ : Rho) (H : Hp) (ρ' : Rho) (H' : Hp) : Prop where
  pre : ∃ t, ρ'.c = ρ.c ++ t
  pv : ρ'.v = ρ.v
  new : ∀ a, a ∈ ρ' → a ∉ ρ → H a = none
  fr : ∀ a o, H a = some o → a ∉ ρ → H' a = some o
  vf : ∀ a o, a ∈ ρ.v → H a = some o → H' a = some o
/-- values that are told by ρ, H are told by ρ', H' -/
structure Kp (ρ : Rho) (H : Hp) (ρ' : Rho) (H' : Hp) : Prop where
  ix : ∀ (n : Nat) (a : Addr), ρ.c[n]? = some a → ρ'.c[n]? = some a
  fr : ∀ a o, H a = some o → a ∉ ρ → H' a = some o ∧ a ∉ ρ'
theorem Ext.refl (ρ : Rho) (H : Hp) : Ext ρ H ρ H := ⟨⟨[], by simp⟩, rfl, fun _ h n => absurd h n, fun _ _ h _ => h, fun _ _ _ h => h⟩
theorem Ext.out {ρ ρ' : Rho} {H H' : Hp} (e : Ext ρ H ρ' H') {a : Addr} {o : HO} (h : H a = some o) (n : a ∉ ρ) : a ∉ ρ' := fun m => by
  rw [e.new a m n] at h
  cases h
theorem Ext.sub {ρ ρ' : Rho} {H H' : Hp} (e : Ext ρ H ρ' H') {a : Addr} (h : a ∈ ρ) : a ∈ ρ' := by
  obtain ⟨t, e1⟩ := e.pre
  rcases h with h | h
  · exact .inl (by rw [e1]; exact List.mem_append_left _ h)
  · exact .inr (by rw [e.pv]; exact h)
theorem Ext.trans {ρ ρ1 ρ2 : Rho} {H H1 H2 : Hp} (e : Ext ρ H ρ1 H1) (f : Ext ρ1 H1 ρ2 H2) : Ext ρ H ρ2 H2 := by
  refine ⟨?_, f.pv.trans e.pv, fun a m n => ?_, fun a o h n => f.fr a o (e.fr a o h n) (e.out h n), fun a o m h => f.vf a o (by rw [e.pv]; exact m) (e.vf a o m h)⟩
  · obtain ⟨t, e1⟩ := e.pre
    obtain ⟨u, e2⟩ := f.pre
    exact ⟨t ++ u, by rw [e2, e1, List.append_assoc]⟩
  · by_cases m1 : a ∈ ρ1
    · exact e.new a m1 n
    · cases q : H a with
      | none => rfl
      | some o =>
        have := f.new a m m1
        rw [e.fr a o q n] at this
        cases this
theorem Ext.ix {ρ ρ' : Rho} {H H' : Hp} (e : Ext ρ H ρ' H') {n : Nat} {a : Addr} (h : ρ.c[n]? = some a) : ρ'.c[n]? = some a := by
  obtain ⟨t, e1⟩ := e.pre
  rw [e1, List.getElem?_append_left (List.getElem?_eq_some_iff.mp h).1]
  exact h
theorem Ext.kp {ρ ρ' : Rho} {H H' : Hp} (e : Ext ρ H ρ' H') : Kp ρ H ρ' H' := ⟨fun _ _ h => e.ix h, fun a o h n => ⟨e.fr a o h n, e.out h n⟩⟩
theorem FL.kp {K : PySem.W.Frag} {ρ ρ' : Rho} {H H' : Hp} (e : Kp ρ H ρ' H') {a : Addr} {vs : List V} (h : FL K ρ H a vs) : FL K ρ' H' a vs := by
  rcases h with ⟨h | ⟨o, h⟩, n⟩ | h
  · exact .inl ⟨.inl (e.fr _ _ h n).1, (e.fr _ _ h n).2⟩
  · exact .inl ⟨.inr ⟨o, (e.fr _ _ h n).1⟩, (e.fr _ _ h n).2⟩
  · exact .inr h
theorem FL.sq {K : PySem.W.Frag} {ρ : Rho} {H : Hp} {a : Addr} {vs : List V} (h : FL K ρ H a vs) : SqL K H a vs := by
  rcases h with ⟨h, _⟩ | h
  · exact .inl h
  · rcases h with (h | ⟨o, h⟩) | h
    · cases h
    · cases h
    · exact .inr h
mutual
theorem RepV.kp {K : PySem.W.Frag} {ρ ρ' : Rho} {H H' : Hp} (e : Kp ρ H ρ' H') : ∀ (d : D) {v : V}, RepV K ρ H d v → RepV K ρ' H' d v
  | .non, _, h => h
  | .bl _, _, h => h
  | .int _, _, h => h
  | .str _, _, h => h
  | .tup ds, _, ⟨a, vs, h1, h2, h3⟩ => ⟨a, vs, h1, e.fr _ _ h2.1 h2.2, RepVs.kp e ds h3⟩
  | .lst ds, _, ⟨a, vs, h1, h2, h3⟩ => ⟨a, vs, h1, e.fr _ _ h2.1 h2.2, RepVs.kp e ds h3⟩
  | .ro ds, _, ⟨a, vs, h1, h2, h3⟩ => ⟨a, vs, h1, h2.kp e, RepVs.kp e ds h3⟩
  | .obj n, _, ⟨a, h1, h2⟩ => ⟨a, h1, e.ix _ _ h2⟩
theorem RepVs.kp {K : PySem.W.Frag} {ρ ρ' : Rho} {H H' : Hp} (e : Kp ρ H ρ' H') : ∀ (ds : List D) {vs : List V}, RepVs K ρ H ds vs → RepVs K ρ' H' ds vs
  | [], _, h => h
  | d :: ds, _, ⟨v, r, h1, h2, h3⟩ => ⟨v, r, h1, RepV.kp e d h2, RepVs.kp e ds h3⟩
end
theorem RepV.mono {K : PySem.W.Frag} {ρ ρ' : Rho} {H H' : Hp} (e : Ext ρ H ρ' H') (d : D) {v : V} (h : RepV K ρ H d v) : RepV K ρ' H' d v := RepV.kp e.kp d h
theorem RepVs.mono {K : PySem.W.Frag} {ρ ρ' : Rho} {H H' : Hp} (e : Ext ρ H ρ' H') (ds : List D) {vs : List V} (h : RepVs K ρ H ds vs) : RepVs K ρ' H' ds vs := RepVs.kp e.kp ds h
theorem RepVs.length {K : PySem.W.Frag} {ρ : Rho} {H : Hp} : ∀ {ds : List D} {vs : List V}, RepVs K ρ H ds vs → ds.length = vs.length
  | [], _, h => by rw [h]; rfl
  | d :: ds, _, ⟨v, r, h1, h2, h3⟩ => by rw [h1, List.length_cons, List.length_cons, RepVs.length h3]
theorem RepVs.get {K : PySem.W.Frag} {ρ : Rho} {H : Hp} : ∀ {ds : List D} {vs : List V} {i : Nat} {d : D}, RepVs K ρ H ds vs → ds[i]? = some d → ∃ v, vs[i]? = some v ∧ RepV K ρ H d v
  | [], _, _, _, _, e => by simp at e
  | d :: ds, _, 0, x, ⟨v, r, h1, h2, h3⟩, e => by
    simp at e
    subst e h1
    exact ⟨v, rfl, h2⟩
  | d :: ds, _, i + 1, x, ⟨v, r, h1, h2, h3⟩, e => by
    subst h1
    obtain ⟨u, e1, e2⟩ := RepVs.get (i := i) h3 (by simpa using e)
    exact ⟨u, by simpa using e1, e2⟩
theorem RepVs.getV {K : PySem.W.Frag} {ρ : Rho} {H : Hp} : ∀ {ds : List D} {vs : List V} {i : Nat} {v : V}, RepVs K ρ H ds vs → vs[i]? = some v → ∃ d, ds[i]? = some d ∧ RepV K ρ H d v
  | [], _, _, _, h, e => by rw [h] at e; simp at e
  | d :: ds, _, 0, x, ⟨v, r, h1, h2, h3⟩, e => by
    subst h1
    simp at e
    subst e
    exact ⟨d, rfl, h2⟩
  | d :: ds, _, i + 1, x, ⟨v, r, h1, h2, h3⟩, e => by
    subst h1
    obtain ⟨u, e1, e2⟩ := RepVs.getV (i := i) h3 (by simpa using e)
    exact ⟨u, by simpa using e1, e2⟩
theorem RepVs.cons {K : PySem.W.Frag} {ρ : Rho} {H : Hp} {d : D} {ds : List D} {v : V} {vs : List V} (h : RepV K ρ H d v) (t : RepVs K ρ H ds vs) : RepVs K ρ H (d :: ds) (v :: vs) := ⟨v, vs, rfl, h, t⟩
theorem RepVs.nil {K : PySem.W.Frag} {ρ : Rho} {H : Hp} : RepVs K ρ H [] [] := rfl
theorem RepVs.append {K : PySem.W.Frag} {ρ : Rho} {H : Hp} : ∀ {ds es : List D} {vs us : List V}, RepVs K ρ H ds vs → RepVs K ρ H es us → RepVs K ρ H (ds ++ es) (vs ++ us)
  | [], _, _, _, h, g => by rw [h]; exact g
  | d :: ds, _, _, _, ⟨v, r, h1, h2, h3⟩, g => by rw [h1]; exact .cons h2 (RepVs.append h3 g)
theorem RepVs.take {K : PySem.W.Frag} {ρ : Rho} {H : Hp} : ∀ {ds : List D} {vs : List V} (n : Nat), RepVs K ρ H ds vs → RepVs K ρ H (ds.take n) (vs.take n)
  | _, _, 0, _ => by simp [RepVs]
  | [], _, n + 1, h => by rw [h]; simp [RepVs]
  | d :: ds, _, n + 1, ⟨v, r, h1, h2, h3⟩ => by rw [h1]; exact .cons h2 (RepVs.take n h3)
theorem RepVs.drop {K : PySem.W.Frag} {ρ : Rho} {H : Hp} : ∀ {ds : List D} {vs : List V} (n : Nat), RepVs K ρ H ds vs → RepVs K ρ H (ds.drop n) (vs.drop n)
  | _, _, 0, h => h
  | [], _, n + 1, h => by rw [h]; simp [RepVs]
  | d :: ds, _, n + 1, ⟨v, r, h1, h2, h3⟩ => by rw [h1]; exact RepVs.drop n h3
theorem RepVs.set {K : PySem.W.Frag} {ρ : Rho} {H : Hp} {d : D} {v : V} (h : RepV K ρ H d v) : ∀ {ds : List D} {vs : List V} (n : Nat), RepVs K ρ H ds vs → RepVs K ρ H (ds.set n d) (vs.set n v)
  | [], _, n, e => by rw [e]; simp [RepVs]
  | _ :: ds, _, 0, ⟨_, r, h1, h2, h3⟩ => by rw [h1]; exact .cons h h3
  | _ :: ds, _, n + 1, ⟨_, r, h1, h2, h3⟩ => by rw [h1]; exact .cons h2 (RepVs.set h n h3)
theorem RepVs.reverse {K : PySem.W.Frag} {ρ : Rho} {H : Hp} : ∀ {ds : List D} {vs : List V}, RepVs K ρ H ds vs → RepVs K ρ H ds.reverse vs.reverse
  | [], _, h => by rw [h]; simp [RepVs]
  | d :: ds, _, ⟨v, r, h1, h2, h3⟩ => by
    rw [h1, List.reverse_cons, List.reverse_cons]
    exact (RepVs.reverse h3).append (.cons h2 .nil)
theorem RepVs.rep {K : PySem.W.Frag} {ρ : Rho} {H : Hp} {ds : List D} {vs : List V} (h : RepVs K ρ H ds vs) : ∀ k : Nat, RepVs K ρ H (List.replicate k ds).flatten (List.replicate k vs).flatten
  | 0 => by simp [RepVs]
  | k + 1 => by
    rw [List.replicate_succ, List.replicate_succ, List.flatten_cons, List.flatten_cons]
    exact h.append (RepVs.rep h k)
theorem RepVs.ints {K : PySem.W.Frag} {ρ : Rho} {H : Hp} : ∀ (is : List Int) {vs : List V}, RepVs K ρ H (is.map .int) vs → vs = is.map V.int
  | [], _, h => h
  | i :: is, _, ⟨v, r, h1, h2, h3⟩ => by rw [h1, RepVs.ints is h3, show v = V.int i from h2]; rfl
theorem RepVs.of_ints {K : PySem.W.Frag} {ρ : Rho} {H : Hp} : ∀ (is : List Int), RepVs K ρ H (is.map .int) (is.map V.int)
  | [] => rfl
  | i :: is => ⟨_, _, rfl, rfl, RepVs.of_ints is⟩
theorem RepVs.bls {K : PySem.W.Frag} {ρ : Rho} {H : Hp} : ∀ (is : List Bool) {vs : List V}, RepVs K ρ H (is.map .bl) vs → vs = is.map V.bl
  | [], _, h => h
  | i :: is, _, ⟨v, r, h1, h2, h3⟩ => by rw [h1, RepVs.bls is h3, show v = V.bl i from h2]; rfl
theorem intsOf_eq : ∀ {ds : List D} {is : List Int}, intsOf ds = some is → ds = is.map .int
  | [], is, h => by cases h; rfl
  | .int i :: ds, is, h => by
    simp only [intsOf, Option.map_eq_some_iff] at h
    obtain ⟨js, e, rfl⟩ := h
    rw [intsOf_eq e]; rfl
  | .non :: _, _, h => by simp [intsOf] at h
  | .bl _ :: _, _, h => by simp [intsOf] at h
  | .str _ :: _, _, h => by simp [intsOf] at h
  | .tup _ :: _, _, h => by simp [intsOf] at h
  | .lst _ :: _, _, h => by simp [intsOf] at h
  | .ro _ :: _, _, h => by simp [intsOf] at h
  | .obj _ :: _, _, h => by simp [intsOf] at h
theorem blsOf_eq : ∀ {ds : List D} {is : List Bool}, blsOf ds = some is → ds = is.map .bl
  | [], is, h => by cases h; rfl
  | .bl i :: ds, is, h => by
    simp only [blsOf, Option.map_eq_some_iff] at h
    obtain ⟨js, e, rfl⟩ := h
    rw [blsOf_eq e]; rfl
  | .non :: _, _, h => by simp [blsOf] at h
  | .int _ :: _, _, h => by simp [blsOf] at h
  | .str _ :: _, _, h => by simp [blsOf] at h
  | .tup _ :: _, _, h => by simp [blsOf] at h
  | .lst _ :: _, _, h => by simp [blsOf] at h
  | .ro _ :: _, _, h => by simp [blsOf] at h
  | .obj _ :: _, _, h => by simp [blsOf] at h
theorem RepEn.kp {T : Ctx} {ρ ρ' : Rho} {H H' : Hp} (e : Kp ρ H ρ' H') {p : NestedKey × D} {en : DictEntry} (h : RepEn T ρ H p en) : RepEn T ρ' H' p en := by
  obtain ⟨h1, h2, ⟨kv, h3, h4⟩, vv, h5, h6⟩ := h
  exact ⟨h1, h2, ⟨kv, h3, h4.kp e⟩, vv, h5, h6.kp e⟩
theorem RepEn.mono {T : Ctx} {ρ ρ' : Rho} {H H' : Hp} (e : Ext ρ H ρ' H') {p : NestedKey × D} {en : DictEntry} (h : RepEn T ρ H p en) : RepEn T ρ' H' p en := h.kp e.kp
/-- a cell at whose address the heap stays -/
theorem RepC.kp {T : Ctx} {ρ ρ' : Rho} {H H' : Hp} (e : Kp ρ H ρ' H') {a : Addr} {c : Cell} (ha : H' a = H a) (h : RepC T ρ H a c) : RepC T ρ' H' a c := by
  cases c with
  | lst ds =>
    obtain ⟨vs, h1, h2⟩ := h
    exact ⟨vs, ha.trans h1, h2.kp e⟩
  | dct ep kvs =>
    obtain ⟨es, h1, h2, h3, h4, h5⟩ := h
    exact ⟨es, ha.trans h1, h2, h3, h4, L2.Paired.mapP h5 fun _ _ h => h.kp e⟩
  | ins c fs =>
    obtain ⟨C, dx, gs, h1, h2, h3⟩ := h
    exact ⟨C, dx, gs, h1, ha.trans h2, L2.Paired.mapP h3 fun _ _ h => ⟨h.1, h.2.kp e⟩⟩
theorem RepC.mono {T : Ctx} {ρ ρ' : Rho} {H H' : Hp} (e : Ext ρ H ρ' H') {a : Addr} {c : Cell} (ha : H' a = H a) (h : RepC T ρ H a c) : RepC T ρ' H' a c := h.kp e.kp ha
theorem RepC.some {T : Ctx} {ρ : Rho} {H : Hp} {a : Addr} {c : Cell} (h : RepC T ρ H a c) : ∃ o, H a = some o ∧ Mut (some o) := by
  cases c with
  | lst ds => obtain ⟨vs, h1, _⟩ := h; exact ⟨_, h1, trivial⟩
  | dct ep kvs => obtain ⟨es, h1, _⟩ := h; exact ⟨_, h1, trivial⟩
  | ins c fs => obtain ⟨C, dx, gs, _, h2, _⟩ := h; exact ⟨_, h2, trivial⟩
section
variable {T : Ctx} {ρ : Rho} {S : Sto} {H : Hp}
theorem RepS.ix (R : RepS T ρ S H) {n : Nat} {c : Cell} (h : S[n]? = some c) : ∃ a, ρ.c[n]? = some a ∧ RepC T ρ H a c := by
  have hl : n < ρ.c.length := by rw [R.len]; exact (List.getElem?_eq_some_iff.mp h).1
  exact ⟨ρ.c[n], List.getElem?_eq_getElem hl, R.at_ n c _ h (List.getElem?_eq_getElem hl)⟩
theorem RepS.memc (R : RepS T ρ S H) {a : Addr} (h : a ∈ ρ.c) : ∃ (n : Nat) (c : Cell), S[n]? = some c ∧ ρ.c[n]? = some a ∧ RepC T ρ H a c := by
  obtain ⟨n, hn⟩ := List.mem_iff_getElem?.mp h
  have hl : n < S.length := by rw [← R.len]; exact (List.getElem?_eq_some_iff.mp hn).1
  exact ⟨n, _, List.getElem?_eq_getElem hl, hn, R.at_ n _ a (List.getElem?_eq_getElem hl) hn⟩
theorem RepS.mem (R : RepS T ρ S H) {a : Addr} (h : a ∈ ρ) : ∃ o, H a = some o ∧ Mut (some o) := by
  rcases h with h | h
  · obtain ⟨_, _, _, _, q⟩ := R.memc h
    exact q.some
  · exact R.vt a h
theorem RepS.fresh (R : RepS T ρ S H) {p : Addr} (h : H p = none) : p ∉ ρ := fun m => by
  obtain ⟨o, e, _⟩ := R.mem m
  rw [h] at e
  cases e
theorem RepS.inc (R : RepS T ρ S H) {n : Nat} {a : Addr} (h : ρ.c[n]? = some a) : a ∈ ρ ∧ a ∉ ρ.v := ⟨.inl (List.mem_of_getElem? h), R.dj a (List.mem_of_getElem? h)⟩
/-- a new object that is no cell -/
theorem ext_new (p : Addr) {o : HO} (h : H p = none) : Ext ρ H ρ (upd H p o) := ⟨⟨[], by simp⟩, rfl, fun _ m n => absurd m n, fun a u e _ => by
  rw [upd_ne (ne_of_none e h)]
  exact e, fun a u _ e => by
  rw [upd_ne (ne_of_none e h)]
  exact e⟩
theorem RepS.new (R : RepS T ρ S H) {p : Addr} {o : HO} (h : H p = none) : RepS T ρ S (upd H p o) :=
  ⟨R.len, R.nd, fun n c a e1 e2 => by
    have q := R.at_ n c a e1 e2
    obtain ⟨u, e, _⟩ := q.some
    exact q.mono (ext_new p h) (upd_ne (ne_of_none e h)), R.dj, fun a m => by
    obtain ⟨u, e, mu⟩ := R.vt a m
    exact ⟨u, by rw [upd_ne (ne_of_none e h)]; exact e, mu⟩⟩
/-- a new cell -/
theorem ext_cell (p : Addr) {o : HO} (h : H p = none) : Ext ρ H (ρ ++ [p]) (upd H p o) := ⟨⟨[p], rfl⟩, rfl, fun a m n => by
  rcases mem_app.mp m with m | m
  · exact absurd m n
  · rw [List.mem_singleton.mp m]; exact h, fun a u e _ => by
  rw [upd_ne (ne_of_none e h)]
  exact e, fun a u _ e => by
  rw [upd_ne (ne_of_none e h)]
  exact e⟩
theorem RepS.cell (R : RepS T ρ S H) {p : Addr} {o : HO} {c : Cell} (h : H p = none) (hc : RepC T (ρ ++ [p]) (upd H p o) p c) : RepS T (ρ ++ [p]) (S ++ [c]) (upd H p o) := by
  refine ⟨by show (ρ.c ++ [p]).length = _; rw [List.length_append, List.length_append, R.len]; rfl, ?_, fun n c' a e1 e2 => ?_, fun a m => ?_, fun a m => ?_⟩
  · refine List.nodup_append.mpr ⟨R.nd, by simp, fun a ha b hb => ?_⟩
    rw [List.mem_singleton.mp hb]
    exact fun e => R.fresh h (e ▸ .inl ha)
  · have e2 : (ρ.c ++ [p])[n]? = some a := e2
    by_cases hn : n < S.length
    · rw [List.getElem?_append_left hn] at e1
      rw [List.getElem?_append_left (by rw [R.len]; exact hn)] at e2
      have q := R.at_ n c' a e1 e2
      obtain ⟨u, e, _⟩ := q.some
      exact q.mono (ext_cell p h) (upd_ne (ne_of_none e h))
    · have hn' : n = S.length := by
        have := (List.getElem?_eq_some_iff.mp e1).1
        rw [List.length_append, List.length_singleton] at this
        omega
      subst hn'
      rw [List.getElem?_append_right (Nat.le_refl _)] at e1
      rw [List.getElem?_append_right (Nat.le_of_eq R.len)] at e2
      simp [R.len] at e1 e2
      subst e1 e2
      exact hc
  · have m : a ∈ ρ.c ++ [p] := m
    rcases List.mem_append.mp m with m | m
    · exact R.dj a m
    · rw [List.mem_singleton.mp m]
      exact fun z => R.fresh h (.inr z)
  · obtain ⟨u, e, mu⟩ := R.vt a m
    exact ⟨u, by rw [upd_ne (ne_of_none e h)]; exact e, mu⟩
/-- a cell is written -/
theorem ext_write {a : Addr} {o : HO} (h : a ∈ ρ ∧ a ∉ ρ.v) : Ext ρ H ρ (upd H a o) := ⟨⟨[], by simp⟩, rfl, fun _ m n => absurd m n, fun b u e n => by
  rw [upd_ne (fun z : b = a => n (by rw [z]; exact h.1))]
  exact e, fun b u m e => by
  rw [upd_ne (fun z : b = a => h.2 (by rw [← z]; exact m))]
  exact e⟩
theorem RepS.write (R : RepS T ρ S H) {a : Addr} {o : HO} {n : Nat} {c : Cell} (hn : ρ.c[n]? = some a) (hc : RepC T ρ (upd H a o) a c) : RepS T ρ (S.set n c) (upd H a o) := by
  have hm := R.inc hn
  refine ⟨by rw [List.length_set]; exact R.len, R.nd, fun m c' b e1 e2 => ?_, R.dj, fun b m => ?_⟩
  · by_cases h : m = n
    · subst h
      rw [hn] at e2
      cases e2
      have hl : m < S.length := by rw [← R.len]; exact (List.getElem?_eq_some_iff.mp hn).1
      rw [List.getElem?_set_self hl] at e1
      cases e1
      exact hc
    · rw [List.getElem?_set_ne (Ne.symm h)] at e1
      have hb : b ≠ a := fun z => by
        subst z
        obtain ⟨h1, e1'⟩ := List.getElem?_eq_some_iff.mp e2
        obtain ⟨h2, e2'⟩ := List.getElem?_eq_some_iff.mp hn
        exact h ((List.getElem_inj R.nd).mp (e1'.trans e2'.symm))
      exact (R.at_ m c' b e1 e2).mono (ext_write hm) (upd_ne hb)
  · obtain ⟨u, e, mu⟩ := R.vt b m
    exact ⟨u, by rw [upd_ne (fun z : b = a => hm.2 (by rw [← z]; exact m))]; exact e, mu⟩
/-! what is filled right now -/
def Rho.pend (ρ : Rho) (p : Addr) : Rho := ⟨ρ.c, p :: ρ.v⟩
theorem pend_mem {p a : Addr} : a ∈ ρ.pend p ↔ a = p ∨ a ∈ ρ := by
  show (a ∈ ρ.c ∨ a ∈ p :: ρ.v) ↔ a = p ∨ (a ∈ ρ.c ∨ a ∈ ρ.v)
  rw [List.mem_cons]
  constructor
  · rintro (h | h | h)
    · exact .inr (.inl h)
    · exact .inl h
    · exact .inr (.inr h)
  · rintro (h | h | h)
    · exact .inr (.inl h)
    · exact .inl h
    · exact .inr (.inr h)
theorem kp_pend {p : Addr} {o : HO} (h : H p = none) : Kp ρ H (ρ.pend p) (upd H p o) := ⟨fun _ _ e => e, fun a u e n => ⟨by
  rw [upd_ne (ne_of_none e h)]
  exact e, fun m => by
  rcases pend_mem.mp m with z | z
  · exact ne_of_none e h z
  · exact n z⟩⟩
theorem RepS.pend (R : RepS T ρ S H) {p : Addr} {vs : List V} (h : H p = none) : RepS T (ρ.pend p) S (upd H p (.lst vs)) := by
  refine ⟨R.len, R.nd, fun n c a e1 e2 => ?_, fun a m z => ?_, fun a m => ?_⟩
  · have q := R.at_ n c a e1 e2
    obtain ⟨u, e, _⟩ := q.some
    exact q.kp (kp_pend h) (upd_ne (ne_of_none e h))
  · rcases List.mem_cons.mp z with z | z
    · exact R.fresh h (z ▸ .inl m)
    · exact R.dj a m z
  · rcases List.mem_cons.mp m with z | z
    · exact ⟨.lst vs, by rw [z]; exact upd_same, trivial⟩
    · obtain ⟨u, e, mu⟩ := R.vt a z
      exact ⟨u, by rw [upd_ne (ne_of_none e h)]; exact e, mu⟩
/-- what is filled gets more -/
theorem kp_fill {p : Addr} {o : HO} (h : p ∈ ρ.v) : Kp ρ H ρ (upd H p o) := ⟨fun _ _ e => e, fun a u e n => ⟨by
  rw [upd_ne (fun z : a = p => n (by rw [z]; exact .inr h))]
  exact e, n⟩⟩
theorem RepS.fill (R : RepS T ρ S H) {p : Addr} {vs : List V} (h : p ∈ ρ.v) : RepS T ρ S (upd H p (.lst vs)) := by
  refine ⟨R.len, R.nd, fun n c a e1 e2 => ?_, R.dj, fun a m => ?_⟩
  · have hne : a ≠ p := fun z => R.dj a (List.mem_of_getElem? e2) (by rw [z]; exact h)
    exact (R.at_ n c a e1 e2).kp (kp_fill h) (upd_ne hne)
  · by_cases z : a = p
    · exact ⟨.lst vs, by rw [z]; exact upd_same, trivial⟩
    · obtain ⟨u, e, mu⟩ := R.vt a m
      exact ⟨u, by rw [upd_ne z]; exact e, mu⟩
/-- it is whole: from now on a value -/
theorem kp_done {p : Addr} : Kp (ρ.pend p) H ρ H := ⟨fun _ _ e => e, fun a u e n => ⟨e, fun m => n (pend_mem.mpr (.inr m))⟩⟩
theorem RepS.done {p : Addr} (R : RepS T (ρ.pend p) S H) : RepS T ρ S H :=
  ⟨R.len, R.nd, fun n c a e1 e2 => (R.at_ n c a e1 e2).kp kp_done rfl, fun a m z => R.dj a m (List.mem_cons_of_mem _ z), fun a m => R.vt a (List.mem_cons_of_mem _ m)⟩
theorem last_ix (R : RepS T ρ S H) (p : Addr) : (ρ ++ [p]).c[S.length]? = some p := by
  show (ρ.c ++ [p])[S.length]? = some p
  rw [List.getElem?_append_right (Nat.le_of_eq R.len)]
  simp [R.len]
/-- .. or a cell -/
theorem kp_doneC {p : Addr} {vs : List V} (h : H p = some (.lst vs)) : Kp (ρ.pend p) H (ρ ++ [p]) H := ⟨fun n a e => by
  have e : ρ.c[n]? = some a := e
  show (ρ.c ++ [p])[n]? = some a
  rw [List.getElem?_append_left (List.getElem?_eq_some_iff.mp e).1]
  exact e, fun a u e n => ⟨e, fun m => by
  rcases mem_app.mp m with m | m
  · exact n (pend_mem.mpr (.inr m))
  · exact n (pend_mem.mpr (.inl (List.mem_singleton.mp m)))⟩⟩
theorem RepS.doneC {p : Addr} {vs : List V} {ds : List D} (R : RepS T (ρ.pend p) S H) (hv : p ∉ ρ.v) (h : H p = some (.lst vs)) (r : RepVs T.K (ρ.pend p) H ds vs) : RepS T (ρ ++ [p]) (S ++ [.lst ds]) H := by
  have hp : p ∉ ρ.c := fun m => R.dj p m List.mem_cons_self
  have hl : ρ.c.length = S.length := R.len
  refine ⟨by show (ρ.c ++ [p]).length = _; rw [List.length_append, List.length_append, hl]; rfl, ?_, fun n c' a e1 e2 => ?_, fun a m => ?_, fun a m => R.vt a (List.mem_cons_of_mem _ m)⟩
  · refine List.nodup_append.mpr ⟨R.nd, by simp, fun a ha b hb => ?_⟩
    rw [List.mem_singleton.mp hb]
    exact fun e => hp (e ▸ ha)
  · have e2 : (ρ.c ++ [p])[n]? = some a := e2
    by_cases hn : n < S.length
    · rw [List.getElem?_append_left hn] at e1
      rw [List.getElem?_append_left (by rw [hl]; exact hn)] at e2
      exact (R.at_ n c' a e1 e2).kp (kp_doneC h) rfl
    · have hn' : n = S.length := by
        have := (List.getElem?_eq_some_iff.mp e1).1
        rw [List.length_append, List.length_singleton] at this
        omega
      subst hn'
      rw [List.getElem?_append_right (Nat.le_refl _)] at e1
      rw [List.getElem?_append_right (Nat.le_of_eq hl)] at e2
      simp [hl] at e1 e2
      subst e1 e2
      exact ⟨vs, h, r.kp (kp_doneC h)⟩
  · have m : a ∈ ρ.c ++ [p] := m
    rcases List.mem_append.mp m with m | m
    · exact fun z => R.dj a m (List.mem_cons_of_mem _ z)
    · rw [List.mem_singleton.mp m]
      exact hv
/-- what is wanted behind an expression -/
def Post (T : Ctx) (ρ : Rho) (H : Hp) (d : D) (S : Sto) (Q : VK) : Prop := ∀ ρ' H' v, Ext ρ H ρ' H' → RepS T ρ' S H' → RepV T.K ρ' H' d v → Q v H'
theorem Post.ext {ρ' : Rho} {H' : Hp} {d : D} {Q : VK} (p : Post T ρ H d S Q) (e : Ext ρ H ρ' H') : Post T ρ' H' d S Q := fun _ _ _ f r v => p _ _ _ (e.trans f) r v
theorem Post.here {d : D} {v : V} {Q : VK} (p : Post T ρ H d S Q) (R : RepS T ρ S H) (h : RepV T.K ρ H d v) : Q v H := p _ _ _ (Ext.refl _ _) R h
theorem Post.tup {ds : List D} {vs : List V} {p : Addr} {Q : VK} (q : Post T ρ H (.tup ds) S Q) (R : RepS T ρ S H) (h : H p = none) (r : RepVs T.K ρ H ds vs) : Q (.ref p) (upd H p (.tup vs)) :=
  q _ _ _ (ext_new p h) (R.new h) ⟨p, vs, rfl, ⟨upd_same, R.fresh h⟩, r.mono (ext_new p h)⟩
theorem Post.mk {al : Bool} {ds : List D} {vs : List V} {p : Addr} {Q : VK} (q : Post T ρ H (mk al ds S).1 (mk al ds S).2 Q) (R : RepS T ρ S H) (h : H p = none) (r : RepVs T.K ρ H ds vs) : Q (.ref p) (upd H p (.lst vs)) := by
  cases al with
  | false => exact q _ _ _ (ext_new p h) (R.new h) ⟨p, vs, rfl, ⟨upd_same, R.fresh h⟩, r.mono (ext_new p h)⟩
  | true => exact q _ _ _ (ext_cell p h) (R.cell h ⟨vs, upd_same, r.mono (ext_cell p h)⟩) ⟨p, rfl, last_ix R p⟩
theorem Post.mk' {al : Bool} {d : D} {S' : Sto} {ds : List D} {vs : List V} {p : Addr} {Q : VK} (q : Post T ρ H d S' Q) (em : SL.mk al ds S = (d, S')) (R : RepS T ρ S H) (h : H p = none) (r : RepVs T.K ρ H ds vs) : Q (.ref p) (upd H p (.lst vs)) := by
  have q' : Post T ρ H (SL.mk al ds S).1 (SL.mk al ds S).2 Q := by rw [em]; exact q
  exact q'.mk R h r
/-- a list that is read -/
theorem lst_at {d : D} {ds : List D} {v : V} (R : RepS T ρ S H) (h : lstOf S d = some ds) (r : RepV T.K ρ H d v) : ∃ a vs, v = .ref a ∧ H a = some (.lst vs) ∧ RepVs T.K ρ H ds vs := by
  cases d with
  | lst es =>
    cases h
    obtain ⟨a, vs, h1, h2, h3⟩ := r
    exact ⟨a, vs, h1, h2.1, h3⟩
  | obj n =>
    obtain ⟨a, h1, h2⟩ := r
    simp only [lstOf] at h
    split at h
    · rename_i es he
      cases h
      obtain ⟨b, e1, vs, e2, e3⟩ := R.ix he
      rw [h2] at e1
      cases e1
      exact ⟨a, vs, h1, e2, e3⟩
    · cases h
  | _ => cases h
theorem seq_at {d : D} {ds : List D} {v : V} (R : RepS T ρ S H) (h : seqOf S d = some ds) (r : RepV T.K ρ H d v) : ∃ a vs, v = .ref a ∧ (H a = some (.lst vs) ∨ H a = some (.tup vs)) ∧ RepVs T.K ρ H ds vs := by
  cases d with
  | tup es =>
    cases h
    obtain ⟨a, vs, h1, h2, h3⟩ := r
    exact ⟨a, vs, h1, .inr h2.1, h3⟩
  | _ =>
    obtain ⟨a, vs, h1, h2, h3⟩ := lst_at R (by simpa [seqOf] using h) r
    exact ⟨a, vs, h1, .inl h2, h3⟩
theorem sq_of {K : PySem.W.Frag} {a : Addr} {vs : List V} (h : H a = some (.lst vs) ∨ H a = some (.tup vs)) : SqL K H a vs ∨ SqT K H a vs := h.imp SqL.of SqT.of
end
end SL

/-! SLc: a dict whose keys are None, whole numbers, tuples of such, side by side: found, read, stored. -/
namespace SL
open PySem PySem.Spec PyProof.Rows L2

abbrev X3 := NestedKey × Value × Value
def ent (w : World) (x : X3) : DictEntry := ⟨x.1.hash w, x.2.1, x.2.2⟩
/-- the value is the key -/
def KeyAt (h : Heap) (k : NestedKey) (u : Value) : Prop := NestedIs h k u ∧ k.depth ≤ 8
structure MD (w : World) (h : Heap) (d : Addr) (o : Obj) (es : Array DictEntry) (ep : Nat) (xs : List X3) : Prop where
  ob : h.get? d = some o
  ex : o.ExactDict
  dat : o.data = .dict es ep
  ents : es.toList = xs.map (ent w)
  keys : ∀ x ∈ xs, KeyAt h x.1 x.2.1
  nd : (xs.map (·.1)).Nodup
/-- no text itself -/
def NoText (u : Value) : Prop := ∀ x t, u ≠ .str x t
section
variable {prog : Program} {w : World} {A : Around} {E : Value → Shared → Prop} {s : Shared} {d : Addr} {o : Obj} {es : Array DictEntry} {ep : Nat} {xs : List X3} {k : NestedKey} {u : Value}
theorem MD.at_ (m : MD w s.heap d o es ep xs) (j : Nat) : es[j]? = (xs[j]?).map (ent w) := by
  rw [← Array.getElem?_toList, m.ents, List.getElem?_map]
theorem MD.size (m : MD w s.heap d o es ep xs) : es.size = xs.length := by
  have := congrArg List.length m.ents
  simpa using this
theorem MD.uniq (m : MD w s.heap d o es ep xs) {i j : Nat} {p q : Value × Value} (hi : xs[i]? = some (k, p)) (hj : xs[j]? = some (k, q)) : i = j := by
  have a : (xs.map (·.1))[i]? = some k := by rw [List.getElem?_map, hi]; rfl
  have b : (xs.map (·.1))[j]? = some k := by rw [List.getElem?_map, hj]; rfl
  exact (List.getElem?_inj (List.getElem?_eq_some_iff.mp a).1 m.nd).mp (a.trans b.symm)
theorem MD.eq_at (m : MD w s.heap d o es ep xs) (hu : A.units + 8 < cLine) (hk : KeyAt s.heap k u) {x : X3} (hx : x ∈ xs) {Q : Bool → Shared → Prop} (h : Q (decide (x.1 = k)) s) :
    wpAny (model prog w) A (eqBool x.2.1 u) Q E s := by
  have q := m.keys x hx
  refine eqAt_key x.1 k A s _ _ q.1 hk.1 ?_ _ _ _ _ ?_
  · have h1 := q.2
    have h2 : min x.1.depth k.depth ≤ x.1.depth := Nat.min_le_left _ _
    omega
  · rw [← NestedKey.decide_eq]; exact h
theorem plc_mem {i : Nat} {f : Nat → Option Int} {n : Nat} {z : Int} : i ∈ placesWithHash n f z ↔ i < n ∧ f i = some z := by
  unfold placesWithHash
  rw [List.mem_filter, List.mem_range]
  simp
theorem plc_nodup {f : Nat → Option Int} {n : Nat} {z : Int} : (placesWithHash n f z).Nodup := List.Nodup.sublist List.filter_sublist List.nodup_range
abbrev plc (es : Array DictEntry) (z : Int) : List Nat := placesWithHash es.size (fun i => es[i]?.map (·.hash)) z
theorem MD.plc_in (m : MD w s.heap d o es ep xs) {j : Nat} {p : Value × Value} (h : xs[j]? = some (k, p)) : j ∈ plc es (k.hash w) := by
  refine plc_mem.mpr ⟨by rw [m.size]; exact (List.getElem?_eq_some_iff.mp h).1, ?_⟩
  rw [m.at_, h]
  rfl
theorem MD.plc_get (m : MD w s.heap d o es ep xs) {j : Nat} (h : j ∈ plc es (k.hash w)) : ∃ x, x ∈ xs ∧ xs[j]? = some x ∧ es[j]? = some (ent w x) ∧ (ent w x).hash = k.hash w := by
  obtain ⟨h1, h2⟩ := plc_mem.mp h
  have hl : j < xs.length := by rw [← m.size]; exact h1
  have e : xs[j]? = some xs[j] := List.getElem?_eq_getElem hl
  refine ⟨xs[j], List.getElem_mem hl, e, by rw [m.at_, e]; rfl, ?_⟩
  rw [m.at_, e] at h2
  exact Option.some.inj h2
theorem m_tell (m : MD w s.heap d o es ep xs) (hk : KeyAt s.heap k u) {Q : Bool → Shared → Prop} (h : Q false s) :
    wpAny (model prog w) A (tableMayTell u ((plc es (k.hash w)).filterMap fun i => es[i]?.map (·.key))) Q E s := by
  unfold tableMayTell
  split
  · exact wpAny_pure h
  · refine wpAny_bind (quiet_key k u 8 s hk.1 hk.2 A E _ ?_)
    simp only [Bool.not_true, Bool.false_eq_true, if_false]
    refine wpAny_bind (wpAny_forIn_list _ (fun rest r s' => s' = s ∧ r = (none, ()) ∧ ∀ v ∈ rest, ∃ x ∈ xs, v = x.2.1) _ ?_ ?_ _ _ ⟨rfl, rfl, fun v hv => ?_⟩)
    · rintro y rest r s' ⟨rfl, rfl, hr⟩
      obtain ⟨x, hx, rfl⟩ := hr y List.mem_cons_self
      obtain ⟨q1, q2⟩ := m.keys x hx
      refine wpAny_bind (quiet_key x.1 _ 8 s' q1 q2 A E _ ?_)
      simp only [Bool.not_true, Bool.false_eq_true, if_false]
      exact wpAny_pure ⟨rfl, rfl, fun v hv => hr v (List.mem_cons_of_mem _ hv)⟩
    · rintro r s' ⟨rfl, rfl, _⟩
      exact wpAny_pure h
    · obtain ⟨i, hi, e⟩ := List.mem_filterMap.mp hv
      obtain ⟨x, hx, _, ex, _⟩ := m.plc_get hi
      rw [ex] at e
      exact ⟨x, hx, (Option.some.inj e).symm⟩
theorem wite {α : Type} {M : Model} {c : Prop} [Decidable c] {a b : Sem α} {Q : α → Shared → Prop} (h1 : c → wpAny M A a Q E s) (h2 : ¬ c → wpAny M A b Q E s) : wpAny M A (if c then a else b) Q E s := by
  by_cases h : c
  · rw [if_pos h]; exact h1 h
  · rw [if_neg h]; exact h2 h
/-- the search of a key among the entries -/
theorem m_find (m : MD w s.heap d o es ep xs) (hu : A.units + 8 < cLine) (hk : KeyAt s.heap k u) (nt : NoText u) {Q : Option Nat → Shared → Prop}
    (h0 : (∀ (j : Nat) (p : Value × Value), xs[j]? ≠ some (k, p)) → Q none s) (h1 : ∀ (j : Nat) (p : Value × Value), xs[j]? = some (k, p) → Q (some j) s) :
    wpAny (model prog w) A (dictFind d u (k.hash w)) Q E s := by
  unfold dictFind
  try with_reducible refine wpAny_holding ?_
  refine wpAny_bind (wpAny_dictEntries m.ob m.dat ?_)
  have hany : ¬ (es.any fun e => e.key == u && e.hash != k.hash w) = true := by
    rw [← Array.any_toList, m.ents, List.any_map, List.any_eq_true]
    rintro ⟨x, hx, hc⟩
    simp only [Function.comp, ent, Bool.and_eq_true, beq_iff_eq, bne_iff_ne, ne_eq] at hc
    have q := (m.keys x hx).1
    rw [hc.1] at q
    exact hc.2 (by rw [NestedIs.inj _ _ _ q hk.1])
  have plain : wpAny (model prog w) A (dictWalkPlain d u (k.hash w) es (plc es (k.hash w))) Q E s := by
    unfold dictWalkPlain
    refine wpAny_bind (wpAny_forIn_list _ (fun rest b s' => s' = s ∧ b = (none, ()) ∧ (∀ i ∈ rest, i ∈ plc es (k.hash w)) ∧ ∀ (j : Nat) (p : Value × Value), xs[j]? = some (k, p) → j ∈ rest) _ ?_ ?_ _ _
      ⟨rfl, rfl, fun _ hi => hi, fun j p hj => m.plc_in hj⟩)
    · rintro i rest b s' ⟨rfl, rfl, hin, hall⟩
      obtain ⟨x, hx, ex, ee, eh⟩ := m.plc_get (hin i List.mem_cons_self)
      have go : x.1 ≠ k → ∀ (j : Nat) (p : Value × Value), xs[j]? = some (k, p) → j ∈ rest := fun ne j p hj => by
        rcases List.mem_cons.mp (hall j p hj) with e | hm
        · subst e
          rw [ex] at hj
          cases hj
          exact absurd rfl ne
        · exact hm
      simp only [ee]
      rw [if_pos (by rw [eh]; exact beq_self_eq_true _)]
      refine wpAny_bind (wpAny_dictEpoch m.ob m.dat (wpAny_bind (m.eq_at hu hk hx (wpAny_bind (wpAny_dictEpoch m.ob m.dat ?_)))))
      rw [if_neg (by simp)]
      by_cases e : x.1 = k
      · rw [decide_eq_true e]
        obtain ⟨k', p⟩ := x
        cases e
        exact wpAny_bind (wpAny_rule (wpAny_pure (wpAny_pure (h1 i p ex))))
      · rw [decide_eq_false e]
        exact wpAny_bind (wpAny_rule (wpAny_pure ⟨rfl, rfl, fun j hj => hin j (List.mem_cons_of_mem _ hj), go e⟩))
    · rintro b s' ⟨rfl, rfl, _, hall⟩
      exact wpAny_pure (h0 fun j p hj => absurd (hall j p hj) (by simp))
  have shape : u = .none ∨ (∃ b, u = .bool b) ∨ (∃ i t, u = .int i t) ∨ ∃ a, u = .ref a := by
    have q := hk.1
    cases q with
    | none => exact .inl rfl
    | bool _ => exact .inr (.inl ⟨_, rfl⟩)
    | int i t => exact .inr (.inr (.inl ⟨_, _, rfl⟩))
    | text x t => exact absurd rfl (nt x t)
    | tup _ _ _ _ => exact .inr (.inr (.inr ⟨_, rfl⟩))
  rcases shape with rfl | ⟨b, rfl⟩ | ⟨i, t, rfl⟩ | ⟨a, rfl⟩
  all_goals
    dsimp only
    refine wite (fun _ => plain) (fun _ => ?_)
    try refine wite (fun z => absurd z hany) (fun _ => ?_)
    refine wite (fun _ => wpAny_bind (wpAny_pure ?_)) (fun _ => wpAny_bind (m_tell m hk ?_))
    all_goals
      rw [if_neg (by simp)]
      refine wpAny_bind (wpAny_forIn_list _ (fun rest b s' => s' = s ∧ rest.Nodup ∧ (∀ i ∈ rest, i ∈ plc es (k.hash w)) ∧ ∃ hit : Option Nat, b = (none, hit) ∧
        ((hit = none ∧ ∀ (j : Nat) (p : Value × Value), xs[j]? = some (k, p) → j ∈ rest) ∨ ∃ (j : Nat) (p : Value × Value), hit = some j ∧ xs[j]? = some (k, p) ∧ j ∉ rest)) _ ?_ ?_ _ _
        ⟨rfl, plc_nodup, fun _ hi => hi, none, rfl, .inl ⟨rfl, fun j p hj => m.plc_in hj⟩⟩)
      · rintro i rest b s' ⟨rfl, hnd, hin, hit, rfl, hH⟩
        obtain ⟨x, hx, ex, ee, eh⟩ := m.plc_get (hin i List.mem_cons_self)
        obtain ⟨hni, hnr⟩ := List.nodup_cons.mp hnd
        simp only [ee]
        rw [if_pos (by rw [eh]; exact beq_self_eq_true _)]
        refine wpAny_bind (wpAny_dictEpoch m.ob m.dat (wpAny_bind (m.eq_at hu hk hx (wpAny_bind (wpAny_dictEpoch m.ob m.dat ?_)))))
        rw [if_neg (by simp)]
        have hin' : ∀ j ∈ rest, j ∈ plc es (k.hash w) := fun j hj => hin j (List.mem_cons_of_mem _ hj)
        by_cases e : x.1 = k
        · rw [decide_eq_true e, if_pos rfl]
          obtain ⟨k', p⟩ := x
          cases e
          have hno : hit = none := by
            rcases hH with ⟨q, _⟩ | ⟨j, p', _, hj, hjn⟩
            · exact q
            · exact absurd (by rw [m.uniq hj ex]; exact List.mem_cons_self) hjn
          subst hno
          simp only [Option.isSome_none, Bool.false_eq_true, if_false]
          refine wpAny_bind (wpAny_rule ?_)
          refine wite (fun _ => wpAny_pure (wpAny_pure (h1 i p ex))) (fun _ => wpAny_pure ⟨rfl, hnr, hin', some i, rfl, .inr ⟨i, p, rfl, ex, hni⟩⟩)
        · rw [decide_eq_false e, if_neg Bool.false_ne_true]
          refine wpAny_bind (wpAny_rule ?_)
          rw [if_neg (by simp)]
          refine wpAny_pure ⟨rfl, hnr, hin', hit, rfl, ?_⟩
          rcases hH with ⟨q, hall⟩ | ⟨j, p', q, hj, hjn⟩
          · refine .inl ⟨q, fun j p hj => ?_⟩
            rcases List.mem_cons.mp (hall j p hj) with z | hm
            · subst z
              rw [ex] at hj
              cases hj
              exact absurd rfl e
            · exact hm
          · exact .inr ⟨j, p', q, hj, fun z => hjn (List.mem_cons_of_mem _ z)⟩
      · rintro b s' ⟨rfl, _, _, hit, rfl, hH⟩
        rcases hH with ⟨rfl, hall⟩ | ⟨j, p', rfl, hj, _⟩
        · exact wpAny_pure (h0 fun j p hj => absurd (hall j p hj) (by simp))
        · exact wpAny_pure (h1 j p' hj)
def lookX : List X3 → NestedKey → Option Value
  | [], _ => none
  | (j, _, v) :: r, k => if j = k then some v else lookX r k
def putX : List X3 → NestedKey → Value → Value → List X3
  | [], k, u, v => [(k, u, v)]
  | (j, u', v') :: r, k, u, v => if j = k then (j, u', v) :: r else (j, u', v') :: putX r k u v
theorem lookX_none : ∀ {xs : List X3} {k : NestedKey}, (∀ (j : Nat) (p : Value × Value), xs[j]? ≠ some (k, p)) → lookX xs k = none
  | [], _, _ => rfl
  | (j, u, v) :: r, k, h => by
    have ne : j ≠ k := fun e => h 0 (u, v) (by rw [e]; rfl)
    rw [lookX, if_neg ne]
    exact lookX_none fun i p q => h (i + 1) p (by simpa using q)
theorem lookX_get : ∀ {xs : List X3} {k : NestedKey} {j : Nat} {p : Value × Value}, (xs.map (·.1)).Nodup → xs[j]? = some (k, p) → lookX xs k = some p.2
  | [], _, _, _, _, h => by simp at h
  | (i, u, v) :: r, k, 0, p, _, h => by
    simp at h
    obtain ⟨rfl, rfl⟩ := h
    rw [lookX, if_pos rfl]
  | (i, u, v) :: r, k, j + 1, p, nd, h => by
    rw [List.map_cons, List.nodup_cons] at nd
    have h' : r[j]? = some (k, p) := by simpa using h
    have ne : i ≠ k := fun e => nd.1 (List.mem_map.mpr ⟨(k, p), List.mem_of_getElem? h', e.symm⟩)
    rw [lookX, if_neg ne]
    exact lookX_get nd.2 h'
theorem putX_none : ∀ {xs : List X3} {k : NestedKey} (u v : Value), (∀ (j : Nat) (p : Value × Value), xs[j]? ≠ some (k, p)) → putX xs k u v = xs ++ [(k, u, v)]
  | [], _, _, _, _ => rfl
  | (j, u', v') :: r, k, u, v, h => by
    have ne : j ≠ k := fun e => h 0 (u', v') (by rw [e]; rfl)
    rw [putX, if_neg ne, putX_none u v fun i p q => h (i + 1) p (by simpa using q)]
    rfl
theorem putX_get (u v : Value) : ∀ {xs : List X3} {k : NestedKey} {j : Nat} {p : Value × Value}, (xs.map (·.1)).Nodup → xs[j]? = some (k, p) →
    (xs.map (ent w)).modify j (fun e => { e with val := v }) = (putX xs k u v).map (ent w) ∧ (putX xs k u v).map (·.1) = xs.map (·.1) ∧ ∀ x ∈ putX xs k u v, ∃ y ∈ xs, x.1 = y.1 ∧ x.2.1 = y.2.1
  | [], _, _, _, _, h => by simp at h
  | (i, u', v') :: r, k, 0, p, _, h => by
    simp at h
    obtain ⟨rfl, rfl⟩ := h
    rw [putX, if_pos rfl]
    refine ⟨rfl, rfl, fun x hx => ?_⟩
    rcases List.mem_cons.mp hx with rfl | hx
    · exact ⟨_, List.mem_cons_self, rfl, rfl⟩
    · exact ⟨x, List.mem_cons_of_mem _ hx, rfl, rfl⟩
  | (i, u', v') :: r, k, j + 1, p, nd, h => by
    rw [List.map_cons, List.nodup_cons] at nd
    have h' : r[j]? = some (k, p) := by simpa using h
    have ne : i ≠ k := fun e => nd.1 (List.mem_map.mpr ⟨(k, p), List.mem_of_getElem? h', e.symm⟩)
    rw [putX, if_neg ne]
    obtain ⟨a, b, c⟩ := putX_get u v nd.2 h'
    refine ⟨?_, by rw [List.map_cons, List.map_cons, b], fun x hx => ?_⟩
    · rw [List.map_cons, List.map_cons, List.modify_succ_cons, a]
    · rcases List.mem_cons.mp hx with rfl | hx
      · exact ⟨_, List.mem_cons_self, rfl, rfl⟩
      · obtain ⟨y, hy, e⟩ := c x hx
        exact ⟨y, List.mem_cons_of_mem _ hy, e⟩
theorem m_get (m : MD w s.heap d o es ep xs) (hu : A.units + 8 < cLine) (hk : KeyAt s.heap k u) (nt : NoText u) {Q : Option Value → Shared → Prop}
    (h : ∀ t, Q (lookX xs k) { s with toks := t }) : wpAny (model prog w) A (dictGet d u) Q E s := by
  unfold dictGet
  try with_reducible refine wpAny_holding ?_
  have hd := hk.2
  refine wpAny_bind (pyHash_key k u A s _ hk.1 (by omega) (wpAny_bind (m_find (s := { s with toks := s.toks + k.draws }) m hu hk nt (fun hno => ?_) fun j p hj => ?_)))
  · have q := h (s.toks + k.draws)
    rw [lookX_none hno] at q
    exact wpAny_pure q
  · have q := h (s.toks + k.draws)
    rw [lookX_get m.nd hj] at q
    refine wpAny_bind (wpAny_dictEntries (s := { s with toks := s.toks + k.draws }) m.ob m.dat ?_)
    rw [m.at_ j, hj]
    exact wpAny_pure q
theorem KeyAt.but {h h' : Heap} (hk : KeyAt h k u) (hd : h.get? d = some o) (hdat : o.data = .dict es ep) (sb : Heap.SameBut d h h') : KeyAt h' k u := by
  refine ⟨NestedIs.at (fun a o' vs n ha hv => (sb.2 a fun e => ?_).trans ha) k u hk.1, hk.2⟩
  subst e
  rw [hd] at ha
  cases ha
  rw [hdat] at hv
  cases hv
theorem m_set {v : Value} (m : MD w s.heap d o es ep xs) (hu : A.units + 8 < cLine) (hk : KeyAt s.heap k u) (nt : NoText u) (hz : xs.length < 16777216) {Q : Unit → Shared → Prop}
    (h : ∀ t h' o' es', MD w h' d o' es' (if (lookX xs k).isSome then ep else ep + 1) (putX xs k u v) → Heap.SameBut d s.heap h' → Q () { s with heap := h', toks := t }) : wpAny (model prog w) A (dictSet d u v) Q E s := by
  unfold dictSet
  try with_reducible refine wpAny_holding ?_
  have hd := hk.2
  refine wpAny_bind (pyHash_key k u A s _ hk.1 (by omega) ?_)
  unfold dictSetHashed
  try with_reducible refine wpAny_holding ?_
  refine wpAny_bind (m_find (s := { s with toks := s.toks + k.draws }) m hu hk nt (fun hno => ?_) fun j p hj => ?_)
  · refine wpAny_bind (wpAny_rule (wpAny_updateDictKeys (hz := by rw [m.size, sizeLine_eq]; omega) (s := { s with toks := s.toks + k.draws }) m.ob m.dat ?_))
    have sb := Heap.SameBut.update (a := d) (f := Obj.mapDictKeys (·.push ⟨k.hash w, u, v⟩)) (h := s.heap)
    refine h _ _ (Obj.mapDictKeys (·.push ⟨k.hash w, u, v⟩) o) (es.push ⟨k.hash w, u, v⟩) ?_ sb
    rw [lookX_none hno, putX_none u v hno]
    refine ⟨Heap.get?_update_self _ m.ob (Obj.isFreed_of_dict (Obj.data_mapDictKeys m.dat _)), m.ex.mapDictKeys _, Obj.data_mapDictKeys m.dat _, ?_, fun x hx => ?_, ?_⟩
    · simp [m.ents, ent]
    · rcases List.mem_append.mp hx with hx | hx
      · exact (m.keys x hx).but m.ob m.dat sb
      · rw [List.mem_singleton.mp hx]
        exact hk.but m.ob m.dat sb
    · rw [List.map_append]
      refine List.nodup_append.mpr ⟨m.nd, by simp, fun a ha b hb => ?_⟩
      simp at hb
      rw [hb]
      rintro rfl
      obtain ⟨x, hx, ex⟩ := List.mem_map.mp ha
      obtain ⟨i, hi⟩ := List.mem_iff_getElem?.mp hx
      exact hno i x.2 (by rw [hi, ← ex])
  · refine wpAny_bind (wpAny_rule (wpAny_bind (wpAny_updateDict (s := { s with toks := s.toks + k.draws }) m.ob m.dat (wpAny_point ?_))))
    have sb := Heap.SameBut.update (a := d) (f := Obj.mapDict (·.modify j fun e => { e with val := v })) (h := s.heap)
    refine h _ _ (Obj.mapDict (·.modify j fun e => { e with val := v }) o) (es.modify j fun e => { e with val := v }) ?_ sb
    rw [lookX_get m.nd hj]
    obtain ⟨e1, e2, e3⟩ := putX_get (w := w) u v m.nd hj
    refine ⟨Heap.get?_update_self _ m.ob (Obj.isFreed_of_dict (Obj.data_mapDict m.dat _)), m.ex.mapDict _, Obj.data_mapDict m.dat _, ?_, fun x hx => ?_, by rw [e2]; exact m.nd⟩
    · rw [← e1, ← m.ents]
      obtain ⟨l⟩ := es
      simp
    · obtain ⟨y, hy, a, b⟩ := e3 x hx
      rw [a, b]
      exact (m.keys y hy).but m.ob m.dat sb
end
end SL

/-! SLd: the operations on data, by values. -/
namespace SL
open PySem PySem.Spec PyProof.Rows L2

abbrev ctx (X : Cx) (cl : Str → Option Addr) : Ctx := ⟨X.prog, X.w, X.K, cl⟩
section
variable {X : Cx} {cl : Str → Option Addr} {k : Nat}
/-- a two-place operation on data -/
def DOp (X : Cx) (cl : Str → Option Addr) (f : Value → Value → Sem Value) (op : D → D → Sto → Option (D × Sto)) : Prop :=
  ∀ (pins : List (Addr × Obj)) (s : Shared) (σ : L2.St) (ρ : Rho) (H : Hp) (S S' : Sto) (x y d : D) (v u : V) (vv uu : Value) (Q : VK), Inv X pins σ H s → RepS (ctx X cl) ρ S H → RepV X.K ρ H x v → RepV X.K ρ H y u → RelV v vv → RelV u uu →
    op x y S = some (d, S') → Post (ctx X cl) ρ H d S' Q → wpAny (model X.prog X.w) X.A (f vv uu) (EP X pins σ Q) X.xe s
def opOf : BOp → Operator
  | .add => .Add | .sub => .Sub | .mul => .Mult | .fdiv => .FloorDiv | .mod => .Mod | .pow => .Pow
theorem cmul_ok {i j : Int} (h : i.natAbs < 2 ^ 64 ∨ j.natAbs < 2 ^ 64) : CMul i j := by
  have h : (-(2 ^ 64) < i ∧ i < 2 ^ 64) ∨ (-(2 ^ 64) < j ∧ j < 2 ^ 64) := by omega
  exact h
theorem line_eq : (sizeLine : Nat) = 16777216 := sizeLine_eq
theorem lists_ne {x y : D} {α : Type} {a : α} : True := trivial
theorem d_list_add {al : Bool} {x y d : D} {S S' : Sto} (h : (match lstOf S x, lstOf S y with
    | some a, some b => if a.length + b.length ≤ 16777216 then some (mk al (a ++ b) S) else none
    | _, _ => none) = some (d, S')) : ∃ a b, lstOf S x = some a ∧ lstOf S y = some b ∧ a.length + b.length ≤ 16777216 ∧ mk al (a ++ b) S = (d, S') := by
  split at h
  · split at h
    · exact ⟨_, _, by assumption, by assumption, by assumption, Option.some.inj h⟩
    · cases h
  · cases h
theorem d_list_mul {al : Bool} {x d : D} {j : Int} {S S' : Sto} (h : (match lstOf S x with
    | some a => if j.natAbs < 2 ^ 63 ∧ a.length * j.toNat ≤ 16777216 then some (mk al (List.replicate j.toNat a).flatten S) else none
    | _ => none) = some (d, S')) : ∃ a, lstOf S x = some a ∧ (-(2 ^ 63) ≤ j ∧ j < 2 ^ 63 ∧ a.length * j.toNat ≤ 16777216) ∧ mk al (List.replicate j.toNat a).flatten S = (d, S') := by
  split at h
  · split at h
    · next h2 => exact ⟨_, by assumption, ⟨by omega, by omega, h2.2⟩, Option.some.inj h⟩
    · cases h
  · cases h
theorem tuple_mul1 (l : Addr) (items : Array Value) (n : Nat) (sl : Array (Option Value)) (dd : Option Addr) (u : Tok) :
    Meets (Builtin.«tuple.__mul__» ⟨[.ref l, .int 1 u], []⟩) (fun _ R s => s.heap.get? l = some { cls := .type "tuple", dict := dd, data := .seq items n, slots := sl } ∧ R (.ok (.ret (Value.ref l))) s) :=
  .of_wp fun prog w A R s h => by
    obtain ⟨hp, g, d, tk, os⟩ := s
    obtain ⟨hl, h⟩ := h
    have f1 := AutoSeq1.idx_int
    wp_walk using wpAny_loadPart' hl
    exact ⟨_, rfl, h⟩
theorem d_bin (al : Bool) (o : BOp) : DOp X cl (binaryOp (opOf o)) (binD al o) := by
  intro pins s σ ρ H S S' x y d v u vv uu Q I R rx ry r1 r2 h q
  have lists : ∀ {x y : D} {v u : V}, RepV X.K ρ H x v → RepV X.K ρ H y u → RelV v vv → RelV u uu → (match lstOf S x, lstOf S y with
    | some a, some b => if a.length + b.length ≤ 16777216 then some (mk al (a ++ b) S) else none
    | _, _ => none) = some (d, S') → wpAny (model X.prog X.w) X.A (binaryOp .Add vv uu) (EP X pins σ Q) X.xe s := fun rx ry r1 r2 h => by
    obtain ⟨a, b, e1, e2, hz, em⟩ := d_list_add h
    obtain ⟨p, vs, rfl, hp, rp⟩ := lst_at R e1 rx
    obtain ⟨p2, us, rfl, hp2, rp2⟩ := lst_at R e2 ry
    exact op_cat pins s σ H _ _ vv uu Q I r1 r2 ⟨p, p2, vs, us, rfl, rfl, hp, hp2, by rw [← rp.length, ← rp2.length, line_eq]; exact hz, fun z hz => q.mk' em R hz (rp.append rp2)⟩
  have muls : ∀ {x : D} {j : Int} {v u : V}, RepV X.K ρ H x v → u = .int j → RelV v vv → RelV u uu → (match lstOf S x with
    | some a => if j.natAbs < 2 ^ 63 ∧ a.length * j.toNat ≤ 16777216 then some (mk al (List.replicate j.toNat a).flatten S) else none
    | _ => none) = some (d, S') → wpAny (model X.prog X.w) X.A (binaryOp .Mult vv uu) (EP X pins σ Q) X.xe s := fun rx ej r1 r2 h => by
    obtain ⟨a, e1, hz, em⟩ := d_list_mul h
    obtain ⟨p, vs, rfl, hp, rp⟩ := lst_at R e1 rx
    exact op_rep pins s σ H _ _ vv uu Q I r1 r2 ⟨p, _, vs, rfl, ej, hp, hz.1, hz.2.1, by rw [← rp.length, line_eq]; exact hz.2.2, fun z hz => q.mk' em R hz (rp.rep _)⟩
  unfold binD at h
  split at h
  · cases h
    exact op_add pins s σ H v u vv uu Q I r1 r2 ⟨_, _, rx, ry, q.here R rfl⟩
  · cases h
    exact op_sub pins s σ H v u vv uu Q I r1 r2 ⟨_, _, rx, ry, q.here R rfl⟩
  · split at h
    · cases h
      exact op_mul pins s σ H v u vv uu Q I r1 r2 ⟨_, _, rx, ry, cmul_ok (by assumption), q.here R rfl⟩
    · cases h
  · split at h
    · cases h
      exact op_fdiv pins s σ H v u vv uu Q I r1 r2 ⟨_, _, rx, ry, by assumption, q.here R rfl⟩
    · cases h
  · split at h
    · cases h
      exact op_mod pins s σ H v u vv uu Q I r1 r2 ⟨_, _, rx, ry, by assumption, q.here R rfl⟩
    · cases h
  · split at h
    · cases h
      exact op_pow pins s σ H v u vv uu Q I r1 r2 ⟨_, _, rx, ry, by assumption, q.here R rfl⟩
    · cases h
  · split at h
    · cases h
      obtain ⟨p, vs, rfl, hp, rp⟩ := rx
      obtain ⟨p2, us, rfl, hp2, rp2⟩ := ry
      refine op_catA pins s σ H _ _ vv uu Q I r1 r2 ⟨p, p2, vs, us, rfl, rfl, .of hp.1, .of hp2.1, by rw [← rp.length, ← rp2.length, line_eq]; assumption, fun e => ?_, fun _ e => ?_, fun _ _ z hz => q.tup R hz (rp.append rp2)⟩
      · subst e
        refine q.here R ⟨p2, us, rfl, hp2, ?_⟩
        have := rp.length
        rw [List.eq_nil_of_length_eq_zero this]
        exact rp2
      · subst e
        refine q.here R ⟨p, vs, rfl, hp, ?_⟩
        have := rp2.length
        rw [List.eq_nil_of_length_eq_zero this, List.append_nil]
        exact rp
    · cases h
  · rename_i a j
    split at h
    · rename_i hc
      cases h
      obtain ⟨p, vs, rfl, hp, rp⟩ := rx
      by_cases h1 : (2 : Int) ≤ j
      · refine op_repT pins s σ H _ _ vv uu Q I r1 r2 ⟨p, _, vs, rfl, ry, .of hp.1, fun e => hc.1 ?_, h1, hc.2.2.1, by rw [← rp.length]; exact hc.2.2.2, fun z hz => q.tup R hz (rp.rep _)⟩
        have := rp.length
        rw [e] at this
        exact List.eq_nil_of_length_eq_zero this
      · have e1 : j = 1 := by omega
        subst e1
        obtain ⟨t, rfl⟩ := (show ∃ t, uu = Value.int 1 t from by rw [show u = V.int 1 from ry] at r2; exact r2)
        obtain rfl : vv = Value.ref p := r1
        obtain ⟨its, rv, ⟨⟨cls, dd, data, sl⟩, ho, hcl, n, hd⟩, hs⟩ := I.tuple (.of hp.1)
        simp only at hcl hd
        subst hcl hd
        refine wpAny_binaryOp_repeat_ref (T := "tuple") (U := "int") (by decide) ⟨_, ho, rfl⟩ (fun s' => typeIs_int s' 1 t) noFill_tuple_mul F.fills_int_mul F.slot_int_rmul repeat_tuple F.slot_int_index.lookup
          (call_meets F.slot_int_rmul (typeIs_int s 1 t) F.entry_int_rmul (F.args_int_rmul_2 _ _) (int_rmul_tuple 1 t p its.toArray n dd sl)
            ⟨ho, rfl, ⟨_, ho, rfl⟩, call_meets F.slot_tuple_mul ⟨_, ho, rfl⟩ F.entry_tuple_mul (F.args_tuple_mul_2 _ _) (tuple_mul1 p its.toArray n sl dd t) ⟨ho, ?_⟩⟩)
        refine ⟨.ref p, H, I, rfl, q.here R ⟨p, vs, rfl, hp, ?_⟩⟩
        have e2 : ∀ z : List D, (List.replicate (1 : Int).toNat z).flatten = z := fun z => by simp
        rw [e2]
        exact rp
    · cases h
  · exact lists rx ry r1 r2 h
  · exact muls rx ry r1 r2 h
  · cases h
-- data as the library reads it
mutual
theorem dp_of {ρ : Rho} {K : PySem.W.Frag} {H : Hp} : ∀ (d : D) {p : PyData} {v : V}, pyF d = some p → RepV K ρ H d v → Dp K H v p
  | .non, _, _, h, r => by cases h; cases r; exact .non
  | .bl b, _, _, h, r => by cases h; cases r; exact .bl b
  | .int b, _, _, h, r => by cases h; cases r; exact .int b
  | .str b, _, _, h, r => by cases h; cases r; exact .str b
  | .tup ds, _, _, h, ⟨a, vs, h1, h2, h3⟩ => by
    simp only [pyF, Option.map_eq_some_iff] at h
    obtain ⟨ps, e, rfl⟩ := h
    subst h1
    exact .tup (.of h2.1) (dps_of ds e h3)
  | .lst ds, _, _, h, ⟨a, vs, h1, h2, h3⟩ => by
    simp only [pyF, Option.map_eq_some_iff] at h
    obtain ⟨ps, e, rfl⟩ := h
    subst h1
    exact .lst (.of h2.1) (dps_of ds e h3)
  | .ro _, _, _, h, _ => by cases h
  | .obj _, _, _, h, _ => by cases h
theorem dps_of {ρ : Rho} {K : PySem.W.Frag} {H : Hp} : ∀ (ds : List D) {ps : List PyData} {vs : List V}, pysF ds = some ps → RepVs K ρ H ds vs → DpAll K H vs ps
  | [], _, _, h, r => by cases h; cases r; exact .nil
  | d :: ds, _, _, h, ⟨v, rr, h1, h2, h3⟩ => by
    subst h1
    unfold pysF at h
    split at h
    · cases h
      exact .cons (dp_of d (by assumption) h2) (dps_of ds (by assumption) h3)
    · cases h
end
theorem dpo_of {T : Ctx} {ρ : Rho} {S : Sto} {H : Hp} {d : D} {p : PyData} {v : V} (R : RepS T ρ S H) (h : pyOf S d = some p) (r : RepV T.K ρ H d v) : Dp T.K H v p := by
  cases d with
  | obj n =>
    simp only [pyOf] at h
    split at h
    · rename_i ds he
      simp only [Option.map_eq_some_iff] at h
      obtain ⟨ps, e, rfl⟩ := h
      obtain ⟨a, vs, rfl, ha, hr⟩ := lst_at R (d := .obj n) (ds := ds) (by simp only [lstOf, he]) r
      exact .lst (.of ha) (dps_of ds e hr)
    · cases h
  | _ => exact dp_of _ h r
theorem eqB_of {S : Sto} {x y : D} {b : Bool} (h : eqB S x y = some b) : ∃ p q, pyOf S x = some p ∧ pyOf S y = some q ∧ SeqAt.shaped p = true ∧ SeqAt.shaped q = true ∧ b = PyData.eqv p q := by
  unfold eqB at h
  split at h
  · split at h
    · rename_i hc
      rw [Bool.and_eq_true] at hc
      exact ⟨_, _, by assumption, by assumption, hc.1, hc.2, (Option.some.inj h).symm⟩
    · cases h
  · cases h
theorem inSeq_of {x : D} {ds : List D} {b : Bool} (h : inSeq x ds = some b) : ∃ p qs, pyF x = some p ∧ pysF ds = some qs ∧ SeqAt.shaped p = true ∧ SeqAt.shaped (.list qs) = true ∧ b = qs.any fun z => PyData.eqv z p := by
  unfold inSeq at h
  split at h
  · split at h
    · rename_i hc
      rw [Bool.and_eq_true] at hc
      exact ⟨_, _, by assumption, by assumption, hc.1, hc.2, (Option.some.inj h).symm⟩
    · cases h
  · cases h
theorem flat_V {K : PySem.W.Frag} {ρ : Rho} {H : Hp} {d : D} {v : V} (h : flatD d = true) (r : RepV K ρ H d v) : flatV v = true := by
  cases d with
  | non => cases r; rfl
  | bl _ => cases r; rfl
  | int _ => cases r; rfl
  | str _ => cases r; rfl
  | _ => cases h
theorem flat_Vs {K : PySem.W.Frag} {ρ : Rho} {H : Hp} : ∀ {ds : List D} {vs : List V}, ds.all flatD = true → RepVs K ρ H ds vs → vs.all flatV = true
  | [], _, _, r => by cases r; rfl
  | d :: ds, _, h, ⟨v, rr, h1, h2, h3⟩ => by
    subst h1
    rw [List.all_cons, Bool.and_eq_true] at h
    rw [List.all_cons, flat_V h.1 h2, flat_Vs h.2 h3]
    rfl
theorem flat_eq {K : PySem.W.Frag} {ρ : Rho} {H : Hp} {d e : D} {v u : V} {p q : PyData} (h : flatD d = true) (h' : flatD e = true) (r : RepV K ρ H d v) (r' : RepV K ρ H e u) (hp : pyF d = some p) (hq : pyF e = some q) : eqV v u = PyData.eqv p q := by
  cases d <;> first | cases h | skip
  all_goals cases e <;> first | cases h' | skip
  all_goals cases r; cases r'; cases hp; cases hq; simp [eqV, PyData.eqv, b2i]
/-! ### keys, dicts -/
mutual
theorem keyOf_ofKey : ∀ k : NestedKey, keyOf (ofKey k) = some k
  | .none => rfl
  | .num _ => rfl
  | .text _ => rfl
  | .tup ks => by
    show (keysOf (ofKeys ks)).map NestedKey.tup = some (.tup ks)
    rw [keysOf_ofKeys ks]
    rfl
theorem keysOf_ofKeys : ∀ ks : List NestedKey, keysOf (ofKeys ks) = some ks
  | [] => rfl
  | k :: ks => by
    rw [ofKeys, keysOf, keyOf_ofKey k, keysOf_ofKeys ks]
end
mutual
theorem ofKey_keyOf : ∀ (d : D) {k : NestedKey}, keyOf d = some k → ofKey k = d
  | .non, _, h => by cases h; rfl
  | .bl _, _, h => by cases h
  | .int _, _, h => by cases h; rfl
  | .str _, _, h => by cases h; rfl
  | .tup ds, _, h => by
    simp only [keyOf, Option.map_eq_some_iff] at h
    obtain ⟨ks, e, rfl⟩ := h
    rw [ofKey, ofKeys_keysOf ds e]
  | .lst _, _, h => by cases h
  | .ro _, _, h => by cases h
  | .obj _, _, h => by cases h
theorem ofKeys_keysOf : ∀ (ds : List D) {ks : List NestedKey}, keysOf ds = some ks → ofKeys ks = ds
  | [], _, h => by cases h; rfl
  | d :: ds, _, h => by
    unfold keysOf at h
    split at h
    · cases h
      rw [ofKeys, ofKey_keyOf d (by assumption), ofKeys_keysOf ds (by assumption)]
    · cases h
end
section
variable {pins : List (Addr × Obj)} {σ : L2.St} {ρ : Rho} {H : Hp} {S : Sto} {s : Shared}
mutual
theorem key_is (I : Inv X pins σ H s) : ∀ (d : D) {k : NestedKey} {v : V} {u : Value}, keyOf d = some k → RepV X.K ρ H d v → RelV v u → NestedIs s.heap k u
  | .non, _, _, _, h, r, q => by cases h; cases r; cases q; exact .none
  | .bl _, _, _, _, h, _, _ => by cases h
  | .int _, _, _, _, h, r, q => by cases h; cases r; obtain ⟨t, rfl⟩ := q; exact .int _ _
  | .str _, _, _, _, h, r, q => by cases h; cases r; obtain ⟨t, rfl⟩ := q; exact .text _ _
  | .tup ds, _, _, _, h, ⟨a, vs, h1, h2, h3⟩, q => by
    simp only [keyOf, Option.map_eq_some_iff] at h
    obtain ⟨ks, e, rfl⟩ := h
    subst h1
    cases q
    obtain ⟨its, rv, ⟨o, ho, hc, n, hd⟩, _⟩ := I.tuple (.of h2.1)
    exact .tup ho hc hd (by simpa using keys_is I ds e h3 rv)
  | .lst _, _, _, _, h, _, _ => by cases h
  | .ro _, _, _, _, h, _, _ => by cases h
  | .obj _, _, _, _, h, _, _ => by cases h
theorem keys_is (I : Inv X pins σ H s) : ∀ (ds : List D) {ks : List NestedKey} {vs : List V} {us : List Value}, keysOf ds = some ks → RepVs X.K ρ H ds vs → Vals vs us → NestedAll s.heap ks us
  | [], _, _, _, h, r, q => by cases h; cases r; cases q; exact .nil
  | d :: ds, _, _, _, h, ⟨v, rr, h1, h2, h3⟩, q => by
    subst h1
    cases q with
    | cons q1 q2 =>
      unfold keysOf at h
      split at h
      · cases h
        exact .cons (key_is I d (by assumption) h2 q1) (keys_is I ds (by assumption) h3 q2)
      · cases h
end
theorem good_key (I : Inv X pins σ H s) {d : D} {k : NestedKey} {v : V} {u : Value} (h : goodKey d = some k) (r : RepV X.K ρ H d v) (q : RelV v u) : KeyAt s.heap k u ∧ NoText u ∧ ofKey k = d := by
  unfold goodKey at h
  split at h
  · cases h
  · rename_i hs
    split at h
    · rename_i k' e
      split at h
      · cases h
        refine ⟨⟨key_is I d e r q, by assumption⟩, fun x t z => ?_, ofKey_keyOf d e⟩
        subst z
        cases d with
        | str y => exact hs y rfl
        | non => cases r; cases q
        | bl _ => cases r; cases q
        | int _ => cases r; obtain ⟨_, q⟩ := q; cases q
        | tup _ => obtain ⟨_, _, rfl, _⟩ := r; cases q
        | lst _ => obtain ⟨_, _, rfl, _⟩ := r; cases q
        | ro _ => obtain ⟨_, _, rfl, _⟩ := r; cases q
        | obj _ => obtain ⟨_, rfl, _⟩ := r; cases q
      · cases h
    · cases h
def RepX (K : PySem.W.Frag) (ρ : Rho) (H : Hp) (p : NestedKey × D) (x : X3) : Prop :=
  p.1 = x.1 ∧ p.1.depth ≤ 8 ∧ (∃ kv, RelV kv x.2.1 ∧ RepV K ρ H (ofKey p.1) kv) ∧ ∃ vv, RelV vv x.2.2 ∧ RepV K ρ H p.2 vv
theorem pairs_x {T : Ctx} : ∀ {kvs : List (NestedKey × D)} {es : List DictEntry}, Paired (RepEn T ρ H) kvs es → ∃ xs : List X3, es = xs.map (ent T.w) ∧ Paired (RepX T.K ρ H) kvs xs
  | _, _, .nil => ⟨[], rfl, .nil⟩
  | _, _, .cons (a := p) (b := e) h t => by
    obtain ⟨xs, e1, e2⟩ := pairs_x t
    obtain ⟨h1, h2, h3, h4⟩ := h
    refine ⟨(p.1, e.key, e.val) :: xs, ?_, .cons ⟨rfl, h2, h3, h4⟩ e2⟩
    rw [List.map_cons, ← e1]
    congr 1
    show e = ⟨p.1.hash T.w, e.key, e.val⟩
    rw [← h1]
theorem x_pairs {T : Ctx} : ∀ {kvs : List (NestedKey × D)} {xs : List X3}, Paired (RepX T.K ρ H) kvs xs → Paired (RepEn T ρ H) kvs (xs.map (ent T.w))
  | _, _, .nil => .nil
  | _, _, .cons h t => .cons ⟨by rw [h.1]; rfl, h.2.1, h.2.2.1, h.2.2.2⟩ (x_pairs t)
theorem x_keys {K : PySem.W.Frag} : ∀ {kvs : List (NestedKey × D)} {xs : List X3}, Paired (RepX K ρ H) kvs xs → kvs.map (·.1) = xs.map (·.1)
  | _, _, .nil => rfl
  | _, _, .cons h t => by rw [List.map_cons, List.map_cons, h.1, x_keys t]
theorem x_look {K : PySem.W.Frag} {k : NestedKey} : ∀ {kvs : List (NestedKey × D)} {xs : List X3}, Paired (RepX K ρ H) kvs xs →
    (atK kvs k = none ∧ lookX xs k = none) ∨ ∃ d v u, atK kvs k = some d ∧ lookX xs k = some u ∧ RelV v u ∧ RepV K ρ H d v
  | _, _, .nil => .inl ⟨rfl, rfl⟩
  | _, _, .cons (a := p) (b := x) h t => by
    obtain ⟨j, d⟩ := p
    obtain ⟨j', ku, vu⟩ := x
    obtain ⟨h1, _, _, v, h3, h4⟩ := h
    simp only at h1
    subst h1
    by_cases e : j = k
    · exact .inr ⟨d, v, vu, by rw [atK, if_pos e], by rw [lookX, if_pos e], h3, h4⟩
    · rw [atK, if_neg e, lookX, if_neg e]
      exact x_look t
theorem x_put {K : PySem.W.Frag} {k : NestedKey} {d : D} {kv v : V} {ku u : Value} (hd : k.depth ≤ 8) (r1 : RelV kv ku) (h1 : RepV K ρ H (ofKey k) kv) (r2 : RelV v u) (h2 : RepV K ρ H d v) : ∀ {kvs : List (NestedKey × D)} {xs : List X3}, Paired (RepX K ρ H) kvs xs →
    Paired (RepX K ρ H) (putK kvs k d) (putX xs k ku u)
  | _, _, .nil => .cons ⟨rfl, hd, ⟨kv, r1, h1⟩, v, r2, h2⟩ .nil
  | _, _, .cons (a := p) (b := x) h t => by
    obtain ⟨j, e⟩ := p
    obtain ⟨j', ku', vu'⟩ := x
    obtain ⟨q1, q2, q3, q4⟩ := h
    simp only at q1
    subst q1
    by_cases z : j = k
    · rw [putK, if_pos z, putX, if_pos z]
      exact .cons ⟨rfl, q2, q3, v, r2, h2⟩ t
    · rw [putK, if_neg z, putX, if_neg z]
      exact .cons ⟨rfl, q2, q3, q4⟩ (x_put hd r1 h1 r2 h2 t)
theorem x_mem {K : PySem.W.Frag} : ∀ {kvs : List (NestedKey × D)} {xs : List X3}, Paired (RepX K ρ H) kvs xs → ∀ x ∈ xs, ∃ p ∈ kvs, RepX K ρ H p x
  | _, _, .nil, _, h => nomatch h
  | _, _, .cons h t, x, hx => by
    rcases List.mem_cons.mp hx with rfl | hx
    · exact ⟨_, List.mem_cons_self, h⟩
    · obtain ⟨p, hp, q⟩ := x_mem t x hx
      exact ⟨p, List.mem_cons_of_mem _ hp, q⟩
/-- a dict of the store, as it stands in the heap -/
theorem md_of (I : Inv X pins σ H s) (R : RepS (ctx X cl) ρ S H) {n ep : Nat} {kvs : List (NestedKey × D)} {a : Addr} (hS : S[n]? = some (.dct ep kvs)) (ha : ρ.c[n]? = some a) :
    ∃ (o : Obj) (es : List DictEntry) (xs : List X3), MD X.w s.heap a o es.toArray ep xs ∧ H a = some (RawD a es ep) ∧ (a == sysModules) = false ∧ kvs.length ≤ sizeLine ∧ (kvs.map (·.1)).Nodup ∧ Paired (RepX X.K ρ H) kvs xs := by
  obtain ⟨es, h1, h2, h3, h4, h5⟩ := R.at_ n _ a hS ha
  obtain ⟨xs, e1, hp⟩ := pairs_x h5
  obtain ⟨o, ho, hx, hd⟩ := (show ∃ o, s.heap.get? a = some o ∧ o.ExactDict ∧ o.data = .dict es.toArray ep from (I.hok a _ h1).1)
  refine ⟨o, es, xs, ⟨ho, hx, hd, by rw [List.toList_toArray]; exact e1, fun x hx => ?_, by rw [← x_keys hp]; exact h4⟩, h1, h2, h3, h4, hp⟩
  obtain ⟨p, _, q1, q2, ⟨kv, q3, q4⟩, _⟩ := x_mem hp x hx
  rw [← q1]
  exact ⟨key_is I _ (keyOf_ofKey _) q4 q3, q2⟩
end
/-! ### comparisons -/
def cOf : COp → CmpOp
  | .lt => .Lt | .le => .LtE | .gt => .Gt | .ge => .GtE | .eq => .Eq | .ne => .NotEq | .in_ => .In | .nin => .NotIn
def DCmp (X : Cx) (cl : Str → Option Addr) (o : COp) : Prop :=
  ∀ (pins : List (Addr × Obj)) (s : Shared) (σ : L2.St) (ρ : Rho) (H : Hp) (S : Sto) (x y : D) (c : Bool) (v u : V) (vv uu : Value) (Q : VK), Inv X pins σ H s → RepS (ctx X cl) ρ S H → RepV X.K ρ H x v → RepV X.K ρ H y u → RelV v vv → RelV u uu →
    cmpD o x y S = some c → Q (.bl c) H → wpAny (model X.prog X.w) X.A (compareOp (cOf o) vv uu) (EP X pins σ Q) X.xe s
section
variable {pins : List (Addr × Obj)} {σ : L2.St} {ρ : Rho} {H : Hp} {S : Sto} {s : Shared} {x y : D} {c : Bool} {v u : V} {vv uu : Value} {Q : VK}
theorem in_seq_list (hr : Room k X.A) (I : Inv X pins σ H s) (rx : RepV X.K ρ H x v) {ds : List D} {a : Addr} {vs : List V} (ha : H a = some (.lst vs)) (hd : RepVs X.K ρ H ds vs) (r1 : RelV v vv) (h : inSeq x ds = some c) :
    (Q (.bl c) H → wpAny (model X.prog X.w) X.A (compareOp .In vv (.ref a)) (EP X pins σ Q) X.xe s) ∧ (Q (.bl (!c)) H → wpAny (model X.prog X.w) X.A (compareOp .NotIn vv (.ref a)) (EP X pins σ Q) X.xe s) := by
  obtain ⟨p, qs, e1, e2, s1, s2, rfl⟩ := inSeq_of h
  have hu : X.A.units + 65 < cLine := by have := hr.un; omega
  exact ⟨fun q => op_inD hu pins s σ H v (.ref a) vv _ Q I r1 rfl ⟨p, qs, dp_of _ e1 rx, .lst (.of ha) (dps_of _ e2 hd), s1, s2, q⟩,
    fun q => op_notInD hu pins s σ H v (.ref a) vv _ Q I r1 rfl ⟨p, qs, dp_of _ e1 rx, .lst (.of ha) (dps_of _ e2 hd), s1, s2, q⟩⟩
theorem any_flat {K : PySem.W.Frag} {x : D} {v : V} {p : PyData} (fx : flatD x = true) (rx : RepV K ρ H x v) (hp : pyF x = some p) : ∀ {ds : List D} {vs : List V} {qs : List PyData}, ds.all flatD = true → RepVs K ρ H ds vs → pysF ds = some qs →
    inV v vs = qs.any fun z => PyData.eqv z p
  | [], _, _, _, r, h => by cases r; cases h; rfl
  | d :: ds, _, _, f, ⟨u, rr, h1, h2, h3⟩, h => by
    subst h1
    unfold pysF at h
    split at h
    · cases h
      rw [List.all_cons, Bool.and_eq_true] at f
      show (eqV u v || inV v rr) = _
      rw [List.any_cons, any_flat fx rx hp f.2 h3 (by assumption), flat_eq f.1 fx h2 rx (by assumption) hp]
    · cases h
theorem in_flat_tup (I : Inv X pins σ H s) (rx : RepV X.K ρ H x v) {ds : List D} {a : Addr} {vs : List V} (ha : H a = some (.tup vs)) (hd : RepVs X.K ρ H ds vs) (r1 : RelV v vv) (h : inFlat x ds = some c) :
    (Q (.bl c) H → wpAny (model X.prog X.w) X.A (compareOp .In vv (.ref a)) (EP X pins σ Q) X.xe s) ∧ (Q (.bl (!c)) H → wpAny (model X.prog X.w) X.A (compareOp .NotIn vv (.ref a)) (EP X pins σ Q) X.xe s) := by
  unfold inFlat at h
  split at h
  · rename_i hf
    rw [Bool.and_eq_true] at hf
    obtain ⟨p, qs, e1, e2, s1, s2, rfl⟩ := inSeq_of h
    have e := any_flat hf.1 rx e1 hf.2 hd e2
    refine ⟨fun q => op_in_seq pins s σ H v (.ref a) vv _ Q I r1 rfl ⟨a, vs, rfl, .inr (.of ha), flat_V hf.1 rx, flat_Vs hf.2 hd, ?_⟩, fun q => op_notIn_seq pins s σ H v (.ref a) vv _ Q I r1 rfl ⟨a, vs, rfl, .inr (.of ha), flat_V hf.1 rx, flat_Vs hf.2 hd, ?_⟩⟩
    · rw [if_neg Bool.false_ne_true, e]; exact q
    · rw [if_pos rfl, e]; exact q
  · cases h
theorem m_contains {prog : Program} {w : World} {A : Around} {E : Value → Shared → Prop} {s : Shared} {d : Addr} {o : Obj} {es : Array DictEntry} {ep : Nat} {xs : List X3} {k : NestedKey} {u : Value} (m : MD w s.heap d o es ep xs) (hu : A.units + 9 < cLine)
    (hk : KeyAt s.heap k u) (nt : NoText u) (hd : (d == sysModules) = false) {Q : Bool → Shared → Prop} (h : ∀ t, Q (lookX xs k).isSome { s with toks := t }) : wpAny (model prog w) A (contains (.ref d) u) Q E s := by
  have ht : s.TypeIs (.ref d) "dict" := ⟨o, m.ob, m.ex.1⟩
  refine wpAny_contains_slot ht F.slot_dict_contains ?_
  refine call_meetsIn F.slot_dict_contains ht F.entry_dict_contains (F.args_dict_contains_2 _ _) (S := fun A' R s' => A' = A ∧ s' = s ∧ ∀ t, R (.ok (.ret (.bool (lookX xs k).isSome))) { s with toks := t }) (fun A' R s' hS => ?_) ⟨rfl, rfl, fun t => wpAny_truthy_bool (h t)⟩
  obtain ⟨rfl, rfl, hq⟩ := hS
  show wpAny _ _ (dictGet d u >>= _) _ _ _
  have hu' : A'.in1.units + 8 < cLine := by show A'.units + 1 + 8 < cLine; omega
  refine wpAny_bind (m_get m hu' hk nt fun t => ?_)
  have q := hq t
  cases hf : lookX xs k with
  | some p =>
    rw [hf] at q
    show wpAny _ _ (ret (.bool true)) _ _ _
    exact wpAny_pure q
  | none =>
    rw [hf] at q
    show wpAny _ _ (Builtin.Dict.pendingKey? d u >>= _) _ _ _
    exact wpAny_bind (wpAny_pendingKey_other hd (wpAny_pure q))
theorem in_dict (hr : Room k X.A) (I : Inv X pins σ H s) (R : RepS (ctx X cl) ρ S H) (rx : RepV X.K ρ H x v) {n ep : Nat} {kvs : List (NestedKey × D)} {a : Addr} (hS : S[n]? = some (.dct ep kvs)) (ha : ρ.c[n]? = some a) (r1 : RelV v vv) (h : inDict kvs x = some c) :
    (Q (.bl c) H → wpAny (model X.prog X.w) X.A (compareOp .In vv (.ref a)) (EP X pins σ Q) X.xe s) ∧ (Q (.bl (!c)) H → wpAny (model X.prog X.w) X.A (compareOp .NotIn vv (.ref a)) (EP X pins σ Q) X.xe s) := by
  unfold inDict at h
  rw [Option.map_eq_some_iff] at h
  obtain ⟨k', e, rfl⟩ := h
  obtain ⟨g1, g2, _⟩ := good_key I e rx r1
  obtain ⟨o, es, xs, m, _, hsm, _, _, hp⟩ := md_of I R hS ha
  have hu : X.A.units + 9 < cLine := by have := hr.un; omega
  have el : (lookX xs k').isSome = (atK kvs k').isSome := by
    rcases x_look (k := k') hp with ⟨e1, e2⟩ | ⟨_, _, _, e1, e2, _⟩
    · rw [e1, e2]; rfl
    · rw [e1, e2]; rfl
  rw [← el]
  constructor
  · intro q
    show wpAny _ _ (do return Value.bool (← contains (.ref a) vv)) _ _ _
    exact wpAny_bind (m_contains m hu g1 g2 hsm fun t => wpAny_pure ⟨.bl _, H, I.tok t, rfl, q⟩)
  · intro q
    show wpAny _ _ (do return Value.bool (!(← contains (.ref a) vv))) _ _ _
    exact wpAny_bind (m_contains m hu g1 g2 hsm fun t => wpAny_pure ⟨.bl _, H, I.tok t, rfl, q⟩)
theorem in_any (hr : Room k X.A) (I : Inv X pins σ H s) (R : RepS (ctx X cl) ρ S H) (rx : RepV X.K ρ H x v) (ry : RepV X.K ρ H y u) (r1 : RelV v vv) (r2 : RelV u uu) (h : inD S x y = some c) :
    (Q (.bl c) H → wpAny (model X.prog X.w) X.A (compareOp .In vv uu) (EP X pins σ Q) X.xe s) ∧ (Q (.bl (!c)) H → wpAny (model X.prog X.w) X.A (compareOp .NotIn vv uu) (EP X pins σ Q) X.xe s) := by
  unfold inD at h
  split at h
  · obtain ⟨a, rfl, ha⟩ := ry
    cases r2
    split at h
    · rename_i ds he
      obtain ⟨b, vs, e1, hb, hd⟩ := lst_at R (d := .obj _) (ds := ds) (by simp only [lstOf, he]) ⟨a, rfl, ha⟩
      cases e1
      exact in_seq_list hr I rx hb hd r1 h
    · exact in_dict hr I R rx (by assumption) ha r1 h
    · cases h
  · obtain ⟨a, vs, rfl, ha, hd⟩ := ry
    cases r2
    exact in_seq_list hr I rx ha.1 hd r1 h
  · obtain ⟨a, vs, rfl, ha, hd⟩ := ry
    cases r2
    exact in_flat_tup I rx ha.1 hd r1 h
  · cases h
end
theorem d_cmp (hr : Room k X.A) (o : COp) : DCmp X cl o := by
  intro pins s σ ρ H S x y c v u vv uu Q I R rx ry r1 r2 h q
  have eqs : ∀ b, eqB S x y = some b → (Q (.bl b) H → wpAny (model X.prog X.w) X.A (compareOp .Eq vv uu) (EP X pins σ Q) X.xe s) ∧ (Q (.bl (!b)) H → wpAny (model X.prog X.w) X.A (compareOp .NotEq vv uu) (EP X pins σ Q) X.xe s) := fun b h => by
    obtain ⟨p, q', e1, e2, s1, s2, rfl⟩ := eqB_of h
    exact ⟨fun z => op_eqD hr.units pins s σ H v u vv uu Q I r1 r2 ⟨p, q', dpo_of R e1 rx, dpo_of R e2 ry, s1, s2, z⟩, fun z => op_neD hr.units pins s σ H v u vv uu Q I r1 r2 ⟨p, q', dpo_of R e1 rx, dpo_of R e2 ry, s1, s2, z⟩⟩
  cases o with
  | lt =>
    simp only [cmpD] at h
    split at h
    · cases h
      exact op_lt pins s σ H v u vv uu Q I r1 r2 ⟨_, _, rx, ry, q⟩
    · obtain ⟨p, vs, rfl, hp, rp⟩ := rx
      obtain ⟨p2, us, rfl, hp2, rp2⟩ := ry
      unfold lexLtD at h
      split at h
      · rename_i a b is js e1 e2
        cases h
        rw [intsOf_eq e1] at rp
        rw [intsOf_eq e2] at rp2
        rw [rp.ints] at hp
        rw [rp2.ints] at hp2
        exact op_ltT hr.units0 pins s σ H _ _ vv uu Q I r1 r2 ⟨p, p2, is, js, rfl, rfl, .of hp.1, .of hp2.1, q⟩
      · cases h
    · cases h
  | le =>
    simp only [cmpD] at h
    split at h
    · cases h
      exact op_le pins s σ H v u vv uu Q I r1 r2 ⟨_, _, rx, ry, q⟩
    · cases h
  | gt =>
    simp only [cmpD] at h
    split at h
    · cases h
      exact op_gt pins s σ H v u vv uu Q I r1 r2 ⟨_, _, rx, ry, q⟩
    · cases h
  | ge =>
    simp only [cmpD] at h
    split at h
    · cases h
      exact op_ge pins s σ H v u vv uu Q I r1 r2 ⟨_, _, rx, ry, q⟩
    · cases h
  | eq => exact (eqs c h).1 q
  | ne =>
    simp only [cmpD, Option.map_eq_some_iff] at h
    obtain ⟨b, h, rfl⟩ := h
    exact (eqs b h).2 q
  | in_ => exact (in_any hr I R rx ry r1 r2 h).1 q
  | nin =>
    simp only [cmpD, Option.map_eq_some_iff] at h
    obtain ⟨b, h, rfl⟩ := h
    exact (in_any hr I R rx ry r1 r2 h).2 q
end
end SL

/-! SLe: readings of the small language's expressions, and the rules PE, PT for each of its words. -/
namespace SL
open PySem PySem.Spec PyProof.Rows L2

/-- the names' values -/
structure RepE (K : PySem.W.Frag) (ρ : Rho) (H : Hp) (env : En) (σ : L2.St) : Prop where
  len : env.length = σ.length
  at_ : ∀ (i : Nat) (d : D), env[i]? = some (some d) → ∃ v, σ[i]? = some (some v) ∧ RepV K ρ H d v
theorem RepE.mono {K : PySem.W.Frag} {ρ ρ' : Rho} {H H' : Hp} {env : En} {σ : L2.St} (E : RepE K ρ H env σ) (e : Ext ρ H ρ' H') : RepE K ρ' H' env σ :=
  ⟨E.len, fun i d h => let ⟨v, h1, h2⟩ := E.at_ i d h; ⟨v, h1, h2.mono e⟩⟩
theorem RepE.set {K : PySem.W.Frag} {ρ : Rho} {H : Hp} {env : En} {σ : L2.St} (E : RepE K ρ H env σ) {d : D} {v : V} (r : RepV K ρ H d v) (n : Nat) : RepE K ρ H (env.set n (some d)) (σ.set n (some v)) := by
  refine ⟨by rw [List.length_set, List.length_set]; exact E.len, fun i e h => ?_⟩
  by_cases hn : n = i
  · subst hn
    by_cases hl : n < env.length
    · rw [List.getElem?_set_self hl] at h
      cases h
      exact ⟨v, by rw [List.getElem?_set_self (by rw [← E.len]; exact hl)], r⟩
    · rw [List.getElem?_eq_none (by rw [List.length_set]; omega)] at h
      cases h
  · rw [List.getElem?_set_ne hn] at h
    rw [List.getElem?_set_ne hn]
    exact E.at_ i e h
theorem RepE.forget {K : PySem.W.Frag} {ρ : Rho} {H : Hp} {env : En} {σ : L2.St} (E : RepE K ρ H env σ) (n : Nat) : RepE K ρ H (env.set n none) (σ.set n none) := by
  refine ⟨by rw [List.length_set, List.length_set]; exact E.len, fun i e h => ?_⟩
  by_cases hn : n = i
  · subst hn
    by_cases hl : n < env.length
    · rw [List.getElem?_set_self hl] at h
      cases h
    · rw [List.getElem?_eq_none (by rw [List.length_set]; omega)] at h
      cases h
  · rw [List.getElem?_set_ne hn] at h
    rw [List.getElem?_set_ne hn]
    exact E.at_ i e h
theorem RepE.wipe {K : PySem.W.Frag} {ρ : Rho} {H : Hp} {env : En} {σ : L2.St} (E : RepE K ρ H env σ) : ∀ l : List Nat, RepE K ρ H (wipeE env l) (L2.wipe σ l)
  | [] => E
  | v :: vs => (RepE.wipe E vs).forget v
/-- a def's promise: what its words come to -/
def spO (T : Ctx) (C : Orc) (f : Str) : Sp := fun vs H Q _ => ∃ ρ S ds d S', RepS T ρ S H ∧ RepVs T.K ρ H ds vs ∧ C f ds S = some (d, S') ∧ Post T ρ H d S' Q

section
variable (X : Cx) (cl : Str → Option Addr) (C : Orc)
def rdE (x : Ex) : TE := fun σ H Q => ∃ ρ env S d S', RepS (ctx X cl) ρ S H ∧ RepE X.K ρ H env σ ∧ evE C x env S = some (d, S') ∧ Post (ctx X cl) ρ H d S' Q
def rdT (x : Ex) : TT := fun σ H Q => ∃ ρ env S b S', RepS (ctx X cl) ρ S H ∧ RepE X.K ρ H env σ ∧ evE C x env S = some (.bl b, S') ∧ ∀ ρ' H', Ext ρ H ρ' H' → RepS (ctx X cl) ρ' S' H' → Q b H'
def rdA (x : Exs) : TA := fun σ H Q => ∃ ρ env S ds S', RepS (ctx X cl) ρ S H ∧ RepE X.K ρ H env σ ∧ evs C x env S = some (ds, S') ∧ ∀ ρ' H' vs, Ext ρ H ρ' H' → RepS (ctx X cl) ρ' S' H' → RepVs X.K ρ' H' ds vs → Q vs H'
def rdO (x : Exo) : TO := fun σ H Q => ∃ ρ env S o l S', RepS (ctx X cl) ρ S H ∧ RepE X.K ρ H env σ ∧ evO C x env S = some (o, S') ∧ optInt o = some l ∧ ∀ ρ' H', Ext ρ H ρ' H' → RepS (ctx X cl) ρ' S' H' → Q l H'
end
theorem pe_wk {X : Cx} {e : Expr} {t t' : TE} (h : PE X e t) (w : ∀ σ H Q, t' σ H Q → t σ H Q) : PE X e t' := ⟨fun pins s σ H Q I q => h.run pins s σ H Q I (w _ _ _ q)⟩
theorem pt_wk {X : Cx} {e : Expr} {t t' : TT} (h : PT X e t) (w : ∀ σ H Q, t' σ H Q → t σ H Q) : PT X e t' := ⟨fun pins s σ H Q I q => h.run pins s σ H Q I (w _ _ _ q)⟩
theorem pw_wk {X : Cx} {e : Expr} {t t' : TT} (h : PW X e t) (w : ∀ σ H Q, t' σ H Q → t σ H Q) : PW X e t' := ⟨fun wh pins s σ H Q I q => h.run wh pins s σ H Q I (w _ _ _ q)⟩
theorem pa_wk {X : Cx} {e : List Expr} {t t' : TA} (h : PA X e t) (w : ∀ σ H Q, t' σ H Q → t σ H Q) : PA X e t' := ⟨fun pos pins s σ H Q I q => h.run pos pins s σ H Q I (w _ _ _ q)⟩
section
variable {X : Cx} {cl : Str → Option Addr} {C : Orc} {σ : L2.St} {H : Hp} {ρ : Rho} {env : En} {S S1 : Sto} {d : D} {x y z : Ex}
theorem step_e {Q : VK} (R : RepS (ctx X cl) ρ S H) (E : RepE X.K ρ H env σ) (e : evE C x env S = some (d, S1))
    (k : ∀ ρ1 H1 v, Ext ρ H ρ1 H1 → RepS (ctx X cl) ρ1 S1 H1 → RepV X.K ρ1 H1 d v → RepE X.K ρ1 H1 env σ → Q v H1) : rdE X cl C x σ H Q :=
  ⟨ρ, env, S, d, S1, R, E, e, fun _ _ _ x1 R1 rv => k _ _ _ x1 R1 rv (E.mono x1)⟩
theorem step_t {Q : Bool → Hp → Prop} {b : Bool} (R : RepS (ctx X cl) ρ S H) (E : RepE X.K ρ H env σ) (e : evE C x env S = some (.bl b, S1))
    (k : ∀ ρ1 H1, Ext ρ H ρ1 H1 → RepS (ctx X cl) ρ1 S1 H1 → RepE X.K ρ1 H1 env σ → Q b H1) : rdT X cl C x σ H Q :=
  ⟨ρ, env, S, b, S1, R, E, e, fun _ _ x1 R1 => k _ _ x1 R1 (E.mono x1)⟩
theorem step_a {Q : List V → Hp → Prop} {xs : Exs} {ds : List D} (R : RepS (ctx X cl) ρ S H) (E : RepE X.K ρ H env σ) (e : evs C xs env S = some (ds, S1))
    (k : ∀ ρ1 H1 vs, Ext ρ H ρ1 H1 → RepS (ctx X cl) ρ1 S1 H1 → RepVs X.K ρ1 H1 ds vs → RepE X.K ρ1 H1 env σ → Q vs H1) : rdA X cl C xs σ H Q :=
  ⟨ρ, env, S, ds, S1, R, E, e, fun _ _ _ x1 R1 rv => k _ _ _ x1 R1 rv (E.mono x1)⟩
theorem boolOf_eq {d : D} {b : Bool} (h : boolOf d = some b) : d = .bl b := by
  cases d <;> first | cases h | skip
  rfl
/-- the two-place operation as HandS has it -/
def rOp (X : Cx) (cl : Str → Option Addr) (op : D → D → Sto → Option (D × Sto)) : R2 := fun v u H Q => ∃ ρ S x y d S', RepS (ctx X cl) ρ S H ∧ RepV X.K ρ H x v ∧ RepV X.K ρ H y u ∧ op x y S = some (d, S') ∧ Post (ctx X cl) ρ H d S' Q
theorem r_bin (al : Bool) (o : BOp) : OpR X (binaryOp (opOf o)) (rOp X cl (binD al o)) := fun pins s σ H v u vv uu Q I r1 r2 ⟨ρ, S, x, y, d, S', R, rx, ry, e, q⟩ =>
  d_bin al o pins s σ ρ H S S' x y d v u vv uu Q I R rx ry r1 r2 e q
def cmpO (o : COp) (x y : D) (S : Sto) : Option (D × Sto) := bnd (cmpD o x y S) fun c => some (.bl c, S)
theorem r_cmp {k : Nat} (hr : Room k X.A) (o : COp) : OpR X (compareOp (cOf o)) (rOp X cl (cmpO o)) := fun pins s σ H v u vv uu Q I r1 r2 ⟨ρ, S, x, y, d, S', R, rx, ry, e, q⟩ => by
  obtain ⟨c, e1, e2⟩ := bnd_eq e
  cases e2
  exact d_cmp hr o pins s σ ρ H S x y c v u vv uu Q I R rx ry r1 r2 e1 (q.here R rfl)

variable {a b c : Expr} {pos : Pos}
theorem e_var {i : Nat} {n : Str} (h : PE X (.Name n pos) (tVar i)) : PE X (.Name n pos) (rdE X cl C (.var i)) := pe_wk h fun σ H Q ⟨ρ, env, S, d, S', R, E, e, q⟩ => by
  simp only [evE] at e
  split at e
  · rename_i d' he
    cases e
    obtain ⟨v, h1, h2⟩ := E.at_ i _ he
    exact ⟨v, h1, q.here R h2⟩
  · cases e
theorem e_con {e : Expr} {d : D} {v : V} (hv : ∀ ρ H, RepV X.K ρ H d v) (h : PE X e (tC v)) : PE X e (rdE X cl C (.con d)) := pe_wk h fun σ H Q ⟨ρ, env, S, d', S', R, E, e, q⟩ => by
  simp only [evE] at e
  cases e
  exact q.here R (hv _ _)
theorem a_nil : PA X [] (rdA X cl C .nil) := pa_wk pa_nil fun σ H Q ⟨ρ, env, S, ds, S', R, E, e, q⟩ => by
  simp only [evs] at e
  cases e
  exact q _ _ _ (Ext.refl _ _) R rfl
theorem a_cons {es : List Expr} {xs : Exs} (ha : PE X a (rdE X cl C x)) (hr : PA X es (rdA X cl C xs)) (hs : starEach (a :: es) X.env = (false, eval a X.env) :: starEach es X.env) : PA X (a :: es) (rdA X cl C (.cons x xs)) :=
  pa_wk (pa_cons ha hr hs) fun σ H Q ⟨ρ, env, S, ds, S', R, E, e, q⟩ => by
    simp only [evs] at e
    obtain ⟨⟨dx, S1⟩, e1, e⟩ := bnd_eq e
    obtain ⟨⟨dy, S2⟩, e2, e⟩ := bnd_eq e
    cases e
    exact step_e R E e1 fun ρ1 H1 v x1 R1 rv E1 => step_a R1 E1 e2 fun ρ2 H2 vs x2 R2 rvs E2 => q _ _ _ (x1.trans x2) R2 ⟨_, _, rfl, rv.mono x2, rvs⟩
theorem evs_len : ∀ {xs : Exs} {env : En} {S S1 : Sto} {ds : List D} {es : List Expr} {n : Nat}, evs C xs env S = some (ds, S1) → (∃ f : Expr → Option Ex, True) → True := fun _ _ => trivial
def lenX : Exs → Nat
  | .nil => 0
  | .cons _ es => lenX es + 1
theorem evs_length : ∀ (xs : Exs) {env : En} {S S1 : Sto} {ds : List D}, evs C xs env S = some (ds, S1) → ds.length = lenX xs
  | .nil, _, _, _, _, h => by
    simp only [evs] at h
    cases h
    rfl
  | .cons x xs, _, _, _, _, h => by
    simp only [evs] at h
    obtain ⟨⟨dx, S1⟩, e1, e⟩ := bnd_eq h
    obtain ⟨⟨dy, S2⟩, e2, e⟩ := bnd_eq e
    cases e
    rw [List.length_cons, evs_length xs e2]
    rfl
theorem e_tup {es : List Expr} {xs : Exs} {k : Nat} (ha : PA X es (rdA X cl C xs)) (hl : lenX xs ≤ 1000) : PE X (.Tuple es k pos) (rdE X cl C (.tup xs)) := pe_wk (pe_tup ha) fun σ H Q ⟨ρ, env, S, d, S', R, E, e, q⟩ => by
  simp only [evE] at e
  obtain ⟨⟨ds, S1⟩, e1, e⟩ := bnd_eq e
  cases e
  exact step_a R E e1 fun ρ1 H1 vs x1 R1 rv E1 => ⟨by rw [← rv.length, evs_length xs e1, line_eq]; omega, fun p hp => (q.ext x1).tup R1 hp rv⟩
theorem e_lst {al : Bool} {es : List Expr} {xs : Exs} (ha : PA X es (rdA X cl C xs)) (hl : lenX xs ≤ 1000) : PE X (.List es pos) (rdE X cl C (.lst al xs)) := pe_wk (pe_lst ha) fun σ H Q ⟨ρ, env, S, d, S', R, E, e, q⟩ => by
  simp only [evE] at e
  obtain ⟨⟨ds, S1⟩, e1, e⟩ := bnd_eq e
  exact step_a R E e1 fun ρ1 H1 vs x1 R1 rv E1 => ⟨by rw [← rv.length, evs_length xs e1, line_eq]; omega, fun p hp => (q.ext x1).mk' (Option.some.inj e) R1 hp rv⟩
theorem e_bin {al : Bool} {o : BOp} (ha : PE X a (rdE X cl C x)) (hb : PE X b (rdE X cl C y)) : PE X (.BinOp a (opOf o) b pos) (rdE X cl C (.bin al o x y)) := pe_wk (pe_op (r_bin al o) ha hb) fun σ H Q ⟨ρ, env, S, d, S', R, E, e, q⟩ => by
  simp only [evE] at e
  obtain ⟨⟨dx, S1⟩, e1, e⟩ := bnd_eq e
  obtain ⟨⟨dy, S2⟩, e2, e⟩ := bnd_eq e
  exact step_e R E e1 fun ρ1 H1 v x1 R1 rv E1 => step_e R1 E1 e2 fun ρ2 H2 u x2 R2 ru E2 => ⟨ρ2, S2, dx, dy, d, S', R2, rv.mono x2, ru, e, q.ext (x1.trans x2)⟩
theorem e_neg (ha : PE X a (rdE X cl C x)) : PE X (.UnaryOp .USub a pos) (rdE X cl C (.neg x)) := pe_wk (pe_un un_neg ha) fun σ H Q ⟨ρ, env, S, d, S', R, E, e, q⟩ => by
  simp only [evE] at e
  obtain ⟨⟨dx, S1⟩, e1, e⟩ := bnd_eq e
  simp only at e
  split at e
  · cases e
    exact step_e R E e1 fun ρ1 H1 v x1 R1 rv E1 => ⟨_, rv, (q.ext x1).here R1 rfl⟩
  · cases e
theorem ev_cmp {o : COp} {env : En} {S : Sto} : evE C (.cmp o x y) env S = bnd (evE C x env S) fun (dx, S1) => bnd (evE C y env S1) fun (dy, S2) => cmpO o dx dy S2 := by
  simp only [evE]
  rfl
theorem cmpO_bl {o : COp} {x y d : D} {S S' : Sto} (h : cmpO o x y S = some (d, S')) : ∃ c, d = .bl c := by
  obtain ⟨c, _, e⟩ := bnd_eq h
  cases e
  exact ⟨c, rfl⟩
theorem e_cmp {k : Nat} (hr : Room k X.A) {o : COp} (ha : PE X a (rdE X cl C x)) (hb : PE X b (rdE X cl C y)) (hm : behindInMarks (cOf o) b = false) : PE X (.Compare a [cOf o] [b] pos) (rdE X cl C (.cmp o x y)) :=
  pe_wk (pe_cmpR (r_cmp hr o) ha hb hm) fun σ H Q ⟨ρ, env, S, d, S', R, E, e, q⟩ => by
    rw [ev_cmp] at e
    obtain ⟨⟨dx, S1⟩, e1, e⟩ := bnd_eq e
    obtain ⟨⟨dy, S2⟩, e2, e⟩ := bnd_eq e
    exact step_e R E e1 fun ρ1 H1 v x1 R1 rv E1 => step_e R1 E1 e2 fun ρ2 H2 u x2 R2 ru E2 => ⟨ρ2, S2, dx, dy, d, S', R2, rv.mono x2, ru, e, q.ext (x1.trans x2)⟩
/-- what is wanted behind a test, as behind an expression -/
theorem post_t {b : Bool} {Q : Bool → Hp → Prop} (q : ∀ ρ' H', Ext ρ H ρ' H' → RepS (ctx X cl) ρ' S1 H' → Q b H') : Post (ctx X cl) ρ H (.bl b) S1 fun v H' => ∃ k, v = .bl k ∧ Q k H' := fun ρ' H' v x R r => ⟨b, r, q ρ' H' x R⟩
theorem t_cmp {k : Nat} (hr : Room k X.A) {o : COp} (ha : PE X a (rdE X cl C x)) (hb : PE X b (rdE X cl C y)) (hm : behindInMarks (cOf o) b = false) : PT X (.Compare a [cOf o] [b] pos) (rdT X cl C (.cmp o x y)) :=
  pt_wk (pt_cmpR (r_cmp hr o) ha hb hm) fun σ H Q ⟨ρ, env, S, d, S', R, E, e, q⟩ => by
    rw [ev_cmp] at e
    obtain ⟨⟨dx, S1⟩, e1, e⟩ := bnd_eq e
    obtain ⟨⟨dy, S2⟩, e2, e⟩ := bnd_eq e
    exact step_e R E e1 fun ρ1 H1 v x1 R1 rv E1 => step_e R1 E1 e2 fun ρ2 H2 u x2 R2 ru E2 => ⟨ρ2, S2, dx, dy, _, S', R2, rv.mono x2, ru, e, (post_t q).ext (x1.trans x2)⟩
theorem chain_wk {o o' : COp} {σ : L2.St} {H : Hp} {Q : VK} (h : rdE X cl C (.chain o o' x y z) σ H Q) : tChain (rOp X cl (cmpO o)) (rOp X cl (cmpO o')) (rdE X cl C x) (rdE X cl C y) (rdE X cl C z) σ H Q := by
  obtain ⟨ρ, env, S, d, S', R, E, e, q⟩ := h
  simp only [evE] at e
  obtain ⟨⟨dx, S1⟩, e1, e⟩ := bnd_eq e
  obtain ⟨⟨dy, S2⟩, e2, e⟩ := bnd_eq e
  obtain ⟨k, e3, e⟩ := bnd_eq e
  refine step_e R E e1 fun ρ1 H1 v x1 R1 rv E1 => step_e R1 E1 e2 fun ρ2 H2 u x2 R2 ru E2 => ⟨ρ2, S2, dx, dy, .bl k, S2, R2, rv.mono x2, ru, by unfold cmpO; rw [e3]; rfl, fun ρ3 H3 w x3 R3 rw' => ⟨k, rw', ?_⟩⟩
  cases k with
  | false =>
    rw [if_neg Bool.false_ne_true] at e ⊢
    cases e
    exact q _ _ _ ((x1.trans x2).trans x3) R3 rfl
  | true =>
    rw [if_pos rfl] at e ⊢
    obtain ⟨⟨dz, S3⟩, e4, e⟩ := bnd_eq e
    exact step_e R3 (E2.mono x3) e4 fun ρ4 H4 w4 x4 R4 r4 E4 => ⟨ρ4, S3, dy, dz, d, S', R4, (ru.mono x3).mono x4, r4, e, q.ext (((x1.trans x2).trans x3).trans x4)⟩
theorem e_chain {k : Nat} (hr : Room k X.A) {o o' : COp} (ha : PE X a (rdE X cl C x)) (hb : PE X b (rdE X cl C y)) (hc : PE X c (rdE X cl C z)) (hm : lastMarks [cOf o, cOf o'] [b, c] = false) :
    PE X (.Compare a [cOf o, cOf o'] [b, c] pos) (rdE X cl C (.chain o o' x y z)) := pe_wk (pe_chain (r_cmp hr o) (r_cmp hr o') ha hb hc hm) fun σ H Q h => chain_wk h
theorem t_chain {k : Nat} (hr : Room k X.A) {o o' : COp} (ha : PE X a (rdE X cl C x)) (hb : PE X b (rdE X cl C y)) (hc : PE X c (rdE X cl C z)) (hm : lastMarks [cOf o, cOf o'] [b, c] = false) :
    PT X (.Compare a [cOf o, cOf o'] [b, c] pos) (rdT X cl C (.chain o o' x y z)) := pt_wk (pt_chain (r_cmp hr o) (r_cmp hr o') ha hb hc hm) fun σ H Q ⟨ρ, env, S, d, S', R, E, e, q⟩ => chain_wk ⟨ρ, env, S, _, S', R, E, e, post_t q⟩
theorem isN_dec {K : PySem.W.Frag} {d : D} {v : V} (r : RepV K ρ H d v) : decide (v = .non) = decide (d = .non) := by
  cases d with
  | non => cases r; rfl
  | bl _ => cases r; rfl
  | int _ => cases r; rfl
  | str _ => cases r; rfl
  | tup _ => obtain ⟨_, _, rfl, _⟩ := r; rfl
  | lst _ => obtain ⟨_, _, rfl, _⟩ := r; rfl
  | ro _ => obtain ⟨_, _, rfl, _⟩ := r; rfl
  | obj _ => obtain ⟨_, rfl, _⟩ := r; rfl
theorem isN_wk {neg : Bool} {σ : L2.St} {H : Hp} {Q : VK} (h : rdE X cl C (.isN neg x) σ H Q) : (if neg then tNotN (rdE X cl C x) else tIsN (rdE X cl C x)) σ H Q := by
  obtain ⟨ρ, env, S, d, S', R, E, e, q⟩ := h
  simp only [evE] at e
  obtain ⟨⟨dx, S1⟩, e1, e⟩ := bnd_eq e
  cases e
  cases neg with
  | false => exact step_e R E e1 fun ρ1 H1 v x1 R1 rv E1 => (q.ext x1).here R1 (by rw [isN_dec rv]; rfl)
  | true => exact step_e R E e1 fun ρ1 H1 v x1 R1 rv E1 => (q.ext x1).here R1 (by rw [isN_dec rv]; rfl)
theorem e_isN {j : Nat} {pos' : Pos} (ha : PE X a (rdE X cl C x)) : PE X (.Compare a [.Is] [.Constant .none j pos'] pos) (rdE X cl C (.isN false x)) := pe_wk (pe_cmp (pc_isN ha)) fun _ _ _ h => isN_wk h
theorem e_notN {j : Nat} {pos' : Pos} (ha : PE X a (rdE X cl C x)) : PE X (.Compare a [.IsNot] [.Constant .none j pos'] pos) (rdE X cl C (.isN true x)) := pe_wk (pe_cmp (pc_notN ha)) fun _ _ _ h => isN_wk h
theorem t_isN {j : Nat} {pos' : Pos} (ha : PE X a (rdE X cl C x)) : PT X (.Compare a [.Is] [.Constant .none j pos'] pos) (rdT X cl C (.isN false x)) := pt_wk (pt_cmp (pc_isN ha)) fun _ _ _ ⟨ρ, env, S, d, S', R, E, e, q⟩ => isN_wk ⟨ρ, env, S, _, S', R, E, e, post_t q⟩
theorem t_notN {j : Nat} {pos' : Pos} (ha : PE X a (rdE X cl C x)) : PT X (.Compare a [.IsNot] [.Constant .none j pos'] pos) (rdT X cl C (.isN true x)) := pt_wk (pt_cmp (pc_notN ha)) fun _ _ _ ⟨ρ, env, S, d, S', R, E, e, q⟩ => isN_wk ⟨ρ, env, S, _, S', R, E, e, post_t q⟩
/-! and, or, not, a if c else b -/
theorem e_and {rest : List Expr} (ha : PE X a (rdE X cl C x)) (hb : PE X (.BoolOp .And (b :: rest) pos) (rdE X cl C y)) : PE X (.BoolOp .And (a :: b :: rest) pos) (rdE X cl C (.and_ x y)) := pe_wk (pe_and ha hb) fun σ H Q ⟨ρ, env, S, d, S', R, E, e, q⟩ => by
  simp only [evE] at e
  obtain ⟨⟨dx, S1⟩, e1, e⟩ := bnd_eq e
  obtain ⟨k, e2, e⟩ := bnd_eq e
  have e2 : boolOf dx = some k := e2
  rw [boolOf_eq e2] at e1
  refine step_e R E e1 fun ρ1 H1 v x1 R1 rv E1 => ⟨k, rv, ?_⟩
  cases k with
  | false => simp only [Bool.false_eq_true, if_false] at e ⊢; cases e; exact (q.ext x1).here R1 rfl
  | true => simp only [if_true] at e ⊢; exact ⟨_, _, _, _, _, R1, E1, e, q.ext x1⟩
theorem e_or {rest : List Expr} (ha : PE X a (rdE X cl C x)) (hb : PE X (.BoolOp .Or (b :: rest) pos) (rdE X cl C y)) : PE X (.BoolOp .Or (a :: b :: rest) pos) (rdE X cl C (.or_ x y)) := pe_wk (pe_or ha hb) fun σ H Q ⟨ρ, env, S, d, S', R, E, e, q⟩ => by
  simp only [evE] at e
  obtain ⟨⟨dx, S1⟩, e1, e⟩ := bnd_eq e
  obtain ⟨k, e2, e⟩ := bnd_eq e
  have e2 : boolOf dx = some k := e2
  rw [boolOf_eq e2] at e1
  refine step_e R E e1 fun ρ1 H1 v x1 R1 rv E1 => ⟨k, rv, ?_⟩
  cases k with
  | true => simp only [if_true] at e ⊢; cases e; exact (q.ext x1).here R1 rfl
  | false => simp only [Bool.false_eq_true, if_false] at e ⊢; exact ⟨_, _, _, _, _, R1, E1, e, q.ext x1⟩
theorem w_and {rest : List Expr} (ha : PT X a (rdT X cl C x)) (hb : PW X (.BoolOp .And (b :: rest) pos) (rdT X cl C y)) : PW X (.BoolOp .And (a :: b :: rest) pos) (rdT X cl C (.and_ x y)) := pw_wk (pw_and ha hb) fun σ H Q ⟨ρ, env, S, d, S', R, E, e, q⟩ => by
  simp only [evE] at e
  obtain ⟨⟨dx, S1⟩, e1, e⟩ := bnd_eq e
  obtain ⟨k, e2, e⟩ := bnd_eq e
  have e2 : boolOf dx = some k := e2
  rw [boolOf_eq e2] at e1
  refine step_t R E e1 fun ρ1 H1 x1 R1 E1 => ?_
  cases k with
  | false => simp only [Bool.false_eq_true, if_false] at e ⊢; cases e; exact q _ _ x1 R1
  | true => simp only [if_true] at e ⊢; exact ⟨_, _, _, _, _, R1, E1, e, fun _ _ x2 R2 => q _ _ (x1.trans x2) R2⟩
theorem w_or {rest : List Expr} (ha : PT X a (rdT X cl C x)) (hb : PW X (.BoolOp .Or (b :: rest) pos) (rdT X cl C y)) : PW X (.BoolOp .Or (a :: b :: rest) pos) (rdT X cl C (.or_ x y)) := pw_wk (pw_or ha hb) fun σ H Q ⟨ρ, env, S, d, S', R, E, e, q⟩ => by
  simp only [evE] at e
  obtain ⟨⟨dx, S1⟩, e1, e⟩ := bnd_eq e
  obtain ⟨k, e2, e⟩ := bnd_eq e
  have e2 : boolOf dx = some k := e2
  rw [boolOf_eq e2] at e1
  refine step_t R E e1 fun ρ1 H1 x1 R1 E1 => ?_
  cases k with
  | true => simp only [if_true] at e ⊢; cases e; exact q _ _ x1 R1
  | false => simp only [Bool.false_eq_true, if_false] at e ⊢; exact ⟨_, _, _, _, _, R1, E1, e, fun _ _ x2 R2 => q _ _ (x1.trans x2) R2⟩
theorem e_not (ha : PE X a (rdE X cl C x)) : PE X (.UnaryOp .Not a pos) (rdE X cl C (.not_ x)) := pe_wk (pe_not ha) fun σ H Q ⟨ρ, env, S, d, S', R, E, e, q⟩ => by
  simp only [evE] at e
  obtain ⟨⟨dx, S1⟩, e1, e⟩ := bnd_eq e
  obtain ⟨k, e2, e⟩ := bnd_eq e
  have e2 : boolOf dx = some k := e2
  rw [boolOf_eq e2] at e1
  cases e
  exact step_e R E e1 fun ρ1 H1 v x1 R1 rv E1 => ⟨k, rv, (q.ext x1).here R1 rfl⟩
theorem t_not (ha : PT X a (rdT X cl C x)) : PT X (.UnaryOp .Not a pos) (rdT X cl C (.not_ x)) := pt_wk (pt_not ha) fun σ H Q ⟨ρ, env, S, d, S', R, E, e, q⟩ => by
  simp only [evE] at e
  obtain ⟨⟨dx, S1⟩, e1, e⟩ := bnd_eq e
  obtain ⟨k, e2, e⟩ := bnd_eq e
  have e2 : boolOf dx = some k := e2
  rw [boolOf_eq e2] at e1
  cases e
  exact step_t R E e1 fun ρ1 H1 x1 R1 E1 => q _ _ x1 R1
theorem e_ite (hc : PT X c (rdT X cl C z)) (ha : PE X a (rdE X cl C x)) (hb : PE X b (rdE X cl C y)) : PE X (.IfExp c a b pos) (rdE X cl C (.ite z x y)) := pe_wk (pe_ifExp hc ha hb) fun σ H Q ⟨ρ, env, S, d, S', R, E, e, q⟩ => by
  simp only [evE] at e
  obtain ⟨⟨dx, S1⟩, e1, e⟩ := bnd_eq e
  obtain ⟨k, e2, e⟩ := bnd_eq e
  have e2 : boolOf dx = some k := e2
  rw [boolOf_eq e2] at e1
  refine step_t R E e1 fun ρ1 H1 x1 R1 E1 => ?_
  cases k with
  | true => simp only [if_true] at e ⊢; exact ⟨_, _, _, _, _, R1, E1, e, q.ext x1⟩
  | false => simp only [Bool.false_eq_true, if_false] at e ⊢; exact ⟨_, _, _, _, _, R1, E1, e, q.ext x1⟩
/-- an expression that is no and, or, not, comparison, conditional: as a test -/
def plainT : Expr → Bool
  | .UnaryOp .Not _ _ => false
  | .BoolOp .. => false
  | .IfExp .. => false
  | .Compare .. => false
  | _ => true
theorem t_val (hp : plainT a = true) (ha : PE X a (rdE X cl C x)) : PT X a (rdT X cl C x) := by
  refine pt_wk (pt_val ha fun whole => ?_) fun σ H Q ⟨ρ, env, S, d, S', R, E, e, q⟩ => ⟨ρ, env, S, _, S', R, E, e, post_t q⟩
  cases a with
  | UnaryOp op _ _ => cases op <;> first | rfl | cases hp
  | BoolOp _ _ _ => cases hp
  | IfExp _ _ _ _ => cases hp
  | Compare _ _ _ _ => cases hp
  | _ => rfl
end
end SL

/-! SLf: subscripts, slices, dicts' operations, built-ins, fields. -/
namespace SL
open PySem PySem.Spec PyProof.Rows L2
section
variable {prog : Program} {w : World} {A : Around} {E : Value → Shared → Prop} {s : Shared} {d : Addr} {o : Obj} {es : Array DictEntry} {ep : Nat} {xs : List X3} {k : NestedKey} {u : Value}
theorem m_getItem {v : Value} (m : MD w s.heap d o es ep xs) (hu : A.units + 9 < cLine) (hk : KeyAt s.heap k u) (nt : NoText u) (hv : lookX xs k = some v) {Q : Value → Shared → Prop}
    (h : ∀ t, Q v { s with toks := t }) : wpAny (model prog w) A (getItem (.ref d) u) Q E s := by
  have ht : s.TypeIs (.ref d) "dict" := ⟨o, m.ob, m.ex.1⟩
  unfold getItem
  try with_reducible refine wpAny_holding ?_
  refine wpAny_bind (wpAny_sequenceKey ht (by decide) ?_)
  refine wpAny_bind (wpAny_callSpecial?_slot (name := Str.ofString "__getitem__") ht slot_dict_getitem (wpAny_call_entry slot_dict_getitem ht entry_dict_getitem ?_ (args_dict_getitem _ _)))
  show wpAny _ _ (dictGet d u >>= _) _ _ s
  refine wpAny_bind (m_get m (by show A.units + 1 + 8 < cLine; omega) hk nt fun t => ?_)
  rw [hv]
  exact wpAny_pure ⟨v, rfl, wpAny_pure (h t)⟩
theorem m_setItem {v : Value} (m : MD w s.heap d o es ep xs) (hu : A.units + 9 < cLine) (hk : KeyAt s.heap k u) (nt : NoText u) (hz : xs.length < 16777216) {Q : Unit → Shared → Prop}
    (h : ∀ t h' o' es', MD w h' d o' es' (if (lookX xs k).isSome then ep else ep + 1) (putX xs k u v) → Heap.SameBut d s.heap h' → Q () { s with heap := h', toks := t }) : wpAny (model prog w) A (setItem (.ref d) u v) Q E s := by
  have ht : s.TypeIs (.ref d) "dict" := ⟨o, m.ob, m.ex.1⟩
  unfold setItem
  try with_reducible refine wpAny_holding ?_
  refine wpAny_bind (wpAny_sequenceKey ht (by decide) ?_)
  refine wpAny_bind (wpAny_callSpecial?_slot (name := Str.ofString "__setitem__") ht slot_dict_setitem (wpAny_call_entry slot_dict_setitem ht entry_dict_setitem ?_ (args_dict_setitem _ _ _)))
  show wpAny _ _ (Builtin.Dict.notOrdered "__setitem__" ⟨[.ref d, u, v], []⟩ >>= _) _ _ s
  refine wpAny_bind (wpAny_notOrdered_dict ht ?_)
  show wpAny _ _ (dictSet d u v >>= _) _ _ s
  exact wpAny_bind (m_set m (by show A.units + 1 + 8 < cLine; omega) hk nt hz fun t h' o' es' hm sb => wpAny_pure ⟨.none, rfl, wpAny_pure (h t h' o' es' hm sb)⟩)
theorem m_get2 {r : Value} (m : MD w s.heap d o es ep xs) (hu : A.units + 9 < cLine) (hk : KeyAt s.heap k u) (nt : NoText u) (hd : (d == sysModules) = false) {Q : Value → Shared → Prop}
    (h : ∀ t, Q ((lookX xs k).getD r) { s with toks := t }) : wpAny (model prog w) A (call (.builtin "dict.get") [.ref d, u, r]) Q E s := by
  have ht : s.TypeIs (.ref d) "dict" := ⟨o, m.ob, m.ex.1⟩
  refine call_meetsIn PySem.F.slot_dict_get ht PySem.F.entry_dict_get (PySem.F.args_dict_get_3 _ _ _) (S := fun A' R s' => A' = A ∧ s' = s ∧ ∀ t, R (.ok (.ret ((lookX xs k).getD r))) { s with toks := t }) (fun A' R s' hS => ?_) ⟨rfl, rfl, h⟩
  obtain ⟨rfl, rfl, hq⟩ := hS
  show wpAny _ _ (dictGet d u >>= _) _ _ _
  refine wpAny_bind (m_get m (by show A'.units + 1 + 8 < cLine; omega) hk nt fun t => ?_)
  have q := hq t
  cases hf : lookX xs k with
  | some p =>
    rw [hf] at q
    exact wpAny_pure q
  | none =>
    rw [hf] at q
    show wpAny _ _ (Builtin.Dict.missed d u >>= _) _ _ _
    exact wpAny_bind (wpAny_missed_other hd (wpAny_pure q))
end
section
variable {X : Cx} {cl : Str → Option Addr} {C : Orc} {k : Nat}
theorem atI_rep {K : PySem.W.Frag} {ρ : Rho} {H : Hp} {ds : List D} {vs : List V} {i : Int} {d : D} (r : RepVs K ρ H ds vs) (h : atI ds i = some d) : ∃ v, atI vs i = some v ∧ RepV K ρ H d v := by
  unfold atI at h ⊢
  rw [Option.bind_eq_some_iff] at h
  obtain ⟨j, h1, h2⟩ := h
  obtain ⟨v, h3, h4⟩ := r.get h2
  exact ⟨v, by rw [← r.length, h1]; exact h3, h4⟩
def rSub (X : Cx) (cl : Str → Option Addr) : R2 := fun v u H Q => ∃ ρ S x i d, RepS (ctx X cl) ρ S H ∧ RepV X.K ρ H x v ∧ RepV X.K ρ H i u ∧ subD S x i = some d ∧ Post (ctx X cl) ρ H d S Q
theorem dictAt_of {S : Sto} {x : D} {n : Nat} {kvs : List (NestedKey × D)} (h : dictAt S x = some (n, kvs)) : x = .obj n ∧ ∃ ep, S[n]? = some (.dct ep kvs) := by
  cases x with
  | obj m =>
    simp only [dictAt] at h
    split at h
    · cases h
      exact ⟨rfl, _, by assumption⟩
    · cases h
  | _ => cases h
theorem r_sub (hr : Room k X.A) : IxR X (rSub X cl) := by
  intro value slice pins s σ H v u vv uu Q I r1 r2 ⟨ρ, S, x, i, d, R, rx, ri, h, q⟩ hs
  unfold subD at h
  split at h
  · rename_i ds he
    split at h
    · rename_i i
      obtain ⟨a, vs, rfl, ha, hd⟩ := seq_at R he rx
      obtain ⟨v, h1, h2⟩ := atI_rep hd h
      rcases ha with ha | ha
      · exact ix_list value slice pins s σ H _ u vv uu Q I r1 r2 ⟨a, vs, i, v, rfl, ri, .of ha, h1, q.here R h2⟩ hs
      · exact ix_tup value slice pins s σ H _ u vv uu Q I r1 r2 ⟨a, vs, i, v, rfl, ri, .of ha, h1, q.here R h2⟩ hs
    · cases h
  · split at h
    · rename_i n kvs k' e1 e2
      obtain ⟨rfl, ep, hS⟩ := dictAt_of e1
      obtain ⟨a, rfl, ha⟩ := rx
      cases r1
      obtain ⟨g1, g2, _⟩ := good_key I e2 ri r2
      obtain ⟨o, es, xs, m, _, _, _, _, hp⟩ := md_of I R hS ha
      rcases x_look (k := k') hp with ⟨z, _⟩ | ⟨d', v, u', z, z2, z3, z4⟩
      · rw [h] at z; cases z
      · rw [h] at z
        cases z
        have hu : X.A.units + 9 < cLine := by have := hr.un; omega
        exact tail_any (ops := [.ref a, uu]) (⟨o, m.ob, m.ex.1⟩ : s.TypeIs (.ref a) "dict") PySem.F.slot_dict_getitem.lookup (m_getItem m hu g1 g2 z2 fun t => ⟨v, H, I.tok t, z3, q.here R z4⟩) hs
    · cases h
theorem e_sub (hr : Room k X.A) {a b : Expr} {pos : Pos} {x y : Ex} (ha : PE X a (rdE X cl C x)) (hb : PE X b (rdE X cl C y)) (hs : PlainIx b) : PE X (.Subscript a b pos) (rdE X cl C (.sub x y)) := pe_wk (pe_ix (r_sub hr) ha hb hs) fun σ H Q ⟨ρ, env, S, d, S', R, E, e, q⟩ => by
  simp only [evE] at e
  obtain ⟨⟨dx, S1⟩, e1, e⟩ := bnd_eq e
  obtain ⟨⟨dy, S2⟩, e2, e⟩ := bnd_eq e
  obtain ⟨d', e3, e⟩ := bnd_eq e
  cases e
  exact step_e R E e1 fun ρ1 H1 v x1 R1 rv E1 => step_e R1 E1 e2 fun ρ2 H2 u x2 R2 ru E2 => ⟨ρ2, _, dx, dy, _, R2, rv.mono x2, ru, e3, q.ext (x1.trans x2)⟩
/-! slices -/
theorem o_no : PO X none (rdO X cl C .no) := ⟨fun pins s σ H Q I ⟨ρ, env, S, o, l, S', R, E, e, e2, q⟩ => by
  simp only [evO] at e
  cases e
  cases e2
  exact po_none.run pins s σ H Q I (q _ _ (Ext.refl _ _) R)⟩
theorem o_so {a : Expr} {x : Ex} (ha : PE X a (rdE X cl C x)) : PO X (some a) (rdO X cl C (.so x)) := ⟨fun pins s σ H Q I ⟨ρ, env, S, o, l, S', R, E, e, e2, q⟩ => by
  simp only [evO] at e
  obtain ⟨⟨dx, S1⟩, e1, e⟩ := bnd_eq e
  cases e
  cases dx <;> first | cases e2 | skip
  exact (po_some ha).run pins s σ H Q I (step_e R E e1 fun ρ1 H1 v x1 R1 rv E1 => ⟨_, rv, q _ _ x1 R1⟩)⟩
def rSlice (X : Cx) (cl : Str → Option Addr) (al : Bool) : V → Option Int → Option Int → Hp → VK → Prop := fun v lo hi H Q => ∃ ρ S x d S', RepS (ctx X cl) ρ S H ∧ RepV X.K ρ H x v ∧ sliceD al S x lo hi = some (d, S') ∧ Post (ctx X cl) ρ H d S' Q
theorem cut_rep {K : PySem.W.Frag} {ρ : Rho} {H : Hp} {ds : List D} {vs : List V} (r : RepVs K ρ H ds vs) (lo hi : Option Int) : RepVs K ρ H (cutD ds lo hi) (cutV vs lo hi) := by
  unfold cutD cutV
  rw [← r.length]
  exact (r.drop _).take _
theorem cut_all {ds : List D} {lo hi : Option Int} (h : HT.sIx ds.length 0 lo = 0 ∧ HT.sIx ds.length ds.length hi = ds.length) : cutD ds lo hi = ds := by
  unfold cutD
  rw [h.1, h.2, List.drop_zero, Nat.sub_zero, List.take_length]
theorem r_slice (al : Bool) : SlR X (rSlice X cl al) := by
  intro pins s σ H v vv vl vu lo hi sl Q I r1 hs pl pu ⟨ρ, S, x, d, S', R, rx, h, q⟩
  unfold sliceD at h
  split at h
  · rename_i ds
    cases h
    obtain ⟨a, vs, rfl, ha, hd⟩ := rx
    refine sl_tupA pins s σ H _ vv vl vu lo hi sl Q I r1 hs pl pu ⟨a, vs, rfl, .of ha.1, fun hw => ?_, fun hw p hp => q.tup R hp (cut_rep hd lo hi)⟩
    rw [← hd.length] at hw
    rw [cut_all hw] at q
    exact q.here R ⟨a, vs, rfl, ha, hd⟩
  · rename_i ds
    obtain ⟨a, vs, rfl, ha, hd⟩ := rx
    exact sl_list pins s σ H _ vv vl vu lo hi sl Q I r1 hs pl pu ⟨a, vs, rfl, ha.sq, fun p hp => q.mk' (Option.some.inj h) R hp (cut_rep hd lo hi)⟩
  · cases he : lstOf S x with
    | none => rw [he] at h; cases h
    | some ds =>
      rw [he] at h
      obtain ⟨a, vs, rfl, ha, hd⟩ := lst_at R he rx
      exact sl_list pins s σ H _ vv vl vu lo hi sl Q I r1 hs pl pu ⟨a, vs, rfl, .of ha, fun p hp => q.mk' (Option.some.inj h) R hp (cut_rep hd lo hi)⟩
theorem e_slice {al : Bool} {a : Expr} {lo hi : Option Expr} {pos p2 : Pos} {x : Ex} {l h : Exo} (ha : PE X a (rdE X cl C x)) (hl : PO X lo (rdO X cl C l)) (hh : PO X hi (rdO X cl C h)) : PE X (.Subscript a (.Slice lo hi none p2) pos) (rdE X cl C (.slice al x l h)) :=
  pe_wk (pe_slice (r_slice al) ha hl hh) fun σ H Q ⟨ρ, env, S, d, S', R, E, e, q⟩ => by
    simp only [evE] at e
    obtain ⟨⟨dx, S1⟩, e1, e⟩ := bnd_eq e
    obtain ⟨⟨dl, S2⟩, e2, e⟩ := bnd_eq e
    obtain ⟨⟨dh, S3⟩, e3, e⟩ := bnd_eq e
    obtain ⟨l', e4, e⟩ := bnd_eq e
    obtain ⟨h', e5, e⟩ := bnd_eq e
    exact step_e R E e1 fun ρ1 H1 v x1 R1 rv E1 => ⟨_, _, _, _, _, _, R1, E1, e2, e4, fun ρ2 H2 x2 R2 => ⟨_, _, _, _, _, _, R2, E1.mono x2, e3, e5, fun ρ3 H3 x3 R3 =>
      ⟨ρ3, _, dx, d, S', R3, (rv.mono x2).mono x3, e, q.ext ((x1.trans x2).trans x3)⟩⟩⟩
/-! ### built-ins -/
def rBi (X : Cx) (cl : Str → Option Addr) (al : Bool) (f : Bi) : List V → Hp → VK → Prop := fun vs H Q => ∃ ρ S ds d S', RepS (ctx X cl) ρ S H ∧ RepVs X.K ρ H ds vs ∧ biD al f ds S = some (d, S') ∧ Post (ctx X cl) ρ H d S' Q
section
variable {al : Bool}
theorem one_rep {K : PySem.W.Frag} {ρ : Rho} {H : Hp} {d : D} {vs : List V} (h : RepVs K ρ H [d] vs) : ∃ v, vs = [v] ∧ RepV K ρ H d v := by
  obtain ⟨v, r, rfl, h1, h2⟩ := h
  cases h2
  exact ⟨v, rfl, h1⟩
theorem two_rep {K : PySem.W.Frag} {ρ : Rho} {H : Hp} {d e : D} {vs : List V} (h : RepVs K ρ H [d, e] vs) : ∃ v u, vs = [v, u] ∧ RepV K ρ H d v ∧ RepV K ρ H e u := by
  obtain ⟨v, r, rfl, h1, h2⟩ := h
  obtain ⟨u, rfl, h3⟩ := one_rep h2
  exact ⟨v, u, rfl, h1, h3⟩
theorem bLen_of {S S' : Sto} {ds : List D} {d : D} (h : bLen S ds = some (d, S')) : ∃ x es, ds = [x] ∧ seqOf S x = some es ∧ d = .int es.length ∧ S' = S := by
  match ds, h with
  | [x], h =>
    simp only [bLen, Option.map_eq_some_iff] at h
    obtain ⟨es, e, h⟩ := h
    cases h
    exact ⟨x, es, rfl, e, rfl, rfl⟩
theorem b_len : CallR X (.builtin "len") (rBi X cl al .len) := by
  intro pins s σ H vs us Q I r ⟨ρ, S, ds, d, S', R, rd, h, q⟩
  obtain ⟨x, es, rfl, e, rfl, rfl⟩ := bLen_of h
  obtain ⟨v, rfl, rv⟩ := one_rep rd
  obtain ⟨a, ys, rfl, ha, hd⟩ := seq_at R e rv
  exact call_len_seq pins s σ H _ us Q I r ⟨a, ys, rfl, sq_of ha, by rw [← hd.length]; exact q.here R rfl⟩
theorem foldl_min_le : ∀ (ns : List Int) (n : Int), ns.foldl min n ≤ n ∧ (∀ y ∈ ns, ns.foldl min n ≤ y) ∧ (ns.foldl min n = n ∨ ns.foldl min n ∈ ns)
  | [], n => ⟨Int.le_refl n, by simp, .inl rfl⟩
  | m :: ms, n => by
    obtain ⟨h1, h2, h3⟩ := foldl_min_le ms (min n m)
    have a1 : min n m ≤ n := Int.min_le_left _ _
    have a2 : min n m ≤ m := Int.min_le_right _ _
    refine ⟨by simp only [List.foldl_cons]; omega, fun y hy => ?_, ?_⟩
    · simp only [List.foldl_cons]
      rcases List.mem_cons.mp hy with rfl | hy
      · omega
      · exact h2 y hy
    · simp only [List.foldl_cons]
      rcases h3 with h3 | h3
      · by_cases hc : n ≤ m
        · left; omega
        · right; rw [h3, show min n m = m by omega]; exact List.mem_cons_self
      · exact .inr (List.mem_cons_of_mem _ h3)
theorem foldl_max_le : ∀ (ns : List Int) (n : Int), n ≤ ns.foldl max n ∧ (∀ y ∈ ns, y ≤ ns.foldl max n) ∧ (ns.foldl max n = n ∨ ns.foldl max n ∈ ns)
  | [], n => ⟨Int.le_refl n, by simp, .inl rfl⟩
  | m :: ms, n => by
    obtain ⟨h1, h2, h3⟩ := foldl_max_le ms (max n m)
    have a1 : n ≤ max n m := Int.le_max_left _ _
    have a2 : m ≤ max n m := Int.le_max_right _ _
    refine ⟨by simp only [List.foldl_cons]; omega, fun y hy => ?_, ?_⟩
    · simp only [List.foldl_cons]
      rcases List.mem_cons.mp hy with rfl | hy
      · omega
      · exact h2 y hy
    · simp only [List.foldl_cons]
      rcases h3 with h3 | h3
      · by_cases hc : m ≤ n
        · left; omega
        · right; rw [h3, show max n m = m by omega]; exact List.mem_cons_self
      · exact .inr (List.mem_cons_of_mem _ h3)
theorem min_uniq {ns : List Int} {n m : Int} (h : minL ns = some n) (hm : m ∈ ns) (hl : ∀ y ∈ ns, m ≤ y) : m = n := by
  cases ns with
  | nil => cases h
  | cons x xs =>
    cases h
    obtain ⟨h1, h2, h3⟩ := foldl_min_le xs x
    have a : xs.foldl min x ≤ m := by
      rcases List.mem_cons.mp hm with rfl | hm
      · exact h1
      · exact h2 m hm
    have b : m ≤ xs.foldl min x := by
      rcases h3 with h3 | h3
      · rw [h3]; exact hl x List.mem_cons_self
      · exact hl _ (List.mem_cons_of_mem _ h3)
    omega
theorem max_uniq {ns : List Int} {n m : Int} (h : maxL ns = some n) (hm : m ∈ ns) (hl : ∀ y ∈ ns, y ≤ m) : m = n := by
  cases ns with
  | nil => cases h
  | cons x xs =>
    cases h
    obtain ⟨h1, h2, h3⟩ := foldl_max_le xs x
    have a : m ≤ xs.foldl max x := by
      rcases List.mem_cons.mp hm with rfl | hm
      · exact h1
      · exact h2 m hm
    have b : xs.foldl max x ≤ m := by
      rcases h3 with h3 | h3
      · rw [h3]; exact hl x List.mem_cons_self
      · exact hl _ (List.mem_cons_of_mem _ h3)
    omega
theorem bMin_of {S S' : Sto} {ds : List D} {d : D} (h : bMin S ds = some (d, S')) : ∃ x is m, ds = [x] ∧ seqOf S x = some (is.map .int) ∧ minL is = some m ∧ d = .int m ∧ S' = S := by
  match ds, h with
  | [x], h =>
    simp only [bMin, Option.map_eq_some_iff, Option.bind_eq_some_iff] at h
    obtain ⟨m, ⟨is, ⟨es, e1, e2⟩, e3⟩, h⟩ := h
    cases h
    rw [intsOf_eq e2] at e1
    exact ⟨x, is, m, rfl, e1, e3, rfl, rfl⟩
theorem bMax_of {S S' : Sto} {ds : List D} {d : D} (h : bMax S ds = some (d, S')) : ∃ x is m, ds = [x] ∧ seqOf S x = some (is.map .int) ∧ maxL is = some m ∧ d = .int m ∧ S' = S := by
  match ds, h with
  | [x], h =>
    simp only [bMax, Option.map_eq_some_iff, Option.bind_eq_some_iff] at h
    obtain ⟨m, ⟨is, ⟨es, e1, e2⟩, e3⟩, h⟩ := h
    cases h
    rw [intsOf_eq e2] at e1
    exact ⟨x, is, m, rfl, e1, e3, rfl, rfl⟩
theorem reads_ints {h : Heap} : ∀ {ns : List Int} {us : List Value}, Vals (ns.map V.int) us → ReadsAll h us (ns.map .int) []
  | [], _, .nil => .nil
  | n :: ns, _, .cons r t => by
    obtain ⟨k, rfl⟩ := r
    exact ReadsAll.cons (as := []) (bs := []) (.int n k) (reads_ints t)
theorem reads_int {h : Heap} {v : Value} {n : Int} {as : List Addr} (r : Reads h v (.int n) as) : ∃ t, v = .int n t := by
  cases r
  exact ⟨_, rfl⟩
theorem alike_is (n : Int) (ns : List Int) : PySem.W.AlikeAll ((n :: ns).map PyData.int) := by
  refine ⟨fun d hd d' hd' => ?_, fun d hd z => ?_⟩
  · obtain ⟨b, _, rfl⟩ := List.mem_map.mp hd
    obtain ⟨b', _, rfl⟩ := List.mem_map.mp hd'
    exact rfl
  · obtain ⟨b, _, rfl⟩ := List.mem_map.mp hd
    cases z
theorem b_min (hr : Room k X.A) (hc : X.calm = true) : CallR X (.builtin "min") (rBi X cl al .min) := by
  intro pins s σ H vs us Q I r ⟨ρ, S, ds, d, S', R, rd, h, q⟩
  obtain ⟨x, is, m, rfl, e, em, rfl, rfl⟩ := bMin_of h
  obtain ⟨v, rfl, rv⟩ := one_rep rd
  obtain ⟨a, ys, rfl, ha, hd⟩ := seq_at R e rv
  rw [hd.ints] at ha
  have hpos : 0 < is.length := by cases is with | nil => cases em | cons _ _ => simp
  rcases ha with ha | ha
  · exact cr_min hc pins s σ H _ us Q I r ⟨a, is, rfl, .of ha, hpos, fun n hn hl => by rw [min_uniq em hn hl]; exact q.here R rfl⟩
  · rw [Vals.ref1 r]
    obtain ⟨its, rv2, ht, _⟩ := I.tuple (.of ha)
    cases is with
    | nil => cases em
    | cons n ns =>
      cases em
      refine PySem.W.min_tuple_data (I.ok.hd hc) (show s.heap.IsTuple a its.toArray from ht) (x := .int n) (xs := ns.map .int) (as := []) (by simpa using reads_ints rv2) (alike_is n ns) ?_ fun i v h' tk bs hv hread hk => ?_
      · have e1 : PyData.depthAll ((n :: ns).map PyData.int) = 0 := PySem.W.depth_ints _
        have e2 : PyData.depthAll (PyData.int n :: ns.map .int) = 0 := e1
        rw [e2]
        have := hr.un
        omega
      · rw [PySem.W.minD_ints] at hread
        obtain ⟨t, rfl⟩ := reads_int hread
        exact ⟨.int _, H, I.kept (t' := tk) hk, ⟨t, rfl⟩, q.here R rfl⟩
theorem b_max (hr : Room k X.A) (hc : X.calm = true) : CallR X (.builtin "max") (rBi X cl al .max) := by
  intro pins s σ H vs us Q I r ⟨ρ, S, ds, d, S', R, rd, h, q⟩
  obtain ⟨x, is, m, rfl, e, em, rfl, rfl⟩ := bMax_of h
  obtain ⟨v, rfl, rv⟩ := one_rep rd
  obtain ⟨a, ys, rfl, ha, hd⟩ := seq_at R e rv
  rw [hd.ints] at ha
  have hpos : 0 < is.length := by cases is with | nil => cases em | cons _ _ => simp
  rcases ha with ha | ha
  · exact cr_max hc pins s σ H _ us Q I r ⟨a, is, rfl, .of ha, hpos, fun n hn hl => by rw [max_uniq em hn hl]; exact q.here R rfl⟩
  · rw [Vals.ref1 r]
    obtain ⟨its, rv2, ht, _⟩ := I.tuple (.of ha)
    cases is with
    | nil => cases em
    | cons n ns =>
      cases em
      refine PySem.W.max_tuple_data (I.ok.hd hc) (show s.heap.IsTuple a its.toArray from ht) (x := .int n) (xs := ns.map .int) (as := []) (by simpa using reads_ints rv2) (alike_is n ns) ?_ fun i v h' tk bs hv hread hk => ?_
      · have e1 : PyData.depthAll ((n :: ns).map PyData.int) = 0 := PySem.W.depth_ints _
        have e2 : PyData.depthAll (PyData.int n :: ns.map .int) = 0 := e1
        rw [e2]
        have := hr.un
        omega
      · rw [PySem.W.maxD_ints] at hread
        obtain ⟨t, rfl⟩ := reads_int hread
        exact ⟨.int _, H, I.kept (t' := tk) hk, ⟨t, rfl⟩, q.here R rfl⟩
theorem b_sum (hc : X.calm = true) : CallR X (.builtin "sum") (rBi X cl al .sum) := by
  intro pins s σ H vs us Q I r ⟨ρ, S, ds, d, S', R, rd, h, q⟩
  match ds, h with
  | [x], h =>
    simp only [biD, bSum, Option.map_eq_some_iff, Option.bind_eq_some_iff] at h
    obtain ⟨is, ⟨es, e1, e2⟩, h⟩ := h
    cases h
    rw [intsOf_eq e2] at e1
    obtain ⟨v, rfl, rv⟩ := one_rep rd
    obtain ⟨a, ys, rfl, ha, hd⟩ := lst_at R e1 rv
    rw [hd.ints] at ha
    exact cr_sum hc pins s σ H _ us Q I r ⟨a, is, rfl, .of ha, q.here R rfl⟩
theorem b_all (hc : X.calm = true) : CallR X (.builtin "all") (rBi X cl al .all) := by
  intro pins s σ H vs us Q I r ⟨ρ, S, ds, d, S', R, rd, h, q⟩
  match ds, h with
  | [x], h =>
    simp only [biD, bAll, Option.map_eq_some_iff, Option.bind_eq_some_iff] at h
    obtain ⟨is, ⟨es, e1, e2⟩, h⟩ := h
    cases h
    rw [blsOf_eq e2] at e1
    obtain ⟨v, rfl, rv⟩ := one_rep rd
    obtain ⟨a, ys, rfl, ha, hd⟩ := lst_at R e1 rv
    rw [hd.bls] at ha
    exact cr_all hc pins s σ H _ us Q I r ⟨a, is, rfl, .of ha, q.here R rfl⟩
theorem b_tuple : CallR X (.type "tuple") (rBi X cl al .tuple) := by
  intro pins s σ H vs us Q I r ⟨ρ, S, ds, d, S', R, rd, h, q⟩
  match ds, h with
  | [x], h =>
    simp only [biD, bTuple, Option.map_eq_some_iff] at h
    obtain ⟨es, e1, h⟩ := h
    cases h
    obtain ⟨v, rfl, rv⟩ := one_rep rd
    obtain ⟨a, ys, rfl, ha, hd⟩ := seq_at R e1 rv
    refine call_tuple_of pins s σ H _ us Q I r ⟨a, ys, rfl, ?_⟩
    rcases ha with ha | ha
    · exact .inl ⟨.of ha, fun l hl => q.tup R hl hd⟩
    · refine .inr ⟨.of ha, q.here R ⟨a, ys, rfl, ⟨ha, fun hm => ?_⟩, hd⟩⟩
      obtain ⟨o, ho, mu⟩ := R.mem hm
      rw [ha] at ho
      cases ho
      exact mu
theorem b_list : CallR X (.type "list") (rBi X cl al .list) := by
  intro pins s σ H vs us Q I r ⟨ρ, S, ds, d, S', R, rd, h, q⟩
  match ds, h with
  | [x], h =>
    simp only [biD, bList, Option.map_eq_some_iff] at h
    obtain ⟨es, e1, h⟩ := h
    obtain ⟨v, rfl, rv⟩ := one_rep rd
    obtain ⟨a, ys, rfl, ha, hd⟩ := seq_at R e1 rv
    exact call_list_of pins s σ H _ us Q I r ⟨a, ys, rfl, sq_of ha, fun l hl => q.mk' h R hl hd⟩
theorem b_int : CallR X (.type "int") (rBi X cl al .int) := by
  intro pins s σ H vs us Q I r ⟨ρ, S, ds, d, S', R, rd, h, q⟩
  match ds, h with
  | [.int i], h =>
    simp only [biD, bInt] at h
    cases h
    obtain ⟨v, rfl, rv⟩ := one_rep rd
    exact call_int1 pins s σ H _ us Q I r (.inl ⟨i, by rw [show v = V.int i from rv], q.here R rfl⟩)
  | [.bl i], h =>
    simp only [biD, bInt] at h
    cases h
    obtain ⟨v, rfl, rv⟩ := one_rep rd
    exact call_int1 pins s σ H _ us Q I r (.inr ⟨i, by rw [show v = V.bl i from rv], q.here R rfl⟩)
end
end
end SL

/-! SLg: sorted, index, count, isinstance, calls of built-ins. -/
namespace SL
open PySem PySem.Spec PyProof.Rows L2
theorem sorted_uniq : ∀ {a b : List Int}, a.Perm b → a.Pairwise (· ≤ ·) → b.Pairwise (· ≤ ·) → a = b
  | [], b, p, _, _ => (List.nil_perm.mp p).symm ▸ rfl
  | x :: a, [], p, _, _ => absurd p (by simp)
  | x :: a, y :: b, p, ha, hb => by
    obtain ⟨h1, h2⟩ := List.pairwise_cons.mp ha
    obtain ⟨h3, h4⟩ := List.pairwise_cons.mp hb
    have e : x = y := by
      have m1 : x ∈ y :: b := p.mem_iff.mp List.mem_cons_self
      have m2 : y ∈ x :: a := p.mem_iff.mpr List.mem_cons_self
      rcases List.mem_cons.mp m1 with e | m1
      · exact e
      · rcases List.mem_cons.mp m2 with e | m2
        · exact e.symm
        · exact Int.le_antisymm (h1 _ m2) (h3 _ m1)
    subst e
    rw [sorted_uniq ((List.perm_cons x).mp p) h2 h4]
theorem sortI_pw (is : List Int) : (sortI is).Pairwise (· ≤ ·) := by
  have h := List.pairwise_mergeSort (le := fun a b : Int => decide (a ≤ b)) (fun a b c h1 h2 => by simp at *; omega) (fun a b => by simp; omega) is
  exact h.imp fun h => of_decide_eq_true h
theorem sortI_perm (is : List Int) : (sortI is).Perm is := List.mergeSort_perm is _
theorem sortI_eq {a is : List Int} (p : a.Perm is) (h : a.Pairwise (· ≤ ·)) : a = sortI is := sorted_uniq (p.trans (sortI_perm is).symm) h (sortI_pw is)
theorem tupInts_eq : ∀ {ds : List D} {ts : List (List Int)}, tupInts ds = some ts → ds = ts.map ofTup
  | [], ts, h => by cases h; rfl
  | .tup a :: ds, ts, h => by
    simp only [tupInts] at h
    split at h
    · rename_i i r e1 e2
      cases h
      rw [intsOf_eq e1, tupInts_eq e2]
      rfl
    · cases h
  | .non :: _, _, h => by simp [tupInts] at h
  | .bl _ :: _, _, h => by simp [tupInts] at h
  | .str _ :: _, _, h => by simp [tupInts] at h
  | .int _ :: _, _, h => by simp [tupInts] at h
  | .lst _ :: _, _, h => by simp [tupInts] at h
  | .ro _ :: _, _, h => by simp [tupInts] at h
  | .obj _ :: _, _, h => by simp [tupInts] at h
theorem pysF_ints : ∀ is : List Int, pysF (is.map .int) = some (is.map .int)
  | [] => rfl
  | i :: is => by
    show pysF (.int i :: is.map .int) = _
    rw [pysF, pysF_ints is]
    rfl
theorem pyF_tup (is : List Int) : pyF (ofTup is) = some (.tuple (is.map .int)) := by
  unfold ofTup
  rw [pyF, pysF_ints]
  rfl
section
variable {X : Cx} {cl : Str → Option Addr} {C : Orc} {k : Nat} {al : Bool}
abbrev encT (b : List Int) : PyData := .tuple (b.map .int)
theorem dataLe_T : PySem.W.dataLe false encT = lexLe := by
  funext a b
  show (!PySem.W.dataLt (encT b) (encT a)) = _
  unfold encT
  rw [PySem.W.dataLt_tuple]
  show (!PySem.W.rowLt (b.map .int) (a.map .int)) = _
  rw [PySem.W.dataLt_ints]
  rfl
theorem each_tups {pins : List (Addr × Obj)} {σ : L2.St} {H : Hp} {s : Shared} {ρ : Rho} (I : Inv X pins σ H s) : ∀ {ts : List (List Int)} {vs : List V} {us : List Value}, RepVs X.K ρ H (ts.map ofTup) vs → Vals vs us →
    PySem.W.EachIs (fun v b => ∃ x, RelV x v ∧ RepV X.K ρ H (ofTup b) x) us ts ∧ PySem.W.EachIs (fun v b => ∃ as, Reads s.heap v (encT b) as) us ts
  | [], vs, us, h, r => by
    have h : vs = [] := h
    subst h
    cases r
    exact ⟨.nil, .nil⟩
  | b :: ts, vs, us, ⟨v, r, h1, h2, h3⟩, rv => by
    subst h1
    cases rv with
    | cons q t =>
      obtain ⟨i1, i2⟩ := each_tups I h3 t
      exact ⟨.cons ⟨v, q, h2⟩ i1, .cons (Dp.reads I _ v _ (dp_of _ (pyF_tup b) h2) q) i2⟩
theorem tups_back {K : PySem.W.Frag} {H : Hp} {ρ : Rho} : ∀ {ts : List (List Int)} {us : List Value}, PySem.W.EachIs (fun v b => ∃ x, RelV x v ∧ RepV K ρ H (ofTup b) x) us ts → ∃ vs, Vals vs us ∧ RepVs K ρ H (ts.map ofTup) vs
  | [], _, .nil => ⟨[], .nil, rfl⟩
  | b :: ts, _, .cons ⟨x, h1, h2⟩ t => by
    obtain ⟨vs, a, c⟩ := tups_back t
    exact ⟨x :: vs, .cons h1 a, .cons h2 c⟩
theorem oneLen_ne : ∀ {ts : List (List Int)}, oneLen ts = true → ∀ b ∈ ts, b ≠ []
  | [], _, b, h => absurd h (by simp)
  | a :: as, h, b, hb => by
    simp only [oneLen, Bool.and_eq_true, List.all_eq_true, beq_iff_eq] at h
    rcases List.mem_cons.mp hb with rfl | hb
    · intro e
      rw [e] at h
      exact absurd h.1 (by simp)
    · intro e
      have := h.2 b hb
      rw [e] at this
      cases a with
      | nil => exact absurd h.1 (by simp)
      | cons _ _ => simp at this
theorem encT_depth (b : List Int) : (encT b).depth = 1 := by
  unfold encT
  rw [PyData.depth, PySem.W.depth_ints]
theorem reads_nil : ∀ {h : Heap} {is : List Int} {vs : List Value} {as : List Addr}, ReadsAll h vs (is.map .int) as → as = []
  | _, [], _, _, r => by
    have r' : ReadsAll _ _ [] _ := r
    cases r'
    rfl
  | h, i :: is, _, _, r => by
    have r' : ReadsAll h _ (.int i :: is.map .int) _ := r
    cases r' with
    | cons h1 h2 =>
      cases h1
      rw [reads_nil h2]
      rfl
theorem readsT_nil {h : Heap} {b : List Int} {v : Value} {as : List Addr} (r : Reads h v (encT b) as) : as = [] := by
  cases r with
  | tuple h1 h2 h3 h4 => exact reads_nil h4
theorem keys_vs {K : PySem.W.Frag} {H : Hp} {ρ : Rho} : ∀ {kvs : List (NestedKey × D)} {xs : List X3}, Paired (RepX K ρ H) kvs xs → ∃ vs, Vals vs (xs.map (·.2.1)) ∧ RepVs K ρ H (kvs.map fun q => ofKey q.1) vs
  | _, _, .nil => ⟨[], .nil, rfl⟩
  | _, _, .cons h t => by
    obtain ⟨vs, h1, h2⟩ := keys_vs t
    obtain ⟨_, _, ⟨kv, h3, h4⟩, _⟩ := h
    exact ⟨kv :: vs, .cons h3 h1, .cons h4 h2⟩
theorem tups_sortable {ts : List (List Int)} (ho : oneLen ts = true) : PySem.W.Sortable (ts.map encT) := .inl fun d hd' => by
  obtain ⟨b, hb, rfl⟩ := List.mem_map.mp hd'
  have := oneLen_ne ho b hb
  cases b with
  | nil => exact absurd rfl this
  | cons y ys => exact ⟨_, _, rfl⟩
theorem tups_alike (ts : List (List Int)) : PySem.W.AllAlike (ts.map encT) := PySem.W.AllAlike.of (enc := encT) fun b b' => by simpa [PySem.W.alike, encT] using PySem.W.alike_ints b b'
theorem sortTD_eq {ds out : List D} (h : sortTD ds = some out) : ∃ ts, ds = ts.map ofTup ∧ oneLen ts = true ∧ out = (sortT ts).map ofTup := by
  unfold sortTD at h
  split at h
  · rename_i ts et
    split at h
    · cases h
      exact ⟨ts, tupInts_eq et, by assumption, rfl⟩
    · cases h
  · cases h
theorem sortD_eq {ds out : List D} (h : sortD ds = some out) : (∃ is, ds = is.map .int ∧ out = (sortI is).map .int) ∨ ∃ ts, ds = ts.map ofTup ∧ oneLen ts = true ∧ out = (sortT ts).map ofTup := by
  unfold sortD at h
  split at h
  · rename_i is ei
    cases h
    exact .inl ⟨is, intsOf_eq ei, rfl⟩
  · split at h
    · rename_i ts et
      split at h
      · cases h
        exact .inr ⟨ts, tupInts_eq et, by assumption, rfl⟩
      · cases h
    · cases h
theorem b_sorted (hr : Room k X.A) (hc : X.calm = true) : CallR X (.builtin "sorted") (rBi X cl al .sorted) := by
  intro pins s σ H vs us Q I r ⟨ρ, S, ds, d, S', R, rd, h, q⟩
  match ds, h with
  | [x], h =>
    simp only [biD, bSorted, Option.map_eq_some_iff] at h
    obtain ⟨out, e2, h⟩ := h
    obtain ⟨v, rfl, rv⟩ := one_rep rd
    unfold sortSrc at e2
    split at e2
    · rename_i es e1
      obtain ⟨a, ys, rfl, ha, hd⟩ := lst_at R e1 rv
      rcases sortD_eq e2 with ⟨is, rfl, rfl⟩ | ⟨ts, rfl, ho, rfl⟩
      · rw [hd.ints] at ha
        refine cr_sortedI pins s σ H _ us Q I r ⟨a, is, rfl, .of ha, fun ns' p hp hw hn => ?_⟩
        rw [sortI_eq hp hw]
        exact q.mk' h R hn (RepVs.of_ints _)
      · rw [Vals.ref1 r]
        obtain ⟨its, rl, hl, hz⟩ := I.list (.of ha)
        obtain ⟨k1, k2⟩ := each_tups I hd rl
        have hlen : ts.length ≤ sizeLine := by rw [← hd.length] at hz; simpa using hz
        refine PySem.W.sorted_data hl.isList k1 k2 (tups_alike ts) (tups_sortable ho) hlen (fun b hb => ?_) fun out hout eo => ?_
        · rw [encT_depth]
          have := hr.un
          omega
        · rw [dataLe_T] at eo
          obtain ⟨zs, hv, hrep⟩ := tups_back eo
          obtain ⟨ep, he'⟩ := PyProof.Rows.sortedAll_at s.heap its out.toArray
          have hzl : zs.length ≤ sizeLine := by rw [← hrep.length, List.length_map, List.length_mergeSort]; exact hlen
          have hn : H (s.heap.objs.size + 1) = none := I.hok.fresh (Nat.le_succ _)
          exact ⟨.ref _, upd H (s.heap.objs.size + 1) (.lst zs), I.laid (t' := s.toks) (fun _ _ => PyProof.Rows.sortedAll_old) (Nat.le_succ _) ⟨hzl, out, ep, hv, he'⟩, rfl, q.mk' h R hn hrep⟩
    · split at e2
      · rename_i p hp
        obtain ⟨n, kvs⟩ := p
        obtain ⟨ts, ek, ho, rfl⟩ := sortTD_eq e2
        obtain ⟨rfl, ep, hS⟩ := dictAt_of hp
        obtain ⟨ad, rfl, had⟩ := rv
        rw [Vals.ref1 r]
        obtain ⟨o, es, xs, md, hH, hsm, hkl, _, hpr⟩ := md_of I R hS had
        have hes : es = xs.map (ent X.w) := by simpa using md.ents
        refine Calls.call_function_entry kind_sorted plain_sorted entry_sorted (args_sorted1 _) ?_
        unfold Builtin.«sorted»
        refine wpAny_bind (m := checkCount "sorted" 1 1 _) (wpAny_pure ?_)
        have hxl : xs.length = kvs.length := (Paired.length hpr).symm
        have hsz : es.toArray.size = kvs.length := by rw [md.size]; exact hxl
        refine wpAny_bind (PySem.W.kdu_collect (A := X.A.in1) (KdlSrc.rawDict (ep := ep) (es := es.toArray) hsm) (show X.A.in1.handled = none from I.ok.hd hc) ⟨o, md.ob, md.ex, md.dat⟩ (by rw [hsz]; exact hkl) fun h' tk acc hk hacc => ?_)
        obtain ⟨ws, hw1, hw2⟩ := keys_vs hpr
        have ek : (kvs.map fun q => ofKey q.1) = ts.map ofTup := ek
        rw [ek] at hw2
        have hal : acc.toList = xs.map (·.2.1) := by
          refine List.ext_getElem? fun j => ?_
          by_cases hj : j < acc.size
          · have h1 : acc[j]? = some acc[j] := by simp [hj]
            obtain ⟨hi, e⟩ := hacc.2 j _ h1
            have hjx : j < xs.length := by rw [hacc.1, hsz] at hj; omega
            have h2 : es.toArray[j] = ent X.w xs[j] := by
              simp only [List.getElem_toArray, hes, List.getElem_map]
            rw [List.getElem?_map, List.getElem?_eq_getElem hjx, Array.getElem?_toList, h1, e, h2]
            rfl
          · rw [List.getElem?_eq_none (by simpa using hj), List.getElem?_eq_none (by rw [List.length_map]; rw [hacc.1, hsz] at hj; omega)]
        rw [hal]
        have hlen : ts.length ≤ sizeLine := by
          have := congrArg List.length ek
          rw [List.length_map, List.length_map] at this
          omega
        have I1 : Inv X pins σ H { s with heap := h', toks := tk } := I.kept hk
        have hxs : (xs.map (·.2.1)).length ≤ sizeLine := by rw [List.length_map, hxl]; exact hkl
        refine wpAny_bind (wpAny_newList ?_ hxs)
        have hn : H h'.objs.size = none := I1.hok.fresh (Nat.le_refl _)
        have I2 : Inv X pins σ H { s with heap := h'.push (seqObj "list" (xs.map (·.2.1)).toArray 0), toks := tk } := I1.kept (t' := tk) fun b u e => Heap.get?_push_of_some _ e
        obtain ⟨k1, k2⟩ := each_tups I2 hw2 hw1
        have hoL : (h'.push (seqObj "list" (xs.map (·.2.1)).toArray 0)).get? h'.objs.size = some (seqObj "list" (xs.map (·.2.1)).toArray 0) := Heap.get?_push_size _ rfl
        refine wpAny_bind (wpAny_holding (PySem.W.list_sort_data (s := { s with heap := h'.push (seqObj "list" (xs.map (·.2.1)).toArray 0), toks := tk }) (bs := ts) hoL k1 (k2.mono fun v b ⟨as, r⟩ => ⟨as, r, by rw [readsT_nil r]; exact List.not_mem_nil⟩) (tups_alike ts) (tups_sortable ho) hlen (fun b hb => ?_) fun out hout eo => ?_))
        · rw [encT_depth]
          show X.A.units + 1 + 1 + 1 < cLine
          have := hr.un
          omega
        · rw [dataLe_T] at eo
          obtain ⟨zs, hv, hrep⟩ := tups_back eo
          obtain ⟨ep2, he'⟩ := PyProof.Rows.sortedHeap_at (vs := xs.map (·.2.1)) (out := out.toArray) hoL
          have hzl : zs.length ≤ sizeLine := by rw [← hrep.length, List.length_map, List.length_mergeSort]; exact hlen
          refine wpAny_pure ⟨_, rfl, .ref h'.objs.size, upd H h'.objs.size (.lst zs), I1.laid (t' := tk) (fun b u e => ?_) (Nat.le_refl _) ⟨hzl, out, ep2, hv, he'⟩, rfl, q.mk' h R hn hrep⟩
          have hlt := Heap.lt_size e
          rw [PyProof.Rows.sortedHeap_old (Nat.ne_of_lt hlt) (by rw [Heap.size_push]; exact Nat.lt_succ_of_lt hlt)]
          exact Heap.get?_push_of_some _ e
      · cases e2
/-! ### methods -/
def rIdxI (K : PySem.W.Frag) : V → List V → Hp → VK → Prop := fun x xs H Q => ∃ (p : Addr) (ns : List Int) (k : Int), x = .ref p ∧ xs = [.int k] ∧ SqL K H p (ns.map V.int) ∧ k ∈ ns ∧ Q (.int (ns.idxOf k : Nat)) H
theorem mt_index : MtR X "list.index" (rIdxI X.K) := by
  intro pins s σ H x xs v us Q I rx rxs h
  obtain ⟨p, ns, k, rfl, rfl, hs, hk, q⟩ := h
  cases rx
  obtain ⟨u, rfl, ru⟩ := rxs.one
  obtain ⟨t, rfl⟩ := ru
  obtain ⟨its, rv, pl, hlen⟩ := I.list hs
  exact SeqAt.list_index_ints pl.isList rv.ints (by simpa using hlen) hk ⟨.int (ns.idxOf k : Nat), H, I.tok _, ⟨s.toks, rfl⟩, q⟩
variable {σ : L2.St} {H : Hp} {ρ : Rho} {env : En} {S S1 : Sto} {d : D} {x y z : Ex} {a b : Expr} {es : List Expr} {xs : Exs} {pos apos p : Pos}
theorem lst_sq {K : PySem.W.Frag} {w : World} {P : Program} {cl : Str → Option Addr} {d : D} {v : V} (R : RepS ⟨P, w, K, cl⟩ ρ S H) (h : (lstOf S d).isSome = true) (r : RepV K ρ H d v) : tyV K "list" v H := by
  obtain ⟨ds, h⟩ := Option.isSome_iff_exists.mp h
  obtain ⟨a, vs, rfl, ha, _⟩ := lst_at R h r
  exact .inl ⟨rfl, vs, .of ha⟩
theorem e_index (ha : PE X a (rdE X cl C x)) (hb : PE X b (rdE X cl C y)) (hbase : attributeBase a "index" X.env (eval a X.env) = eval a X.env)
    (hfew : ((backTo pos (starEach [b] X.env)).all (fun x => !x.1) && (backToKw pos (keywordEach [] X.env)).all (fun x => x.1.isSome) && decide ([b].length + ([] : List Keyword).length + (if ([] : List Keyword).isEmpty then 0 else 1) < 30)) = true)
    (hline : (apos.endLine == pos.line) = true) (hs : starEach [b] X.env = (false, eval b X.env) :: starEach [] X.env) : PE X (.Call (.Attribute a "index" apos) [b] [] pos) (rdE X cl C (.mth .index x y)) := by
  refine pe_wk (pe_bm (T := "list") PySem.F.plainAttrs_list PySem.F.slot_list_index PySem.F.type_list_index mt_index ha (pa_cons hb pa_nil hs) hbase hfew hline hs rfl) fun σ H Q ⟨ρ, env, S, d, S', R, E, e, q⟩ => ?_
  simp only [evE] at e
  obtain ⟨⟨dx, S1⟩, e1, e⟩ := bnd_eq e
  obtain ⟨hg, e⟩ := guardB_eq e
  obtain ⟨⟨dy, S2⟩, e2, e⟩ := bnd_eq e
  cases dy with
  | int j =>
    simp only [biD, bIndex, Option.bind_eq_some_iff] at e
    obtain ⟨ns, ⟨ds, h1, h2⟩, e⟩ := e
    split at e
    · rename_i hj
      cases e
      refine step_e R E e1 fun ρ1 H1 v x1 R1 rv E1 => ⟨lst_sq R1 hg rv, step_e R1 E1 e2 fun ρ2 H2 u x2 R2 ru E2 => ?_⟩
      rw [intsOf_eq h2] at h1
      obtain ⟨a, vs, rfl, hal, hd⟩ := lst_at R2 h1 (rv.mono x2)
      rw [hd.ints] at hal
      exact ⟨a, ns, j, rfl, by rw [show u = V.int j from ru], .of hal, hj, (q.ext (x1.trans x2)).here R2 rfl⟩
    · cases e
  | _ => cases e
theorem e_count (ha : PE X a (rdE X cl C x)) (hb : PE X b (rdE X cl C y)) (hbase : attributeBase a "count" X.env (eval a X.env) = eval a X.env)
    (hfew : ((backTo pos (starEach [b] X.env)).all (fun x => !x.1) && (backToKw pos (keywordEach [] X.env)).all (fun x => x.1.isSome) && decide ([b].length + ([] : List Keyword).length + (if ([] : List Keyword).isEmpty then 0 else 1) < 30)) = true)
    (hline : (apos.endLine == pos.line) = true) (hs : starEach [b] X.env = (false, eval b X.env) :: starEach [] X.env) : PE X (.Call (.Attribute a "count" apos) [b] [] pos) (rdE X cl C (.mth .count x y)) := by
  refine pe_wk (pe_bm (T := "list") PySem.F.plainAttrs_list PySem.F.slot_list_count PySem.F.type_list_count mt_lcount ha (pa_cons hb pa_nil hs) hbase hfew hline hs rfl) fun σ H Q ⟨ρ, env, S, d, S', R, E, e, q⟩ => ?_
  simp only [evE] at e
  obtain ⟨⟨dx, S1⟩, e1, e⟩ := bnd_eq e
  obtain ⟨hg, e⟩ := guardB_eq e
  obtain ⟨⟨dy, S2⟩, e2, e⟩ := bnd_eq e
  cases dy with
  | int j =>
    simp only [biD, bCount, Option.bind_eq_some_iff, Option.map_eq_some_iff] at e
    obtain ⟨ns, ⟨ds, h1, h2⟩, e⟩ := e
    cases e
    refine step_e R E e1 fun ρ1 H1 v x1 R1 rv E1 => ⟨lst_sq R1 hg rv, step_e R1 E1 e2 fun ρ2 H2 u x2 R2 ru E2 => ?_⟩
    rw [intsOf_eq h2] at h1
    obtain ⟨a, vs, rfl, hal, hd⟩ := lst_at R2 h1 (rv.mono x2)
    rw [hd.ints] at hal
    exact ⟨a, ns, j, rfl, by rw [show u = V.int j from ru], .of hal, (q.ext (x1.trans x2)).here R2 rfl⟩
  | _ => cases e
/-! ### calls of built-ins -/
theorem e_bi {id : String} {f : Bi} {n : Str} {e : Expr} (hc : CallR X (.builtin id) (rBi X cl al f)) (hg : Gl X n) (hm : X.mg n = none) (hv : bootBuiltins n = some (.builtin id)) (ha : PA X (e :: es) (rdA X cl C xs)) (hn : n ≠ "__name__") (hdb : (n == ("__debug__" : Str)) = false)
    (he : starEach (e :: es) X.env = (false, eval e X.env) :: starEach es X.env) (hpl : (backTo pos (starEach es X.env)).any (·.1) = false) : PE X (.Call (.Name n p) (e :: es) [] pos) (rdE X cl C (.bi al f xs)) :=
  pe_wk (pe_callB hc hg hm hv ha hn hdb he hpl) fun σ H Q ⟨ρ, env, S, d, S', R, E, e, q⟩ => by
    simp only [evE] at e
    obtain ⟨⟨ds, S1⟩, e1, e⟩ := bnd_eq e
    exact step_a R E e1 fun ρ1 H1 vs x1 R1 rv E1 => ⟨ρ1, S1, ds, d, S', R1, rv, e, q.ext x1⟩
theorem e_ty {id : String} {f : Bi} {n : Str} {e : Expr} (hc : CallR X (.type id) (rBi X cl al f)) (hg : Gl X n) (hm : X.mg n = none) (hv : bootBuiltins n = some (.type id)) (ha : PA X (e :: es) (rdA X cl C xs)) (hn : n ≠ "__name__") (hdb : (n == ("__debug__" : Str)) = false)
    (he : starEach (e :: es) X.env = (false, eval e X.env) :: starEach es X.env) (hpl : (backTo pos (starEach es X.env)).any (·.1) = false) : PE X (.Call (.Name n p) (e :: es) [] pos) (rdE X cl C (.bi al f xs)) :=
  pe_wk (pe_callTy hc hg hm hv ha hn hdb he hpl) fun σ H Q ⟨ρ, env, S, d, S', R, E, e, q⟩ => by
    simp only [evE] at e
    obtain ⟨⟨ds, S1⟩, e1, e⟩ := bnd_eq e
    exact step_a R E e1 fun ρ1 H1 vs x1 R1 rv E1 => ⟨ρ1, S1, ds, d, S', R1, rv, e, q.ext x1⟩
/-! ### isinstance -/
def tyS : Ty → String
  | .int => "int" | .bool => "bool" | .str => "str" | .tuple => "tuple" | .list => "list"
def kindS (S : Sto) : D → String
  | .non => "NoneType" | .bl _ => "bool" | .int _ => "int" | .str _ => "str" | .tup _ => "tuple" | .lst _ => "list" | .ro _ => "list"
  | .obj n => match S[n]? with | some (.lst _) => "list" | _ => "object"
def isB (a b : String) : Bool := (kitB a b).getD false
theorem kit_all : ∀ a ∈ ["NoneType", "bool", "int", "str", "tuple", "list"], ∀ b ∈ ["int", "bool", "str", "tuple", "list"], kitB a b = some (isB a b) := by decide +kernel
theorem kit_is {a : String} (h : a ∈ ["NoneType", "bool", "int", "str", "tuple", "list"]) (t : Ty) : kitB a (tyS t) = some (isB a (tyS t)) := kit_all a h (tyS t) (by cases t <;> decide)
theorem kind_mem {d : D} (h : kindOk S d = true) : kindS S d ∈ ["NoneType", "bool", "int", "str", "tuple", "list"] := by
  cases d with
  | obj n =>
    simp only [kindOk] at h
    split at h
    · rename_i ds e
      simp only [kindS, e]
      decide
    · cases h
  | ro _ => cases h
  | _ => simp [kindS]
theorem isB_tab : isB "NoneType" "int" = false ∧ isB "NoneType" "bool" = false ∧ isB "NoneType" "str" = false ∧ isB "NoneType" "tuple" = false ∧ isB "NoneType" "list" = false ∧
    isB "bool" "int" = true ∧ isB "bool" "bool" = true ∧ isB "bool" "str" = false ∧ isB "bool" "tuple" = false ∧ isB "bool" "list" = false ∧
    isB "int" "int" = true ∧ isB "int" "bool" = false ∧ isB "int" "str" = false ∧ isB "int" "tuple" = false ∧ isB "int" "list" = false ∧
    isB "str" "int" = false ∧ isB "str" "bool" = false ∧ isB "str" "str" = true ∧ isB "str" "tuple" = false ∧ isB "str" "list" = false ∧
    isB "tuple" "int" = false ∧ isB "tuple" "bool" = false ∧ isB "tuple" "str" = false ∧ isB "tuple" "tuple" = true ∧ isB "tuple" "list" = false ∧
    isB "list" "int" = false ∧ isB "list" "bool" = false ∧ isB "list" "str" = false ∧ isB "list" "tuple" = false ∧ isB "list" "list" = true := by decide +kernel
theorem isB_is {d : D} (h : kindOk S d = true) (t : Ty) : isB (kindS S d) (tyS t) = tyIs S d t := by
  obtain ⟨a1, a2, a3, a4, a5, a6, a7, a8, a9, a10, a11, a12, a13, a14, a15, a16, a17, a18, a19, a20, a21, a22, a23, a24, a25, a26, a27, a28, a29, a30⟩ := isB_tab
  cases d with
  | obj n =>
    simp only [kindOk] at h
    split at h
    · rename_i ds e
      simp only [kindS, e]
      cases t <;> simp only [tyS, tyIs, e, a26, a27, a28, a29, a30]
    · cases h
  | ro _ => cases h
  | _ => cases t <;> simp only [kindS, tyS, tyIs, a1, a2, a3, a4, a5, a6, a7, a8, a9, a10, a11, a12, a13, a14, a15, a16, a17, a18, a19, a20, a21, a22, a23, a24, a25, a26, a27, a28, a29, a30]
theorem ty_of {T : Ctx} {d : D} {v : V} (R : RepS T ρ S H) (h : kindOk S d = true) (r : RepV T.K ρ H d v) : TyX T.K H v (.type (kindS S d)) := by
  cases d with
  | non => cases r; exact .base .non
  | bl b => cases r; exact .base (.bl b)
  | int b => cases r; exact .base (.int b)
  | str b => cases r; exact .base (.str b)
  | tup ds => obtain ⟨a, vs, rfl, ha, _⟩ := r; exact .base (.tup ha.1)
  | lst ds => obtain ⟨a, vs, rfl, ha, _⟩ := r; exact .base (.lst ha.1)
  | ro _ => cases h
  | obj n =>
    simp only [kindOk] at h
    split at h
    · rename_i ds e
      simp only [kindS, e]
      obtain ⟨a, vs, rfl, ha, _⟩ := lst_at (ds := ds) R (by simp only [lstOf, e]) r
      exact .base (.lst ha)
    · cases h
theorem kitAny_all {K : PySem.W.Frag} {a : String} (h : a ∈ ["NoneType", "bool", "int", "str", "tuple", "list"]) : ∀ ts : List Ty, PySem.W.kitAny K (.type a) (ts.map fun t => .type (tyS t)) = some (ts.any fun t => isB a (tyS t))
  | [] => rfl
  | t :: ts => by
    rw [List.map_cons, List.any_cons]
    refine kitAny_cons (kit_ty (kit_is h t)) (fun hb => ?_) fun hb => ?_
    · rw [kitAny_all h ts, hb, Bool.false_or]
    · rw [hb, Bool.true_or]
end
end SL

/-! SLh: isinstance calls, fields, dicts' displays and stores, reversals. -/
namespace SL
open PySem PySem.Spec PyProof.Rows L2
section
variable {X : Cx} {cl : Str → Option Addr} {C : Orc} {k : Nat} {al : Bool}
variable {σ : L2.St} {H : Hp} {ρ : Rho} {env : En} {S S1 : Sto} {d : D} {x y z : Ex} {a b c : Expr} {es : List Expr} {xs : Exs} {pos apos p p2 : Pos}
/-! ### isinstance -/
theorem isiD_eq {S : Sto} {x : D} {ts : List Ty} {b : Bool} (h : isiD S x ts = some b) : kindOk S x = true ∧ b = ts.any (tyIs S x) := by
  unfold isiD at h
  split at h
  · cases h
    exact ⟨by assumption, rfl⟩
  · cases h
theorem e_isi1 {t : Ty} {n : Str} (ha : PE X a (rdE X cl C x)) (hg : Gl X "isinstance") (hm : X.mg "isinstance" = none) (hg' : Gl X n) (hm' : X.mg n = none) (hv : bootBuiltins n = some (.type (tyS t))) (hn : n ≠ "__name__") (hdb : (n == ("__debug__" : Str)) = false)
    (he : starEach [a, .Name n p2] X.env = (false, eval a X.env) :: starEach [.Name n p2] X.env) (hs : starEach [.Name n p2] X.env = (false, eval (.Name n p2) X.env) :: starEach [] X.env) (hpl : (backTo pos (starEach [.Name n p2] X.env)).any (·.1) = false) :
    PE X (.Call (.Name "isinstance" p) [a, .Name n p2] [] pos) (rdE X cl C (.isi x [t])) :=
  pe_wk (pe_callB call_isi hg hm (by decide +kernel) (pa_cons ha (pa_cons (pe_bltn (v := .ty (tyS t)) hg' hm' hv rfl hn hdb) pa_nil hs) he) (by decide) (by decide) he hpl) fun σ H Q ⟨ρ, env, S, d, S', R, E, e, q⟩ => by
    simp only [evE] at e
    obtain ⟨⟨dx, S1⟩, e1, e⟩ := bnd_eq e
    obtain ⟨b, e2, e⟩ := bnd_eq e
    cases e
    obtain ⟨h1, h2⟩ := isiD_eq e2
    exact step_e R E e1 fun ρ1 H1 v x1 R1 rv E1 => ⟨v, _, _, _, isB (kindS _ dx) (tyS t), rfl, .ty _, ty_of R1 h1 rv, kit_ty (kit_is (kind_mem h1) t), (q.ext x1).here R1 (by
      rw [isB_is h1, h2]
      simp [RepV])⟩
theorem cls_tys : ∀ ts : List Ty, Paired ClsV (ts.map fun t => V.ty (tyS t)) (ts.map fun t => Value.type (tyS t))
  | [] => .nil
  | t :: ts => .cons (.ty _) (cls_tys ts)
def tTys (ts : List Ty) : TA := fun _ H Q => Q (ts.map fun t => V.ty (tyS t)) H
theorem e_isiT {ts : List Ty} {j : Nat} {p3 : Pos} (ha : PE X a (rdE X cl C x)) (hg : Gl X "isinstance") (hm : X.mg "isinstance" = none) (hes : PA X es (tTys ts)) (hl : ts.length ≤ 1000)
    (he : starEach [a, .Tuple es j p3] X.env = (false, eval a X.env) :: starEach [.Tuple es j p3] X.env) (hs : starEach [.Tuple es j p3] X.env = (false, eval (.Tuple es j p3) X.env) :: starEach [] X.env) (hpl : (backTo pos (starEach [.Tuple es j p3] X.env)).any (·.1) = false) :
    PE X (.Call (.Name "isinstance" p) [a, .Tuple es j p3] [] pos) (rdE X cl C (.isi x ts)) :=
  pe_wk (pe_callB call_isiT hg hm (by decide +kernel) (pa_cons ha (pa_cons (pe_tup hes) pa_nil hs) he) (by decide) (by decide) he hpl) fun σ H Q ⟨ρ, env, S, d, S', R, E, e, q⟩ => by
    simp only [evE] at e
    obtain ⟨⟨dx, S1⟩, e1, e⟩ := bnd_eq e
    obtain ⟨b, e2, e⟩ := bnd_eq e
    cases e
    obtain ⟨h1, h2⟩ := isiD_eq e2
    refine step_e R E e1 fun ρ1 H1 v x1 R1 rv E1 => ⟨by rw [List.length_map, line_eq]; omega, fun p hp => ?_⟩
    refine ⟨v, p, _, _, _, ts.any fun t => isB (kindS S1 dx) (tyS t), rfl, upd_same, cls_tys ts, ty_of (R1.new hp) h1 (rv.mono (ext_new p hp)), kitAny_all (kind_mem h1) ts, (q.ext x1) _ _ _ (ext_new p hp) (R1.new hp) ?_⟩
    have e3 : (ts.any fun t => isB (kindS S1 dx) (tyS t)) = ts.any (tyIs S1 dx) := by
      congr 1
      funext t
      exact isB_is h1 t
    rw [e3, h2]
    rfl
/-! ### fields -/
/-- what is asked of the classes -/
structure ClsOk (X : Cx) (cl : Str → Option Addr) (c : Str) : Prop where
  is : ∃ A, cl c = some A ∧ L2.Cls X.K A
/-- a field's name is no name of any class of the program -/
def FldOk (X : Cx) (cl : Str → Option Addr) (f : Str) : Prop := ∀ c A, cl c = some A → NoAttr X.K A f
theorem fld_look {K : PySem.W.Frag} {f : Str} {d : D} : ∀ {fs : List (Str × D)} {gs : List (Str × V)}, RepF K ρ H fs gs → fs.lookup f = some d → ∃ v, gs.lookup f = some v ∧ RepV K ρ H d v
  | _, _, .nil, h => by cases h
  | _, _, .cons (a := p) (b := q) h t, e => by
    obtain ⟨g, u⟩ := p
    obtain ⟨g', u'⟩ := q
    obtain ⟨h1, h2⟩ := h
    simp only at h1 h2
    subst h1
    rw [List.lookup_cons] at e ⊢
    by_cases z : f == g
    · rw [z] at e ⊢
      cases e
      exact ⟨_, rfl, h2⟩
    · simp only [z] at e ⊢
      exact fld_look t e
theorem fldD_eq {S : Sto} {x : D} {f : Str} {d : D} (h : fldD S x f = some d) : ∃ n c fs, x = .obj n ∧ S[n]? = some (.ins c fs) ∧ fs.lookup f = some d := by
  cases x with
  | obj n =>
    simp only [fldD] at h
    split at h
    · exact ⟨n, _, _, rfl, by assumption, h⟩
    · cases h
  | _ => cases h
theorem e_fld {f : Str} (hc : ∀ c A, cl c = some A → L2.Cls X.K A) (hf : FldOk X cl f) (ha : PE X a (rdE X cl C x)) (hb : attributeBase a f X.env (eval a X.env) = eval a X.env) : PE X (.Attribute a f pos) (rdE X cl C (.fld x f)) :=
  pe_wk (pe_fld ha hb) fun σ H Q ⟨ρ, env, S, d, S', R, E, e, q⟩ => by
    simp only [evE] at e
    obtain ⟨⟨dx, S1⟩, e1, e⟩ := bnd_eq e
    obtain ⟨d', e2, e⟩ := bnd_eq e
    cases e
    obtain ⟨n, c, fs, rfl, hS, hl⟩ := fldD_eq e2
    refine step_e R E e1 fun ρ1 H1 v x1 R1 rv E1 => ?_
    obtain ⟨ad, rfl, ha⟩ := rv
    obtain ⟨A, dx, gs, h1, h2, h3⟩ := R1.at_ n _ ad hS ha
    obtain ⟨v, h4, h5⟩ := fld_look h3 hl
    exact ⟨ad, A, dx, gs, v, rfl, h2, hc _ _ h1, hf _ _ h1, h4, (q.ext x1).here R1 h5⟩
theorem putF_rep {K : PySem.W.Frag} {f : Str} {d : D} {v : V} (r : RepV K ρ H d v) : ∀ {fs : List (Str × D)} {gs : List (Str × V)}, RepF K ρ H fs gs → RepF K ρ H (putFD f d fs) (putF f v gs)
  | _, _, .nil => .cons ⟨rfl, r⟩ .nil
  | _, _, .cons (a := p) (b := q) h t => by
    obtain ⟨g, u⟩ := p
    obtain ⟨g', u'⟩ := q
    obtain ⟨h1, h2⟩ := h
    simp only at h1 h2
    subst h1
    by_cases z : g = f
    · rw [putFD, if_pos z, putF, if_pos z]
      exact .cons ⟨rfl, r⟩ t
    · rw [putFD, if_neg z, putF, if_neg z]
      exact .cons ⟨rfl, h2⟩ (putF_rep r t)
theorem repF_len {K : PySem.W.Frag} {fs : List (Str × D)} {gs : List (Str × V)} (h : RepF K ρ H fs gs) : fs.length = gs.length := Paired.length h
/-! ### dicts: d[k] = v -/
def pSet (X : Cx) (cl : Str → Option Addr) : TSet := fun o i v H Q => ∃ ρ S x y d S', RepS (ctx X cl) ρ S H ∧ RepV X.K ρ H x o ∧ RepV X.K ρ H y i ∧ RepV X.K ρ H d v ∧ setSubD x y d S = some S' ∧ ∀ ρ' H', Ext ρ H ρ' H' → RepS (ctx X cl) ρ' S' H' → Q H'
theorem len_put {k : NestedKey} {d : D} : ∀ kvs : List (NestedKey × D), (putK kvs k d).length = if (atK kvs k).isSome then kvs.length else kvs.length + 1
  | [] => rfl
  | (j, e) :: r => by
    by_cases z : j = k
    · simp [putK, atK, z]
    · simp only [putK, atK, if_neg z, List.length_cons, len_put r]
      split <;> rfl
theorem rawD_ok {h : Heap} {a : Addr} {o : Obj} {es : List DictEntry} {ep : Nat} {P : Program} {w : World} {H : Hp} (ho : h.get? a = some o) (hx : o.ExactDict) (hd : o.data = .dict es.toArray ep) : ObjOk P w H h a (RawD a es ep) :=
  ⟨⟨o, ho, hx, hd⟩, ⟨o, ho⟩, fun _ _ ⟨o1, q1, q2, q3⟩ k => ⟨o1, k _ q1, q2, q3⟩⟩
/-- a dict of the heap is written -/
theorem I_put {pins : List (Addr × Obj)} {s : Shared} {n ep ep' : Nat} {kvs : List (NestedKey × D)} {a : Addr} {k' : NestedKey} {d : D} {kv v : V} {ku u : Value} {xs : List X3} {es : List DictEntry} {h' : Heap} {o' : Obj} {es' : Array DictEntry} {t : Nat}
    (I : Inv X pins σ H s) (R : RepS (ctx X cl) ρ S H) (hS : S[n]? = some (.dct ep kvs)) (ha : ρ.c[n]? = some a) (hH : H a = some (RawD a es ep)) (hsm : (a == sysModules) = false) (hp : Paired (RepX X.K ρ H) kvs xs)
    (hd : k'.depth ≤ 8) (r1 : RelV kv ku) (h1 : RepV X.K ρ H (ofKey k') kv) (r2 : RelV v u) (h2 : RepV X.K ρ H d v) (hz : kvs.length < 16777216)
    (m : MD X.w h' a o' es' ep' (putX xs k' ku u)) (sb : Heap.SameBut a s.heap h') :
    ∃ es2 : List DictEntry, Inv X pins σ (upd H a (RawD a es2 ep')) { s with heap := h', toks := t } ∧ Ext ρ H ρ (upd H a (RawD a es2 ep')) ∧ RepS (ctx X cl) ρ (S.set n (.dct ep' (putK kvs k' d))) (upd H a (RawD a es2 ep')) := by
  have hm := R.inc ha
  have hok : ObjOk X.prog X.w (upd H a (RawD a es'.toList ep')) h' a (RawD a es'.toList ep') := rawD_ok m.ob m.ex (by rw [Array.toArray_toList]; exact m.dat)
  refine ⟨es'.toList, I.write (x := a) (e := a) (by rw [hH]; trivial) (.inl rfl) (fun b w hb q => (sb.2 b hb).trans q) ⟨_, m.ob⟩ hok, ext_write hm, R.write ha ?_⟩
  refine ⟨es'.toList, upd_same, hsm, ?_, ?_, ?_⟩
  · rw [len_put, line_eq]
    split <;> omega
  · have hq := x_put hd r1 h1 r2 h2 hp
    rw [x_keys hq]
    exact m.nd
  · rw [m.ents]
    have hq := x_put hd r1 h1 r2 h2 hp
    exact L2.Paired.mapP (x_pairs (T := ctx X cl) hq) fun _ _ h => h.mono (ext_write hm)
theorem p_set (hr : Room k X.A) : PSet X (pSet X cl) := by
  intro pins s σ H o i v ov iv u Q I ro ri rv ⟨ρ, S, x, y, d, S', R, rx, ry, rd, h, q⟩
  unfold setSubD at h
  split at h
  · rename_i n
    split at h
    · rename_i ds hS
      split at h
      · rename_i j
        rw [Option.map_eq_some_iff] at h
        obtain ⟨jj, hj, h⟩ := h
        cases h
        obtain ⟨a, rfl, ha⟩ := rx
        obtain ⟨vs, hH, hd⟩ := R.at_ n _ a hS ha
        have hm := R.inc ha
        refine set_list pins s σ H _ _ v ov iv u Q I ro ri rv ⟨a, vs, j, jj, rfl, ry, hH, by rw [← hd.length]; exact hj, q _ _ (ext_write hm) (R.write ha ⟨_, upd_same, ?_⟩)⟩
        exact RepVs.set (rd.mono (ext_write hm)) _ (hd.mono (ext_write hm))
      · cases h
    · rename_i ep kvs hS
      obtain ⟨k', hk, h⟩ := bnd_eq h
      obtain ⟨hz, h⟩ := guardB_eq h
      cases h
      have hz := of_decide_eq_true hz
      obtain ⟨a, rfl, ha⟩ := rx
      obtain rfl : ov = .ref a := ro
      obtain ⟨g1, g2, g3⟩ := good_key I hk ry ri
      obtain ⟨o, es, xs, m, hH, hsm, _, _, hp⟩ := md_of I R hS ha
      have hu : X.A.units + 9 < cLine := by have := hr.un; omega
      refine m_setItem m hu g1 g2 (by rw [← Paired.length hp]; exact hz) fun t h' o' es' hm' sb => ?_
      have hl : (lookX xs k').isSome = (atK kvs k').isSome := by
        rcases x_look (k := k') hp with ⟨z1, z2⟩ | ⟨_, _, _, z1, z2, _⟩ <;> rw [z1, z2] <;> rfl
      rw [hl] at hm'
      obtain ⟨es2, I2, x2, R2⟩ := I_put (t := t) I R hS ha hH hsm hp g1.2 ri (by rw [g3]; exact ry) rv rd hz hm' sb
      exact ⟨_, I2, q _ _ x2 R2⟩
    · cases h
  · cases h
/-! ### d.get(k, x) -/
/-- an expression runs -/
theorem run_e {pins : List (Addr × Obj)} {s : Shared} (ha : PE X a (rdE X cl C x)) (I : Inv X pins σ H s) (R : RepS (ctx X cl) ρ S H) (E : RepE X.K ρ H env σ) (e : evE C x env S = some (d, S1)) :
    wpAny (model X.prog X.w) X.A (eval a X.env) (fun u s' => ∃ ρ1 H1 v, Inv X pins σ H1 s' ∧ RelV v u ∧ Ext ρ H ρ1 H1 ∧ RepS (ctx X cl) ρ1 S1 H1 ∧ RepV X.K ρ1 H1 d v ∧ RepE X.K ρ1 H1 env σ) X.xe s :=
  thn (ha.run pins s σ H (fun v H1 => ∃ ρ1, Ext ρ H ρ1 H1 ∧ RepS (ctx X cl) ρ1 S1 H1 ∧ RepV X.K ρ1 H1 d v ∧ RepE X.K ρ1 H1 env σ) I (step_e R E e fun ρ1 H1 v x1 R1 rv E1 => ⟨ρ1, x1, R1, rv, E1⟩))
    fun u s' ⟨v, H1, I1, rv, ρ1, q⟩ => ⟨ρ1, H1, v, I1, rv, q⟩
theorem e_mget (hr : Room k X.A) (ha : PE X a (rdE X cl C x)) (hb : PE X b (rdE X cl C y)) (hc : PE X c (rdE X cl C z)) (m : M2 X a "get" apos b c pos) : PE X (.Call (.Attribute a "get" apos) [b, c] [] pos) (rdE X cl C (.mget x y z)) := by
  refine ⟨fun pins s σ H Q I ⟨ρ, env, S, d, S', R, E, e, q⟩ => ?_⟩
  simp only [evE] at e
  obtain ⟨⟨dx, S1⟩, e1, e⟩ := bnd_eq e
  obtain ⟨hg, e⟩ := guardB_eq e
  obtain ⟨⟨dy, S2⟩, e2, e⟩ := bnd_eq e
  obtain ⟨⟨dz, S3⟩, e3, e⟩ := bnd_eq e
  obtain ⟨⟨n, kvs⟩, e4, e⟩ := bnd_eq e
  obtain ⟨k', e5, e⟩ := bnd_eq e
  cases e
  refine wpAny_Call_method m.base m.few m.line PySem.F.plainAttrs_dict PySem.F.slot_dict_get PySem.F.type_dict_get (thn (run_e ha I R E e1) fun u s1 ⟨ρ1, H1, v, I1, rv', x1, R1, rv, E1⟩ => ?_)
  obtain ⟨⟨n', kvs'⟩, hg⟩ := Option.isSome_iff_exists.mp hg
  obtain ⟨rfl, ep', hS'⟩ := dictAt_of hg
  obtain ⟨ad, rfl, ha'⟩ := rv
  obtain rfl : u = .ref ad := rv'
  obtain ⟨o, es, xs, md, _⟩ := md_of I1 R1 hS' ha'
  refine ⟨⟨o, md.ob, md.ex.1⟩, fun b' eb => ?_, ?_⟩
  · cases eb
    exact ⟨o, md.ob, md.ex.2.1⟩
  · rw [m.trees]
    refine Calls.callWith_builtin rfl (Calls.evalArgs_plain (Calls.spliced_cons (thn (run_e hb I1 R1 E1 e2) fun iv s2 ⟨ρ2, H2, v2, I2, rv2, x2, R2, rp2, E2⟩ =>
      Calls.spliced_cons (thn (run_e hc I2 R2 E2 e3) fun fv s3 ⟨ρ3, H3, v3, I3, rv3, x3, R3, rp3, E3⟩ => Calls.spliced_nil ?_))))
    obtain ⟨en, ep, hS⟩ := dictAt_of e4
    cases en
    obtain ⟨g1, g2, g3⟩ := good_key I3 e5 (rp2.mono x3) rv2
    obtain ⟨o, es, xs, md, _, hsm, _, _, hp⟩ := md_of I3 R3 hS (x3.ix (x2.ix ha'))
    have hu : X.A.units + 9 < cLine := by have := hr.un; omega
    refine m_get2 md hu g1 g2 hsm fun t => ?_
    rcases x_look (k := k') hp with ⟨z1, z2⟩ | ⟨d', v', u', z1, z2, z3, z4⟩
    · rw [z1] at q
      rw [z2]
      exact ⟨v3, H3, I3.tok t, rv3, (q.ext ((x1.trans x2).trans x3)).here R3 rp3⟩
    · rw [z1] at q
      rw [z2]
      exact ⟨v', H3, I3.tok t, z3, (q.ext ((x1.trans x2).trans x3)).here R3 z4⟩
/-! ### displays of dicts -/
theorem rawD_new {H : Hp} {h : Heap} {P : Program} {w : World} : ObjOk P w H (h.push { cls := .type "dict", data := .dict #[] }) h.objs.size (RawD h.objs.size [] 0) :=
  rawD_ok (o := { cls := .type "dict", data := .dict #[] }) (Heap.get?_push_size _ rfl) ⟨rfl, rfl, rfl⟩ rfl
theorem sys_ne {pins : List (Addr × Obj)} {s : Shared} (I : Inv X pins σ H s) : (s.heap.objs.size == sysModules) = false := beq_eq_false_iff_ne.mpr (Ne.symm (Nat.ne_of_lt I.big))
theorem e_dct0 : PE X (.Dict [] [] pos) (rdE X cl C (.dct .nil .nil)) := by
  refine ⟨fun pins s σ H Q I ⟨ρ, env, S, d, S', R, E, e, q⟩ => ?_⟩
  simp only [evE, evs, bnd_some, dctOf] at e
  cases e
  have hn : H s.heap.objs.size = none := I.hok.fresh (Nat.le_refl _)
  refine wpAny_Dict_empty ⟨.ref s.heap.objs.size, upd H s.heap.objs.size (RawD s.heap.objs.size [] 0), I.laid (t' := s.toks) (fun b q hq => Heap.get?_push_of_some _ hq) (Nat.le_refl _) rawD_new, rfl, ?_⟩
  refine q _ _ _ (ext_cell _ hn) (R.cell hn ⟨[], upd_same, sys_ne I, Nat.zero_le _, List.nodup_nil, .nil⟩) ⟨_, rfl, last_ix R _⟩
/-- an object of ours that stood untracked is tracked from now on -/
theorem adopt {pins : List (Addr × Obj)} {s : Shared} {pz : Addr} {o : HO} {h' : Heap} {t' : Nat} (I : Inv X pins σ H s) (h0 : X.s_0.heap.objs.size ≤ pz) (h1 : pz ≠ X.env.locals) (h2 : ∀ x c, X.env.cells.lookup x = some c → c ≠ pz) (h3 : ∀ q ∈ X.pn ++ pins, q.1 ≠ pz)
    (hn : H pz = none) (sb : ∀ b u, b ≠ pz → s.heap.get? b = some u → h'.get? b = some u) (ok : ObjOk X.prog X.w (upd H pz o) h' pz o) : Inv X pins σ (upd H pz o) { s with heap := h', toks := t' } := by
  have ne : ∀ b u, H b = some u → b ≠ pz := fun b u e z => by rw [z, hn] at e; cases e
  refine I.step (g' := s.gens) (d' := s.drawn) (ch := [pz]) (fun b hb => ?_) (fun b u _ _ hc e _ => sb b u (fun z => hc (by simp [z])) e) (fun b u _ _ hc e _ => ⟨u.slots, sb b u (fun z => hc (by simp [z])) e⟩)
    (fun b u hc e n => by rw [upd_ne (fun z => hc (by simp [z]))]; exact n) (fun b u hc e => ⟨u, sb b u (fun z => hc (by simp [z])) e⟩) (fun b xs e => by rw [upd_ne (ne b _ e)]; exact e) (fun b xs u e => by rw [upd_ne (ne b _ e)]; exact e)
    (fun b ps e => ⟨#[], by rw [upd_ne (ne b _ e), e]; simp⟩) (fun m hm => ?_) (fun b u e => ?_) I.bare
  · have e : b = pz := by simpa using hb
    subst e
    exact ⟨.inr h0, h1, h2, h3⟩
  · obtain ⟨o', es, ep, ho, r⟩ := hm
    exact ⟨o', es, ep, sb _ o' (Ne.symm h1) ho, r⟩
  · by_cases z : b = pz
    · subst z
      rw [upd_same] at e
      cases e
      exact ok
    · rw [upd_ne z] at e
      refine (I.hok b u e).stay (fun c v hc q => sb c v ?_ q) (fun w q => ?_) fun w c q => ?_
      · rcases hc with z' | z'
        · rw [z']; exact z
        · exact ne c _ z'
      · rw [upd_ne (ne _ _ q)]; exact q
      · rw [upd_ne (ne _ _ q)]; exact q
theorem e_dct1 (hr : Room k X.A) (ha : PE X a (rdE X cl C x)) (hb : PE X b (rdE X cl C y)) : PE X (.Dict [some a] [b] pos) (rdE X cl C (.dct (.cons x .nil) (.cons y .nil))) := by
  refine ⟨fun pins s σ H Q I ⟨ρ, env, S, d, S', R, E, e, q⟩ => ?_⟩
  simp only [evE, evs] at e
  obtain ⟨⟨ks, S1⟩, e1, e⟩ := bnd_eq e
  obtain ⟨⟨dx, S1'⟩, e2, e1⟩ := bnd_eq e1
  cases e1
  obtain ⟨⟨vs, S2⟩, e3, e⟩ := bnd_eq e
  obtain ⟨⟨dy, S2'⟩, e4, e3⟩ := bnd_eq e3
  cases e3
  obtain ⟨kvs, e5, e⟩ := bnd_eq e
  cases e
  simp only [dctOf] at e5
  cases hk : goodKey dx with
  | none => rw [hk] at e5; cases e5
  | some k' =>
    rw [hk] at e5
    cases e5
    have hn : H s.heap.objs.size = none := I.hok.fresh (Nat.le_refl _)
    refine wpAny_Dict_any rfl rfl (by simp) (by simp) ?_
    show wpAny _ _ (evalPairs [(eval a X.env, do let x ← eval b X.env; standAt pos; pure x)]) _ _ _
    have hL : s.heap.objs.size ≠ X.env.locals := fun z => absurd I.lt (by rw [z]; exact Nat.lt_irrefl _)
    have I0 : Inv X (pins ++ [(s.heap.objs.size, { cls := .type "dict", data := .dict #[] })]) σ H { s with heap := s.heap.push { cls := .type "dict", data := .dict #[] } } :=
      Inv.pins_of (I.kept (t' := s.toks) (fun b u q => Heap.get?_push_of_some _ q)) fun q hq => by
        rcases List.mem_append.mp hq with hq | hq
        · obtain ⟨a1, a2⟩ := I.pin q (List.mem_append_right _ hq)
          exact ⟨Heap.get?_push_of_some _ a1, a2⟩
        · rw [List.mem_singleton.mp hq]
          exact ⟨Heap.get?_push_size _ rfl, hn, hL, I.nofs (Nat.le_refl _), fun v z => nomatch z⟩
    unfold evalPairs
    refine wpAny_bind (thn (run_e ha I0 R E e2) fun u s1 ⟨ρ1, H1, v1, I1, rv1, x1, R1, rp1, E1⟩ => ?_)
    refine wpAny_bind (wpAny_holding (wpAny_bind (thn (run_e hb I1 R1 E1 e4) fun w s2 ⟨ρ2, H2, v2, I2, rv2, x2, R2, rp2, E2⟩ => wpAny_bind (wpAny_standAt (wpAny_pure ?_)))))
    refine wpAny_bind (wpAny_holding ?_)
    unfold evalPairs
    refine wpAny_pure (wpAny_pure ?_)
    obtain ⟨ho, hno, _⟩ := I2.pin (s.heap.objs.size, { cls := .type "dict", data := .dict #[] }) (by simp)
    obtain ⟨g1, g2, g3⟩ := good_key I2 hk (rp1.mono x2) rv1
    have m : MD X.w s2.heap s.heap.objs.size { cls := .type "dict", data := .dict #[] } ([] : List DictEntry).toArray 0 [] := ⟨ho, ⟨rfl, rfl, rfl⟩, rfl, rfl, nofun, List.nodup_nil⟩
    have hu : X.A.units + 8 < cLine := by have := hr.un; omega
    unfold storeAll
    rw [List.forIn_cons]
    refine wpAny_bind (wpAny_bind (m_set (v := w) m hu g1 g2 (by simp) fun t h' o' es' hm' sb => wpAny_pure ?_))
    show wpAny _ _ (forIn ([] : List (Value × Value)) PUnit.unit _) _ _ _
    rw [List.forIn_nil]
    refine wpAny_pure ?_
    have hok : ObjOk X.prog X.w (upd H2 s.heap.objs.size (RawD s.heap.objs.size es'.toList 1)) h' s.heap.objs.size (RawD s.heap.objs.size es'.toList 1) := rawD_ok hm'.ob hm'.ex (by rw [Array.toArray_toList]; exact hm'.dat)
    have hz : X.s_0.heap.objs.size ≤ s.heap.objs.size := I.sz
    have I3 : Inv X pins σ H2 s2 := I2.pins_of fun q hq => I2.pin q (List.mem_append_right _ (List.mem_append_left _ hq))
    refine ⟨.ref s.heap.objs.size, upd H2 s.heap.objs.size (RawD s.heap.objs.size es'.toList 1), adopt I3 hz hL (fun x c e => ?_) (fun q hq => ?_) hno (fun b w hb q => (sb.2 b hb).trans q) hok, rfl, ?_⟩
    · obtain ⟨v, o, ho, _⟩ := I.cell x c e
      exact Nat.ne_of_lt (Heap.lt_size ho)
    · exact Nat.ne_of_lt (Heap.lt_size (I.pin q hq).1)
    · refine q _ _ _ ((x1.trans x2).trans (ext_cell _ hno)) (R2.cell hno ⟨es'.toList, upd_same, sys_ne I, by simp [line_eq], by simp, ?_⟩) ⟨_, rfl, last_ix R2 _⟩
      · rw [hm'.ents]
        exact L2.Paired.mapP (x_pairs (T := ctx X cl) (kvs := [(k', dy)]) (.cons ⟨rfl, g1.2, ⟨v1, rv1, by rw [g3]; exact rp1.mono x2⟩, v2, rv2, rp2⟩ .nil)) fun _ _ h => h.mono (ext_cell _ hno)
/-! ### xs[::-1] -/
theorem adjust_rev (n : Nat) : Builtin.Slice.sliceAdjust none none (-1) (n : Int) = ((n : Int) - 1, -1) := rfl
theorem places_rev (n : Nat) : Builtin.Slice.slicePlaces ((n : Int) - 1) (-1) (-1) = n := by
  unfold Builtin.Slice.slicePlaces
  simp only [show ¬ ((-1 : Int) > 0) by omega, if_false, Int.neg_neg, Int.ediv_one]
  split <;> omega
theorem pick_rev (xs : List Value) : ((List.range xs.length).filterMap fun (m : Nat) => xs.toArray[(((xs.length : Int) - 1) + (m : Int) * (-1)).toNat]?) = xs.reverse := by
  refine List.ext_getElem? fun i => ?_
  have e : ((List.range xs.length).filterMap fun (m : Nat) => xs.toArray[(((xs.length : Int) - 1) + (m : Int) * (-1)).toNat]?) = (List.range xs.length).map fun m => xs.getD (xs.length - 1 - m) .none := by
    have key : ∀ l : List Nat, (∀ m ∈ l, m < xs.length) → (l.filterMap fun (m : Nat) => xs.toArray[(((xs.length : Int) - 1) + (m : Int) * (-1)).toNat]?) = l.map fun m => xs.getD (xs.length - 1 - m) .none := by
      intro l
      induction l with
      | nil => intro _; rfl
      | cons m l ih =>
        intro hl
        have hm := hl m List.mem_cons_self
        have e2 : (((xs.length : Int) - 1) + (m : Int) * (-1)).toNat = xs.length - 1 - m := by omega
        have h3 : xs.length - 1 - m < xs.length := by omega
        have e3 : xs.toArray[(((xs.length : Int) - 1) + (m : Int) * (-1)).toNat]? = some (xs.getD (xs.length - 1 - m) .none) := by
          rw [e2]
          simp [h3, List.getD_eq_getElem?_getD]
        rw [List.filterMap_cons_some (f := fun (m : Nat) => xs.toArray[(((xs.length : Int) - 1) + (m : Int) * (-1)).toNat]?) e3, List.map_cons, ih fun m hm => hl m (List.mem_cons_of_mem _ hm)]
    exact key _ fun m hm => List.mem_range.mp hm
  rw [e]
  by_cases hi : i < xs.length
  · rw [List.getElem?_reverse hi]
    have h3 : xs.length - 1 - i < xs.length := by omega
    simp [hi, h3, List.getD_eq_getElem?_getD]
  · rw [List.getElem?_eq_none (by simp; omega), List.getElem?_eq_none (by simp; omega)]
section
variable {prog : Program} {w : World} {A : Around} {E : Value → Shared → Prop} {s : Shared}
theorem sliceApplied_rev {sl : Addr} {u : Tok} {n : Nat} {Q : Int × Int × Nat → Shared → Prop} (hs : s.heap.IsSliceOf sl .none .none (.int (-1) u))
    (h : Q ((n : Int) - 1, -1, n) s) : wpAny (model prog w) A (Builtin.Slice.sliceApplied (.ref sl) (pure (n : Int))) Q E s := by
  obtain ⟨os, hos, hcs, hds⟩ := id hs
  unfold Builtin.Slice.sliceApplied Builtin.Slice.sliceFields
  refine wpAny_bind (wpAny_bind (wpAny_field hos hds (x := .none) rfl (wpAny_bind (wpAny_field hos hds (x := .none) rfl (wpAny_bind (wpAny_field hos hds (x := .int (-1) u) rfl (wpAny_pure ?_)))))))
  refine wpAny_bind (PyProof.Rows.slicePart_int ?_)
  show wpAny _ _ (if ((-1 : Int) == 0) = true then _ else _) _ _ s
  rw [if_neg (by decide)]
  refine wpAny_bind (PyProof.Rows.slicePart_none (wpAny_bind (PyProof.Rows.slicePart_none (wpAny_bind (wpAny_pure ?_)))))
  show wpAny _ _ (match Builtin.Slice.sliceAdjust none none (-1) (n : Int) with | (lo, hi) => pure (lo, (-1 : Int), Builtin.Slice.slicePlaces lo hi (-1))) _ _ s
  rw [adjust_rev n]
  show wpAny _ _ (pure ((n : Int) - 1, (-1 : Int), Builtin.Slice.slicePlaces ((n : Int) - 1) (-1) (-1))) _ _ s
  rw [places_rev]
  exact wpAny_pure h
theorem getItem_tuple_rev {t sl : Addr} {its : List Value} {u : Tok} {Q : Value → Shared → Prop} (ht : IsTup s.heap t its.toArray) (hs : s.heap.IsSliceOf sl .none .none (.int (-1) u)) (hsz : its.length ≤ sizeLine)
    (h : Q (.ref s.heap.objs.size) { s with heap := s.heap.push { cls := .type "tuple", data := .seq its.reverse.toArray } }) : wpAny (model prog w) A (getItem (.ref t) (.ref sl)) Q E s := by
  obtain ⟨os, hos, hcs, hds⟩ := id hs
  have hTs : s.TypeIs (.ref sl) "slice" := ⟨os, hos, hcs⟩
  have hfit : sizeOk (.seq its.reverse.toArray) := by
    show its.reverse.toArray.size ≤ sizeLine
    simpa using hsz
  unfold getItem
  try with_reducible refine wpAny_holding ?_
  first | refine wpAny_bind (wpAny_pure ?_) | skip
  refine wpAny_bind (wpAny_sequenceKey ht.typeIs (by decide) ?_)
  refine wpAny_bind (wpAny_callSpecial?_slot (name := Str.ofString "__getitem__") ht.typeIs PyProof.Rows.slot_tuple_getitem
    (wpAny_call_entry PyProof.Rows.slot_tuple_getitem ht.typeIs entry_tuple_getitem ?_ (args_tuple_getitem _ _)))
  show wpAny _ _ (Builtin.Tuple.tupleItemsOf (.ref t) >>= _) _ _ s
  refine wpAny_bind (tupleItemsOf_ ht ?_)
  refine wpAny_bind (wpAny_typeOf hTs ?_)
  rw [if_pos (by decide)]
  refine wpAny_bind (sliceApplied_rev hs ?_)
  have hno : ¬ ((((its.toArray.size : Int) - 1) == 0 && (-1 : Int) == 1 && (its.toArray.size) == its.toArray.size) = true) := by simp
  show wpAny _ _ (if (((its.toArray.size : Int) - 1) == 0 && (-1 : Int) == 1 && (its.toArray.size) == its.toArray.size) = true then _ else _) _ _ s
  rw [if_neg hno]
  have ep := pick_rev its
  rw [List.size_toArray, ep]
  first
    | exact wpAny_bind (m := Builtin.Tuple.tupleExact _) (wpAny_newObj_type (wpAny_pure ⟨_, rfl, wpAny_pure h⟩) hfit)
    | exact wpAny_bind (m := Builtin.Tuple.tupleExact _) (wpAny_newObj_type (wpAny_bind (wpAny_pure (wpAny_pure ⟨_, rfl, wpAny_pure h⟩))) hfit)
    | exact wpAny_bind (wpAny_bind (m := Builtin.Tuple.tupleExact _) (wpAny_newObj_type (wpAny_pure (wpAny_pure ⟨_, rfl, wpAny_pure h⟩)) hfit))
    | exact wpAny_bind (wpAny_bind (m := Builtin.Tuple.tupleExact _) (wpAny_newObj_type (wpAny_pure ⟨_, rfl, wpAny_pure h⟩) hfit))
end
theorem e_rev {kk : Nat} {p1 p2 p3 : Pos} (ha : PE X a (rdE X cl C x)) : PE X (.Subscript a (.Slice none none (some (.UnaryOp .USub (.Constant (.int 1) kk p1) p2)) p3) pos) (rdE X cl C (.rev al x)) := by
  refine ⟨fun pins s σ H Q I ⟨ρ, env, S, d, S', R, E, e, q⟩ => ?_⟩
  simp only [evE] at e
  obtain ⟨⟨dx, S1⟩, e1, e⟩ := bnd_eq e
  refine Subscript_ (thn (run_e ha I R E e1) fun v s1 ⟨ρ1, H1, u1, I1, r1, x1, R1, rp1, E1⟩ => ?_)
  have hst : PO X (some (.UnaryOp .USub (.Constant (.int 1) kk p1) p2)) (tPart (tUn (rU fun i => .int (-i)) (tC (.int 1)))) := po_some (pe_un un_neg pe_int)
  refine wpAny_Slice (thn (po_none.run pins s1 σ H1 (fun o H2 => o = none ∧ H2 = H1) I1 ⟨rfl, rfl⟩) fun vl s2 ⟨l, H2, I2, pl, el, e2⟩ => ?_)
  subst el e2
  refine thn (po_none.run pins s2 σ H2 (fun o H3 => o = none ∧ H3 = H2) I2 ⟨rfl, rfl⟩) fun vu s3 ⟨u, H3, I3, pu, eu, e3⟩ => ?_
  subst eu e3
  refine thn (hst.run pins s3 σ H3 (fun o H4 => o = some (-1) ∧ H4 = H3) I3 ⟨1, rfl, -1, rfl, rfl, rfl⟩) fun vs s4 ⟨o, H4, I4, ps, eo, e4⟩ => ?_
  subst eo e4
  have I5 : Inv X pins σ H4 { s4 with heap := s4.heap.push { cls := .type "slice", data := .fields #[vl, vu, vs] } } := I4.kept (t' := s4.toks) fun b ob q => Heap.get?_push_of_some _ q
  show wpAny (model X.prog X.w) X.A (subscriptTail a (.Slice none none (some (.UnaryOp .USub (.Constant (.int 1) kk p1) p2)) p3) v (.ref s4.heap.objs.size)) (EP X pins σ Q) X.xe { s4 with heap := s4.heap.push { cls := .type "slice", data := .fields #[vl, vu, vs] } }
  by_cases ht : ∃ ds, dx = .tup ds
  · obtain ⟨ds, rfl⟩ := ht
    simp only [revD] at e
    cases e
    obtain ⟨ad, ys, rfl, ha, hd⟩ := rp1
    obtain rfl : v = .ref ad := r1
    obtain ⟨its, r, ht, hz⟩ := I5.tuple (.of ha.1)
    cases pl
    cases pu
    cases ps
    refine tail_any (ops := [.ref ad, .ref s4.heap.objs.size]) ht.typeIs (PyProof.Rows.slot_tuple_getitem.lookup) ?_ (by with_unfolding_all rfl)
    refine getItem_tuple_rev (u := _) ht (Heap.IsSliceOf.new _ _ _ _) (by rw [← r.length]; exact hz) ?_
    have hn := I5.hok.fresh (Nat.le_refl _)
    exact ⟨.ref _, _, I5.laid (t' := s4.toks) (o := .tup ys.reverse) (fun b ob q => Heap.get?_push_of_some _ q) (Nat.le_refl _) ⟨by rw [List.length_reverse]; exact hz, _, r.reverse, IsTup.new _ _⟩, rfl, (q.ext x1).tup R1 hn hd.reverse⟩
  · have e' : (lstOf S1 dx).map (fun ds => mk al ds.reverse S1) = some (d, S') := by
      cases dx <;> first | exact e | exact absurd ⟨_, rfl⟩ ht
    cases hl : lstOf S1 dx with
    | none => rw [hl] at e'; cases e'
    | some ds =>
      rw [hl] at e'
      obtain ⟨ad, ys, rfl, ha, hd⟩ := lst_at R1 hl rp1
      obtain rfl : v = .ref ad := r1
      obtain ⟨its, r, ht, hz⟩ := I5.list (.of ha)
      have hlen := r.length
      refine tail_any (ops := [.ref ad, .ref s4.heap.objs.size]) ht.isList.typeIs (PySem.slot_list_getitem.lookup) ?_ (by with_unfolding_all rfl)
      refine wpAny_getItem_list_slice ht.isList (Heap.IsSliceOf.new _ vl vu vs) pl pu ps (by decide) ?_ (by rw [List.size_toArray]; omega)
      rw [PySem.W.krv_pick]
      have hn := I5.hok.fresh (Nat.le_refl _)
      exact ⟨.ref _, _, I5.laid (t' := s4.toks) (o := .lst ys.reverse) (fun b ob q => Heap.get?_push_of_some _ q) (Nat.le_refl _) ⟨by rw [List.length_reverse]; exact hz, _, 0, r.reverse, Heap.get?_push_size _ rfl⟩, rfl, (q.ext x1).mk' (Option.some.inj e') R1 hn hd.reverse⟩
end
end SL

/-! SLi: what loops walk: lists, tuples, dicts' keys, ranges, enumerate, zip. -/
namespace SL
open PySem PySem.Spec PyProof.Rows L2
theorem Kp.trans {ρ ρ1 ρ2 : Rho} {H H1 H2 : Hp} (e : Kp ρ H ρ1 H1) (f : Kp ρ1 H1 ρ2 H2) : Kp ρ H ρ2 H2 :=
  ⟨fun n a h => f.ix n a (e.ix n a h), fun a o h n => let ⟨h1, n1⟩ := e.fr a o h n; f.fr a o h1 n1⟩
/-! ### two kinds of rows -/
def Sq (K : PySem.W.Frag) (k : Bool) (H : Hp) (a : Addr) (xs : List V) : Prop := if k = true then SqL K H a xs else SqT K H a xs
def itK (k : Bool) (h : Heap) (it a : Addr) (i : Nat) : Prop := if k = true then h.IsListIter it a i else h.IsTupleIter it a i
def plK (k : Bool) (h : Heap) (a : Addr) (its : Array Value) : Prop := if k = true then h.IsList a its else h.IsTuple a its
def itO (k : Bool) (a : Addr) : Obj := if k = true then { cls := .type "list_iterator", data := .fields #[.ref a, .int 0 0] } else { cls := .type "tuple_iterator", data := .fields #[.ref a, .int 0 0] }
theorem itK_at {k : Bool} {h h' : Heap} {it a : Addr} {i : Nat} (x : itK k h it a i) (e : ∀ o, h.get? it = some o → h'.get? it = some o) : itK k h' it a i := by
  cases k with
  | true => exact (show h.IsListIter it a i from x).at e
  | false => exact (show h.IsTupleIter it a i from x).at e
theorem itK_obj {k : Bool} {h : Heap} {it a : Addr} {i : Nat} (x : itK k h it a i) : ∃ o, h.get? it = some o ∧ ∀ v, o.data ≠ .cell v := by
  cases k with
  | true => obtain ⟨o, e, _, d⟩ := (show h.IsListIter it a i from x); exact ⟨o, e, fun v z => by rw [d] at z; cases z⟩
  | false => obtain ⟨o, e, _, d⟩ := (show h.IsTupleIter it a i from x); exact ⟨o, e, fun v z => by rw [d] at z; cases z⟩
theorem itK_new {k : Bool} {h : Heap} {it a : Addr} (e : h.get? it = some (itO k a)) : itK k h it a 0 := by
  cases k with
  | true => exact ⟨_, e, rfl, rfl⟩
  | false => exact ⟨_, e, rfl, rfl⟩
theorem plK_lt {k : Bool} {h : Heap} {a : Addr} {its : Array Value} (p : plK k h a its) : a < h.objs.size := by
  cases k with
  | true => obtain ⟨o, e, _⟩ := (show h.IsList a its from p); exact Heap.lt_size e
  | false => obtain ⟨o, e, _⟩ := (show h.IsTuple a its from p); exact Heap.lt_size e
theorem drawsK {prog : Program} {w : World} {A : Around} {k : Bool} (hh : A.handled = none) (it a : Addr) (hne : a ≠ it) (its : Array Value) :
    Draws prog w A it [it, a] its.size (fun i v => its[i]? = some v) (fun i h => itK k h it a i ∧ plK k h a its) := by
  cases k with
  | true => exact Draws.list hh it a hne its
  | false => exact Draws.tuple hh it a hne its
theorem beginsK (k : Bool) (a : Addr) (its : Array Value) : Begins (.ref a) (itO k a) fun h => plK k h a its := by
  cases k with
  | true => exact begins_list a its
  | false => exact begins_tuple a its
section
variable {X : Cx} {cl : Str → Option Addr} {C : Orc} {pins : List (Addr × Obj)} {σ : L2.St} {H : Hp} {s : Shared} {k : Bool} {a : Addr}
theorem sq_its (I : Inv X pins σ H s) {xs : List V} (h : Sq X.K k H a xs) : ∃ its : List Value, Vals xs its ∧ plK k s.heap a its.toArray ∧ xs.length ≤ sizeLine := by
  cases k with
  | true => obtain ⟨its, r, p, z⟩ := I.list h; exact ⟨its, r, p.isList, z⟩
  | false => obtain ⟨its, r, p, z⟩ := I.tuple h; exact ⟨its, r, p, z⟩
theorem sq_inj (I : Inv X pins σ H s) {xs ys : List V} (h : Sq X.K k H a xs) (h' : Sq X.K k H a ys) : xs = ys := by
  cases k with
  | true => exact I.list_inj h h'
  | false => exact I.tuple_inj h h'
end
/-! ### enumerate, zip over both kinds -/
def ItEk (K : PySem.W.Frag) (k : Bool) (a : Addr) : It :=
  ⟨fun i H => ∃ (xs : List V) (x : V), Sq K k H a xs ∧ xs[i]? = some x, fun i H v H' => ∃ T x, v = .ref T ∧ H T = none ∧ H' = upd H T (.tup [.int (i : Nat), x]) ∧ ∀ xs, Sq K k H a xs → xs[i]? = some x, fun i H => ∃ xs : List V, Sq K k H a xs ∧ xs.length = i⟩
theorem turn_enumK {P : Program} {w : World} {K : PySem.W.Frag} {elts : List Expr} {kk : Nat} {tpos : Pos} {k : Bool} (a e it : Addr) (hai : a ≠ it) (hae : a ≠ e) :
    Turn P w K (.Tuple elts kk tpos) (ItEk K k a) [e, it] e (fun i h => (∃ old, IsEnum h e it ((i : Nat) : Int) old) ∧ itK k h it a i ∧ e ≠ it) where
  mem := by simp
  obj := fun i h st b hb => by
    obtain ⟨⟨old, he⟩, hi, _⟩ := st
    have e' : b = e ∨ b = it := by simpa using hb
    rcases e' with z | z
    · rw [z]; exact ⟨_, he, fun v q => nomatch q⟩
    · rw [z]; exact itK_obj hi
  keep := fun i h h' st kp => let ⟨⟨old, he⟩, hi, hne⟩ := st; ⟨⟨old, kp e (by simp) _ he⟩, itK_at hi fun o q => kp it (by simp) o q, hne⟩
  item := by
    intro X hP hw hK hc i pins s σ H E I hf st hg
    subst hP hw hK
    obtain ⟨⟨old, he⟩, hit, hne⟩ := st
    obtain ⟨xs, x, hq, hx⟩ := hg
    obtain ⟨its, rv, p, hz⟩ := sq_its I hq
    have hel : e < s.heap.objs.size := Heap.lt_size he
    have hil : it < s.heap.objs.size := by obtain ⟨_, q, _⟩ := itK_obj hit; exact Heap.lt_size q
    have hil' : i < its.length := by rw [← rv.length]; exact (List.getElem?_eq_some_iff.mp hx).1
    refine wpAny_pyNext_enum_itemC (drawsK (prog := X.prog) (w := X.w) (A := X.A.in1) (k := k) (show X.A.in1.handled = none from I.ok.hd hc) it a hai its.toArray) he ⟨hit, p⟩ (by simpa using hil') hne (by simp; exact ⟨hne, Ne.symm hae⟩) fun u h' tk hu ho hst hT hsz hk => ?_
    obtain ⟨u', hu', ru⟩ := rv.get hx
    have hu : its[i]? = some u := by simpa using hu
    rw [hu] at hu'
    cases hu'
    refine ⟨_, rfl, wpAny_letOwnedTupleGo_enum (s := { s with heap := h', toks := tk + 1 }) ho fun h'' he' sb => ?_⟩
    have hT2 : h''.get? s.heap.objs.size = some { cls := .type "tuple", data := .seq #[.int i tk, u] } := (sb.2 _ (Nat.ne_of_gt hel)).trans hT
    have new : ObjOk X.prog X.w (upd H s.heap.objs.size (.tup [.int (i : Nat), x])) h'' s.heap.objs.size (.tup [.int (i : Nat), x]) :=
      ⟨by show 2 ≤ sizeLine; decide, [.int i tk, u], .cons ⟨_, rfl⟩ (.cons ru .nil), ⟨_, hT2, rfl, _, rfl⟩⟩
    have I1 : Inv X pins σ (upd H s.heap.objs.size (.tup [.int (i : Nat), x])) { s with heap := h'', toks := tk + 1 } :=
      I.turnedNew (ch := [e, it]) (fun b ob hb q => (sb.2 b (fun z => hb (by simp [z]))).trans (hk b ob (fun z => hb (by simp [z])) (fun z => hb (by simp [z])) q)) hf (Nat.le_refl _) new
    refine ⟨.ref s.heap.objs.size, _, I1, rfl, ⟨_, x, rfl, I.hok.fresh (Nat.le_refl _), rfl, fun ys hy => by rw [sq_inj I hy hq]; exact hx⟩, ⟨⟨u, ?_⟩, itK_at hst.1 fun o q => (sb.2 it (Ne.symm hne)).trans q, hne⟩, fun b hb => ?_⟩
    · have e1 : ((i + 1 : Nat) : Int) = (i : Int) + 1 := by omega
      rw [e1]; exact he'
    · have hb' : b < s.heap.objs.size := by
        have e' : b = e ∨ b = it := by simpa using hb
        rcases e' with z | z
        · rw [z]; exact hel
        · rw [z]; exact hil
      rw [upd_ne (Nat.ne_of_lt hb')]
      exact (hf b hb).1
  done := by
    intro X hP hw hK hc i pins s σ H E I hf st hg
    subst hP hw hK
    obtain ⟨⟨old, he⟩, hit, hne⟩ := st
    obtain ⟨xs, hq, hx⟩ := hg
    obtain ⟨its, rv, p, hz⟩ := sq_its I hq
    obtain ⟨f0, f1, f2, f3, f4, f5⟩ := hf it (by simp)
    have hl := rv.length
    subst hx
    exact wpAny_pyNext_enum_endD (drawsK (prog := X.prog) (w := X.w) (A := X.A.in1) (k := k) (show X.A.in1.handled = none from I.ok.hd hc) it a hai its.toArray) he ⟨by rw [List.size_toArray, ← hl]; exact hit, p⟩ fun h' eb => ⟨rfl, I.turned (t' := s.toks) (fun b o hb q => eb b o hb q) f0 f1 f3 f4 f5⟩
  self := fun A i s Q E st h => let ⟨⟨_, he⟩, _⟩ := st; wpAny_pyIter_enum he h
set_option maxHeartbeats 1000000 in
theorem meets_enum1 {v : Value} {o : Obj} {H : Heap → Prop} (B : Begins v o H) :
    Meets (Builtin.«enumerate.__new__» ⟨[.type "enumerate", v], []⟩) (fun _ R s => H s.heap ∧
      R (.ok (.ret (.ref (s.heap.push o).objs.size))) { s with heap := (s.heap.push o).push { cls := .type "enumerate", data := .fields #[.none, .bool false, .ref s.heap.objs.size, rawInt 0, .none, .none] } }) :=
  .of_wp fun prog w A R s h => by
    obtain ⟨hp, g, d, tk, os⟩ := s; obtain ⟨h1, h⟩ := h
    have hsub := sub_enumerate
    have q1 : ∀ {A' : Around} {E : Value → Shared → Prop} {Q : Value → Shared → Prop}, Q (.ref hp.objs.size) ⟨hp.push o, g, d, tk, os⟩ → wpAny (model prog w) A' (pyIter v) Q E ⟨hp, g, d, tk, os⟩ :=
      fun q => B.iter prog w _ _ ⟨hp, g, d, tk, os⟩ _ h1 q
    wp_walk using q1
    refine wpAny_stack_any fun st => wpAny_pure ?_
    split
    · rename_i c _ _ _ _ _
      cases (c == Value.type "enumerate")
      · wp_walk using q1
        exact ⟨_, rfl, h⟩
      · wp_walk using q1
        exact ⟨_, rfl, h⟩
    · wp_walk using q1
      exact ⟨_, rfl, h⟩
theorem enum_begins1 {prog : Program} {w : World} {A : Around} {E : Value → Shared → Prop} {s : Shared} {v : Value} {o : Obj} {H : Heap → Prop} {Q : Value → Shared → Prop} (B : Begins v o H) (h1 : H s.heap)
    (h : ∀ h', IsEnum h' (s.heap.objs.size + 1) s.heap.objs.size 0 .none → h'.get? s.heap.objs.size = some o →
      (∀ b o, s.heap.get? b = some o → h'.get? b = some o) → Q (.ref (s.heap.objs.size + 1)) { s with heap := h' }) :
    wpAny (model prog w) A (call (.type "enumerate") [v]) Q E s := by
  refine callType_new F.called_enumerate (by decide) (F.typeCall_enumerate_1 _) (F.newCall_enumerate_1 _) (fun obj => F.args_object_init_2 obj _) F.entry_enumerate_new
    (meets_enum1 B) ⟨h1, ?_⟩
  have hz : (s.heap.push o).objs.size = s.heap.objs.size + 1 := Heap.size_push ..
  show _ ∧ _
  rw [hz]
  have he : IsEnum ((s.heap.push o).push { cls := .type "enumerate", data := .fields #[.none, .bool false, .ref s.heap.objs.size, rawInt 0, .none, .none] }) (s.heap.objs.size + 1) s.heap.objs.size 0 .none := by
    have := Heap.get?_push_size (s.heap.push o) (o := { cls := .type "enumerate", data := .fields #[.none, .bool false, .ref s.heap.objs.size, rawInt 0, .none, .none] }) rfl
    rw [hz] at this; exact this
  exact ⟨⟨_, he, rfl⟩, h _ he (Heap.get?_push_of_some _ (Heap.get?_push_size _ B.free)) fun b o x => Heap.get?_push_of_some _ (Heap.get?_push_of_some _ x)⟩
/-! ### zip of two, of three -/
def ItZ2 (K : PySem.W.Frag) (k k2 : Bool) (a b : Addr) : It :=
  ⟨fun i H => ∃ (xs ys : List V) (x y : V), Sq K k H a xs ∧ Sq K k2 H b ys ∧ xs[i]? = some x ∧ ys[i]? = some y,
    fun i H v H' => ∃ T x y, v = .ref T ∧ H T = none ∧ H' = upd H T (.tup [x, y]) ∧ (∀ xs, Sq K k H a xs → xs[i]? = some x) ∧ ∀ ys, Sq K k2 H b ys → ys[i]? = some y,
    fun i H => ∃ xs ys : List V, Sq K k H a xs ∧ Sq K k2 H b ys ∧ i ≤ xs.length ∧ i ≤ ys.length ∧ (i = xs.length ∨ i = ys.length)⟩
theorem turn_zip2 {P : Program} {w : World} {K : PySem.W.Frag} {elts : List Expr} {kk : Nat} {tpos : Pos} {k k2 : Bool} {a b z TI TO i1 i2 : Addr} (D : ZipSep2 z TI TO i1 i2 [i1, a] [i2, b]) (ha : a ≠ i1) (hb : b ≠ i2) :
    Turn P w K (.Tuple elts kk tpos) (ItZ2 K k k2 a b) [z, TI, TO, i1, i2] z (fun i h => IsZip h z TI TO .none ∧ IsTupOf2 h TI (.ref i1) (.ref i2) ∧ (∃ x y, IsTupOf2 h TO x y) ∧ itK k h i1 a i ∧ itK k2 h i2 b i) where
  mem := by simp
  obj := fun i h st c hc => by
    obtain ⟨hz, hTI, ⟨x, y, hTO⟩, h1, h2⟩ := st
    have e' : c = z ∨ c = TI ∨ c = TO ∨ c = i1 ∨ c = i2 := by simpa using hc
    rcases e' with q | q | q | q | q
    · rw [q]; exact ⟨_, hz, fun v q => nomatch q⟩
    · rw [q]; exact ⟨_, hTI, fun v q => nomatch q⟩
    · rw [q]; exact ⟨_, hTO, fun v q => nomatch q⟩
    · rw [q]; exact itK_obj h1
    · rw [q]; exact itK_obj h2
  keep := fun i h h' st kp => by
    obtain ⟨hz, hTI, ⟨x, y, hTO⟩, h1, h2⟩ := st
    exact ⟨kp z (by simp) _ hz, kp TI (by simp) _ hTI, ⟨x, y, kp TO (by simp) _ hTO⟩, itK_at h1 fun o q => kp i1 (by simp) o q, itK_at h2 fun o q => kp i2 (by simp) o q⟩
  item := by
    intro X hP hw hK hc i pins s σ H E I hf st hg
    subst hP hw hK
    obtain ⟨hz, hTI, ⟨x0, y0, hTO⟩, h1, h2⟩ := st
    obtain ⟨xs, ys, x, y, hqx, hqy, hx, hy⟩ := hg
    obtain ⟨its, rv, p, _⟩ := sq_its I hqx
    obtain ⟨its2, rv2, p2, _⟩ := sq_its I hqy
    have hzl : z < s.heap.objs.size := Heap.lt_size hz
    have l1 : i < its.length := by rw [← rv.length]; exact (List.getElem?_eq_some_iff.mp hx).1
    have l2 : i < its2.length := by rw [← rv2.length]; exact (List.getElem?_eq_some_iff.mp hy).1
    refine wpAny_pyNext_zipD2_item D (drawsK (prog := X.prog) (w := X.w) (A := X.A.in1) (k := k) (show X.A.in1.handled = none from I.ok.hd hc) i1 a ha its.toArray) (drawsK (prog := X.prog) (w := X.w) (A := X.A.in1) (k := k2) (show X.A.in1.handled = none from I.ok.hd hc) i2 b hb its2.toArray) hz hTI hTO ⟨h1, p⟩ ⟨h2, p2⟩ (by simpa using l1) (by simpa using l2)
      fun u u2 h' tk hu hu2 z' TO' h1' h2' hT hsz hk => ?_
    obtain ⟨u', hu', ru⟩ := rv.get hx
    obtain ⟨u2', hu2', ru2⟩ := rv2.get hy
    have hu : its[i]? = some u := by simpa using hu
    have hu2 : its2[i]? = some u2 := by simpa using hu2
    rw [hu] at hu'
    rw [hu2] at hu2'
    cases hu'
    cases hu2'
    refine ⟨_, rfl, wpAny_letOwnedTupleGo_zip (s := { s with heap := h', toks := tk }) z' fun h'' z'' sb => ?_⟩
    have hT2 : h''.get? s.heap.objs.size = some { cls := .type "tuple", data := .seq #[u, u2] } := (sb.2 _ (Nat.ne_of_gt hzl)).trans hT
    have new : ObjOk X.prog X.w (upd H s.heap.objs.size (.tup [x, y])) h'' s.heap.objs.size (.tup [x, y]) :=
      ⟨by show 2 ≤ sizeLine; decide, [u, u2], .cons ru (.cons ru2 .nil), ⟨_, hT2, rfl, _, rfl⟩⟩
    have I1 : Inv X pins σ (upd H s.heap.objs.size (.tup [x, y])) { s with heap := h'', toks := tk } :=
      I.turnedNew (ch := [z, TI, TO, i1, i2]) (fun c o hb q => (sb.2 c (fun q' => hb (by simp [q']))).trans (hk c o (fun q' => hb (by simp [q'])) (fun q' => hb (by simp [q'])) (fun q' => hb (by simp [q'])) (fun q' => hb (by simp [q'])) q)) hf (Nat.le_refl _) new
    refine ⟨.ref s.heap.objs.size, _, I1, rfl, ⟨_, x, y, rfl, I.hok.fresh (Nat.le_refl _), rfl, fun l hl => by rw [sq_inj I hl hqx]; exact hx, fun l hl => by rw [sq_inj I hl hqy]; exact hy⟩, ⟨z'', ?_, ⟨u, u2, ?_⟩, ?_, ?_⟩, fun c hcm => ?_⟩
    · exact (sb.2 _ D.TIz).trans (hk _ _ D.TIz D.TITO D.TIi1 D.TIi2 hTI)
    · exact (sb.2 _ D.TOz).trans TO'
    · exact itK_at h1'.1 fun o q => (sb.2 _ (Ne.symm D.zi1)).trans q
    · exact itK_at h2'.1 fun o q => (sb.2 _ (Ne.symm D.zi2)).trans q
    · have hlt : c < s.heap.objs.size := by
        have e' : c = z ∨ c = TI ∨ c = TO ∨ c = i1 ∨ c = i2 := by simpa using hcm
        rcases e' with q | q | q | q | q
        · rw [q]; exact hzl
        · rw [q]; exact Heap.lt_size hTI
        · rw [q]; exact Heap.lt_size hTO
        · rw [q]; obtain ⟨_, e1, _⟩ := itK_obj h1; exact Heap.lt_size e1
        · rw [q]; obtain ⟨_, e2, _⟩ := itK_obj h2; exact Heap.lt_size e2
      rw [upd_ne (Nat.ne_of_lt hlt)]
      exact (hf c hcm).1
  done := by
    intro X hP hw hK hc i pins s σ H E I hf st hg
    subst hP hw hK
    obtain ⟨hz, hTI, ⟨x0, y0, hTO⟩, h1, h2⟩ := st
    obtain ⟨xs, ys, hqx, hqy, e1, e2, hend⟩ := hg
    obtain ⟨its, rv, p, _⟩ := sq_its I hqx
    obtain ⟨its2, rv2, p2, _⟩ := sq_its I hqy
    have l1 := rv.length
    have l2 := rv2.length
    exact wpAny_pyNext_zipD2_end D (drawsK (prog := X.prog) (w := X.w) (A := X.A.in1) (k := k) (show X.A.in1.handled = none from I.ok.hd hc) i1 a ha its.toArray) (drawsK (prog := X.prog) (w := X.w) (A := X.A.in1) (k := k2) (show X.A.in1.handled = none from I.ok.hd hc) i2 b hb its2.toArray) hz hTI hTO ⟨h1, p⟩ ⟨h2, p2⟩ (by simp; omega) (by simp; omega) (by simp; omega)
      fun h' tk hk => ⟨rfl, I.turnedL (t' := tk) (ch := [z, TI, TO, i1, i2]) (fun c o hb q => hk c o (fun q' => hb (by simp [q'])) (fun q' => hb (by simp [q'])) (fun q' => hb (by simp [q'])) (fun q' => hb (by simp [q'])) q) hf⟩
  self := fun A i s Q E st h => wpAny_pyIter_zip st.1 h
def ItZ3 (K : PySem.W.Frag) (k k2 k3 : Bool) (a b c : Addr) : It :=
  ⟨fun i H => ∃ (xs ys zs : List V) (x y z : V), Sq K k H a xs ∧ Sq K k2 H b ys ∧ Sq K k3 H c zs ∧ xs[i]? = some x ∧ ys[i]? = some y ∧ zs[i]? = some z,
    fun i H v H' => ∃ T x y z, v = .ref T ∧ H T = none ∧ H' = upd H T (.tup [x, y, z]) ∧ (∀ xs, Sq K k H a xs → xs[i]? = some x) ∧ (∀ ys, Sq K k2 H b ys → ys[i]? = some y) ∧ ∀ zs, Sq K k3 H c zs → zs[i]? = some z,
    fun i H => ∃ xs ys zs : List V, Sq K k H a xs ∧ Sq K k2 H b ys ∧ Sq K k3 H c zs ∧ i ≤ xs.length ∧ i ≤ ys.length ∧ i ≤ zs.length ∧ (i = xs.length ∨ i = ys.length ∨ i = zs.length)⟩
theorem turn_zip3 {P : Program} {w : World} {K : PySem.W.Frag} {elts : List Expr} {kk : Nat} {tpos : Pos} {k k2 k3 : Bool} {a b c z TI TO i1 i2 i3 : Addr} (D : ZipSep3 z TI TO i1 i2 i3 [i1, a] [i2, b] [i3, c]) (ha : a ≠ i1) (hb : b ≠ i2) (hcc : c ≠ i3) :
    Turn P w K (.Tuple elts kk tpos) (ItZ3 K k k2 k3 a b c) [z, TI, TO, i1, i2, i3] z (fun i h => IsZip h z TI TO .none ∧ IsTupOf3 h TI (.ref i1) (.ref i2) (.ref i3) ∧ (∃ x y u, IsTupOf3 h TO x y u) ∧ itK k h i1 a i ∧ itK k2 h i2 b i ∧ itK k3 h i3 c i) where
  mem := by simp
  obj := fun i h st d hd => by
    obtain ⟨hz, hTI, ⟨x, y, u, hTO⟩, h1, h2, h3⟩ := st
    have e' : d = z ∨ d = TI ∨ d = TO ∨ d = i1 ∨ d = i2 ∨ d = i3 := by simpa using hd
    rcases e' with q | q | q | q | q | q
    · rw [q]; exact ⟨_, hz, fun v q => nomatch q⟩
    · rw [q]; exact ⟨_, hTI, fun v q => nomatch q⟩
    · rw [q]; exact ⟨_, hTO, fun v q => nomatch q⟩
    · rw [q]; exact itK_obj h1
    · rw [q]; exact itK_obj h2
    · rw [q]; exact itK_obj h3
  keep := fun i h h' st kp => by
    obtain ⟨hz, hTI, ⟨x, y, u, hTO⟩, h1, h2, h3⟩ := st
    exact ⟨kp z (by simp) _ hz, kp TI (by simp) _ hTI, ⟨x, y, u, kp TO (by simp) _ hTO⟩, itK_at h1 fun o q => kp i1 (by simp) o q, itK_at h2 fun o q => kp i2 (by simp) o q, itK_at h3 fun o q => kp i3 (by simp) o q⟩
  item := by
    intro X hP hw hK hc i pins s σ H E I hf st hg
    subst hP hw hK
    obtain ⟨hz, hTI, ⟨x0, y0, u0, hTO⟩, h1, h2, h3⟩ := st
    obtain ⟨xs, ys, zs, x, y, v, hqx, hqy, hqz, hx, hy, hv⟩ := hg
    obtain ⟨its, rv, p, _⟩ := sq_its I hqx
    obtain ⟨its2, rv2, p2, _⟩ := sq_its I hqy
    obtain ⟨its3, rv3, p3, _⟩ := sq_its I hqz
    have hzl : z < s.heap.objs.size := Heap.lt_size hz
    have l1 : i < its.length := by rw [← rv.length]; exact (List.getElem?_eq_some_iff.mp hx).1
    have l2 : i < its2.length := by rw [← rv2.length]; exact (List.getElem?_eq_some_iff.mp hy).1
    have l3 : i < its3.length := by rw [← rv3.length]; exact (List.getElem?_eq_some_iff.mp hv).1
    refine wpAny_pyNext_zipD3_item D (drawsK (prog := X.prog) (w := X.w) (A := X.A.in1) (k := k) (show X.A.in1.handled = none from I.ok.hd hc) i1 a ha its.toArray) (drawsK (prog := X.prog) (w := X.w) (A := X.A.in1) (k := k2) (show X.A.in1.handled = none from I.ok.hd hc) i2 b hb its2.toArray) (drawsK (prog := X.prog) (w := X.w) (A := X.A.in1) (k := k3) (show X.A.in1.handled = none from I.ok.hd hc) i3 c hcc its3.toArray) hz hTI hTO ⟨h1, p⟩ ⟨h2, p2⟩ ⟨h3, p3⟩ (by simpa using l1) (by simpa using l2) (by simpa using l3)
      fun u u2 u3 h' tk hu hu2 hu3 z' TO' h1' h2' h3' hT hsz hk => ?_
    obtain ⟨u', hu', ru⟩ := rv.get hx
    obtain ⟨u2', hu2', ru2⟩ := rv2.get hy
    obtain ⟨u3', hu3', ru3⟩ := rv3.get hv
    have hu : its[i]? = some u := by simpa using hu
    have hu2 : its2[i]? = some u2 := by simpa using hu2
    have hu3 : its3[i]? = some u3 := by simpa using hu3
    rw [hu] at hu'
    rw [hu2] at hu2'
    rw [hu3] at hu3'
    cases hu'
    cases hu2'
    cases hu3'
    refine ⟨_, rfl, wpAny_letOwnedTupleGo_zip (s := { s with heap := h', toks := tk }) z' fun h'' z'' sb => ?_⟩
    have hT2 : h''.get? s.heap.objs.size = some { cls := .type "tuple", data := .seq #[u, u2, u3] } := (sb.2 _ (Nat.ne_of_gt hzl)).trans hT
    have new : ObjOk X.prog X.w (upd H s.heap.objs.size (.tup [x, y, v])) h'' s.heap.objs.size (.tup [x, y, v]) :=
      ⟨by show 3 ≤ sizeLine; decide, [u, u2, u3], .cons ru (.cons ru2 (.cons ru3 .nil)), ⟨_, hT2, rfl, _, rfl⟩⟩
    have I1 : Inv X pins σ (upd H s.heap.objs.size (.tup [x, y, v])) { s with heap := h'', toks := tk } :=
      I.turnedNew (ch := [z, TI, TO, i1, i2, i3]) (fun d o hb q => (sb.2 d (fun q' => hb (by simp [q']))).trans (hk d o (fun q' => hb (by simp [q'])) (fun q' => hb (by simp [q'])) (fun q' => hb (by simp [q'])) (fun q' => hb (by simp [q'])) (fun q' => hb (by simp [q'])) q)) hf (Nat.le_refl _) new
    refine ⟨.ref s.heap.objs.size, _, I1, rfl, ⟨_, x, y, v, rfl, I.hok.fresh (Nat.le_refl _), rfl, fun l hl => by rw [sq_inj I hl hqx]; exact hx, fun l hl => by rw [sq_inj I hl hqy]; exact hy, fun l hl => by rw [sq_inj I hl hqz]; exact hv⟩, ⟨z'', ?_, ⟨u, u2, u3, ?_⟩, ?_, ?_, ?_⟩, fun d hcm => ?_⟩
    · exact (sb.2 _ D.TIz).trans (hk _ _ D.TIz D.TITO D.TIi1 D.TIi2 D.TIi3 hTI)
    · exact (sb.2 _ D.TOz).trans TO'
    · exact itK_at h1'.1 fun o q => (sb.2 _ (Ne.symm D.zi1)).trans q
    · exact itK_at h2'.1 fun o q => (sb.2 _ (Ne.symm D.zi2)).trans q
    · exact itK_at h3'.1 fun o q => (sb.2 _ (Ne.symm D.zi3)).trans q
    · have hlt : d < s.heap.objs.size := by
        have e' : d = z ∨ d = TI ∨ d = TO ∨ d = i1 ∨ d = i2 ∨ d = i3 := by simpa using hcm
        rcases e' with q | q | q | q | q | q
        · rw [q]; exact hzl
        · rw [q]; exact Heap.lt_size hTI
        · rw [q]; exact Heap.lt_size hTO
        · rw [q]; obtain ⟨_, e1, _⟩ := itK_obj h1; exact Heap.lt_size e1
        · rw [q]; obtain ⟨_, e2, _⟩ := itK_obj h2; exact Heap.lt_size e2
        · rw [q]; obtain ⟨_, e2, _⟩ := itK_obj h3; exact Heap.lt_size e2
      rw [upd_ne (Nat.ne_of_lt hlt)]
      exact (hf d hcm).1
  done := by
    intro X hP hw hK hc i pins s σ H E I hf st hg
    subst hP hw hK
    obtain ⟨hz, hTI, ⟨x0, y0, u0, hTO⟩, h1, h2, h3⟩ := st
    obtain ⟨xs, ys, zs, hqx, hqy, hqz, e1, e2, e3, hend⟩ := hg
    obtain ⟨its, rv, p, _⟩ := sq_its I hqx
    obtain ⟨its2, rv2, p2, _⟩ := sq_its I hqy
    obtain ⟨its3, rv3, p3, _⟩ := sq_its I hqz
    have l1 := rv.length
    have l2 := rv2.length
    have l3 := rv3.length
    exact wpAny_pyNext_zipD3_end D (drawsK (prog := X.prog) (w := X.w) (A := X.A.in1) (k := k) (show X.A.in1.handled = none from I.ok.hd hc) i1 a ha its.toArray) (drawsK (prog := X.prog) (w := X.w) (A := X.A.in1) (k := k2) (show X.A.in1.handled = none from I.ok.hd hc) i2 b hb its2.toArray) (drawsK (prog := X.prog) (w := X.w) (A := X.A.in1) (k := k3) (show X.A.in1.handled = none from I.ok.hd hc) i3 c hcc its3.toArray) hz hTI hTO ⟨h1, p⟩ ⟨h2, p2⟩ ⟨h3, p3⟩ (by simp; omega) (by simp; omega) (by simp; omega) (by simp; omega)
      fun h' tk hk => ⟨rfl, I.turnedL (t' := tk) (ch := [z, TI, TO, i1, i2, i3]) (fun c o hb q => hk c o (fun q' => hb (by simp [q'])) (fun q' => hb (by simp [q'])) (fun q' => hb (by simp [q'])) (fun q' => hb (by simp [q'])) (fun q' => hb (by simp [q'])) q) hf⟩
  self := fun A i s Q E st h => wpAny_pyIter_zip st.1 h
/-! ### the keys of a dict -/
def ItD (a : Addr) (n ep : Nat) : It :=
  ⟨fun i H => ∃ (es : List DictEntry) (e : DictEntry) (x : V), H a = some (RawD a es ep) ∧ es.length = n ∧ es[i]? = some e ∧ RelV x e.key, fun i H x H' => H' = H ∧ ∀ (es : List DictEntry) (ep : Nat), H a = some (RawD a es ep) → ∃ e, es[i]? = some e ∧ RelV x e.key, fun i H => ∃ es : List DictEntry, H a = some (RawD a es ep) ∧ es.length = n ∧ n ≤ i⟩
end SL

/-! SLj: rules of iteration. -/
namespace SL
open PySem PySem.Spec PyProof.Rows L2
/-! ### what stands while it is walked -/
def Stands (X : Cx) (cl : Str → Option Addr) (ρ0 : Rho) (H0 : Hp) (src : Src) (k : Bool) (a : Addr) (ds : List D) : Prop :=
  ∀ (ρ : Rho) (S : Sto) (H : Hp), Kp ρ0 H0 ρ H → RepS (ctx X cl) ρ S H → srcOk src S = true → ∃ vs, (if k = true then H a = some (.lst vs) else H a = some (.tup vs)) ∧ RepVs X.K ρ H ds vs
/-- the iterator J walks ds -/
structure Wk (X : Cx) (cl : Str → Option Addr) (ρ0 : Rho) (H0 : Hp) (src : Src) (ds : List D) (J : It) : Prop where
  go : ∀ (i : Nat) (ρ : Rho) (S : Sto) (H : Hp), i < ds.length → Kp ρ0 H0 ρ H → RepS (ctx X cl) ρ S H → srcOk src S = true → J.go i H ∧ ∀ x H', J.yld i H x H' → ∃ d, ds[i]? = some d ∧ Ext ρ H ρ H' ∧ RepS (ctx X cl) ρ S H' ∧ RepV X.K ρ H' d x
  stop : ∀ (ρ : Rho) (S : Sto) (H : Hp), Kp ρ0 H0 ρ H → RepS (ctx X cl) ρ S H → srcOk src S = true → J.stop ds.length H
theorem srcOk_app {a b : Src} {S : Sto} : srcOk (a ++ b) S = (srcOk a S && srcOk b S) := by simp [srcOk]
theorem srcOk_self (S : Sto) (x : D) : srcOk (srcOf S x) S = true := by
  cases x with
  | obj n =>
    simp only [srcOf]
    cases h : S[n]? with
    | none => rfl
    | some c => simp [srcOk, h]
  | _ => rfl
section
variable {X : Cx} {cl : Str → Option Addr} {C : Orc} {k k2 k3 : Bool} {ρ ρ0 : Rho} {H H0 : Hp} {S : Sto} {a b c : Addr} {ds es fs : List D} {src src2 src3 : Src}
theorem Stands.sub {src' : Src} (h : Stands X cl ρ0 H0 src k a ds) (hs : ∀ S, srcOk src' S = true → srcOk src S = true) : Stands X cl ρ0 H0 src' k a ds := fun ρ S H e R ok => h ρ S H e R (hs S ok)
theorem Stands.mono {ρ1 : Rho} {H1 : Hp} (h : Stands X cl ρ0 H0 src k a ds) (e : Ext ρ0 H0 ρ1 H1) : Stands X cl ρ1 H1 src k a ds := fun ρ S H f R ok => h ρ S H (e.kp.trans f) R ok
theorem Stands.sq (h : Stands X cl ρ0 H0 src k a ds) (e : Kp ρ0 H0 ρ H) (R : RepS (ctx X cl) ρ S H) (ok : srcOk src S = true) : ∃ vs, Sq X.K k H a vs ∧ RepVs X.K ρ H ds vs := by
  obtain ⟨vs, h1, h2⟩ := h ρ S H e R ok
  refine ⟨vs, ?_, h2⟩
  cases k with
  | true => exact SqL.of (by simpa using h1)
  | false => exact SqT.of (by simpa using h1)
theorem stands_of {x : D} {v : V} (R : RepS (ctx X cl) ρ0 S H0) (h : seqOf S x = some ds) (r : RepV X.K ρ0 H0 x v) : ∃ (a : Addr) (k : Bool), v = .ref a ∧ Stands X cl ρ0 H0 (srcOf S x) k a ds := by
  cases x with
  | tup es =>
    cases h
    obtain ⟨a, vs, rfl, ha, hd⟩ := r
    exact ⟨a, false, rfl, fun ρ S' H e _ _ => ⟨vs, by simpa using (e.fr _ _ ha.1 ha.2).1, hd.kp e⟩⟩
  | lst fs =>
    cases h
    obtain ⟨a, vs, rfl, ha, hd⟩ := r
    exact ⟨a, true, rfl, fun ρ S' H e _ _ => ⟨vs, by simpa using (e.fr _ _ ha.1 ha.2).1, hd.kp e⟩⟩
  | obj n =>
    obtain ⟨a, rfl, ha⟩ := r
    simp only [seqOf, lstOf] at h
    split at h
    · rename_i zs hS
      cases h
      refine ⟨a, true, rfl, fun ρ S' H e R' ok => ?_⟩
      have ok : S'[n]? = some (.lst ds) := by
        simp only [srcOf, hS] at ok
        simpa [srcOk] using ok
      obtain ⟨vs, h1, h2⟩ := R'.at_ n _ a ok (e.ix n a ha)
      exact ⟨vs, by simpa using h1, h2⟩
    · cases h
  | _ => cases h
theorem rep_fresh {T : Addr} {ds : List D} {vs : List V} (R : RepS (ctx X cl) ρ S H) (hT : H T = none) (r : RepVs X.K ρ H ds vs) : Ext ρ H ρ (upd H T (.tup vs)) ∧ RepS (ctx X cl) ρ S (upd H T (.tup vs)) ∧ RepV X.K ρ (upd H T (.tup vs)) (.tup ds) (.ref T) :=
  ⟨ext_new T hT, R.new hT, T, vs, rfl, ⟨upd_same, R.fresh hT⟩, r.mono (ext_new T hT)⟩
theorem wk_list (h : Stands X cl ρ0 H0 src true a ds) : Wk X cl ρ0 H0 src ds (Itl X.K a) := by
  refine ⟨fun i ρ S H hi e R ok => ?_, fun ρ S H e R ok => ?_⟩
  · obtain ⟨vs, h1, h2⟩ := h.sq e R ok
    obtain ⟨v, h3, h4⟩ := h2.get (List.getElem?_eq_getElem hi)
    refine ⟨⟨vs, v, h1, h3⟩, fun x H' ⟨e1, e2⟩ => ?_⟩
    subst e1
    have := e2 vs h1
    rw [h3] at this
    cases this
    exact ⟨_, List.getElem?_eq_getElem hi, Ext.refl _ _, R, h4⟩
  · obtain ⟨vs, h1, h2⟩ := h.sq e R ok
    exact ⟨vs, h1, Nat.le_of_eq h2.length.symm⟩
theorem wk_tup (h : Stands X cl ρ0 H0 src false a ds) : Wk X cl ρ0 H0 src ds (Itt X.K a) := by
  refine ⟨fun i ρ S H hi e R ok => ?_, fun ρ S H e R ok => ?_⟩
  · obtain ⟨vs, h1, h2⟩ := h.sq e R ok
    obtain ⟨v, h3, h4⟩ := h2.get (List.getElem?_eq_getElem hi)
    refine ⟨⟨vs, v, h1, h3⟩, fun x H' ⟨e1, e2⟩ => ?_⟩
    subst e1
    have := e2 vs h1
    rw [h3] at this
    cases this
    exact ⟨_, List.getElem?_eq_getElem hi, Ext.refl _ _, R, h4⟩
  · obtain ⟨vs, h1, h2⟩ := h.sq e R ok
    exact ⟨vs, h1, Nat.le_of_eq h2.length.symm⟩
theorem rangeD_len (lo : Int) : ∀ n, (rangeD lo n).length = n
  | 0 => rfl
  | n + 1 => by rw [rangeD, List.length_cons, rangeD_len (lo + 1) n]
theorem rangeD_get : ∀ (n i : Nat) (lo : Int), i < n → (rangeD lo n)[i]? = some (.int (lo + i))
  | 0, _, _, h => absurd h (Nat.not_lt_zero _)
  | n + 1, 0, lo, _ => by simp [rangeD]
  | n + 1, i + 1, lo, h => by
    rw [rangeD, List.getElem?_cons_succ, rangeD_get n i (lo + 1) (by omega)]
    congr 2
    omega
theorem wk_range (lo : Int) (n : Nat) : Wk X cl ρ0 H0 src (rangeD lo n) (L2.Itr lo n) := by
  refine ⟨fun i ρ S H hi e R ok => ?_, fun ρ S H e R ok => ?_⟩
  · rw [rangeD_len] at hi
    refine ⟨hi, fun x H' ⟨e1, e2⟩ => ?_⟩
    subst e1 e2
    exact ⟨_, rangeD_get n i lo hi, Ext.refl _ _, R, rfl⟩
  · show n ≤ _
    rw [rangeD_len]
    exact Nat.le_refl _
theorem enumD_len : ∀ (ds : List D) (i : Int), (enumD i ds).length = ds.length
  | [], _ => rfl
  | d :: ds, i => by rw [enumD, List.length_cons, List.length_cons, enumD_len ds]
theorem enumD_get : ∀ (ds : List D) (i : Int) (j : Nat) (d : D), ds[j]? = some d → (enumD i ds)[j]? = some (.tup [.int (i + j), d])
  | [], _, _, _, h => by simp at h
  | d :: ds, i, 0, x, h => by
    simp at h
    subst h
    simp [enumD]
  | d :: ds, i, j + 1, x, h => by
    rw [enumD, List.getElem?_cons_succ, enumD_get ds (i + 1) j x (by simpa using h)]
    congr 4
    omega
theorem wk_enum (h : Stands X cl ρ0 H0 src k a ds) : Wk X cl ρ0 H0 src (enumD 0 ds) (ItEk X.K k a) := by
  refine ⟨fun i ρ S H hi e R ok => ?_, fun ρ S H e R ok => ?_⟩
  · rw [enumD_len] at hi
    obtain ⟨vs, h1, h2⟩ := h.sq e R ok
    obtain ⟨v, h3, h4⟩ := h2.get (List.getElem?_eq_getElem hi)
    refine ⟨⟨vs, v, h1, h3⟩, fun x H' ⟨T, y, ex, hT, eH, hy⟩ => ?_⟩
    subst ex eH
    have := hy vs h1
    rw [h3] at this
    cases this
    obtain ⟨f1, f2, f3⟩ := rep_fresh (ds := [.int (i : Nat), ds[i]]) (vs := [.int (i : Nat), v]) R hT ⟨_, _, rfl, rfl, _, _, rfl, h4, rfl⟩
    refine ⟨_, enumD_get ds 0 i _ (List.getElem?_eq_getElem hi), f1, f2, ?_⟩
    rw [Int.zero_add]
    exact f3
  · obtain ⟨vs, h1, h2⟩ := h.sq e R ok
    rw [enumD_len]
    exact ⟨vs, h1, h2.length.symm⟩
theorem zipT_len (ds es : List D) : (zipT ds es).length = min ds.length es.length := by simp [zipT]
theorem zipT_get {ds es : List D} {i : Nat} {d e : D} (h : ds[i]? = some d) (h' : es[i]? = some e) : (zipT ds es)[i]? = some (.tup [d, e]) := by
  unfold zipT
  rw [List.getElem?_map, List.getElem?_zip_eq_some (z := (d, e)) |>.mpr ⟨h, h'⟩]
  rfl
theorem wk_zip2 (h : Stands X cl ρ0 H0 src k a ds) (h' : Stands X cl ρ0 H0 src2 k2 b es) : Wk X cl ρ0 H0 (src ++ src2) (zipT ds es) (ItZ2 X.K k k2 a b) := by
  refine ⟨fun i ρ S H hi e R ok => ?_, fun ρ S H e R ok => ?_⟩
  · rw [zipT_len] at hi
    rw [srcOk_app, Bool.and_eq_true] at ok
    obtain ⟨vs, h1, h2⟩ := h.sq e R ok.1
    obtain ⟨us, g1, g2⟩ := h'.sq e R ok.2
    obtain ⟨v, h3, h4⟩ := h2.get (List.getElem?_eq_getElem (show i < ds.length by omega))
    obtain ⟨u, g3, g4⟩ := g2.get (List.getElem?_eq_getElem (show i < es.length by omega))
    refine ⟨⟨vs, us, v, u, h1, g1, h3, g3⟩, fun x H' ⟨T, y, z, ex, hT, eH, hy, hz⟩ => ?_⟩
    subst ex eH
    have q1 := hy vs h1
    have q2 := hz us g1
    rw [h3] at q1
    rw [g3] at q2
    cases q1
    cases q2
    obtain ⟨f1, f2, f3⟩ := rep_fresh (ds := [ds[i], es[i]]) (vs := [v, u]) R hT ⟨_, _, rfl, h4, _, _, rfl, g4, rfl⟩
    exact ⟨_, zipT_get (List.getElem?_eq_getElem _) (List.getElem?_eq_getElem _), f1, f2, f3⟩
  · rw [srcOk_app, Bool.and_eq_true] at ok
    obtain ⟨vs, h1, h2⟩ := h.sq e R ok.1
    obtain ⟨us, g1, g2⟩ := h'.sq e R ok.2
    have l1 := h2.length
    have l2 := g2.length
    rw [zipT_len]
    exact ⟨vs, us, h1, g1, by omega, by omega, by omega⟩
theorem zip3T_len : ∀ ds es fs : List D, (zip3T ds es fs).length = min (min ds.length es.length) fs.length
  | [], _, _ => by simp [zip3T]
  | _ :: _, [], _ => by simp [zip3T]
  | _ :: _, _ :: _, [] => by simp [zip3T]
  | d :: ds, e :: es, f :: fs => by
    rw [zip3T, List.length_cons, zip3T_len ds es fs]
    simp only [List.length_cons]
    omega
theorem zip3T_get : ∀ {ds es fs : List D} {i : Nat} {d e f : D}, ds[i]? = some d → es[i]? = some e → fs[i]? = some f → (zip3T ds es fs)[i]? = some (.tup [d, e, f])
  | [], _, _, _, _, _, _, h, _, _ => by simp at h
  | _ :: _, [], _, _, _, _, _, _, h, _ => by simp at h
  | _ :: _, _ :: _, [], _, _, _, _, _, _, h => by simp at h
  | d :: ds, e :: es, f :: fs, 0, _, _, _, h1, h2, h3 => by
    simp at h1 h2 h3
    subst h1 h2 h3
    simp [zip3T]
  | d :: ds, e :: es, f :: fs, i + 1, _, _, _, h1, h2, h3 => by
    rw [zip3T, List.getElem?_cons_succ]
    exact zip3T_get (by simpa using h1) (by simpa using h2) (by simpa using h3)
theorem wk_zip3 (h : Stands X cl ρ0 H0 src k a ds) (h' : Stands X cl ρ0 H0 src2 k2 b es) (h'' : Stands X cl ρ0 H0 src3 k3 c fs) : Wk X cl ρ0 H0 (src ++ src2 ++ src3) (zip3T ds es fs) (ItZ3 X.K k k2 k3 a b c) := by
  refine ⟨fun i ρ S H hi e R ok => ?_, fun ρ S H e R ok => ?_⟩
  · rw [zip3T_len] at hi
    rw [srcOk_app, srcOk_app, Bool.and_eq_true, Bool.and_eq_true] at ok
    obtain ⟨vs, h1, h2⟩ := h.sq e R ok.1.1
    obtain ⟨us, g1, g2⟩ := h'.sq e R ok.1.2
    obtain ⟨ws, j1, j2⟩ := h''.sq e R ok.2
    obtain ⟨v, h3, h4⟩ := h2.get (List.getElem?_eq_getElem (show i < ds.length by omega))
    obtain ⟨u, g3, g4⟩ := g2.get (List.getElem?_eq_getElem (show i < es.length by omega))
    obtain ⟨w, j3, j4⟩ := j2.get (List.getElem?_eq_getElem (show i < fs.length by omega))
    refine ⟨⟨vs, us, ws, v, u, w, h1, g1, j1, h3, g3, j3⟩, fun x H' ⟨T, y, z, t, ex, hT, eH, hy, hz, ht⟩ => ?_⟩
    subst ex eH
    have q1 := hy vs h1
    have q2 := hz us g1
    have q3 := ht ws j1
    rw [h3] at q1
    rw [g3] at q2
    rw [j3] at q3
    cases q1
    cases q2
    cases q3
    obtain ⟨f1, f2, f3⟩ := rep_fresh (ds := [ds[i], es[i], fs[i]]) (vs := [v, u, w]) R hT ⟨_, _, rfl, h4, _, _, rfl, g4, _, _, rfl, j4, rfl⟩
    exact ⟨_, zip3T_get (List.getElem?_eq_getElem _) (List.getElem?_eq_getElem _) (List.getElem?_eq_getElem _), f1, f2, f3⟩
  · rw [srcOk_app, srcOk_app, Bool.and_eq_true, Bool.and_eq_true] at ok
    obtain ⟨vs, h1, h2⟩ := h.sq e R ok.1.1
    obtain ⟨us, g1, g2⟩ := h'.sq e R ok.1.2
    obtain ⟨ws, j1, j2⟩ := h''.sq e R ok.2
    have l1 := h2.length
    have l2 := g2.length
    have l3 := j2.length
    rw [zip3T_len]
    exact ⟨vs, us, ws, h1, g1, j1, by omega, by omega, by omega, by omega⟩
theorem wk_dict {n ep : Nat} {kvs : List (NestedKey × D)} (hS : src = [(n, .dct ep kvs)]) (ha : ρ0.c[n]? = some a) : Wk X cl ρ0 H0 src (kvs.map fun q => ofKey q.1) (ItD a kvs.length ep) := by
  subst hS
  refine ⟨fun i ρ S H hi e R ok => ?_, fun ρ S H e R ok => ?_⟩
  · have ok : S[n]? = some (.dct ep kvs) := by simpa [srcOk] using ok
    rw [List.length_map] at hi
    obtain ⟨es, h1, h2, h3, h4, h5⟩ := R.at_ n _ a ok (e.ix n a ha)
    obtain ⟨en', q3, q4⟩ := paired_get h5 (List.getElem?_eq_getElem hi)
    obtain ⟨_, _, ⟨kv, q5, q6⟩, _⟩ := q4
    refine ⟨⟨es, en', kv, h1, (Paired.length h5).symm, q3, q5⟩, fun x H' ⟨e1, e2⟩ => ?_⟩
    subst e1
    obtain ⟨en, q1, q2⟩ := e2 es ep h1
    rw [q1] at q3
    cases q3
    rw [q2.inj q5]
    exact ⟨_, by rw [List.getElem?_map, List.getElem?_eq_getElem hi]; rfl, Ext.refl _ _, R, q6⟩
  · have ok : S[n]? = some (.dct ep kvs) := by simpa [srcOk] using ok
    obtain ⟨es, h1, h2, h3, h4, h5⟩ := R.at_ n _ a ok (e.ix n a ha)
    exact ⟨es, h1, (Paired.length h5).symm, by rw [List.length_map]; exact Nat.le_refl _⟩
end
theorem rawD_get {X : Cx} {pins : List (Addr × Obj)} {σ : L2.St} {H : Hp} {s : Shared} {a : Addr} {es : List DictEntry} {ep : Nat} (I : Inv X pins σ H s) (h : H a = some (RawD a es ep)) : ∃ o, s.heap.get? a = some o ∧ o.ExactDict ∧ o.data = .dict es.toArray ep := (I.hok a _ h).1
theorem turn_dict {P : Program} {w : World} {K : PySem.W.Frag} {tg : Expr} {n ep : Nat} (a it : Addr) : Turn P w K tg (ItD a n ep) [it] it (fun i h => h.IsKeyIter it a i n ep) where
  mem := by simp
  obj := fun i h st b hb => by
    have e : b = it := by simpa using hb
    subst e
    obtain ⟨oi, e, c, dd⟩ := st
    exact ⟨oi, e, fun v z => by rw [dd] at z; cases z⟩
  keep := fun i h h' st k => st.at fun oi e => k it (by simp) oi e
  item := by
    intro X hP hw hK hc i pins s σ H E I hf st hg
    subst hP hw hK
    obtain ⟨es, en, kv, hd, hl, hi, hr⟩ := hg
    obtain ⟨f0, f1, f2, f3, f4, f5⟩ := hf it (by simp)
    obtain ⟨o, ho, hx, hdt⟩ := rawD_get I hd
    refine next_key_item (en := en) st ho hdt (by simpa using hl) (by simpa using hi) fun h' st' sb => ?_
    have I1 : Inv X pins σ H { s with heap := h' } := I.turned (t' := s.toks) (fun b ob hb e => (sb.2 b hb).trans e) f0 f1 f3 f4 f5
    obtain ⟨oi, e, c, dd⟩ := id st'
    refine ⟨en.key, rfl, go_of (s := { s with heap := h' }) e c dd (by decide) ⟨kv, H, I1, hr, ⟨rfl, fun es2 ep2 hd2 => ?_⟩, st', fun b hb => (hf b hb).1⟩⟩
    obtain ⟨o2, ho2, _, hdt2⟩ := rawD_get I hd2
    rw [ho] at ho2
    cases ho2
    rw [hdt] at hdt2
    have z : es.toArray = es2.toArray := by injection hdt2
    have z : es = es2 := by simpa using z
    rw [← z]
    exact ⟨en, hi, hr⟩
  done := by
    intro X hP hw hK hc i pins s σ H E I hf st hg
    subst hP hw hK
    obtain ⟨es, hd, hl, hi⟩ := hg
    obtain ⟨f0, f1, f2, f3, f4, f5⟩ := hf it (by simp)
    obtain ⟨o, ho, hx, hdt⟩ := rawD_get I hd
    exact next_key_end (I.ok.hd hc) st ho hdt (by simpa using hl) hi fun h' eb => ⟨rfl, I.turned (t' := s.toks) (fun b ob hb e => eb b ob hb e) f0 f1 f3 f4 f5⟩
  self := fun A i s Q E st h => wpAny_pyIter_keyiter st h
section
variable {X : Cx} {cl : Str → Option Addr} {C : Orc} {x y z : Ex} {tg a b c : Expr}
def rdI (X : Cx) (cl : Str → Option Addr) (C : Orc) (x : Itr) : TI := fun σ H R => ∃ ρ env S src ds S', RepS (ctx X cl) ρ S H ∧ RepE X.K ρ H env σ ∧ evI C x env S = some (src, ds, S') ∧
  ∀ ρ' H' J, Ext ρ H ρ' H' → RepS (ctx X cl) ρ' S' H' → srcOk src S' = true → Wk X cl ρ' H' src ds J → R J H'
theorem i_of (ha : PE X a (rdE X cl C x)) : PI X tg a (rdI X cl C (.of x)) := by
  refine ⟨fun pins s σ H R I ⟨ρ, env, S, src, ds, S', RS, E, e, q⟩ => ?_⟩
  simp only [evI] at e
  obtain ⟨⟨dx, S1⟩, e1, e⟩ := bnd_eq e
  obtain ⟨ds', e2, e⟩ := bnd_eq e
  cases e
  refine thn (run_e ha I RS E e1) fun v s1 ⟨ρ1, H1, u, I1, r1, x1, R1, rp, E1⟩ => ?_
  unfold walkD at e2
  split at e2
  · rename_i ds2 hs
    cases e2
    obtain ⟨ad, k, rfl, st⟩ := stands_of R1 hs rp
    obtain rfl : v = .ref ad := r1
    obtain ⟨vs, h1, h2⟩ := st _ _ _ (Ext.refl ρ1 H1).kp R1 (srcOk_self _ _)
    cases k with
    | true =>
      obtain ⟨its, rv, p, hz⟩ := I1.list (.of (by simpa using h1))
      refine wpAny_pyIter_list p.isList ?_
      refine ⟨s1.heap.objs.size, [s1.heap.objs.size], _, _, H1, rfl, I1.kept (t' := s1.toks) fun b o e => Heap.get?_push_of_some _ e, turn_list ad _, ⟨_, Heap.get?_push_size _ rfl, rfl, rfl⟩, fun b hb => ?_, q _ _ _ x1 R1 (srcOk_self _ _) (wk_list st)⟩
      have e : b = s1.heap.objs.size := by simpa using hb
      subst e
      exact I1.fpOk (Nat.le_refl _) (I1.hok.fresh (Nat.le_refl _))
    | false =>
      obtain ⟨its, rv, p, hz⟩ := I1.tuple (.of (by simpa using h1))
      refine wpAny_pyIter_tuple (show s1.heap.IsTuple ad its.toArray from p) ?_
      refine ⟨s1.heap.objs.size, [s1.heap.objs.size], _, _, H1, rfl, I1.kept (t' := s1.toks) fun b o e => Heap.get?_push_of_some _ e, turn_tuple ad _, ⟨_, Heap.get?_push_size _ rfl, rfl, rfl⟩, fun b hb => ?_, q _ _ _ x1 R1 (srcOk_self _ _) (wk_tup st)⟩
      have e : b = s1.heap.objs.size := by simpa using hb
      subst e
      exact I1.fpOk (Nat.le_refl _) (I1.hok.fresh (Nat.le_refl _))
  · cases hd : dictAt S1 dx with
    | none => rw [hd] at e2; cases e2
    | some p =>
      obtain ⟨n, kvs⟩ := p
      rw [hd] at e2
      cases e2
      obtain ⟨rfl, ep, hS⟩ := dictAt_of hd
      obtain ⟨ad, rfl, had⟩ := rp
      obtain rfl : v = .ref ad := r1
      obtain ⟨o, es, xs, md, hH, hsm, _, _, hp⟩ := md_of I1 R1 hS had
      have hlen : es.toArray.size = kvs.length := by rw [md.size]; exact (Paired.length hp).symm
      have hsrc : srcOf S1 (.obj n) = [(n, .dct ep kvs)] := by simp only [srcOf, hS]
      refine iter_keys hsm md.ob md.ex md.dat (pi_one (tk := s1.toks) I1 _ (turn_dict ad _) ⟨_, Heap.get?_push_size _ rfl, rfl, ?_⟩ (q _ _ _ x1 R1 (srcOk_self _ _) (wk_dict hsrc had)))
      rw [hlen] <;> rfl
theorem i_range1 {p pos : Pos} (hg : Gl X "range") (hm : X.mg "range" = none) (ha : PE X a (rdE X cl C x)) (hs : starEach [a] X.env = [(false, eval a X.env)]) : PI X tg (.Call (.Name "range" p) [a] [] pos) (rdI X cl C (.range1 x)) :=
  ⟨fun pins s σ H R I ⟨ρ, env, S, src, ds, S', RS, E, e, q⟩ => by
    simp only [evI] at e
    obtain ⟨⟨dx, S1⟩, e1, e⟩ := bnd_eq e
    obtain ⟨ds', e2, e⟩ := bnd_eq e
    cases e
    cases dx with
    | int j =>
      obtain ⟨h1, h2⟩ := guardB_eq e2
      cases h2
      have h1 := of_decide_eq_true h1
      have h1 : -(2 ^ 62) ≤ j ∧ j < 2 ^ 62 := by omega
      refine (pi_range1 hg hm (pa_cons ha pa_nil hs) hs).run pins s σ H R I (step_e RS E e1 fun ρ1 H1 v x1 R1 rv E1 => ⟨j, by rw [show v = V.int j from rv], h1.1, h1.2, q _ _ _ x1 R1 rfl (wk_range 0 j.toNat)⟩)
    | _ => cases e2⟩
theorem i_range2 {p pos : Pos} (hg : Gl X "range") (hm : X.mg "range" = none) (ha : PE X a (rdE X cl C x)) (hb : PE X b (rdE X cl C y)) (hs : starEach [a, b] X.env = [(false, eval a X.env), (false, eval b X.env)]) (hs2 : starEach [b] X.env = [(false, eval b X.env)]) :
    PI X tg (.Call (.Name "range" p) [a, b] [] pos) (rdI X cl C (.range2 x y)) :=
  ⟨fun pins s σ H R I ⟨ρ, env, S, src, ds, S', RS, E, e, q⟩ => by
    simp only [evI] at e
    obtain ⟨⟨dx, S1⟩, e1, e⟩ := bnd_eq e
    obtain ⟨⟨dy, S2⟩, e2, e⟩ := bnd_eq e
    obtain ⟨ds', e3, e⟩ := bnd_eq e
    cases e
    cases dx with
    | int i =>
      cases dy with
      | int j =>
        obtain ⟨h1, h2⟩ := guardB_eq e3
        cases h2
        have h1 := of_decide_eq_true h1
        have h1 : -(2 ^ 62) ≤ i ∧ i < 2 ^ 62 ∧ -(2 ^ 62) ≤ j ∧ j < 2 ^ 62 := by omega
        refine (pi_range2 hg hm (pa_cons ha (pa_cons hb pa_nil hs2) (by rw [hs, hs2])) hs hs2).run pins s σ H R I (step_e RS E e1 fun ρ1 H1 v x1 R1 rv E1 => step_e R1 E1 e2 fun ρ2 H2 u x2 R2 ru E2 =>
          ⟨i, j, by rw [show v = V.int i from rv, show u = V.int j from ru], h1, q _ _ _ (x1.trans x2) R2 rfl (wk_range i (j - i).toNat)⟩)
      | _ => cases e3
    | _ => cases e3⟩
theorem fp_new {pins : List (Addr × Obj)} {σ : L2.St} {H : Hp} {s : Shared} (I : Inv X pins σ H s) {c : Addr} (h : s.heap.objs.size ≤ c) : FpOk X pins H c := I.fpOk h (I.hok.fresh h)
theorem i_enum {p pos tpos : Pos} {elts : List Expr} {kk : Nat} (hg : Gl X "enumerate") (hm : X.mg "enumerate" = none) (ha : PE X a (rdE X cl C x)) (hs : starEach [a] X.env = [(false, eval a X.env)]) :
    PI X (.Tuple elts kk tpos) (.Call (.Name "enumerate" p) [a] [] pos) (rdI X cl C (.enum x)) := by
  refine ⟨fun pins s σ H R I ⟨ρ, env, S, src, ds, S', RS, E, e, q⟩ => ?_⟩
  simp only [evI] at e
  obtain ⟨⟨dx, S1⟩, e1, e⟩ := bnd_eq e
  obtain ⟨ds', e2, e⟩ := bnd_eq e
  cases e
  refine Call_ (ld_blt I hg hm boot_enumerate (PyProof.Rows.callWith_type1 (thn ((pa_cons ha pa_nil hs).run pos pins s σ H (fun vs H1 => ∃ v ρ1, vs = [v] ∧ Ext ρ H ρ1 H1 ∧ RepS (ctx X cl) ρ1 S1 H1 ∧ RepV X.K ρ1 H1 dx v) I (step_e RS E e1 fun ρ1 H1 v x1 R1 rv E1 => ⟨v, ρ1, rfl, x1, R1, rv⟩)) fun us s1 ⟨vs, H1, I1, r1, v, ρ1, ev, x1, R1, rv⟩ => ?_) hs rfl))
  subst ev
  obtain ⟨u, rfl, ru⟩ := r1.one
  obtain ⟨ad, k, rfl, st⟩ := stands_of R1 e2 rv
  obtain rfl : u = .ref ad := ru
  obtain ⟨ws, h1, h2⟩ := st.sq (Ext.refl ρ1 H1).kp R1 (srcOk_self _ _)
  obtain ⟨its, r, pl, hz⟩ := sq_its I1 h1
  have hlt := plK_lt pl
  refine enum_begins1 (beginsK k ad its.toArray) pl fun h' he hit hk => wpAny_pyIter_enum he ?_
  refine ⟨s1.heap.objs.size + 1, [s1.heap.objs.size + 1, s1.heap.objs.size], _, _, H1, rfl, I1.kept (t' := s1.toks) hk, turn_enumK ad (s1.heap.objs.size + 1) s1.heap.objs.size (Nat.ne_of_lt hlt) (Nat.ne_of_lt (Nat.lt_succ_of_lt hlt)), ⟨⟨.none, he⟩, itK_new hit, Nat.succ_ne_self _⟩, fun b hb => ?_, q _ _ _ x1 R1 (srcOk_self _ _) (wk_enum st)⟩
  refine fp_new I1 ?_
  have e' : b = s1.heap.objs.size + 1 ∨ b = s1.heap.objs.size := by simpa using hb
  rcases e' with z | z <;> rw [z]
  · exact Nat.le_succ _
  · exact Nat.le_refl _
theorem i_zip2 {p pos tpos : Pos} {elts : List Expr} {kk : Nat} (hg : Gl X "zip") (hm : X.mg "zip" = none) (ha : PE X a (rdE X cl C x)) (hb : PE X b (rdE X cl C y)) (hs : starEach [a, b] X.env = (false, eval a X.env) :: starEach [b] X.env) (hs2 : starEach [b] X.env = (false, eval b X.env) :: starEach [] X.env)
    (hpl : (backTo pos (starEach [b] X.env)).any (·.1) = false) : PI X (.Tuple elts kk tpos) (.Call (.Name "zip" p) [a, b] [] pos) (rdI X cl C (.zip2 x y)) := by
  refine ⟨fun pins s σ H R I ⟨ρ, env, S, src, ds, S', RS, E, e, q⟩ => ?_⟩
  simp only [evI] at e
  obtain ⟨⟨dx, S1⟩, e1, e⟩ := bnd_eq e
  obtain ⟨⟨dy, S2⟩, e2, e⟩ := bnd_eq e
  obtain ⟨ds', e3, e⟩ := bnd_eq e
  obtain ⟨es', e4, e⟩ := bnd_eq e
  cases e
  refine Call_ (ld_blt I hg hm PyProof.Rows.boot_zip (PyProof.Rows.callWith_type1 (thn ((pa_cons ha (pa_cons hb pa_nil hs2) hs).run pos pins s σ H (fun vs H1 => ∃ v u ρ1, vs = [v, u] ∧ Ext ρ H ρ1 H1 ∧ RepS (ctx X cl) ρ1 S2 H1 ∧ RepV X.K ρ1 H1 dx v ∧ RepV X.K ρ1 H1 dy u) I
    (step_e RS E e1 fun ρ1 H1 v x1 R1 rv E1 => step_e R1 E1 e2 fun ρ2 H2 u x2 R2 ru E2 => ⟨v, u, ρ2, rfl, x1.trans x2, R2, rv.mono x2, ru⟩)) fun us s1 ⟨vs, H1, I1, r1, v, u, ρ1, ev, x1, R1, rv, ru⟩ => ?_) hs hpl))
  subst ev
  obtain ⟨v', u', rfl, rv', ru'⟩ := r1.two
  obtain ⟨ad, k, rfl, st⟩ := stands_of R1 e3 rv
  obtain ⟨bd, k2, rfl, st2⟩ := stands_of R1 e4 ru
  obtain rfl : v' = .ref ad := rv'
  obtain rfl : u' = .ref bd := ru'
  obtain ⟨ws, h1, h2⟩ := st.sq (Ext.refl ρ1 H1).kp R1 (srcOk_self _ _)
  obtain ⟨ws2, g1, g2⟩ := st2.sq (Ext.refl ρ1 H1).kp R1 (srcOk_self _ _)
  obtain ⟨its, r, pl, hz⟩ := sq_its I1 h1
  obtain ⟨its2, r2, pl2, hz2⟩ := sq_its I1 g1
  have hlt := plK_lt pl
  have hlt2 := plK_lt pl2
  refine zip_begins2 (beginsK k ad its.toArray) (beginsK k2 bd its2.toArray) pl pl2 fun h' hz hTI hTO hi1 hi2 hsz hk => wpAny_pyIter_zip hz ?_
  refine ⟨s1.heap.objs.size + 4, [s1.heap.objs.size + 4, s1.heap.objs.size + 2, s1.heap.objs.size + 3, s1.heap.objs.size, s1.heap.objs.size + 1], _, _, H1, rfl, I1.kept (t' := s1.toks) hk,
    turn_zip2 (zip_sep2 (N := s1.heap.objs.size) (fun b hb => by rw [List.mem_singleton.mp hb]; exact hlt) (fun b hb => by rw [List.mem_singleton.mp hb]; exact hlt2)) (Nat.ne_of_lt hlt) (Nat.ne_of_lt (Nat.lt_succ_of_lt hlt2)),
    ⟨hz, hTI, ⟨_, _, hTO⟩, itK_new hi1, itK_new hi2⟩, fun b hb => ?_, q _ _ _ x1 R1 (by rw [srcOk_app, srcOk_self, srcOk_self]; rfl) (wk_zip2 st st2)⟩
  refine fp_new I1 ?_
  have e' : b = s1.heap.objs.size + 4 ∨ b = s1.heap.objs.size + 2 ∨ b = s1.heap.objs.size + 3 ∨ b = s1.heap.objs.size ∨ b = s1.heap.objs.size + 1 := by simpa using hb
  rcases e' with z | z | z | z | z <;> rw [z]
  · exact Nat.le_add_right _ _
  · exact Nat.le_add_right _ _
  · exact Nat.le_add_right _ _
  · exact Nat.le_refl _
  · exact Nat.le_add_right _ _
theorem i_zip3 {p pos tpos : Pos} {elts : List Expr} {kk : Nat} (hg : Gl X "zip") (hm : X.mg "zip" = none) (ha : PE X a (rdE X cl C x)) (hb : PE X b (rdE X cl C y)) (hc : PE X c (rdE X cl C z)) (hs : starEach [a, b, c] X.env = (false, eval a X.env) :: starEach [b, c] X.env) (hs2 : starEach [b, c] X.env = (false, eval b X.env) :: starEach [c] X.env)
    (hs3 : starEach [c] X.env = (false, eval c X.env) :: starEach [] X.env) (hpl : (backTo pos (starEach [b, c] X.env)).any (·.1) = false) : PI X (.Tuple elts kk tpos) (.Call (.Name "zip" p) [a, b, c] [] pos) (rdI X cl C (.zip3 x y z)) := by
  refine ⟨fun pins s σ H R I ⟨ρ, env, S, src, ds, S', RS, E, e, q⟩ => ?_⟩
  simp only [evI] at e
  obtain ⟨⟨dx, S1⟩, e1, e⟩ := bnd_eq e
  obtain ⟨⟨dy, S2⟩, e2, e⟩ := bnd_eq e
  obtain ⟨⟨dz, S3⟩, e22, e⟩ := bnd_eq e
  obtain ⟨ds', e3, e⟩ := bnd_eq e
  obtain ⟨es', e4, e⟩ := bnd_eq e
  obtain ⟨fs', e5, e⟩ := bnd_eq e
  cases e
  refine Call_ (ld_blt I hg hm PyProof.Rows.boot_zip (PyProof.Rows.callWith_type1 (thn ((pa_cons ha (pa_cons hb (pa_cons hc pa_nil hs3) hs2) hs).run pos pins s σ H (fun vs H1 => ∃ v u w ρ1, vs = [v, u, w] ∧ Ext ρ H ρ1 H1 ∧ RepS (ctx X cl) ρ1 S3 H1 ∧ RepV X.K ρ1 H1 dx v ∧ RepV X.K ρ1 H1 dy u ∧ RepV X.K ρ1 H1 dz w) I
    (step_e RS E e1 fun ρ1 H1 v x1 R1 rv E1 => step_e R1 E1 e2 fun ρ2 H2 u x2 R2 ru E2 => step_e R2 E2 e22 fun ρ3 H3 w x3 R3 rw' E3 => ⟨v, u, w, ρ3, rfl, (x1.trans x2).trans x3, R3, (rv.mono x2).mono x3, ru.mono x3, rw'⟩)) fun us s1 ⟨vs, H1, I1, r1, v, u, w, ρ1, ev, x1, R1, rv, ru, rw'⟩ => ?_) hs hpl))
  subst ev
  cases r1 with
  | cons rv' r1 =>
  obtain ⟨u', w', rfl, ru', rw2⟩ := Vals.two r1
  rename_i v' _
  obtain ⟨ad, k, rfl, st⟩ := stands_of R1 e3 rv
  obtain ⟨bd, k2, rfl, st2⟩ := stands_of R1 e4 ru
  obtain ⟨cd, k3, rfl, st3⟩ := stands_of R1 e5 rw'
  obtain rfl : v' = .ref ad := rv'
  obtain rfl : u' = .ref bd := ru'
  obtain rfl : w' = .ref cd := rw2
  obtain ⟨ws, h1, h2⟩ := st.sq (Ext.refl ρ1 H1).kp R1 (srcOk_self _ _)
  obtain ⟨ws2, g1, g2⟩ := st2.sq (Ext.refl ρ1 H1).kp R1 (srcOk_self _ _)
  obtain ⟨ws3, j1, j2⟩ := st3.sq (Ext.refl ρ1 H1).kp R1 (srcOk_self _ _)
  obtain ⟨its, r, pl, hz⟩ := sq_its I1 h1
  obtain ⟨its2, r2, pl2, hz2⟩ := sq_its I1 g1
  obtain ⟨its3, r3, pl3, hz3⟩ := sq_its I1 j1
  have hlt := plK_lt pl
  have hlt2 := plK_lt pl2
  have hlt3 := plK_lt pl3
  refine zip_begins3 (beginsK k ad its.toArray) (beginsK k2 bd its2.toArray) (beginsK k3 cd its3.toArray) pl pl2 pl3 fun h' hz hTI hTO hi1 hi2 hi3 hsz hk => wpAny_pyIter_zip hz ?_
  refine ⟨s1.heap.objs.size + 5, [s1.heap.objs.size + 5, s1.heap.objs.size + 3, s1.heap.objs.size + 4, s1.heap.objs.size, s1.heap.objs.size + 1, s1.heap.objs.size + 2], _, _, H1, rfl, I1.kept (t' := s1.toks) hk,
    turn_zip3 (zip_sep3 (N := s1.heap.objs.size) (fun b hb => by rw [List.mem_singleton.mp hb]; exact hlt) (fun b hb => by rw [List.mem_singleton.mp hb]; exact hlt2) (fun b hb => by rw [List.mem_singleton.mp hb]; exact hlt3)) (Nat.ne_of_lt hlt) (Nat.ne_of_lt (Nat.lt_succ_of_lt hlt2)) (Nat.ne_of_lt (Nat.lt_of_lt_of_le hlt3 (Nat.le_add_right _ _))),
    ⟨hz, hTI, ⟨_, _, _, hTO⟩, itK_new hi1, itK_new hi2, itK_new hi3⟩, fun b hb => ?_, q _ _ _ x1 R1 (by rw [srcOk_app, srcOk_app, srcOk_self, srcOk_self, srcOk_self]; rfl) (wk_zip3 st st2 st3)⟩
  refine fp_new I1 ?_
  have e' : b = s1.heap.objs.size + 5 ∨ b = s1.heap.objs.size + 3 ∨ b = s1.heap.objs.size + 4 ∨ b = s1.heap.objs.size ∨ b = s1.heap.objs.size + 1 ∨ b = s1.heap.objs.size + 2 := by simpa using hb
  rcases e' with z | z | z | z | z | z <;> rw [z]
  · exact Nat.le_add_right _ _
  · exact Nat.le_add_right _ _
  · exact Nat.le_add_right _ _
  · exact Nat.le_refl _
  · exact Nat.le_add_right _ _
  · exact Nat.le_add_right _ _
end
end SL

/-! SLk: targets, comprehensions. -/
namespace SL
open PySem PySem.Spec PyProof.Rows L2
-- the slots a target stores
mutual
def tgs : Tg → List Nat
  | .name i => [i]
  | .tup ts => tgss ts
def tgss : List Tg → List Nat
  | [] => []
  | t :: ts => tgs t ++ tgss ts
end
theorem wipe_set {v : Option V} {σ : L2.St} : ∀ {vs : List Nat} {i : Nat}, i ∈ vs → wipe (σ.set i v) vs = wipe σ vs
  | [], _, h => by cases h
  | u :: vs, i, h => by
    by_cases hv : i ∈ vs
    · show (wipe (σ.set i v) vs).set u none = (wipe σ vs).set u none
      rw [wipe_set hv]
    · have e : u = i := by
        rcases List.mem_cons.mp h with e | e
        · exact e.symm
        · exact absurd e hv
      subst e
      show (wipe (σ.set u v) vs).set u none = (wipe σ vs).set u none
      have key : ∀ ws : List Nat, u ∉ ws → wipe (σ.set u v) ws = (wipe σ ws).set u v := by
        intro ws
        induction ws with
        | nil => intro _; rfl
        | cons w ws ih =>
          intro hw
          have h1 : u ≠ w := fun e => hw (by simp [e])
          have h2 : u ∉ ws := fun e => hw (List.mem_cons_of_mem _ e)
          show (wipe (σ.set u v) ws).set w none = ((wipe σ ws).set w none).set u v
          rw [ih h2, List.set_comm _ _ h1]
      rw [key vs hv, List.set_set]
theorem wipe_wipe (σ : L2.St) : ∀ vs : List Nat, wipe (wipe σ vs) vs = wipe σ vs := by
  intro vs
  have key : ∀ (us ws : List Nat) (τ : L2.St), (∀ i ∈ us, i ∈ ws) → wipe (wipe τ us) ws = wipe τ ws := by
    intro us
    induction us with
    | nil => intro ws τ _; rfl
    | cons u us ih =>
      intro ws τ h
      show wipe ((wipe τ us).set u none) ws = _
      rw [wipe_set (h u List.mem_cons_self), ih ws τ fun i hi => h i (List.mem_cons_of_mem _ hi)]
  exact key vs vs σ fun i h => h
section
variable {X : Cx} {cl : Str → Option Addr} {C : Orc}
def rdG (X : Cx) (t : Tg) : TG := fun v σ H Q => ∃ ρ env d env', RepE X.K ρ H env σ ∧ RepV X.K ρ H d v ∧ asgT t d env = some env' ∧ ∀ σ', RepE X.K ρ H env' σ' → (∀ vs : List Nat, (∀ i ∈ tgs t, i ∈ vs) → wipe σ' vs = wipe σ vs) → Q σ' H
def rdGs (X : Cx) (t : List Tg) : TGs := fun v σ H Q => ∃ ρ env d env', RepE X.K ρ H env σ ∧ RepVs X.K ρ H d v ∧ asgTs t d env = some env' ∧ ∀ σ', RepE X.K ρ H env' σ' → (∀ vs : List Nat, (∀ i ∈ tgss t, i ∈ vs) → wipe σ' vs = wipe σ vs) → Q σ' H
theorem pg_wk {e : Expr} {t t' : TG} (h : PG X e t) (w : ∀ v σ H Q, t' v σ H Q → t v σ H Q) : PG X e t' := ⟨fun pins s σ H v u Q I r q => h.run pins s σ H v u Q I r (w _ _ _ _ q)⟩
theorem pgs_wk {e : List Expr} {t t' : TGs} (h : PGs X e t) (w : ∀ v σ H Q, t' v σ H Q → t v σ H Q) : PGs X e t' := ⟨fun pins s σ H v u Q I r q => h.run pins s σ H v u Q I r (w _ _ _ _ q)⟩
theorem g_name {i : Nat} {x : Str} {pos : Pos} (hN : X.N.Nodup) (hi : X.N[i]? = some x) (hx : Loc X.env.scope x) (hf : X.fn x = true ∨ X.env.scope.names.lookup x = some .local) : PG X (.Name x pos) (rdG X (.name i)) :=
  pg_wk (pg_name hN hi hx hf) fun v σ H Q ⟨ρ, env, d, env', E, r, e, q⟩ => by
    simp only [asgT] at e
    split at e
    · cases e
      exact q _ (E.set r i) fun vs h => wipe_set (h i (by simp [tgs]))
    · cases e
theorem g_nil : PGs X [] (rdGs X []) := pgs_wk pgs_nil fun v σ H Q ⟨ρ, env, d, env', E, r, e, q⟩ => by
  cases d with
  | nil => cases e; exact ⟨r, q _ E fun _ _ => rfl⟩
  | cons _ _ => simp [asgTs] at e
theorem g_cons {e : Expr} {es : List Expr} {t : Tg} {ts : List Tg} (h1 : PG X e (rdG X t)) (h2 : PGs X es (rdGs X ts)) (hs : (assignEach (e :: es) X.env).map (·.2) = assign e X.env :: (assignEach es X.env).map (·.2)) : PGs X (e :: es) (rdGs X (t :: ts)) :=
  pgs_wk (pgs_cons h1 h2 hs) fun v σ H Q ⟨ρ, env, d, env', E, r, e, q⟩ => by
    cases d with
    | nil => simp [asgTs] at e
    | cons d ds =>
      simp only [asgTs, Option.bind_eq_some_iff] at e
      obtain ⟨env1, e1, e2⟩ := e
      obtain ⟨v, vs, rfl, rv, rvs⟩ := r
      refine ⟨v, vs, rfl, ρ, env, d, env1, E, rv, e1, fun σ1 E1 w1 => ⟨ρ, env1, ds, env', E1, rvs, e2, fun σ2 E2 w2 => q σ2 E2 fun us h => ?_⟩⟩
      rw [w2 us fun i hi => h i (by simp [tgss, hi]), w1 us fun i hi => h i (by simp [tgss, hi])]
theorem asgTs_len : ∀ {ts : List Tg} {ds : List D} {env env' : En}, asgTs ts ds env = some env' → ds.length = ts.length
  | [], [], _, _, _ => rfl
  | [], _ :: _, _, _, h => by simp [asgTs] at h
  | _ :: _, [], _, _, h => by simp [asgTs] at h
  | t :: ts, d :: ds, _, _, h => by
    simp only [asgTs, Option.bind_eq_some_iff] at h
    obtain ⟨e1, _, h⟩ := h
    rw [List.length_cons, List.length_cons, asgTs_len h]
theorem g_tup {es : List Expr} {k : Nat} {ts : List Tg} {pos : Pos} (hc : X.calm = true) (h : PGs X es (rdGs X ts)) (hn : (assignEach es X.env).length = ts.length) (hst : (assignEach es X.env).findIdx? (·.1) = none) : PG X (.Tuple es k pos) (rdG X (.tup ts)) :=
  pg_wk (pg_tup hc h hn hst) fun v σ H Q ⟨ρ, env, d, env', E, r, e, q⟩ => by
    cases d with
    | tup ds =>
      simp only [asgT] at e
      obtain ⟨a, vs, rfl, ha, hd⟩ := r
      exact ⟨a, vs, rfl, .of ha.1, by rw [← hd.length]; exact asgTs_len e, ρ, env, ds, env', E, hd, e, fun σ' E' w => q σ' E' fun us h => w us fun i hi => h i (by simpa [tgs] using hi)⟩
    | _ => simp [asgT] at e
/-! ### the list that is filled -/
variable {ρ ρ1 ρx ρ3 : Rho} {H H1 Hc H3 : Hp} {S : Sto} {Dp : Addr}
theorem kp_in (x : Ext ρ1 H1 ρx Hc) (hD : H1 Dp = none) : Kp ρ1 H1 (ρx.pend Dp) Hc := ⟨fun n a h => x.ix h, fun a o h n => ⟨x.fr a o h n, fun m => by
  rcases pend_mem.mp m with z | z
  · exact ne_of_none h hD z
  · exact x.out h n z⟩⟩
theorem pend_ext (x : Ext (ρx.pend Dp) Hc ρ3 H3) : ∃ ρy : Rho, ρ3 = ρy.pend Dp := ⟨⟨ρ3.c, ρx.v⟩, by
  have := x.pv
  cases ρ3
  simp only at this
  subst this
  rfl⟩
theorem ext_in {ρy : Rho} (x : Ext ρ1 H1 ρx Hc) (hD : H1 Dp = none) (y : Ext (ρx.pend Dp) Hc (ρy.pend Dp) H3) (o : HO) : Ext ρ1 H1 ρy (upd H3 Dp o) := by
  have hv : ρy.v = ρx.v := by
    have h : Dp :: ρy.v = Dp :: ρx.v := y.pv
    exact List.cons.inj h |>.2
  refine ⟨?_, hv.trans x.pv, fun a m n => ?_, fun a u h n => ?_, fun a u m h => ?_⟩
  · obtain ⟨t, e1⟩ := x.pre
    obtain ⟨t2, e2⟩ := y.pre
    have e2 : ρy.c = ρx.c ++ t2 := e2
    exact ⟨t ++ t2, by rw [e2, e1, List.append_assoc]⟩
  · by_cases m1 : a ∈ ρx
    · exact x.new a m1 n
    · by_cases z : a = Dp
      · rw [z]; exact hD
      · have := y.new a (pend_mem.mpr (.inr m)) fun q => (pend_mem.mp q).elim z m1
        cases q : H1 a with
        | none => rfl
        | some u =>
          rw [x.fr a u q n] at this
          cases this
  · have hne := ne_of_none h hD
    rw [upd_ne hne]
    exact y.fr a u (x.fr a u h n) fun q => (pend_mem.mp q).elim hne (x.out h n)
  · have hne := ne_of_none h hD
    rw [upd_ne hne]
    refine y.vf a u ?_ (x.vf a u m h)
    show a ∈ Dp :: ρx.v
    rw [x.pv]
    exact List.mem_cons_of_mem _ m
theorem ext_in' {ρy : Rho} (x : Ext ρ1 H1 ρx Hc) (hD : H1 Dp = none) (y : Ext (ρx.pend Dp) Hc (ρy.pend Dp) H3) : Ext ρ1 H1 ρy H3 := by
  cases h : H3 Dp with
  | none =>
    have := ext_in x hD y (.lst [])
    refine ⟨this.pre, this.pv, this.new, fun a u h1 n => ?_, fun a u m h1 => ?_⟩
    · have := this.fr a u h1 n
      rw [upd_ne (ne_of_none h1 hD)] at this
      exact this
    · have := this.vf a u m h1
      rw [upd_ne (ne_of_none h1 hD)] at this
      exact this
  | some o =>
    have := ext_in x hD y o
    have e : upd H3 Dp o = H3 := by
      funext b
      by_cases z : b = Dp
      · rw [z, upd_same, h]
      · rw [upd_ne z]
    rw [e] at this
    exact this
/-- the turns' own state: what is there at a turn -/
structure Fill (X : Cx) (cl : Str → Option Addr) (ρ1 : Rho) (H1 : Hp) (Dp : Addr) (S : Sto) (acc : List D) (ρx : Rho) (Hc : Hp) : Prop where
  ext : Ext ρ1 H1 ρx Hc
  rep : RepS (ctx X cl) (ρx.pend Dp) S Hc
  at_ : ∃ vs, Hc Dp = some (.lst vs) ∧ RepVs X.K (ρx.pend Dp) Hc acc vs
theorem Fill.go {S2 : Sto} {acc : List D} (F : Fill X cl ρ1 H1 Dp S acc ρx Hc) (hD : H1 Dp = none) {ρ3 : Rho} (y : Ext (ρx.pend Dp) Hc ρ3 H3) (R : RepS (ctx X cl) ρ3 S2 H3) : ∃ ρy, ρ3 = ρy.pend Dp ∧ Fill X cl ρ1 H1 Dp S2 acc ρy H3 := by
  obtain ⟨ρy, rfl⟩ := pend_ext y
  obtain ⟨vs, h1, h2⟩ := F.at_
  exact ⟨ρy, rfl, ext_in' F.ext hD y, R, vs, y.vf Dp _ List.mem_cons_self h1, h2.mono y⟩
theorem Fill.add {acc : List D} {d : D} {v : V} {vs : List V} (F : Fill X cl ρ1 H1 Dp S acc ρx Hc) (hD : H1 Dp = none) (r : RepV X.K (ρx.pend Dp) Hc d v) (h : Hc Dp = some (.lst vs)) : Fill X cl ρ1 H1 Dp S (acc ++ [d]) ρx (upd Hc Dp (.lst (vs ++ [v]))) := by
  obtain ⟨vs', h1, h2⟩ := F.at_
  rw [h] at h1
  cases h1
  have hv : Dp ∈ (ρx.pend Dp).v := List.mem_cons_self
  exact ⟨ext_in F.ext hD (Ext.refl _ _) _, F.rep.fill hv, _, upd_same, (h2.append (.cons r .nil)).kp (kp_fill hv)⟩
theorem Fill.start (R : RepS (ctx X cl) ρ1 S H1) (hD : H1 Dp = none) : Fill X cl ρ1 H1 Dp S [] ρ1 (upd H1 Dp (.lst [])) := by
  refine ⟨?_, R.pend hD, [], upd_same, .nil⟩
  exact ⟨⟨[], by simp⟩, rfl, fun a m n => absurd m n, fun a u h n => by rw [upd_ne (ne_of_none h hD)]; exact h, fun a u m h => by rw [upd_ne (ne_of_none h hD)]; exact h⟩
theorem Fill.done {al : Bool} {acc : List D} {Q : VK} (F : Fill X cl ρ1 H1 Dp S acc ρx Hc) (R : RepS (ctx X cl) ρ1 S1 H1) (hD : H1 Dp = none) (q : Post (ctx X cl) ρ1 H1 (SL.mk al acc S).1 (SL.mk al acc S).2 Q) : Q (.ref Dp) Hc := by
  obtain ⟨vs, h1, h2⟩ := F.at_
  have hv : Dp ∉ ρx.v := by
    rw [F.ext.pv]
    exact fun m => R.fresh hD (.inr m)
  have hc : Dp ∉ ρx.c := fun m => F.rep.dj Dp m List.mem_cons_self
  cases al with
  | false => exact q _ _ _ F.ext F.rep.done ⟨Dp, vs, rfl, ⟨h1, fun m => m.elim hc hv⟩, h2.kp kp_done⟩
  | true =>
    refine q (ρx ++ [Dp]) _ _ ⟨?_, F.ext.pv, fun a m n => ?_, fun a o h n => F.ext.fr a o h n, fun a o m h => F.ext.vf a o m h⟩ (F.rep.doneC hv h1 h2) ⟨Dp, rfl, ?_⟩
    · obtain ⟨t, e⟩ := F.ext.pre
      refine ⟨t ++ [Dp], ?_⟩
      show ρx.c ++ [Dp] = _
      rw [e, List.append_assoc]
    · rcases mem_app.mp m with m | m
      · exact F.ext.new a m n
      · rw [List.mem_singleton.mp m]; exact hD
    · have hl : ρx.c.length = S.length := F.rep.len
      show (ρx.c ++ [Dp])[S.length]? = some Dp
      rw [List.getElem?_append_right (Nat.le_of_eq hl)]
      simp [hl]
/-! ### tests -/
def rdTo (X : Cx) (cl : Str → Option Addr) (C : Orc) (x : Exo) : TT := fun σ H Q => ∃ ρ env S b S', RepS (ctx X cl) ρ S H ∧ RepE X.K ρ H env σ ∧ evT C x env S = some (b, S') ∧ ∀ ρ' H', Ext ρ H ρ' H' → RepS (ctx X cl) ρ' S' H' → Q b H'
theorem pts_wk {e : List Expr} {t t' : TT} (h : PTs X e t) (w : ∀ σ H Q, t' σ H Q → t σ H Q) : PTs X e t' := ⟨fun pins s σ H Q I q => h.run pins s σ H Q I (w _ _ _ q)⟩
theorem ts_no : PTs X [] (rdTo X cl C .no) := pts_wk pts_nil fun σ H Q ⟨ρ, env, S, b, S', R, E, e, q⟩ => by
  simp only [evT] at e
  cases e
  exact q _ _ (Ext.refl _ _) R
theorem ts_so {c : Expr} {x : Ex} (h : PT X c (rdT X cl C x)) : PTs X [c] (rdTo X cl C (.so x)) := pts_wk (pts_one h) fun σ H Q ⟨ρ, env, S, b, S', R, E, e, q⟩ => by
  simp only [evT] at e
  obtain ⟨⟨d, S1⟩, e1, e⟩ := bnd_eq e
  obtain ⟨k, e2, e⟩ := bnd_eq e
  have e2 : boolOf d = some k := e2
  cases e
  rw [boolOf_eq e2] at e1
  exact ⟨ρ, env, S, _, _, R, E, e1, q⟩
theorem step_to {Q : Bool → Hp → Prop} {b : Bool} {x : Exo} {env : En} {σ : L2.St} {S1 : Sto} (R : RepS (ctx X cl) ρ S H) (E : RepE X.K ρ H env σ) (e : evT C x env S = some (b, S1))
    (k : ∀ ρ1 H1, Ext ρ H ρ1 H1 → RepS (ctx X cl) ρ1 S1 H1 → RepE X.K ρ1 H1 env σ → Q b H1) : rdTo X cl C x σ H Q :=
  ⟨ρ, env, S, b, S1, R, E, e, fun _ _ x1 R1 => k _ _ x1 R1 (E.mono x1)⟩
theorem RepE.kp {K : PySem.W.Frag} {ρ' : Rho} {H' : Hp} {env : En} {σ : L2.St} (E : RepE K ρ H env σ) (e : Kp ρ H ρ' H') : RepE K ρ' H' env σ :=
  ⟨E.len, fun i d h => let ⟨v, h1, h2⟩ := E.at_ i d h; ⟨v, h1, h2.kp e⟩⟩
theorem lcGo_drop {src : Src} {asg : D → Option En} {tst : En → Sto → R Bool} {el : En → Sto → R D} {ds : List D} {i : Nat} (hi : i < ds.length) {S : Sto} {acc : List D} : lcGo src asg tst el (ds.drop i) S acc = (bnd (asg ds[i]) fun env => bnd (tst env S) fun (b, S1) =>
    if b then bnd (el env S1) fun (x, S2) => guardB (decide (acc.length < 16777216) && srcOk src S2) (lcGo src asg tst el (ds.drop (i + 1)) S2 (acc ++ [x]))
    else guardB (srcOk src S1) (lcGo src asg tst el (ds.drop (i + 1)) S1 acc)) := by
  rw [List.drop_eq_getElem_cons hi, lcGo]
variable {elt tg iter : Expr} {ifs : List Expr} {scope : Scope} {own : List (Str × Nat)} {pos : Pos} {it : SL.Itr} {t : Tg} {tt : Exo} {el : Ex} {al : Bool}
theorem lc_wk {vs : List Nat} {σ : L2.St} {H : Hp} {Q : VK} (hv : ∀ i ∈ tgs t, i ∈ vs) (h : rdE X cl C (.lc al vs it t tt el) σ H Q) : tLc (rdI X cl C it) (rdG X t) (rdTo X cl C tt) (rdE X cl C el) vs σ H Q := by
  obtain ⟨ρ, env, S, d, S', R, E, e, q⟩ := h
  simp only [evE] at e
  obtain ⟨⟨src, ds, S1⟩, e1, e⟩ := bnd_eq e
  obtain ⟨⟨accF, S2⟩, e2, e⟩ := bnd_eq e
  refine ⟨ρ, env, S, src, ds, S1, R, E, e1, fun ρ1 H1 J x1 R1 ok wk Dp hD => ?_⟩
  have q1 : Post (ctx X cl) ρ1 H1 d S' Q := q.ext x1
  refine ⟨fun i m Hc => m = ds.length - i ∧ i ≤ ds.length ∧ ∃ ρx Sx acc, Fill X cl ρ1 H1 Dp Sx acc ρx Hc ∧ srcOk src Sx = true ∧ lcGo src (fun d => asgT t d (wipeE env vs)) (fun env S => evT C tt env S) (fun env S => evE C el env S) (ds.drop i) Sx acc = some (accF, S2),
    ⟨_, rfl, Nat.zero_le _, ρ1, S1, [], Fill.start R1 hD, ok, e2⟩, ?_⟩
  rintro i m Hc ⟨rfl, hi, ρx, Sx, acc, F, okx, ex⟩
  by_cases hlt : i < ds.length
  · refine .inr ?_
    obtain ⟨g1, g2⟩ := wk.go i _ _ _ hlt (kp_in F.ext hD) F.rep okx
    refine ⟨g1, fun H' => i + 1 ≤ ds.length ∧ ∃ ρx Sx acc, Fill X cl ρ1 H1 Dp Sx acc ρx H' ∧ srcOk src Sx = true ∧ lcGo src (fun d => asgT t d (wipeE env vs)) (fun env S => evT C tt env S) (fun env S => evE C el env S) (ds.drop (i + 1)) Sx acc = some (accF, S2), fun H' hN => ⟨ds.length - (i + 1), by omega, rfl, hN⟩, fun x H' hy => ?_⟩
    obtain ⟨dx, hdx, y1, Ry, rx⟩ := g2 x H' hy
    obtain ⟨ρy, ey, Fy⟩ := F.go hD y1 Ry
    have hρ : ρx = ρy := by
      cases ρx
      cases ρy
      simp only [Rho.pend, Rho.mk.injEq, List.cons.injEq] at ey
      obtain ⟨h1, -, h2⟩ := ey
      rw [h1, h2]
    subst hρ
    rw [lcGo_drop hlt] at ex
    have hdx' : dx = ds[i] := by rw [List.getElem?_eq_getElem hlt] at hdx; exact (Option.some.inj hdx).symm
    subst hdx'
    obtain ⟨env1, a1, ex⟩ := bnd_eq ex
    obtain ⟨⟨b, S3⟩, a2, ex⟩ := bnd_eq ex
    have Ew : RepE X.K (ρx.pend Dp) H' (wipeE env vs) (wipe σ vs) := ((E.mono x1).kp (kp_in Fy.ext hD)).wipe vs
    refine ⟨ρx.pend Dp, _, ds[i], env1, Ew, rx, a1, fun σ' E' w' => ⟨by rw [w' vs hv, wipe_wipe], step_to Fy.rep E' a2 fun ρ4 H4 x4 R4 E4 => ?_⟩⟩
    obtain ⟨ρz, rfl, F4⟩ := Fy.go hD x4 R4
    cases b with
    | false =>
      simp only [Bool.false_eq_true, if_false] at ex ⊢
      obtain ⟨ok3, ex⟩ := guardB_eq ex
      exact ⟨hlt, ρz, S3, acc, F4, ok3, ex⟩
    | true =>
      simp only [if_true] at ex ⊢
      obtain ⟨⟨dy, S4⟩, a3, ex⟩ := bnd_eq ex
      obtain ⟨okg, ex⟩ := guardB_eq ex
      rw [Bool.and_eq_true] at okg
      refine step_e R4 E4 a3 fun ρ5 H5 v x5 R5 rv E5 => ?_
      obtain ⟨ρw, rfl, F5⟩ := F4.go hD x5 R5
      obtain ⟨us, h5, h6⟩ := F5.at_
      exact ⟨us, h5, by rw [← h6.length, line_eq]; exact of_decide_eq_true okg.1, hlt, ρw, S4, acc ++ [dy], F5.add hD rv h5, okg.2, ex⟩
  · refine .inl ?_
    have hi' : i = ds.length := by omega
    subst hi'
    rw [List.drop_length] at ex
    simp only [lcGo] at ex
    cases ex
    refine ⟨wk.stop _ _ _ (kp_in F.ext hD) F.rep okx, F.done (al := al) R1 hD ?_⟩
    rw [Option.some.inj e]
    exact q1
theorem e_lc (hc : X.calm = true) (hN : X.N.Nodup) (hi : PI X tg iter (rdI X cl C it)) (ok : BlkOk X.N X.env.scope scope own) (hv : ∀ i ∈ tgs t, i ∈ own.map (·.2))
    (hg : ∀ (s : Shared) (H : Hp) (Ca : Addr) (cs : List (Str × Addr)) (fp : List Addr), PG (X.blk s H scope (compEnvC scope cs Ca X.env) fp) tg (rdG X t)) (ht : ∀ (s : Shared) (H : Hp) (Ca : Addr) (cs : List (Str × Addr)) (fp : List Addr), PTs (X.blk s H scope (compEnvC scope cs Ca X.env) fp) ifs (rdTo X cl C tt))
    (he : ∀ (s : Shared) (H : Hp) (Ca : Addr) (cs : List (Str × Addr)) (fp : List Addr), PE (X.blk s H scope (compEnvC scope cs Ca X.env) fp) elt (rdE X cl C el)) (hs : ∀ x, foldedSetIterable iter X.env x = pure x) :
    PE X (.ListComp elt [⟨tg, iter, ifs, 0⟩] scope pos) (rdE X cl C (.lc al (own.map (·.2)) it t tt el)) := pe_wk (pe_lc hc hN hi ok hg ht he hs) fun σ H Q h => lc_wk hv h
theorem ps_wk {st : Stmt} {t t' : TS} (h : PS X st t) (w : ∀ D σ H, t' D σ H → t D σ H) : PS X st t' := ⟨fun pins s σ H D I q => h.run pins s σ H D I (w _ _ _ q)⟩
theorem s_setLc {i : Nat} {y : Str} {py spos : Pos} (hy : X.N[i]? = some y) (hyl : X.env.scope.names.lookup y = some .local) (hsw : swapsWith (.ListComp elt [⟨tg, iter, ifs, 0⟩] scope pos) (some (.Name y py)) spos.line X.env = pure true)
    (hc : X.calm = true) (hN : X.N.Nodup) (hi : PI X tg iter (rdI X cl C it)) (ok : BlkOk X.N X.env.scope scope own) (hv : ∀ i ∈ tgs t, i ∈ own.map (·.2))
    (hg : ∀ (s : Shared) (H : Hp) (Ca : Addr) (cs : List (Str × Addr)) (fp : List Addr), PG (X.blk s H scope (compEnvC scope cs Ca X.env) fp) tg (rdG X t)) (ht : ∀ (s : Shared) (H : Hp) (Ca : Addr) (cs : List (Str × Addr)) (fp : List Addr), PTs (X.blk s H scope (compEnvC scope cs Ca X.env) fp) ifs (rdTo X cl C tt))
    (he : ∀ (s : Shared) (H : Hp) (Ca : Addr) (cs : List (Str × Addr)) (fp : List Addr), PE (X.blk s H scope (compEnvC scope cs Ca X.env) fp) elt (rdE X cl C el)) (hs : ∀ x, foldedSetIterable iter X.env x = pure x) :
    PS X (.Assign [.Name y py] (.ListComp elt [⟨tg, iter, ifs, 0⟩] scope pos) spos) (tAsg (rdE X cl C (.lc al (own.map (·.2)) it t tt el)) (gName i)) :=
  ps_wk (ps_setLc hc hN hy hyl hsw hi ok hg ht he hs) fun D σ H h => lc_wk hv h
/-! ### two clauses -/
variable {tg1 iter1 : Expr} {ifs1 : List Expr} {vs1 : List Nat} {it1 : SL.Itr} {t1 : Tg}
theorem lcGo2_drop {src : Src} {asg : D → Option En} {inner : En → Sto → List D → Option (List D × Sto)} {ds : List D} {i : Nat} (hi : i < ds.length) {S : Sto} {acc : List D} : lcGo2 src asg inner (ds.drop i) S acc = (bnd (asg ds[i]) fun env => bnd (inner env S acc) fun (acc1, S1) => guardB (srcOk src S1) (lcGo2 src asg inner (ds.drop (i + 1)) S1 acc1)) := by
  rw [List.drop_eq_getElem_cons hi, lcGo2]
theorem pend_inj {ρy : Rho} (h : ρx.pend Dp = ρy.pend Dp) : ρx = ρy := by
  cases ρx
  cases ρy
  simp only [Rho.pend, Rho.mk.injEq, List.cons.injEq] at h
  obtain ⟨h1, -, h2⟩ := h
  rw [h1, h2]
theorem lc2_wk {vs : List Nat} {σ : L2.St} {H : Hp} {Q : VK} (hv : ∀ i ∈ tgs t, i ∈ vs) (hv1 : ∀ i ∈ tgs t1, i ∈ vs1) (h : rdE X cl C (.lc2 al vs vs1 it t it1 t1 tt el) σ H Q) : tLc2 (rdI X cl C it) (rdG X t) (rdTo X cl C .no) (rdI X cl C it1) (rdG X t1) (rdTo X cl C tt) (rdE X cl C el) vs vs1 σ H Q := by
  obtain ⟨ρ, env, S, d, S', R, E, e, q⟩ := h
  simp only [evE] at e
  obtain ⟨⟨src, ds, S1⟩, e1, e⟩ := bnd_eq e
  obtain ⟨⟨accF, S2⟩, e2, e⟩ := bnd_eq e
  refine ⟨ρ, env, S, src, ds, S1, R, E, e1, fun ρ1 H1 J x1 R1 ok wk Dp hD => ?_⟩
  have q1 : Post (ctx X cl) ρ1 H1 d S' Q := q.ext x1
  generalize hin : (fun (env : En) (S : Sto) (acc : List D) => bnd (evI C it1 env S) fun (src1, ds1, S1) =>
      lcGo src1 (fun d => asgT t1 d (wipeE env vs1)) (fun env S => evT C tt env S) (fun env S => evE C el env S) ds1 S1 acc) = inner at e2
  refine ⟨fun i m Hc => m = ds.length - i ∧ i ≤ ds.length ∧ ∃ ρx Sx acc, Fill X cl ρ1 H1 Dp Sx acc ρx Hc ∧ srcOk src Sx = true ∧ lcGo2 src (fun d => asgT t d (wipeE env vs)) inner (ds.drop i) Sx acc = some (accF, S2),
    ⟨_, rfl, Nat.zero_le _, ρ1, S1, [], Fill.start R1 hD, ok, e2⟩, ?_⟩
  rintro i m Hc ⟨rfl, hi, ρx, Sx, acc, F, okx, ex⟩
  by_cases hlt : i < ds.length
  · refine .inr ?_
    obtain ⟨g1, g2⟩ := wk.go i _ _ _ hlt (kp_in F.ext hD) F.rep okx
    refine ⟨g1, fun H' => i + 1 ≤ ds.length ∧ ∃ ρx Sx acc, Fill X cl ρ1 H1 Dp Sx acc ρx H' ∧ srcOk src Sx = true ∧ lcGo2 src (fun d => asgT t d (wipeE env vs)) inner (ds.drop (i + 1)) Sx acc = some (accF, S2), fun H' hN => ⟨ds.length - (i + 1), by omega, rfl, hN⟩, fun x H' hy => ?_⟩
    obtain ⟨dx, hdx, y1, Ry, rx⟩ := g2 x H' hy
    obtain ⟨ρy, ey, Fy⟩ := F.go hD y1 Ry
    have hρ := pend_inj ey
    subst hρ
    rw [lcGo2_drop hlt] at ex
    have hdx' : dx = ds[i] := by rw [List.getElem?_eq_getElem hlt] at hdx; exact (Option.some.inj hdx).symm
    subst hdx'
    obtain ⟨env1, a1, ex⟩ := bnd_eq ex
    obtain ⟨⟨acc1, S3⟩, a2, ex⟩ := bnd_eq ex
    obtain ⟨ok3, ex⟩ := guardB_eq ex
    have Ew : RepE X.K (ρx.pend Dp) H' (wipeE env vs) (wipe σ vs) := ((E.mono x1).kp (kp_in Fy.ext hD)).wipe vs
    refine ⟨ρx.pend Dp, _, ds[i], env1, Ew, rx, a1, fun σ' E' w' => ⟨by rw [w' vs hv, wipe_wipe], ρx.pend Dp, env1, Sx, true, Sx, Fy.rep, E', rfl, fun ρ4 H4 x4 R4 => ?_⟩⟩
    have E4 := E'.mono x4
    obtain ⟨ρz, rfl, F4⟩ := Fy.go hD x4 R4
    simp only [if_true]
    rw [← hin] at a2
    obtain ⟨⟨src1, ds1, S5⟩, b1, a2⟩ := bnd_eq a2
    refine ⟨ρz.pend Dp, env1, Sx, src1, ds1, S5, R4, E4, b1, fun ρ5 H5 J1 x5 R5 ok5 wk1 => ?_⟩
    obtain ⟨ρ5', rfl, F5⟩ := F4.go hD x5 R5
    have E5 := E4.mono x5
    refine ⟨fun j k Hd => k = ds1.length - j ∧ j ≤ ds1.length ∧ ∃ ρw Sw accw, Fill X cl ρ1 H1 Dp Sw accw ρw Hd ∧ Kp (ρ5'.pend Dp) H5 (ρw.pend Dp) Hd ∧ srcOk src1 Sw = true ∧ lcGo src1 (fun d => asgT t1 d (wipeE env1 vs1)) (fun env S => evT C tt env S) (fun env S => evE C el env S) (ds1.drop j) Sw accw = some (acc1, S3),
      ⟨_, rfl, Nat.zero_le _, ρ5', S5, acc, F5, (Ext.refl _ _).kp, ok5, a2⟩, ?_⟩
    rintro j k Hd ⟨rfl, hj, ρw, Sw, accw, Fw, kw, okw, exw⟩
    by_cases hjl : j < ds1.length
    · refine .inr ?_
      obtain ⟨g3, g4⟩ := wk1.go j _ _ _ hjl kw Fw.rep okw
      refine ⟨g3, fun H' => j + 1 ≤ ds1.length ∧ ∃ ρw Sw accw, Fill X cl ρ1 H1 Dp Sw accw ρw H' ∧ Kp (ρ5'.pend Dp) H5 (ρw.pend Dp) H' ∧ srcOk src1 Sw = true ∧ lcGo src1 (fun d => asgT t1 d (wipeE env1 vs1)) (fun env S => evT C tt env S) (fun env S => evE C el env S) (ds1.drop (j + 1)) Sw accw = some (acc1, S3), fun H' hN => ⟨ds1.length - (j + 1), by omega, rfl, hN⟩, fun x H' hy => ?_⟩
      obtain ⟨dy, hdy, y2, Ry2, rx2⟩ := g4 x H' hy
      obtain ⟨ρy2, ey2, Fy2⟩ := Fw.go hD y2 Ry2
      have hρ2 := pend_inj ey2
      subst hρ2
      rw [lcGo_drop hjl] at exw
      have hdy' : dy = ds1[j] := by rw [List.getElem?_eq_getElem hjl] at hdy; exact (Option.some.inj hdy).symm
      subst hdy'
      obtain ⟨env2, c1, exw⟩ := bnd_eq exw
      obtain ⟨⟨b, S6⟩, c2, exw⟩ := bnd_eq exw
      have kw2 := kw.trans y2.kp
      have Ew2 : RepE X.K (ρw.pend Dp) H' (wipeE env1 vs1) (wipe σ' vs1) := (E5.kp kw2).wipe vs1
      refine ⟨ρw.pend Dp, _, ds1[j], env2, Ew2, rx2, c1, fun σ3 E3 w3 => ⟨by rw [w3 vs1 hv1, wipe_wipe], step_to Fy2.rep E3 c2 fun ρ6 H6 x6 R6 E6 => ?_⟩⟩
      obtain ⟨ρ6', rfl, F6⟩ := Fy2.go hD x6 R6
      have kw3 := kw2.trans x6.kp
      cases b with
      | false =>
        simp only [Bool.false_eq_true, if_false] at exw ⊢
        obtain ⟨ok6, exw⟩ := guardB_eq exw
        exact ⟨hjl, ρ6', S6, accw, F6, kw3, ok6, exw⟩
      | true =>
        simp only [if_true] at exw ⊢
        obtain ⟨⟨dz, S7⟩, c3, exw⟩ := bnd_eq exw
        obtain ⟨okg, exw⟩ := guardB_eq exw
        rw [Bool.and_eq_true] at okg
        refine step_e R6 E6 c3 fun ρ7 H7 v x7 R7 rv E7 => ?_
        obtain ⟨ρ7', rfl, F7⟩ := F6.go hD x7 R7
        obtain ⟨us, h5, h6⟩ := F7.at_
        have hv7 : Dp ∈ (ρ7'.pend Dp).v := List.mem_cons_self
        exact ⟨us, h5, by rw [← h6.length, line_eq]; exact of_decide_eq_true okg.1, hjl, ρ7', S7, accw ++ [dz], F7.add hD rv h5, (kw3.trans x7.kp).trans (kp_fill hv7), okg.2, exw⟩
    · refine .inl ?_
      have hj' : j = ds1.length := by omega
      subst hj'
      rw [List.drop_length] at exw
      simp only [lcGo] at exw
      cases exw
      exact ⟨wk1.stop _ _ _ kw Fw.rep okw, hlt, ρw, S3, acc1, Fw, ok3, ex⟩
  · refine .inl ?_
    have hi' : i = ds.length := by omega
    subst hi'
    rw [List.drop_length] at ex
    simp only [lcGo2] at ex
    cases ex
    refine ⟨wk.stop _ _ _ (kp_in F.ext hD) F.rep okx, F.done (al := al) R1 hD ?_⟩
    rw [Option.some.inj e]
    exact q1
theorem e_lc2 (hc : X.calm = true) (hN : X.N.Nodup) (hi : PI X tg iter (rdI X cl C it)) (ok : BlkOk X.N X.env.scope scope own) (hw : ∀ i ∈ vs1, i ∈ own.map (·.2)) (hv : ∀ i ∈ tgs t, i ∈ own.map (·.2)) (hv1 : ∀ i ∈ tgs t1, i ∈ vs1)
    (hg : ∀ (s : Shared) (H : Hp) (Ca : Addr) (cs : List (Str × Addr)) (fp : List Addr), PG (X.blk s H scope (compEnvC scope cs Ca X.env) fp) tg (rdG X t)) (hi1 : ∀ (s : Shared) (H : Hp) (Ca : Addr) (cs : List (Str × Addr)) (fp : List Addr), PI (X.blk s H scope (compEnvC scope cs Ca X.env) fp) tg1 iter1 (rdI X cl C it1))
    (hg1 : ∀ (s : Shared) (H : Hp) (Ca : Addr) (cs : List (Str × Addr)) (fp : List Addr), PG (X.blk s H scope (compEnvC scope cs Ca X.env) fp) tg1 (rdG X t1)) (ht1 : ∀ (s : Shared) (H : Hp) (Ca : Addr) (cs : List (Str × Addr)) (fp : List Addr), PTs (X.blk s H scope (compEnvC scope cs Ca X.env) fp) ifs1 (rdTo X cl C tt))
    (he : ∀ (s : Shared) (H : Hp) (Ca : Addr) (cs : List (Str × Addr)) (fp : List Addr), PE (X.blk s H scope (compEnvC scope cs Ca X.env) fp) elt (rdE X cl C el)) (hs : ∀ x, foldedSetIterable iter X.env x = pure x) (hs1 : ∀ env x, foldedSetIterable iter1 env x = pure x) :
    PE X (.ListComp elt [⟨tg, iter, [], 0⟩, ⟨tg1, iter1, ifs1, 0⟩] scope pos) (rdE X cl C (.lc2 al (own.map (·.2)) vs1 it t it1 t1 tt el)) :=
  pe_wk (pe_lc2 hc hN hi ok hw hg (fun _ _ _ _ _ => ts_no) hi1 hg1 ht1 he hs hs1) fun σ H Q h => lc2_wk hv hv1 h
theorem s_setLc2 {i : Nat} {y : Str} {py spos : Pos} (hy : X.N[i]? = some y) (hyl : X.env.scope.names.lookup y = some .local) (hsw : swapsWith (.ListComp elt [⟨tg, iter, [], 0⟩, ⟨tg1, iter1, ifs1, 0⟩] scope pos) (some (.Name y py)) spos.line X.env = pure true)
    (hc : X.calm = true) (hN : X.N.Nodup) (hi : PI X tg iter (rdI X cl C it)) (ok : BlkOk X.N X.env.scope scope own) (hw : ∀ i ∈ vs1, i ∈ own.map (·.2)) (hv : ∀ i ∈ tgs t, i ∈ own.map (·.2)) (hv1 : ∀ i ∈ tgs t1, i ∈ vs1)
    (hg : ∀ (s : Shared) (H : Hp) (Ca : Addr) (cs : List (Str × Addr)) (fp : List Addr), PG (X.blk s H scope (compEnvC scope cs Ca X.env) fp) tg (rdG X t)) (hi1 : ∀ (s : Shared) (H : Hp) (Ca : Addr) (cs : List (Str × Addr)) (fp : List Addr), PI (X.blk s H scope (compEnvC scope cs Ca X.env) fp) tg1 iter1 (rdI X cl C it1))
    (hg1 : ∀ (s : Shared) (H : Hp) (Ca : Addr) (cs : List (Str × Addr)) (fp : List Addr), PG (X.blk s H scope (compEnvC scope cs Ca X.env) fp) tg1 (rdG X t1)) (ht1 : ∀ (s : Shared) (H : Hp) (Ca : Addr) (cs : List (Str × Addr)) (fp : List Addr), PTs (X.blk s H scope (compEnvC scope cs Ca X.env) fp) ifs1 (rdTo X cl C tt))
    (he : ∀ (s : Shared) (H : Hp) (Ca : Addr) (cs : List (Str × Addr)) (fp : List Addr), PE (X.blk s H scope (compEnvC scope cs Ca X.env) fp) elt (rdE X cl C el)) (hs : ∀ x, foldedSetIterable iter X.env x = pure x) (hs1 : ∀ env x, foldedSetIterable iter1 env x = pure x) :
    PS X (.Assign [.Name y py] (.ListComp elt [⟨tg, iter, [], 0⟩, ⟨tg1, iter1, ifs1, 0⟩] scope pos) spos) (tAsg (rdE X cl C (.lc2 al (own.map (·.2)) vs1 it t it1 t1 tt el)) (gName i)) :=
  ps_wk (ps_setLc2 hc hN hy hyl hsw hi ok hw hg (fun _ _ _ _ _ => ts_no) hi1 hg1 ht1 he hs hs1) fun D σ H h => lc2_wk hv hv1 h
end
end SL

/-! SLl: readings and rules of statements. -/
namespace SL
open PySem PySem.Spec PyProof.Rows L2
section
variable {X : Cx} {cl : Str → Option Addr} {C : Orc}
/-- how a statement ends -/
def EndS (X : Cx) (cl : Str → Option Addr) (ρ : Rho) (H : Hp) (D : Ends) (f : Fl) (env' : En) (S' : Sto) : Prop := match f with
  | .nx => ∀ ρ' H' σ', Ext ρ H ρ' H' → RepS (ctx X cl) ρ' S' H' → RepE X.K ρ' H' env' σ' → D.nx σ' H'
  | .brk => ∀ ρ' H' σ', Ext ρ H ρ' H' → RepS (ctx X cl) ρ' S' H' → RepE X.K ρ' H' env' σ' → D.bk σ' H'
  | .ret d => ∀ ρ' H' v, Ext ρ H ρ' H' → RepS (ctx X cl) ρ' S' H' → RepV X.K ρ' H' d v → D.rt v H'
theorem EndS.ext {ρ ρ' : Rho} {H H' : Hp} {D : Ends} {f : Fl} {env' : En} {S' : Sto} (h : EndS X cl ρ H D f env' S') (e : Ext ρ H ρ' H') : EndS X cl ρ' H' D f env' S' := by
  cases f with
  | nx => exact fun _ _ _ x => h _ _ _ (e.trans x)
  | brk => exact fun _ _ _ x => h _ _ _ (e.trans x)
  | ret d => exact fun _ _ _ x => h _ _ _ (e.trans x)
def rdS (X : Cx) (cl : Str → Option Addr) (C : Orc) (x : SS) : TS := fun D σ H => ∃ ρ env S f env' S', RepS (ctx X cl) ρ S H ∧ RepE X.K ρ H env σ ∧ exS C x env S = some (f, env', S') ∧ EndS X cl ρ H D f env' S'
def rdSs (X : Cx) (cl : Str → Option Addr) (C : Orc) (x : SSs) : TS := fun D σ H => ∃ ρ env S f env' S', RepS (ctx X cl) ρ S H ∧ RepE X.K ρ H env σ ∧ exSs C x env S = some (f, env', S') ∧ EndS X cl ρ H D f env' S'
theorem pss_wk {st : List Stmt} {t t' : TS} (h : PSs X st t) (w : ∀ D σ H, t' D σ H → t D σ H) : PSs X st t' := ⟨fun pins s σ H D I q => h.run pins s σ H D I (w _ _ _ q)⟩
variable {a b c e : Expr} {x y z : Ex} {pos p : Pos} {st : Stmt} {rest : List Stmt} {u : SS} {us : SSs}
theorem ss_nil : PSs X [] (rdSs X cl C .nil) := pss_wk pss_nil fun D σ H ⟨ρ, env, S, f, env', S', R, E, e, q⟩ => by
  simp only [exSs] at e
  cases e
  exact q _ _ _ (Ext.refl _ _) R E
theorem ss_cons (h1 : PS X st (rdS X cl C u)) (h2 : PSs X rest (rdSs X cl C us)) : PSs X (st :: rest) (rdSs X cl C (.cons u us)) := pss_wk (pss_cons h1 h2) fun D σ H ⟨ρ, env, S, f, env', S', R, E, e, q⟩ => by
  simp only [exSs] at e
  obtain ⟨⟨f1, env1, S1⟩, e1, e⟩ := bnd_eq e
  refine ⟨ρ, env, S, f1, env1, S1, R, E, e1, ?_⟩
  cases f1 with
  | nx => exact fun ρ1 H1 σ1 x1 R1 E1 => ⟨ρ1, env1, S1, f, env', S', R1, E1, e, q.ext x1⟩
  | brk => cases e; exact q
  | ret d => cases e; exact q
/-- a statement that is nothing, e.g. the text ahead -/
theorem ss_skip (h1 : PS X st tNext) (h2 : PSs X rest (rdSs X cl C us)) : PSs X (st :: rest) (rdSs X cl C us) := pss_wk (pss_cons h1 h2) fun D σ H h => h
theorem s_asg {t : Tg} (h : PS X st (tAsg (rdE X cl C x) (rdG X t))) : PS X st (rdS X cl C (.asg t x)) := ps_wk h fun D σ H ⟨ρ, env, S, f, env', S', R, E, e, q⟩ => by
  simp only [exS] at e
  obtain ⟨⟨d, S1⟩, e1, e⟩ := bnd_eq e
  obtain ⟨env1, e2, e⟩ := bnd_eq e
  cases e
  exact step_e R E e1 fun ρ1 H1 v x1 R1 rv E1 => ⟨ρ1, env, d, _, E1, rv, e2, fun σ' E' _ => q _ _ _ x1 R1 E'⟩
theorem s_setN {i : Nat} (h : PS X st (tAsg (rdE X cl C x) (gName i))) : PS X st (rdS X cl C (.asg (.name i) x)) := ps_wk h fun D σ H ⟨ρ, env, S, f, env', S', R, E, e, q⟩ => by
  simp only [exS] at e
  obtain ⟨⟨d, S1⟩, e1, e⟩ := bnd_eq e
  obtain ⟨env1, e2, e⟩ := bnd_eq e
  cases e
  refine step_e R E e1 fun ρ1 H1 v x1 R1 rv E1 => ?_
  simp only [asgT] at e2
  split at e2
  · cases e2
    exact q _ _ _ x1 R1 (E1.set rv i)
  · cases e2
theorem s_par {i j : Nat} {xs : Exs} (h : PS X st (tPar i j (rdA X cl C xs))) : PS X st (rdS X cl C (.asg (.tup [.name i, .name j]) (.tup xs))) := ps_wk h fun D σ H ⟨ρ, env, S, f, env', S', R, E, e, q⟩ => by
  simp only [exS, evE] at e
  obtain ⟨⟨d, S1⟩, e1, e⟩ := bnd_eq e
  obtain ⟨⟨ds, S2⟩, e3, e1⟩ := bnd_eq e1
  cases e1
  obtain ⟨env1, e2, e⟩ := bnd_eq e
  cases e
  refine step_a R E e3 fun ρ1 H1 vs x1 R1 rv E1 => ?_
  match ds, e2 with
  | [d1, d2], e2 =>
    simp only [asgT, asgTs] at e2
    split at e2
    · simp only [Option.bind_some] at e2
      split at e2
      · simp only [Option.bind_some] at e2
        cases e2
        obtain ⟨v, u, rfl, h1, h2⟩ := two_rep rv
        exact ⟨v, u, rfl, q _ _ _ x1 R1 ((E1.set h1 i).set h2 j)⟩
      · cases e2
    · cases e2
  | [], e2 => simp [asgT, asgTs] at e2
  | [_], e2 =>
    simp only [asgT, asgTs] at e2
    split at e2 <;> cases e2
  | _ :: _ :: _ :: _, e2 =>
    simp only [asgT, asgTs] at e2
    split at e2
    · simp only [Option.bind_some] at e2
      split at e2 <;> cases e2
    · cases e2
theorem s_par3 {i j l : Nat} {xs : Exs} (h : PS X st (tPar3 i j l (rdA X cl C xs))) : PS X st (rdS X cl C (.asg (.tup [.name i, .name j, .name l]) (.tup xs))) := ps_wk h fun D σ H ⟨ρ, env, S, f, env', S', R, E, e, q⟩ => by
  simp only [exS, evE] at e
  obtain ⟨⟨d, S1⟩, e1, e⟩ := bnd_eq e
  obtain ⟨⟨ds, S2⟩, e3, e1⟩ := bnd_eq e1
  cases e1
  obtain ⟨env1, e2, e⟩ := bnd_eq e
  cases e
  refine step_a R E e3 fun ρ1 H1 vs x1 R1 rv E1 => ?_
  have e2 : asgTs [.name i, .name j, .name l] ds env = some env' := by simpa only [asgT] using e2
  have hl := asgTs_len e2
  match ds, hl, e2 with
  | [d1, d2, d3], _, e2 =>
    obtain ⟨v, r1, rfl, h1, r1h⟩ := rv
    obtain ⟨v2, v3, rfl, h2, h3⟩ := two_rep r1h
    simp only [asgTs, asgT, Option.bind_eq_some_iff] at e2
    obtain ⟨a1, b1, a2, b2, a3, b3, b4⟩ := e2
    split at b1
    · cases b1
      split at b2
      · cases b2
        split at b3
        · cases b3
          cases b4
          exact ⟨v, v2, v3, rfl, q _ _ _ x1 R1 (((E1.set h1 i).set h2 j).set h3 l)⟩
        · cases b3
      · cases b2
    · cases b1
theorem s_setSub {k : Nat} (hr : Room k X.A) (ha : PE X a (rdE X cl C x)) (hb : PE X b (rdE X cl C y)) (he : PE X e (rdE X cl C z)) (hs : swapsWith e (some (.Subscript a b p)) pos.line X.env = pure false) : PS X (.Assign [.Subscript a b p] e pos) (rdS X cl C (.setSub x y z)) := by
  refine ⟨fun pins s σ H D I ⟨ρ, env, S, f, env', S', R, E, e, q⟩ => ?_⟩
  simp only [exS] at e
  obtain ⟨⟨dz, S1⟩, e1, e⟩ := bnd_eq e
  obtain ⟨⟨dx, S2⟩, e2, e⟩ := bnd_eq e
  obtain ⟨⟨dy, S3⟩, e3, e⟩ := bnd_eq e
  obtain ⟨S4, e4, e⟩ := bnd_eq e
  cases e
  refine wpAny_Assign_Subscript (thn (run_e he I R E e1) fun u1 s1 ⟨ρ1, H1, v1, I1, rv1, x1, R1, rp1, E1⟩ => thn (run_e ha I1 R1 E1 e2) fun u2 s2 ⟨ρ2, H2, v2, I2, rv2, x2, R2, rp2, E2⟩ => thn (run_e hb I2 R2 E2 e3) fun u3 s3 ⟨ρ3, H3, v3, I3, rv3, x3, R3, rp3, E3⟩ => ?_) hs
  refine thn (p_set (cl := cl) hr pins s3 σ H3 v2 v3 v1 u2 u3 u1 (fun H' => ∃ ρ', Ext ρ3 H3 ρ' H' ∧ RepS (ctx X cl) ρ' S' H') I3 rv2 rv3 rv1 ⟨ρ3, S3, dx, dy, dz, S', R3, rp2.mono x3, rp3, (rp1.mono x2).mono x3, e4, fun ρ' H' x' R' => ⟨ρ', x', R'⟩⟩) fun _ s4 ⟨H4, I4, ρ4, x4, R4⟩ => ?_
  exact ⟨σ, H4, I4, q _ _ _ (((x1.trans x2).trans x3).trans x4) R4 (E3.mono x4)⟩
theorem s_setFld {f : Str} (hc : ∀ c A, cl c = some A → L2.Cls X.K A) (hf : FldOk X cl f) (ha : PE X a (rdE X cl C x)) (he : PE X e (rdE X cl C z)) (hs : swapsWith e (some (.Attribute a f p)) pos.line X.env = pure false) : PS X (.Assign [.Attribute a f p] e pos) (rdS X cl C (.setFld x f z)) :=
  ps_wk (ps_fld ha he hs) fun D σ H ⟨ρ, env, S, fl, env', S', R, E, e, q⟩ => by
    simp only [exS] at e
    obtain ⟨⟨dz, S1⟩, e1, e⟩ := bnd_eq e
    obtain ⟨⟨dx, S2⟩, e2, e⟩ := bnd_eq e
    obtain ⟨S3, e3, e⟩ := bnd_eq e
    cases e
    refine step_e R E e1 fun ρ1 H1 v x1 R1 rv E1 => step_e R1 E1 e2 fun ρ2 H2 w x2 R2 rw' E2 => ?_
    cases dx with
    | obj n =>
      simp only [setFldD] at e3
      split at e3
      · rename_i cc fs hS
        obtain ⟨hz, e3⟩ := guardB_eq e3
        cases e3
        obtain ⟨ad, rfl, had⟩ := rw'
        obtain ⟨A, dx, gs, h1, h2, h3⟩ := R2.at_ n _ ad hS had
        have hm := R2.inc had
        refine ⟨ad, A, dx, gs, rfl, h2, hc _ _ h1, hf _ _ h1, by rw [← repF_len h3]; have := of_decide_eq_true hz; omega, ?_⟩
        exact q _ _ _ ((x1.trans x2).trans (ext_write hm)) (R2.write had ⟨A, dx, _, h1, upd_same, putF_rep ((rv.mono x2).mono (ext_write hm)) (L2.Paired.mapP h3 fun _ _ h => ⟨h.1, h.2.mono (ext_write hm)⟩)⟩) (E2.mono (ext_write hm))
      · cases e3
    | _ => cases e3
theorem s_append (ha : PE X a (rdE X cl C x)) (hb : PE X b (rdE X cl C y)) (hbase : attributeBase a "append" X.env (eval a X.env) = eval a X.env)
    (hfew : ((backTo p (starEach [b] X.env)).all (fun x => !x.1) && (backToKw p (keywordEach [] X.env)).all (fun x => x.1.isSome) && decide ([b].length + ([] : List Keyword).length + (if ([] : List Keyword).isEmpty then 0 else 1) < 30)) = true)
    {apos : Pos} (hline : (apos.endLine == p.line) = true) (hs : starEach [b] X.env = (false, eval b X.env) :: starEach [] X.env) (hw : swapsWith (.Call (.Attribute a "append" apos) [b] [] p) none pos.line X.env = pure false) : PS X (.Expr (.Call (.Attribute a "append" apos) [b] [] p) pos) (rdS X cl C (.append x y)) :=
  ps_wk (ps_expr (pe_bm (T := "list") PySem.F.plainAttrs_list PySem.F.slot_list_append PySem.F.type_list_append mt_append ha (pa_cons hb pa_nil hs) hbase hfew hline hs rfl) hw) fun D σ H ⟨ρ, env, S, fl, env', S', R, E, e, q⟩ => by
    simp only [exS] at e
    obtain ⟨⟨dx, S1⟩, e1, e⟩ := bnd_eq e
    obtain ⟨hg, e⟩ := guardB_eq e
    obtain ⟨⟨dy, S2⟩, e2, e⟩ := bnd_eq e
    obtain ⟨S3, e3, e⟩ := bnd_eq e
    cases e
    refine step_e R E e1 fun ρ1 H1 v x1 R1 rv E1 => ⟨lst_sq R1 hg rv, step_e R1 E1 e2 fun ρ2 H2 w x2 R2 rw' E2 => ?_⟩
    cases dx with
    | obj n =>
      simp only [appendD] at e3
      split at e3
      · rename_i ds hS
        obtain ⟨hz, e3⟩ := guardB_eq e3
        cases e3
        obtain ⟨ad, rfl, had⟩ := rv
        have had := x2.ix had
        obtain ⟨vs, h1, h2⟩ := R2.at_ n _ ad hS had
        have hm := R2.inc had
        refine ⟨ad, vs, w, rfl, rfl, h1, by rw [← h2.length, line_eq]; exact of_decide_eq_true hz, ?_⟩
        exact q _ _ _ ((x1.trans x2).trans (ext_write hm)) (R2.write had ⟨_, upd_same, (h2.mono (ext_write hm)).append (.cons (rw'.mono (ext_write hm)) .nil)⟩) (E2.mono (ext_write hm))
      · cases e3
    | _ => cases e3
theorem s_extend (ha : PE X a (rdE X cl C x)) (hb : PE X b (rdE X cl C y)) (hbase : attributeBase a "extend" X.env (eval a X.env) = eval a X.env)
    (hfew : ((backTo p (starEach [b] X.env)).all (fun x => !x.1) && (backToKw p (keywordEach [] X.env)).all (fun x => x.1.isSome) && decide ([b].length + ([] : List Keyword).length + (if ([] : List Keyword).isEmpty then 0 else 1) < 30)) = true)
    {apos : Pos} (hline : (apos.endLine == p.line) = true) (hs : starEach [b] X.env = (false, eval b X.env) :: starEach [] X.env) (hw : swapsWith (.Call (.Attribute a "extend" apos) [b] [] p) none pos.line X.env = pure false) : PS X (.Expr (.Call (.Attribute a "extend" apos) [b] [] p) pos) (rdS X cl C (.extend x y)) :=
  ps_wk (ps_expr (pe_bm (T := "list") PySem.F.plainAttrs_list PySem.F.slot_list_extend PySem.F.type_list_extend mt_extend ha (pa_cons hb pa_nil hs) hbase hfew hline hs rfl) hw) fun D σ H ⟨ρ, env, S, fl, env', S', R, E, e, q⟩ => by
    simp only [exS] at e
    obtain ⟨⟨dx, S1⟩, e1, e⟩ := bnd_eq e
    obtain ⟨hg, e⟩ := guardB_eq e
    obtain ⟨⟨dy, S2⟩, e2, e⟩ := bnd_eq e
    obtain ⟨S3, e3, e⟩ := bnd_eq e
    cases e
    refine step_e R E e1 fun ρ1 H1 v x1 R1 rv E1 => ⟨lst_sq R1 hg rv, step_e R1 E1 e2 fun ρ2 H2 w x2 R2 rw' E2 => ?_⟩
    cases dx with
    | obj n =>
      simp only [extendD] at e3
      split at e3
      · rename_i ds es hS hl
        obtain ⟨hz, e3⟩ := guardB_eq e3
        cases e3
        have hz := (of_decide_eq_true hz).1
        obtain ⟨ad, rfl, had⟩ := rv
        have had := x2.ix had
        obtain ⟨vs, h1, h2⟩ := R2.at_ n _ ad hS had
        obtain ⟨bd, ws, rfl, h3, h4⟩ := lst_at R2 hl rw'
        have hm := R2.inc had
        refine ⟨ad, bd, vs, ws, rfl, rfl, h1, h3, by rw [← h2.length, ← h4.length, line_eq]; exact hz, ?_⟩
        exact q _ _ _ ((x1.trans x2).trans (ext_write hm)) (R2.write had ⟨_, upd_same, (h2.mono (ext_write hm)).append (h4.mono (ext_write hm))⟩) (E2.mono (ext_write hm))
      · cases e3
    | _ => cases e3
theorem s_ex (he : PE X e (rdE X cl C x)) (hw : swapsWith e none pos.line X.env = pure false) : PS X (.Expr e pos) (rdS X cl C (.ex x)) := ps_wk (ps_expr he hw) fun D σ H ⟨ρ, env, S, fl, env', S', R, E, e, q⟩ => by
  simp only [exS] at e
  obtain ⟨⟨d, S1⟩, e1, e⟩ := bnd_eq e
  cases e
  exact step_e R E e1 fun ρ1 H1 v x1 R1 rv E1 => q _ _ _ x1 R1 E1
theorem s_ret (he : PE X e (rdE X cl C x)) : PS X (.Return (some e) pos) (rdS X cl C (.ret x)) := ps_wk (ps_ret he) fun D σ H ⟨ρ, env, S, fl, env', S', R, E, e, q⟩ => by
  simp only [exS] at e
  obtain ⟨⟨d, S1⟩, e1, e⟩ := bnd_eq e
  cases e
  exact step_e R E e1 fun ρ1 H1 v x1 R1 rv E1 => q _ _ _ x1 R1 rv
theorem s_retN : PS X (.Return none pos) (rdS X cl C .retN) := ps_wk ps_retN fun D σ H ⟨ρ, env, S, fl, env', S', R, E, e, q⟩ => by
  simp only [exS] at e
  cases e
  exact q _ _ _ (Ext.refl _ _) R rfl
theorem s_pass : PS X (.Pass pos) (rdS X cl C .pass) := ps_wk ps_pass fun D σ H ⟨ρ, env, S, fl, env', S', R, E, e, q⟩ => by
  simp only [exS] at e
  cases e
  exact q _ _ _ (Ext.refl _ _) R E
theorem s_brk : PS X (.Break pos) (rdS X cl C .brk) := ps_wk ps_break fun D σ H ⟨ρ, env, S, fl, env', S', R, E, e, q⟩ => by
  simp only [exS] at e
  cases e
  exact q _ _ _ (Ext.refl _ _) R E
theorem s_bad : PS X st (rdS X cl C .bad) := ps_wk ps_never fun D σ H ⟨ρ, env, S, fl, env', S', R, E, e, q⟩ => by
  simp only [exS] at e
  cases e
theorem s_if {t1 t2 : List Stmt} {u1 u2 : SSs} (hc : PT X c (rdT X cl C x)) (h1 : PSs X t1 (rdSs X cl C u1)) (h2 : PSs X t2 (rdSs X cl C u2)) : PS X (.If c t1 t2 pos) (rdS X cl C (.ifs x u1 u2)) := ps_wk (ps_if hc h1 h2) fun D σ H ⟨ρ, env, S, fl, env', S', R, E, e, q⟩ => by
  simp only [exS] at e
  obtain ⟨⟨d, S1⟩, e1, e⟩ := bnd_eq e
  obtain ⟨k, e2, e⟩ := bnd_eq e
  have e2 : boolOf d = some k := e2
  rw [boolOf_eq e2] at e1
  refine step_t R E e1 fun ρ1 H1 x1 R1 E1 => ?_
  cases k with
  | true => simp only [if_true] at e ⊢; exact ⟨ρ1, env, S1, fl, env', S', R1, E1, e, q.ext x1⟩
  | false => simp only [Bool.false_eq_true, if_false] at e ⊢; exact ⟨ρ1, env, S1, fl, env', S', R1, E1, e, q.ext x1⟩
theorem forGo_drop {src : Src} {asg : D → En → Option En} {body : En → Sto → RS} {ds : List D} {i : Nat} (hi : i < ds.length) {env : En} {S : Sto} : forGo src asg body (ds.drop i) env S = (bnd (asg ds[i] env) fun env1 => bnd (body env1 S) fun (f, env2, S2) => match f with
    | .nx => guardB (srcOk src S2) (forGo src asg body (ds.drop (i + 1)) env2 S2)
    | .brk => some (.nx, env2, S2)
    | .ret d => some (.ret d, env2, S2)) := by
  rw [List.drop_eq_getElem_cons hi, forGo] <;> rfl
theorem s_for {tg iter : Expr} {it : SL.Itr} {t : Tg} {body : List Stmt} (hx : X.xe = fun _ _ => False) (hc : X.calm = true) (hi : PI X tg iter (rdI X cl C it)) (hg : PG X tg (rdG X t)) (hb : PSs X body (rdSs X cl C us)) (hs : ∀ x, foldedSetIterable iter X.env x = pure x) :
    PS X (.For tg iter body [] pos) (rdS X cl C (.for_ t it us)) := ps_wk (ps_for (by rw [hx]; exact PassesOwn.never) hc hi hg hb hs) fun D σ H ⟨ρ, env, S, fl, env', S', R, E, e, q⟩ => by
  simp only [exS] at e
  obtain ⟨⟨src, ds, S1⟩, e1, e⟩ := bnd_eq e
  refine ⟨ρ, env, S, src, ds, S1, R, E, e1, fun ρ1 H1 J x1 R1 ok wk => ?_⟩
  have q1 := q.ext x1
  refine ⟨fun i m σ' Hc => m = ds.length - i ∧ i ≤ ds.length ∧ ∃ ρc envc Sc, Ext ρ1 H1 ρc Hc ∧ RepS (ctx X cl) ρc Sc Hc ∧ RepE X.K ρc Hc envc σ' ∧ srcOk src Sc = true ∧ forGo src (asgT t) (fun env S => exSs C us env S) (ds.drop i) envc Sc = some (fl, env', S'),
    ⟨_, rfl, Nat.zero_le _, ρ1, env, S1, Ext.refl _ _, R1, E.mono x1, ok, e⟩, ?_⟩
  rintro i m σ' Hc ⟨rfl, hi, ρc, envc, Sc, xc, Rc, Ec, okc, ec⟩
  by_cases hlt : i < ds.length
  · refine .inr ?_
    obtain ⟨g1, g2⟩ := wk.go i _ _ _ hlt xc.kp Rc okc
    refine ⟨g1, fun σ' H' => i + 1 ≤ ds.length ∧ ∃ ρc envc Sc, Ext ρ1 H1 ρc H' ∧ RepS (ctx X cl) ρc Sc H' ∧ RepE X.K ρc H' envc σ' ∧ srcOk src Sc = true ∧ forGo src (asgT t) (fun env S => exSs C us env S) (ds.drop (i + 1)) envc Sc = some (fl, env', S'), fun σ' H' hN => ⟨ds.length - (i + 1), by omega, rfl, hN⟩, fun x H' hy => ?_⟩
    obtain ⟨dx, hdx, y1, Ry, rx⟩ := g2 x H' hy
    rw [forGo_drop hlt] at ec
    have hdx' : dx = ds[i] := by rw [List.getElem?_eq_getElem hlt] at hdx; exact (Option.some.inj hdx).symm
    subst hdx'
    obtain ⟨env1, a1, ec⟩ := bnd_eq ec
    obtain ⟨⟨f2, env2, S2⟩, a2, ec⟩ := bnd_eq ec
    refine ⟨ρc, envc, ds[i], env1, Ec.mono y1, rx, a1, fun σ2 E2 _ => ⟨ρc, env1, Sc, f2, env2, S2, Ry, E2, a2, ?_⟩⟩
    cases f2 with
    | nx =>
      obtain ⟨ok2, ec⟩ := guardB_eq ec
      exact fun ρ3 H3 σ3 x3 R3 E3 => ⟨hlt, ρ3, env2, S2, (xc.trans y1).trans x3, R3, E3, ok2, ec⟩
    | brk =>
      cases ec
      exact fun ρ3 H3 σ3 x3 R3 E3 => q1 _ _ _ ((xc.trans y1).trans x3) R3 E3
    | ret d =>
      cases ec
      exact fun ρ3 H3 v x3 R3 rv => q1 _ _ _ ((xc.trans y1).trans x3) R3 rv
  · refine .inl ?_
    have hi' : i = ds.length := by omega
    subst hi'
    rw [List.drop_length] at ec
    simp only [forGo] at ec
    cases ec
    exact ⟨wk.stop _ _ _ xc.kp Rc okc, q1 _ _ _ xc Rc Ec⟩
theorem s_while {body : List Stmt} (hx : X.xe = fun _ _ => False) (hc : PT X c (rdT X cl C x)) (hb : PSs X body (rdSs X cl C us)) : PS X (.While c body [] pos) (rdS X cl C (.while_ x us)) := ps_wk (ps_while (by rw [hx]; exact PassesOwn.never) hc hb) fun D σ H ⟨ρ, env, S, fl, env', S', R, E, e, q⟩ => by
  simp only [exS] at e
  refine ⟨fun m σ' Hc => ∃ ρc envc Sc, Ext ρ H ρc Hc ∧ RepS (ctx X cl) ρc Sc Hc ∧ RepE X.K ρc Hc envc σ' ∧ whileGo (fun env S => bnd (evE C x env S) fun (x, S1) => bnd (boolOf x) fun k => some (k, S1)) (fun env S => exSs C us env S) m envc Sc = some (fl, env', S'),
    ⟨100000, ρ, env, S, Ext.refl _ _, R, E, e⟩, ?_⟩
  rintro m σ' Hc ⟨ρc, envc, Sc, xc, Rc, Ec, ec⟩
  cases m with
  | zero => cases ec
  | succ m =>
    simp only [whileGo] at ec
    obtain ⟨⟨b, S1⟩, a1, ec⟩ := bnd_eq ec
    obtain ⟨⟨d, S0⟩, a2, a1⟩ := bnd_eq a1
    obtain ⟨k, a3, a1⟩ := bnd_eq a1
    cases a1
    have a3 : boolOf d = some b := a3
    rw [boolOf_eq a3] at a2
    refine step_t Rc Ec a2 fun ρ1 H1 x1 R1 E1 => ?_
    have R1 : RepS (ctx X cl) ρ1 S0 H1 := R1
    cases b with
    | false =>
      simp only [Bool.false_eq_true, if_false] at ec ⊢
      cases ec
      exact q _ _ _ (xc.trans x1) R1 E1
    | true =>
      simp only [if_true] at ec ⊢
      obtain ⟨⟨f2, env2, S2⟩, a4, ec⟩ := bnd_eq ec
      refine ⟨fun σ' H' => ∃ ρc envc Sc, Ext ρ H ρc H' ∧ RepS (ctx X cl) ρc Sc H' ∧ RepE X.K ρc H' envc σ' ∧ whileGo (fun env S => bnd (evE C x env S) fun (x, S1) => bnd (boolOf x) fun k => some (k, S1)) (fun env S => exSs C us env S) m envc Sc = some (fl, env', S'), fun σ' H' hN => ⟨m, Nat.lt_succ_self m, hN⟩,
        ρ1, envc, S0, f2, env2, S2, R1, E1, a4, ?_⟩
      cases f2 with
      | nx => exact fun ρ3 H3 σ3 x3 R3 E3 => ⟨ρ3, env2, S2, (xc.trans x1).trans x3, R3, E3, ec⟩
      | brk =>
        cases ec
        exact fun ρ3 H3 σ3 x3 R3 E3 => q _ _ _ ((xc.trans x1).trans x3) R3 E3
      | ret d =>
        cases ec
        exact fun ρ3 H3 v x3 R3 rv => q _ _ _ ((xc.trans x1).trans x3) R3 rv
end
end SL

/-! SLm: is True, is False; calls of the program's own functions, methods, classes. -/
namespace SL
open PySem PySem.Spec PyProof.Rows L2
section
variable {X : Cx} {cl : Str → Option Addr} {C : Orc} {σ : L2.St} {H : Hp} {ρ : Rho} {env : En} {S S1 : Sto} {d : D} {x y z : Ex} {a b c e : Expr} {es : List Expr} {xs : Exs} {pos apos p : Pos} {k : Nat}
def tIsB (neg b : Bool) (ta : TE) : TE := fun σ H Q => ta σ H fun x H1 => ∃ c, x = .bl c ∧ Q (.bl (if neg then c != b else c == b)) H1
theorem pc_isB {b : Bool} {j : Nat} {pos' : Pos} {ta : TE} (ha : PE X a ta) : PC X .Is a (.Constant (.bool b) j pos') (tIsB false b ta) := by
  refine ⟨fun pins s σ H Q I h => ?_⟩
  refine thn (ha.run pins s σ H _ I h) fun v s1 ⟨x, H1, I1, r1, c, ex, q1⟩ => ?_
  subst ex
  cases r1
  exact Constant_bool (is_bool ⟨.bl _, H1, I1, rfl, q1⟩)
theorem pc_notB {b : Bool} {j : Nat} {pos' : Pos} {ta : TE} (ha : PE X a ta) : PC X .IsNot a (.Constant (.bool b) j pos') (tIsB true b ta) := by
  refine ⟨fun pins s σ H Q I h => ?_⟩
  refine thn (ha.run pins s σ H _ I h) fun v s1 ⟨x, H1, I1, r1, c, ex, q1⟩ => ?_
  subst ex
  cases r1
  exact Constant_bool (isnot_bool ⟨.bl _, H1, I1, rfl, q1⟩)
theorem isB_wk {neg b : Bool} {Q : VK} (h : rdE X cl C (.isB neg b x) σ H Q) : tIsB neg b (rdE X cl C x) σ H Q := by
  obtain ⟨ρ, env, S, d, S', R, E, e, q⟩ := h
  simp only [evE] at e
  obtain ⟨⟨dx, S1⟩, e1, e⟩ := bnd_eq e
  obtain ⟨k, e2, e⟩ := bnd_eq e
  have e2 : boolOf dx = some k := e2
  rw [boolOf_eq e2] at e1
  cases e
  exact step_e R E e1 fun ρ1 H1 v x1 R1 rv E1 => ⟨k, rv, (q.ext x1).here R1 rfl⟩
theorem e_isB {b : Bool} {j : Nat} {pos' : Pos} (ha : PE X a (rdE X cl C x)) : PE X (.Compare a [.Is] [.Constant (.bool b) j pos'] pos) (rdE X cl C (.isB false b x)) := pe_wk (pe_cmp (pc_isB ha)) fun _ _ _ h => isB_wk h
theorem e_notB {b : Bool} {j : Nat} {pos' : Pos} (ha : PE X a (rdE X cl C x)) : PE X (.Compare a [.IsNot] [.Constant (.bool b) j pos'] pos) (rdE X cl C (.isB true b x)) := pe_wk (pe_cmp (pc_notB ha)) fun _ _ _ h => isB_wk h
theorem t_isB {b : Bool} {j : Nat} {pos' : Pos} (ha : PE X a (rdE X cl C x)) : PT X (.Compare a [.Is] [.Constant (.bool b) j pos'] pos) (rdT X cl C (.isB false b x)) := pt_wk (pt_cmp (pc_isB ha)) fun _ _ _ ⟨ρ, env, S, d, S', R, E, e, q⟩ => isB_wk ⟨ρ, env, S, _, S', R, E, e, post_t q⟩
theorem t_notB {b : Bool} {j : Nat} {pos' : Pos} (ha : PE X a (rdE X cl C x)) : PT X (.Compare a [.IsNot] [.Constant (.bool b) j pos'] pos) (rdT X cl C (.isB true b x)) := pt_wk (pt_cmp (pc_notB ha)) fun _ _ _ ⟨ρ, env, S, d, S', R, E, e, q⟩ => isB_wk ⟨ρ, env, S, _, S', R, E, e, post_t q⟩
/-! ### calls -/
/-- what is known of a function: its promise is the oracle's answer -/
structure FnAt (X : Cx) (cl : Str → Option Addr) (C : Orc) (k : Nat) (key : Str) (fa : Addr) : Prop where
  ex : ∃ fd ps, FnOk X.prog X.w X.K X.mg X.base CX0 k fa fd ps (spO (ctx X cl) C key) ∧ Binds X.K fd ps []
  kp : PySem.W.keepIn X.K (.ref fa) = true
theorem e_call {n : Str} {fa : Addr} (F : FnAt X cl C k n fa) (hr : Room k X.A) (hg : Gl X n) (hm : X.mg n = some (.ref fa)) (ha : PA X (e :: es) (rdA X cl C xs)) (hdb : (n == ("__debug__" : Str)) = false)
    (he : starEach (e :: es) X.env = (false, eval e X.env) :: starEach es X.env) (hpl : (backTo pos (starEach es X.env)).any (·.1) = false) : PE X (.Call (.Name n p) (e :: es) [] pos) (rdE X cl C (.call n xs)) := by
  obtain ⟨fd, ps, F1, hb⟩ := F.ex
  refine pe_wk (pe_call (E := fun _ _ _ => False) F1 hr hg hm F.kp hb .nil pass0 ha hdb he hpl) fun σ H Q ⟨ρ, env, S, d, S', R, E, e, q⟩ => ?_
  simp only [evE] at e
  obtain ⟨⟨ds, S1⟩, e1, e⟩ := bnd_eq e
  refine step_a R E e1 fun ρ1 H1 vs x1 R1 rv E1 => ?_
  rw [List.append_nil]
  exact ⟨ρ1, S1, ds, d, S', R1, rv, e, q.ext x1⟩
theorem e_call0 {n : Str} {fa : Addr} (F : FnAt X cl C k n fa) (hr : Room k X.A) (hg : Gl X n) (hm : X.mg n = some (.ref fa)) (hdb : (n == ("__debug__" : Str)) = false) : PE X (.Call (.Name n p) [] [] pos) (rdE X cl C (.call n .nil)) := by
  obtain ⟨fd, ps, F1, hb⟩ := F.ex
  refine pe_wk (pe_call0 (E := fun _ _ _ => False) F1 hr hg hm F.kp hb .nil pass0 hdb) fun σ H Q ⟨ρ, env, S, d, S', R, E, e, q⟩ => ?_
  simp only [evE, evs, bnd_some] at e
  exact ⟨ρ, S, [], d, S', R, rfl, e, q⟩
/-- a class that is made -/
theorem e_new {n : Str} {CA fa : Addr} (M : Mk X.K CA fa) (hcl : cl n = some CA) (F : FnAt X cl C k n fa) (hr : Room (k + 1) X.A) (hg : Gl X n) (hm : X.mg n = some (.ref CA)) (ha : PA X (e :: es) (rdA X cl C xs)) (hdb : (n == ("__debug__" : Str)) = false)
    (he : starEach (e :: es) X.env = (false, eval e X.env) :: starEach es X.env) (hpl : (backTo pos (starEach es X.env)).any (·.1) = false) : PE X (.Call (.Name n p) (e :: es) [] pos) (rdE X cl C (.new n xs)) := by
  obtain ⟨fd, ps, F1, hb⟩ := F.ex
  refine pe_wk (pe_make (E := fun _ _ _ => False) M F1 hr hg hm hb .nil pass0 ha hdb he hpl) fun σ H Q ⟨ρ, env, S, d, S', R, E, e, q⟩ => ?_
  simp only [evE] at e
  obtain ⟨⟨ds, S1⟩, e1, e⟩ := bnd_eq e
  obtain ⟨⟨r, S2⟩, e2, e⟩ := bnd_eq e
  obtain ⟨hn, e⟩ := guardB_eq e
  have hn := of_decide_eq_true hn
  cases e
  refine step_a R E e1 fun ρ1 H1 vs x1 R1 rv E1 => fun ax dx hax hdx hne => ?_
  rw [List.append_nil]
  have hax' : upd H1 dx (.own ax) ax = none := by rw [upd_ne (Ne.symm hne)]; exact hax
  have xA := ext_new (ρ := ρ1) dx (o := .own ax) hdx
  have RA := R1.new (o := .own ax) hdx
  have xB := ext_cell (ρ := ρ1) ax (o := .ins CA dx []) hax'
  have RB : RepS (ctx X cl) (ρ1 ++ [ax]) (S1 ++ [.ins n []]) (upd (upd H1 dx (.own ax)) ax (.ins CA dx [])) := RA.cell hax' ⟨CA, dx, [], hcl, upd_same, .nil⟩
  have hr1 : RepVs X.K (ρ1 ++ [ax]) (upd (upd H1 dx (.own ax)) ax (.ins CA dx [])) (.obj S1.length :: ds) (.ref ax :: vs) :=
    ⟨_, _, rfl, ⟨ax, rfl, last_ix RA ax⟩, (rv.mono xA).mono xB⟩
  refine ⟨_, _, _, _, _, RB, hr1, e2, fun ρ2 H2 v x2 R2 rv2 => ⟨?_, ?_⟩⟩
  · have hn : r = .non := hn
    subst hn
    exact rv2
  · exact q _ _ _ (((x1.trans xA).trans xB).trans x2) R2 ⟨ax, rfl, x2.ix (last_ix RA ax)⟩
/-- o.m(..) -/
theorem clsD_eq {S : Sto} {x : D} {c : Str} (h : clsD S x = some c) : ∃ n fs, x = .obj n ∧ S[n]? = some (.ins c fs) := by
  cases x with
  | obj n =>
    simp only [clsD] at h
    split at h
    · cases h
      exact ⟨n, _, rfl, by assumption⟩
    · cases h
  | _ => cases h
theorem repF_no {K : PySem.W.Frag} {m : Str} : ∀ {fs : List (Str × D)} {gs : List (Str × V)}, RepF K ρ H fs gs → fs.lookup m = none → gs.lookup m = none
  | _, _, .nil, _ => rfl
  | _, _, .cons (a := p) (b := q) h t, e => by
    obtain ⟨g, u⟩ := p
    obtain ⟨g', u'⟩ := q
    obtain ⟨h1, h2⟩ := h
    simp only at h1 h2
    subst h1
    rw [List.lookup_cons] at e ⊢
    by_cases z : m == g
    · rw [z] at e
      cases e
    · simp only [z] at e ⊢
      exact repF_no t e
theorem e_meth {cn m : Str} {CA fa : Addr} {pl : Sem Bool} (hcl : cl cn = some CA) (hK : L2.Cls X.K CA) (hM : Meth X.K CA m fa) (F : FnAt X cl C k m fa) (hr : Room k X.A) (ho : PE X a (rdE X cl C x)) (ha : PA X (e :: es) (rdA X cl C xs))
    (hst : starEach (e :: es) X.env = (false, eval e X.env) :: starEach es X.env) (hpl : (backTo pos (starEach es X.env)).any (·.1) = false)
    (ht : eval (.Call (.Attribute a m apos) (e :: es) [] pos) X.env = (do
      let ov ← eval a X.env
      standAt apos.atName
      let (f, first) ← holding [ov] (getMethod ov m pl)
      callWith pos f first (backTo pos (starEach (e :: es) X.env)) (backToKw pos (keywordEach [] X.env)))) : PE X (.Call (.Attribute a m apos) (e :: es) [] pos) (rdE X cl C (.meth x cn m xs)) := by
  obtain ⟨fd, ps, F1, hb⟩ := F.ex
  refine pe_wk (pe_meth (pl := pl) (E := fun _ _ _ => False) ho hK hM F1 hr hb .nil pass0 ha hst hpl ht) fun σ H Q ⟨ρ, env, S, d, S', R, E, e, q⟩ => ?_
  simp only [evE] at e
  obtain ⟨⟨dx, S1⟩, e1, e⟩ := bnd_eq e
  obtain ⟨hg, e⟩ := guardB_eq e
  obtain ⟨⟨ds, S2⟩, e2, e⟩ := bnd_eq e
  rw [Bool.and_eq_true] at hg
  obtain ⟨n, fs, rfl, hS⟩ := clsD_eq (of_decide_eq_true hg.1)
  refine step_e R E e1 fun ρ1 H1 v x1 R1 rv E1 => ?_
  obtain ⟨ad, rfl, had⟩ := rv
  obtain ⟨A, dx, gs, h1, h2, h3⟩ := R1.at_ n _ ad hS had
  have hA : A = CA := Option.some.inj (h1.symm.trans hcl)
  subst hA
  have hno : fs.lookup m = none := by
    have := hg.2
    simp only [fldD, hS] at this
    cases hl : fs.lookup m with
    | none => rfl
    | some _ => rw [hl] at this; cases this
  refine ⟨ad, dx, gs, rfl, h2, repF_no h3 hno, step_a R1 E1 e2 fun ρ2 H2 vs x2 R2 rvs E2 => ?_⟩
  rw [List.append_nil]
  exact ⟨ρ2, S2, .obj n :: ds, d, S', R2, ⟨_, _, rfl, ⟨ad, rfl, x2.ix had⟩, rvs⟩, e, q.ext (x1.trans x2)⟩
end
end SL

/-! SLn: the translator from the program's text to the small language. -/
namespace SL
open PySem
/-- what the translator knows of a def: its names, its scope, the names that may be stored, the module's constants, built-ins, functions, classes, methods, fields;
names whose list is a cell; whether a returned list is one, whether a comprehension's items are -/
structure Cfg where
  N : List Str
  sc : Scope
  st : List Str := []
  cs : List (Str × D) := []
  bs : List Str := []
  fs : List Str := []
  ks : List Str := []
  ms : List (Str × Str) := []
  fl : List Str := []
  mu : List Str := []
  ra : Bool := false
  ea : Bool := false
def idxS : List Str → Str → Option Nat
  | [], _ => none
  | y :: r, x => if y = x then some 0 else (idxS r x).map (· + 1)
theorem idxS_get : ∀ {l : List Str} {x : Str} {i : Nat}, idxS l x = some i → l[i]? = some x
  | [], _, _, h => by cases h
  | y :: r, x, i, h => by
    simp only [idxS] at h
    split at h
    · rename_i e
      cases h
      rw [e]
      rfl
    · rw [Option.map_eq_some_iff] at h
      obtain ⟨j, h1, rfl⟩ := h
      simpa using idxS_get h1
def visB (sc : Scope) (x : Str) : Bool := match sc.names.lookup x with
  | some .local => true | some .cell => true | some .free => true
  | _ => false
def glB (sc : Scope) (x : Str) : Bool := decide (sc.names.lookup x = some .globalImplicit)
/-- a common name -/
def nmOk (x : Str) : Bool := !(x == ("__debug__" : Str)) && !(x == ("__classdict__" : Str)) && decide (x ≠ "__name__")
def opR : Operator → Option BOp
  | .Add => some .add | .Sub => some .sub | .Mult => some .mul | .FloorDiv => some .fdiv | .Mod => some .mod | .Pow => some .pow
  | _ => none
def cR : CmpOp → Option COp
  | .Lt => some .lt | .LtE => some .le | .Gt => some .gt | .GtE => some .ge | .Eq => some .eq | .NotEq => some .ne | .In => some .in_ | .NotIn => some .nin
  | _ => none
def noSet : Expr → Bool
  | .Set .. => false
  | _ => true
def noStar : Expr → Bool
  | .Starred .. => false
  | _ => true
def noComp : Expr → Bool
  | .ListComp .. => false | .SetComp .. => false | .DictComp .. => false
  | _ => true
/-- no call without arguments -/
def noBare : Expr → Bool
  | .Call _ [] _ _ => false
  | _ => true
def isTup : Expr → Bool
  | .Tuple .. => true
  | _ => false
def isName : Expr → Bool
  | .Name .. => true
  | _ => false
def noSlice : Expr → Bool
  | .Slice .. => false
  | _ => true
def biOf (x : Str) : Option Bi := [(("len" : Str), Bi.len), ("min", .min), ("max", .max), ("sum", .sum), ("all", .all), ("sorted", .sorted)].lookup x
def btOf (x : Str) : Option Bi := [(("tuple" : Str), Bi.tuple), ("list", .list), ("int", .int)].lookup x
def tyOf (x : Str) : Option Ty := [(("int" : Str), Ty.int), ("bool", .bool), ("str", .str), ("tuple", .tuple), ("list", .list)].lookup x
/-- the block of a comprehension: its own names with their slots -/
def ownB (N : List Str) : List (Str × NameKind) → List (Str × Nat)
  | [] => []
  | (y, k) :: r => match k, idxS N y with
    | .local, some i => (y, i) :: ownB N r
    | .cell, some i => (y, i) :: ownB N r
    | _, _ => ownB N r
def stB : List (Str × NameKind) → List Str
  | [] => []
  | (y, k) :: r => match k with
    | .local => y :: stB r
    | .cell => y :: stB r
    | _ => stB r
def uniqB (ns : List (Str × NameKind)) : Bool := ns.all fun y => decide (ns.lookup y.1 = some y.2)
def blkB (N : List Str) (sc scope : Scope) : Bool :=
  decide (scope.kind = .function) && uniqB scope.names && scope.names.all fun y => match y.2 with
    | .free => decide (sc.names.lookup y.1 = some .cell ∨ sc.names.lookup y.1 = some .free)
    | _ => true
def blkC (c : Cfg) (scope : Scope) : Cfg := { c with sc := L2.relS scope c.sc, st := stB scope.names, mu := [], ra := false, ea := false }
def inB (a b : List Nat) : Bool := a.all fun i => decide (i ∈ b)
mutual
def trG : Nat → Cfg → Expr → Option Tg
  | 0, _, _ => none
  | n + 1, c, .Name x _ => guardB (decide (x ∈ c.st)) ((idxS c.N x).map .name)
  | n + 1, c, .Tuple es _ _ => (trGs n c es).map .tup
  | _ + 1, _, _ => none
def trGs : Nat → Cfg → List Expr → Option (List Tg)
  | 0, _, _ => none
  | n + 1, _, [] => some []
  | n + 1, c, e :: es => guardB (noStar e) (bnd (trG n c e) fun t => (trGs n c es).map (t :: ·))
end
def trTy (c : Cfg) : List Expr → Option (List Ty)
  | [] => some []
  | .Name x _ :: es => guardB (decide (x ∈ c.bs) && glB c.sc x && nmOk x) (bnd (tyOf x) fun t => (trTy c es).map (t :: ·))
  | _ :: _ => none
/-- a call of a built-in by one argument -/
def blt (c : Cfg) (f : Str) : Bool := decide (f ∈ c.bs) && glB c.sc f && nmOk f
mutual
def trE : Nat → Cfg → Bool → Expr → Option Ex
  | 0, _, _, _ => none
  | n + 1, c, al, .Name x _ => guardB (nmOk x) (if visB c.sc x then (idxS c.N x).map .var else guardB (glB c.sc x) ((c.cs.lookup x).map .con))
  | n + 1, c, al, .Constant k _ _ => match k with
    | .none => some (.con .non)
    | .bool b => some (.con (.bl b))
    | .int i => some (.con (.int i))
    | .str x => some (.con (.str x))
    | _ => none
  | n + 1, c, al, .Tuple es _ _ => bnd (trEs n c [] es) fun xs => guardB (decide (lenX xs ≤ 1000)) (some (.tup xs))
  | n + 1, c, al, .List es _ => bnd (trEs n c [] es) fun xs => guardB (decide (lenX xs ≤ 1000)) (some (.lst al xs))
  | n + 1, c, al, .BinOp a op b _ => bnd (opR op) fun o => bnd (trE n c false a) fun x => bnd (trE n c false b) fun y => some (.bin al o x y)
  | n + 1, c, al, .UnaryOp op a _ => match op with
    | .USub => (trE n c false a).map .neg
    | .Not => (trE n c false a).map .not_
    | _ => none
  | n + 1, c, al, .BoolOp op es _ => trBo n c op es
  | n + 1, c, al, .IfExp t a b _ => bnd (trT n c t) fun z => bnd (trE n c al a) fun x => bnd (trE n c al b) fun y => some (.ite z x y)
  | n + 1, c, al, .Compare a ops bs _ => trC n c a ops bs
  | n + 1, c, al, .Subscript a s _ => match s with
    | .Slice lo hi st _ => match st with
      | none => bnd (trE n c false a) fun x => bnd (trO n c lo) fun l => bnd (trO n c hi) fun h => some (.slice al x l h)
      | some (.UnaryOp .USub (.Constant (.int i) _ _) _) => match lo, hi with
        | none, none => guardB (decide (i = 1)) ((trE n c false a).map (.rev al))
        | _, _ => none
      | _ => none
    | s => guardB (noSlice s) (bnd (trE n c false a) fun x => bnd (trE n c false s) fun y => some (.sub x y))
  | n + 1, c, al, .Attribute a f _ => guardB (decide (f ∈ c.fl) && noBare a) ((trE n c false a).map (.fld · f))
  | n + 1, c, al, .Call f es kw p => guardB kw.isEmpty (match f with
    | .Name x _ => match es with
      | [] => guardB (glB c.sc x && nmOk x && decide (x ∈ c.fs)) (some (.call x .nil))
      | e :: es => guardB (glB c.sc x && nmOk x) (
        if decide (x ∈ c.fs) then (trEs n c [] (e :: es)).map (.call x)
        else if decide (x ∈ c.ks) then (trEs n c [] (e :: es)).map (.new x)
        else guardB (decide (x ∈ c.bs)) (if decide (x = "isinstance") then
            match es with
            | [.Name y p2] => bnd (trE n c false e) fun a => bnd (trTy c [.Name y p2]) fun ts => some (.isi a ts)
            | [.Tuple ys _ _] => bnd (trE n c false e) fun a => bnd (trTy c ys) fun ts => guardB (decide (ts.length ≤ 1000)) (some (.isi a ts))
            | _ => none
          else match biOf x with
            | some f => (trEs n c [] (e :: es)).map (.bi al f)
            | none => match btOf x with
              | some f => (trEs n c [] (e :: es)).map (.bi al f)
              | none => none))
    | .Attribute o m ap => match o, es with
      | .Name v vp, e :: es => if (c.ms.lookup m).isSome then guardB (ap.endLine == p.line && decide (es.length < 20)) <| bnd (c.ms.lookup m) fun cn => bnd (trE n c false (.Name v vp)) fun x => bnd (trEs n c [] (e :: es)) fun xs => some (.meth x cn m xs)
        else trM n c (.Name v vp) m ap (e :: es) p
      | o, es => guardB (noBare o) (trM n c o m ap es p)
    | _ => none)
  | n + 1, c, al, .ListComp elt gs scope _ => trLc n c al elt gs scope
  | n + 1, c, al, .Dict ks vs _ => match ks, vs with
    | [], [] => some (.dct .nil .nil)
    | [some a], [b] => bnd (trE n c false a) fun x => bnd (trE n c false b) fun y => some (.dct (.cons x .nil) (.cons y .nil))
    | _, _ => none
  | _ + 1, _, _, _ => none
/-- methods of the built-in kinds -/
def trM : Nat → Cfg → Expr → Str → Pos → List Expr → Pos → Option Ex
  | 0, _, _, _, _, _, _ => none
  | n + 1, c, o, m, ap, es, p => guardB (ap.endLine == p.line) (match es with
    | [b] => guardB (noStar b) (if decide (m = "index") then bnd (trE n c false o) fun x => bnd (trE n c false b) fun y => some (.mth .index x y)
      else if decide (m = "count") then bnd (trE n c false o) fun x => bnd (trE n c false b) fun y => some (.mth .count x y) else none)
    | [b, d] => guardB (noStar b && noStar d && decide (m = "get")) (bnd (trE n c false o) fun x => bnd (trE n c false b) fun y => bnd (trE n c false d) fun z => some (.mget x y z))
    | _ => none)
def trEs : Nat → Cfg → List Bool → List Expr → Option Exs
  | 0, _, _, _ => none
  | n + 1, c, fl, [] => some .nil
  | n + 1, c, fl, e :: es => guardB (noStar e) (bnd (trE n c (fl.headD false) e) fun x => (trEs n c fl.tail es).map (.cons x))
def trO : Nat → Cfg → Option Expr → Option Exo
  | 0, _, _ => none
  | n + 1, c, none => some .no
  | n + 1, c, some e => (trE n c false e).map .so
def trBo : Nat → Cfg → BoolOp → List Expr → Option Ex
  | 0, _, _, _ => none
  | n + 1, c, op, [] => none
  | n + 1, c, op, [a] => trE n c false a
  | n + 1, c, op, a :: b :: r => bnd (trE n c false a) fun x => bnd (trBo n c op (b :: r)) fun y => match op with
    | .And => some (.and_ x y)
    | .Or => some (.or_ x y)
def trBt : Nat → Cfg → BoolOp → List Expr → Option Ex
  | 0, _, _, _ => none
  | n + 1, c, op, [] => none
  | n + 1, c, op, [a] => trT n c a
  | n + 1, c, op, a :: b :: r => bnd (trT n c a) fun x => bnd (trBt n c op (b :: r)) fun y => match op with
    | .And => some (.and_ x y)
    | .Or => some (.or_ x y)
def trT : Nat → Cfg → Expr → Option Ex
  | 0, _, _ => none
  | n + 1, c, .BoolOp op es _ => trBt n c op es
  | n + 1, c, .UnaryOp op a p => match op with
    | .Not => (trT n c a).map .not_
    | _ => none
  | n + 1, c, .Compare a ops bs _ => trC n c a ops bs
  | n + 1, c, .IfExp .. => none
  | n + 1, c, e => trE n c false e
def trC : Nat → Cfg → Expr → List CmpOp → List Expr → Option Ex
  | 0, _, _, _, _ => none
  | n + 1, c, a, ops, bs => match ops, bs with
    | [.Is], [.Constant k _ _] => match k with
      | .none => (trE n c false a).map (.isN false)
      | .bool b => (trE n c false a).map (.isB false b)
      | _ => none
    | [.IsNot], [.Constant k _ _] => match k with
      | .none => (trE n c false a).map (.isN true)
      | .bool b => (trE n c false a).map (.isB true b)
      | _ => none
    | [o], [b] => guardB (noSet b) (bnd (cR o) fun o => bnd (trE n c false a) fun x => bnd (trE n c false b) fun y => some (.cmp o x y))
    | [o, o'], [b, d] => guardB (noSet d) (bnd (cR o) fun o => bnd (cR o') fun o' => bnd (trE n c false a) fun x => bnd (trE n c false b) fun y => bnd (trE n c false d) fun z => some (.chain o o' x y z))
    | _, _ => none
def trI : Nat → Cfg → Expr → Expr → Option Itr
  | 0, _, _, _ => none
  | n + 1, c, tg, e => match e with
    | .Call (.Name f _) [a] [] _ =>
      if blt c f && decide (f = "range") then guardB (noStar a) ((trE n c false a).map .range1)
      else if blt c f && decide (f = "enumerate") then guardB (noStar a && isTup tg) ((trE n c false a).map .enum)
      else (trE n c false e).map .of
    | .Call (.Name f _) [a, b] [] _ =>
      if blt c f && decide (f = "range") then guardB (noStar a && noStar b) (bnd (trE n c false a) fun x => bnd (trE n c false b) fun y => some (.range2 x y))
      else if blt c f && decide (f = "zip") then guardB (noStar a && noStar b && isTup tg) (bnd (trE n c false a) fun x => bnd (trE n c false b) fun y => some (.zip2 x y))
      else (trE n c false e).map .of
    | .Call (.Name f _) [a, b, d] [] _ =>
      if blt c f && decide (f = "zip") then guardB (noStar a && noStar b && noStar d && isTup tg) (bnd (trE n c false a) fun x => bnd (trE n c false b) fun y => bnd (trE n c false d) fun z => some (.zip3 x y z))
      else (trE n c false e).map .of
    | e => guardB (noSet e) ((trE n c false e).map .of)
def trLc : Nat → Cfg → Bool → Expr → List Comprehension → Scope → Option Ex
  | 0, _, _, _, _, _ => none
  | n + 1, c, al, elt, gs, scope => guardB (blkB c.N c.sc scope) (match gs with
    | [⟨tg, iter, ifs, i⟩] => guardB (decide (i = 0) && noSet iter) (bnd (trI n c tg iter) fun it => bnd (trG n (blkC c scope) tg) fun t => guardB (inB (tgs t) ((ownB c.N scope.names).map (·.2))) (bnd (trIf n (blkC c scope) ifs) fun tt =>
      bnd (trE n (blkC c scope) c.ea elt) fun el => some (.lc al ((ownB c.N scope.names).map (·.2)) it t tt el)))
    | [⟨tg, iter, ifs, i⟩, ⟨tg1, iter1, ifs1, i1⟩] => guardB (decide (i = 0) && decide (i1 = 0) && noSet iter && noSet iter1 && ifs.isEmpty) (bnd (trI n c tg iter) fun it => bnd (trG n (blkC c scope) tg) fun t => bnd (trI n (blkC c scope) tg1 iter1) fun it1 =>
      bnd (trG n (blkC c scope) tg1) fun t1 => guardB (inB (tgs t) ((ownB c.N scope.names).map (·.2)) && inB (tgs t1) ((ownB c.N scope.names).map (·.2))) (bnd (trIf n (blkC c scope) ifs1) fun tt =>
      bnd (trE n (blkC c scope) c.ea elt) fun el => some (.lc2 al ((ownB c.N scope.names).map (·.2)) (tgs t1) it t it1 t1 tt el)))
    | _ => none)
def trIf : Nat → Cfg → List Expr → Option Exo
  | 0, _, _ => none
  | n + 1, c, [] => some .no
  | n + 1, c, [e] => (trT n c e).map .so
  | n + 1, c, _ :: _ :: _ => none
end
/-! ### statements -/
def swNames (sc : Scope) (line : Nat) : List Expr → List Str
  | [] => []
  | .Name x pos :: r => if (sc.names.lookup x == some .local && pos.line == line) = true then x :: swNames sc line r else swNames sc line r
  | _ :: r => swNames sc line r
def lineOf (ts : List Expr) : Nat := (ts.head?.map (·.pos.line)).getD 0
/-- whether parallel stores are swapped -/
def swK (sc : Scope) (ts vs : List Expr) : Option Bool :=
  if (!(ts.length == 2 || ts.length == 3) || vs.length != ts.length) = true then some false
  else if (vs.any fun | .Starred .. => true | _ => false) = true then some false
  else if ((swNames sc (lineOf ts) ts).length != ts.length || (swNames sc (lineOf ts) ts).eraseDups.length != (swNames sc (lineOf ts) ts).length) = true then some false
  else if vs.all (foldedForSure 8) = true then some false
  else if vs.all (constantsAlone 8) = true then none
  else some true
/-- whether a comprehension's store comes ahead of the block's end -/
def swB (sc scope : Scope) (t : Str) (tp ep : Pos) : Bool := sc.names.lookup t == some .local && tp.line == ep.line && !(scope.names.any fun (n, k) => n == t && (k == .local || k == .cell))
def muF (c : Cfg) : List Expr → List Bool
  | [] => []
  | .Name x _ :: r => decide (x ∈ c.mu) :: muF c r
  | _ :: r => false :: muF c r
mutual
def trS : Nat → Cfg → Stmt → Option SS
  | 0, _, _ => none
  | n + 1, c, .Return v _ => match v with
    | some e => (trE n c c.ra e).map .ret
    | none => some .retN
  | n + 1, c, .Pass _ => some .pass
  | n + 1, c, .Break _ => some .brk
  | n + 1, c, .Raise _ _ _ => some .bad
  | n + 1, c, .If t a b _ => bnd (trT n c t) fun x => bnd (trSs n c a) fun u => bnd (trSs n c b) fun v => some (.ifs x u v)
  | n + 1, c, .For tg iter body els _ => guardB (els.isEmpty && noSet iter) (bnd (trI n c tg iter) fun it => bnd (trG n c tg) fun t => bnd (trSs n c body) fun u => some (.for_ t it u))
  | n + 1, c, .While t body els _ => guardB els.isEmpty (bnd (trT n c t) fun x => bnd (trSs n c body) fun u => some (.while_ x u))
  | n + 1, c, .Expr e _ => match e with
    | .Call (.Attribute a m ap) [b] [] p => if decide (m = "append") then guardB (noBare a && noStar b && (ap.endLine == p.line)) (bnd (trE n c false a) fun x => bnd (trE n c (decide (m ∈ c.mu)) b) fun y => some (.append x y))
      else if decide (m = "extend") then guardB (noBare a && noStar b && (ap.endLine == p.line)) (bnd (trE n c false a) fun x => bnd (trE n c false b) fun y => some (.extend x y))
      else (trE n c false e).map .ex
    | e => guardB (noComp e) ((trE n c false e).map .ex)
  | n + 1, c, .Assign ts e p => match ts with
    | [.Name y py] => guardB (decide (y ∈ c.st)) (bnd (idxS c.N y) fun i => (trE n c (decide (y ∈ c.mu)) e).map (.asg (.name i)))
    | [.Subscript a i _] => bnd (trE n c false e) fun z => bnd (trE n c false a) fun x => bnd (trE n c false i) fun y => some (.setSub x y z)
    | [.Attribute a f _] => guardB (decide (f ∈ c.fl)) (bnd (trE n c false e) fun z => bnd (trE n c false a) fun x => some (.setFld x f z))
    | [.Tuple ts _ _] => match e with
      | .Tuple vs _ _ => bnd (trEs n c (muF c ts) vs) fun xs => guardB (decide (lenX xs ≤ 1000)) (bnd (trGs n c ts) fun gs => bnd (swK c.sc ts vs) fun _ => some (.asg (.tup gs) (.tup xs)))
      | e => guardB (noComp e && !isTup e) (bnd (trE n c false e) fun x => bnd (trGs n c ts) fun gs => some (.asg (.tup gs) x))
    | _ => none
  | _ + 1, _, _ => none
def trSs : Nat → Cfg → List Stmt → Option SSs
  | 0, _, _ => none
  | n + 1, _, [] => some .nil
  | n + 1, c, s :: r => bnd (trS n c s) fun u => (trSs n c r).map (.cons u)
end
end SL

/-! SLo: the translator is sound. -/
namespace SL
open PySem PySem.Spec PyProof.Rows L2
variable {cl : Str → Option Addr} {C : Orc} {k : Nat}
structure Good (cl : Str → Option Addr) (C : Orc) (k : Nat) (X : Cx) (c : Cfg) : Prop where
  calm : X.calm = true
  room : Room (k + 1) X.A
  cs : ∀ n d, c.cs.lookup n = some d → ∃ u v, X.mg n = some u ∧ RelV v u ∧ ∀ ρ H, RepV X.K ρ H d v
  bs : ∀ n ∈ c.bs, X.mg n = none
  fs : ∀ n ∈ c.fs, ∃ fa, X.mg n = some (.ref fa) ∧ FnAt X cl C k n fa
  ks : ∀ n ∈ c.ks, ∃ CA fa, X.mg n = some (.ref CA) ∧ cl n = some CA ∧ Mk X.K CA fa ∧ FnAt X cl C k n fa
  ms : ∀ m cn, c.ms.lookup m = some cn → ∃ CA fa, cl cn = some CA ∧ Meth X.K CA m fa ∧ FnAt X cl C k m fa
  kl : ∀ c A, cl c = some A → L2.Cls X.K A
  fl : ∀ f ∈ c.fl, FldOk X cl f
  N : X.N = c.N
  nd : c.N.Nodup
  sc : X.env.scope = c.sc
  st : ∀ n ∈ c.st, Loc X.env.scope n ∧ (X.fn n = true ∨ X.env.scope.names.lookup n = some .local)
section
variable {X : Cx} {c : Cfg}
theorem Good.gl (G : Good cl C k X c) {x : Str} (h : glB c.sc x = true) : Gl X x := by
  show X.env.scope.names.lookup x = _
  rw [G.sc]
  exact of_decide_eq_true h
theorem Good.vis (G : Good cl C k X c) {x : Str} (h : visB c.sc x = true) : Vis X.env.scope x := by
  rw [G.sc]
  unfold visB at h
  unfold Vis
  split at h
  · exact .inl (by assumption)
  · exact .inr (.inl (by assumption))
  · exact .inr (.inr (by assumption))
  · cases h
theorem nm_of {x : Str} (h : nmOk x = true) : (x == ("__debug__" : Str)) = false ∧ (x == ("__classdict__" : Str)) = false ∧ x ≠ "__name__" := by
  unfold nmOk at h
  simp only [Bool.and_eq_true, Bool.not_eq_true', decide_eq_true_eq] at h
  exact ⟨h.1.1, h.1.2, h.2⟩
theorem star_cons {e : Expr} {es : List Expr} {env : Env} (h : noStar e = true) : starEach (e :: es) env = (false, eval e env) :: starEach es env := by
  cases e <;> first | rfl | cases h
theorem back_no {pos : Pos} {env : Env} : ∀ {es : List Expr}, es.all noStar = true → (backTo pos (starEach es env)).any (·.1) = false
  | [], _ => rfl
  | e :: es, h => by
    rw [List.all_cons, Bool.and_eq_true] at h
    rw [star_cons h.1]
    show (false || (backTo pos (starEach es env)).any (·.1)) = false
    rw [back_no h.2]
    rfl
theorem base_of {o : Expr} {f : Str} {env : Env} {t : Sem Value} (h : noBare o = true) : attributeBase o f env t = t := by
  unfold attributeBase
  split
  · cases h
  · rfl
theorem beh_of {op : CmpOp} {b : Expr} (h : noSet b = true) : behindInMarks op b = false := by
  cases b <;> first | rfl | cases h
theorem fold_of {e : Expr} {env : Env} (h : noSet e = true) (x : Value) : foldedSetIterable e env x = pure x := by
  cases e <;> first | rfl | cases h
theorem swp_of {e : Expr} {t : Option Expr} {l : Nat} {env : Env} (h : noComp e = true) : swapsWith e t l env = pure false := by
  cases e <;> first | rfl | cases h
theorem plain_ix {b : Expr} (h : noSlice b = true) : PlainIx b := fun o i => by
  cases b <;> first | rfl | cases h
/-- in a comprehension's block -/
theorem own_ix {N : List Str} : ∀ {ns : List (Str × NameKind)}, ∀ p ∈ ownB N ns, N[p.2]? = some p.1
  | [], p, h => by cases h
  | (y, kk) :: r, p, h => by
    unfold ownB at h
    split at h
    · rename_i i h1
      rcases List.mem_cons.mp h with rfl | h
      · exact idxS_get h1
      · exact own_ix p h
    · rename_i i h1
      rcases List.mem_cons.mp h with rfl | h
      · exact idxS_get h1
      · exact own_ix p h
    · exact own_ix p h
theorem idxS_none : ∀ {l : List Str} {x : Str}, idxS l x = none → x ∉ l
  | [], _, _ => by simp
  | y :: r, x, h => by
    simp only [idxS] at h
    split at h
    · cases h
    · rename_i hne
      rw [Option.map_eq_none_iff] at h
      exact fun m => (List.mem_cons.mp m).elim (fun e => hne e.symm) (idxS_none h)
theorem own_all {N : List Str} : ∀ {ns : List (Str × NameKind)}, ∀ y ∈ ns, (y.2 = .local ∨ y.2 = .cell) → y.1 ∈ (ownB N ns).map (·.1) ∨ y.1 ∉ N
  | [], y, h, _ => by cases h
  | (z, kk) :: r, y, h, hk => by
    unfold ownB
    rcases List.mem_cons.mp h with rfl | h
    · cases hi : idxS N z with
      | none => exact .inr (idxS_none hi)
      | some i =>
        rcases hk with hk | hk
        · have hk : kk = .local := hk
          subst hk
          exact .inl (by simp)
        · have hk : kk = .cell := hk
          subst hk
          exact .inl (by simp)
    · rcases own_all y h hk with h1 | h1
      · refine .inl ?_
        split
        · exact List.mem_cons_of_mem _ h1
        · exact List.mem_cons_of_mem _ h1
        · exact h1
      · exact .inr h1
theorem blk_ok {N : List Str} {sc scope : Scope} (h : blkB N sc scope = true) : BlkOk N sc scope (ownB N scope.names) := by
  unfold blkB at h
  rw [Bool.and_eq_true, Bool.and_eq_true] at h
  obtain ⟨⟨h1, h2⟩, h3⟩ := h
  rw [List.all_eq_true] at h3
  unfold uniqB at h2
  rw [List.all_eq_true] at h2
  refine ⟨of_decide_eq_true h1, fun y hy => of_decide_eq_true (h2 y hy), own_ix, fun y hy e => ?_, own_all⟩
  have := h3 y hy
  rw [e] at this
  exact of_decide_eq_true this
theorem stB_mem : ∀ {ns : List (Str × NameKind)} {x : Str}, x ∈ stB ns → ∃ kk, (x, kk) ∈ ns ∧ (kk = .local ∨ kk = .cell)
  | [], _, h => by cases h
  | (y, kk) :: r, x, h => by
    unfold stB at h
    split at h
    · rcases List.mem_cons.mp h with rfl | h
      · exact ⟨_, List.mem_cons_self, .inl rfl⟩
      · obtain ⟨k2, h1, h2⟩ := stB_mem h
        exact ⟨k2, List.mem_cons_of_mem _ h1, h2⟩
    · rcases List.mem_cons.mp h with rfl | h
      · exact ⟨_, List.mem_cons_self, .inr rfl⟩
      · obtain ⟨k2, h1, h2⟩ := stB_mem h
        exact ⟨k2, List.mem_cons_of_mem _ h1, h2⟩
    · obtain ⟨k2, h1, h2⟩ := stB_mem h
      exact ⟨k2, List.mem_cons_of_mem _ h1, h2⟩
theorem Good.blk (G : Good cl C k X c) {scope : Scope} (ok : blkB c.N c.sc scope = true) (s : Shared) (H : Hp) (Ca : Addr) (cs : List (Str × Addr)) (fp : List Addr) : Good cl C k (X.blk s H scope (compEnvC scope cs Ca X.env) fp) (blkC c scope) where
  calm := G.calm
  room := G.room
  cs := G.cs
  bs := G.bs
  fs := fun n h => let ⟨fa, h1, h2⟩ := G.fs n h; ⟨fa, h1, h2.ex, h2.kp⟩
  ks := fun n h => let ⟨CA, fa, h1, h2, h3, h4⟩ := G.ks n h; ⟨CA, fa, h1, h2, h3, h4.ex, h4.kp⟩
  ms := fun m cn h => let ⟨CA, fa, h1, h2, h3⟩ := G.ms m cn h; ⟨CA, fa, h1, h2, h3.ex, h3.kp⟩
  kl := G.kl
  fl := G.fl
  N := G.N
  nd := G.nd
  sc := by
    show relS scope X.env.scope = relS scope c.sc
    rw [G.sc]
  st := fun n h => by
    have B := blk_ok ok
    obtain ⟨kk, h1, h2⟩ := stB_mem (show n ∈ stB scope.names from h)
    have hl : scope.names.lookup n = some kk := B.uniq _ h1
    have hne : kk ≠ .free := by rcases h2 with h2 | h2 <;> rw [h2] <;> decide
    have hk : (relS scope X.env.scope).names.lookup n = some kk := lookup_relS_keep hne hl
    rcases h2 with rfl | rfl
    · exact ⟨.inl hk, .inr hk⟩
    · refine ⟨.inr hk, .inl ?_⟩
      show (scope.names.lookup n == some NameKind.cell) = true
      rw [hl]
      rfl
/-! ### targets -/
theorem asg_len {env : Env} : ∀ {es : List Expr}, (assignEach es env).length = es.length
  | [] => rfl
  | e :: es => by cases e <;> simp [assignEach, asg_len (es := es)]
theorem asg_cons {e : Expr} {es : List Expr} {env : Env} (h : noStar e = true) : assignEach (e :: es) env = (false, assign e env) :: assignEach es env := by
  cases e <;> first | rfl | cases h
theorem asg_none {env : Env} : ∀ {es : List Expr}, es.all noStar = true → (assignEach es env).findIdx? (·.1) = none
  | [], _ => rfl
  | e :: es, h => by
    rw [List.all_cons, Bool.and_eq_true] at h
    rw [asg_cons h.1, List.findIdx?_cons]
    simp [asg_none h.2]
structure SndG (n : Nat) : Prop where
  g : ∀ {X : Cx} {c : Cfg} {e : Expr} {t : Tg}, Good cl C k X c → trG n c e = some t → PG X e (rdG X t)
  gs : ∀ {X : Cx} {c : Cfg} {es : List Expr} {ts : List Tg}, Good cl C k X c → trGs n c es = some ts → PGs X es (rdGs X ts) ∧ es.all noStar = true ∧ es.length = ts.length
theorem sndG : ∀ n, SndG (cl := cl) (C := C) (k := k) n
  | 0 => ⟨fun _ h => by simp [trG] at h, fun _ h => by simp [trGs] at h⟩
  | n + 1 => by
    have ih := sndG n
    refine ⟨fun {X c e t} G h => ?_, fun {X c es ts} G h => ?_⟩
    · cases e with
      | Name x pos =>
        simp only [trG] at h
        obtain ⟨h1, h⟩ := guardB_eq h
        rw [Option.map_eq_some_iff] at h
        obtain ⟨i, h2, rfl⟩ := h
        obtain ⟨s1, s2⟩ := G.st x (of_decide_eq_true h1)
        exact g_name (by rw [G.N]; exact G.nd) (by rw [G.N]; exact idxS_get h2) s1 s2
      | Tuple es j pos =>
        simp only [trG, Option.map_eq_some_iff] at h
        obtain ⟨ts, h1, rfl⟩ := h
        obtain ⟨g1, g2, g3⟩ := ih.gs G h1
        exact g_tup G.calm g1 (by rw [asg_len, g3]) (asg_none g2)
      | _ => simp [trG] at h
    · cases es with
      | nil =>
        simp only [trGs] at h
        cases h
        exact ⟨g_nil, rfl, rfl⟩
      | cons e es =>
        simp only [trGs] at h
        obtain ⟨h1, h⟩ := guardB_eq h
        obtain ⟨t, h2, h⟩ := bnd_eq h
        rw [Option.map_eq_some_iff] at h
        obtain ⟨us, h3, rfl⟩ := h
        obtain ⟨g1, g2, g3⟩ := ih.gs G h3
        refine ⟨g_cons (ih.g G h2) g1 (by rw [asg_cons h1]; rfl), by rw [List.all_cons, h1, g2]; rfl, by rw [List.length_cons, List.length_cons, g3]⟩
/-! ### expressions -/
theorem opR_eq {op : Operator} {o : BOp} (h : opR op = some o) : opOf o = op := by
  cases op <;> simp [opR] at h <;> subst h <;> rfl
theorem cR_eq {op : CmpOp} {o : COp} (h : cR op = some o) : cOf o = op := by
  cases op <;> simp [cR] at h <;> subst h <;> rfl
theorem blt_of (G : Good cl C k X c) {f : Str} (h : blt c f = true) : Gl X f ∧ X.mg f = none ∧ (f == ("__debug__" : Str)) = false ∧ f ≠ "__name__" := by
  unfold blt at h
  simp only [Bool.and_eq_true, decide_eq_true_eq] at h
  obtain ⟨n1, n2, n3⟩ := nm_of h.2
  exact ⟨G.gl h.1.2, G.bs f h.1.1, n1, n3⟩
theorem tyOf_boot {x : Str} {t : Ty} (h : tyOf x = some t) : bootBuiltins x = some (.type (tyS t)) := by
  have m := PySem.mem_of_lookup h
  have all : ∀ p ∈ [(("int" : Str), Ty.int), ("bool", .bool), ("str", .str), ("tuple", .tuple), ("list", .list)], bootBuiltins p.1 = some (.type (tyS p.2)) := by decide +kernel
  exact all _ m
theorem ts_of : ∀ {es : List Expr} {ts : List Ty}, Good cl C k X c → trTy c es = some ts → PA X es (tTys ts)
  | [], ts, G, h => by
    cases h
    exact pa_nil
  | e :: es, ts, G, h => by
    cases e with
    | Name x p =>
      simp only [trTy] at h
      obtain ⟨h1, h⟩ := guardB_eq h
      obtain ⟨t, h2, h⟩ := bnd_eq h
      rw [Option.map_eq_some_iff] at h
      obtain ⟨us, h3, rfl⟩ := h
      simp only [Bool.and_eq_true, decide_eq_true_eq] at h1
      obtain ⟨n1, n2, n3⟩ := nm_of h1.2
      exact pa_wk (pa_cons (pe_bltn (v := .ty (tyS t)) (G.gl h1.1.2) (G.bs x h1.1.1) (tyOf_boot h2) rfl n3 n1) (ts_of G h3) rfl) fun σ H Q q => q
    | _ => simp [trTy] at h
structure SndN (cl : Str → Option Addr) (C : Orc) (k : Nat) (n : Nat) : Prop where
  e : ∀ {X : Cx} {c : Cfg} {al : Bool} {e : Expr} {x : Ex}, Good cl C k X c → trE n c al e = some x → PE X e (rdE X cl C x)
  m : ∀ {X : Cx} {c : Cfg} {o : Expr} {m : Str} {ap p : Pos} {es : List Expr} {x : Ex}, Good cl C k X c → noBare o = true → trM n c o m ap es p = some x → PE X (.Call (.Attribute o m ap) es [] p) (rdE X cl C x)
  es : ∀ {X : Cx} {c : Cfg} {fl : List Bool} {es : List Expr} {xs : Exs}, Good cl C k X c → trEs n c fl es = some xs → PA X es (rdA X cl C xs) ∧ es.all noStar = true
  o : ∀ {X : Cx} {c : Cfg} {e : Option Expr} {x : Exo}, Good cl C k X c → trO n c e = some x → PO X e (rdO X cl C x)
  bo : ∀ {X : Cx} {c : Cfg} {op : BoolOp} {es : List Expr} {x : Ex} {pos : Pos}, Good cl C k X c → trBo n c op es = some x → PE X (.BoolOp op es pos) (rdE X cl C x)
  bt : ∀ {X : Cx} {c : Cfg} {op : BoolOp} {es : List Expr} {x : Ex} {pos : Pos}, Good cl C k X c → trBt n c op es = some x → PW X (.BoolOp op es pos) (rdT X cl C x)
  t : ∀ {X : Cx} {c : Cfg} {e : Expr} {x : Ex}, Good cl C k X c → trT n c e = some x → PT X e (rdT X cl C x)
  c : ∀ {X : Cx} {c : Cfg} {a : Expr} {ops : List CmpOp} {bs : List Expr} {x : Ex} {pos : Pos}, Good cl C k X c → trC n c a ops bs = some x → PE X (.Compare a ops bs pos) (rdE X cl C x) ∧ PT X (.Compare a ops bs pos) (rdT X cl C x)
  i : ∀ {X : Cx} {c : Cfg} {tg e : Expr} {x : Itr}, Good cl C k X c → trI n c tg e = some x → PI X tg e (rdI X cl C x)
  lc : ∀ {X : Cx} {c : Cfg} {al : Bool} {elt : Expr} {gs : List Comprehension} {scope : Scope} {x : Ex} {pos : Pos}, Good cl C k X c → trLc n c al elt gs scope = some x → PE X (.ListComp elt gs scope pos) (rdE X cl C x) ∧
    ∀ {i : Nat} {y : Str} {py spos : Pos}, X.N[i]? = some y → X.env.scope.names.lookup y = some .local → swapsWith (.ListComp elt gs scope pos) (some (.Name y py)) spos.line X.env = pure true → PS X (.Assign [.Name y py] (.ListComp elt gs scope pos) spos) (tAsg (rdE X cl C x) (gName i))
  if_ : ∀ {X : Cx} {c : Cfg} {es : List Expr} {x : Exo}, Good cl C k X c → trIf n c es = some x → PTs X es (rdTo X cl C x)
end
end SL

/-! SLp: the translator is sound: expressions. -/
namespace SL
open PySem PySem.Spec PyProof.Rows L2
variable {cl : Str → Option Addr} {C : Orc} {k n : Nat} {X : Cx} {c : Cfg}
theorem snd_es (ih : SndN cl C k n) {fl : List Bool} {es : List Expr} {xs : Exs} (G : Good cl C k X c) (h : trEs (n + 1) c fl es = some xs) : PA X es (rdA X cl C xs) ∧ es.all noStar = true := by
  cases es with
  | nil =>
    simp only [trEs] at h
    cases h
    exact ⟨a_nil, rfl⟩
  | cons e es =>
    simp only [trEs] at h
    obtain ⟨h1, h⟩ := guardB_eq h
    obtain ⟨x, h2, h⟩ := bnd_eq h
    rw [Option.map_eq_some_iff] at h
    obtain ⟨ys, h3, rfl⟩ := h
    obtain ⟨g1, g2⟩ := ih.es G h3
    exact ⟨a_cons (ih.e G h2) g1 (star_cons h1), by rw [List.all_cons, h1, g2]; rfl⟩
theorem snd_o (ih : SndN cl C k n) {e : Option Expr} {x : Exo} (G : Good cl C k X c) (h : trO (n + 1) c e = some x) : PO X e (rdO X cl C x) := by
  cases e with
  | none =>
    simp only [trO] at h
    cases h
    exact o_no
  | some e =>
    simp only [trO, Option.map_eq_some_iff] at h
    obtain ⟨y, h1, rfl⟩ := h
    exact o_so (ih.e G h1)
theorem snd_bo (ih : SndN cl C k n) {op : BoolOp} {es : List Expr} {x : Ex} {pos : Pos} (G : Good cl C k X c) (h : trBo (n + 1) c op es = some x) : PE X (.BoolOp op es pos) (rdE X cl C x) := by
  match es with
  | [] => simp [trBo] at h
  | [a] =>
    simp only [trBo] at h
    exact pe_one (ih.e G h)
  | a :: b :: r =>
    simp only [trBo] at h
    obtain ⟨y, h1, h⟩ := bnd_eq h
    obtain ⟨z, h2, h⟩ := bnd_eq h
    cases op with
    | And => cases h; exact e_and (ih.e G h1) (ih.bo G h2)
    | Or => cases h; exact e_or (ih.e G h1) (ih.bo G h2)
theorem snd_bt (ih : SndN cl C k n) {op : BoolOp} {es : List Expr} {x : Ex} {pos : Pos} (G : Good cl C k X c) (h : trBt (n + 1) c op es = some x) : PW X (.BoolOp op es pos) (rdT X cl C x) := by
  match es with
  | [] => simp [trBt] at h
  | [a] =>
    simp only [trBt] at h
    cases op with
    | And => exact pw_and1 (ih.t G h)
    | Or => exact pw_or1 (ih.t G h)
  | a :: b :: r =>
    simp only [trBt] at h
    obtain ⟨y, h1, h⟩ := bnd_eq h
    obtain ⟨z, h2, h⟩ := bnd_eq h
    cases op with
    | And => cases h; exact w_and (ih.t G h1) (ih.bt G h2)
    | Or => cases h; exact w_or (ih.t G h1) (ih.bt G h2)
theorem snd_if (ih : SndN cl C k n) {es : List Expr} {x : Exo} (G : Good cl C k X c) (h : trIf (n + 1) c es = some x) : PTs X es (rdTo X cl C x) := by
  match es with
  | [] =>
    simp only [trIf] at h
    cases h
    exact ts_no
  | [e] =>
    simp only [trIf, Option.map_eq_some_iff] at h
    obtain ⟨y, h1, rfl⟩ := h
    exact ts_so (ih.t G h1)
  | _ :: _ :: _ => simp [trIf] at h
theorem snd_t (ih : SndN cl C k n) {e : Expr} {x : Ex} (G : Good cl C k X c) (h : trT (n + 1) c e = some x) : PT X e (rdT X cl C x) := by
  cases e with
  | BoolOp op es pos =>
    simp only [trT] at h
    exact (ih.bt G h).pt
  | UnaryOp op a pos =>
    simp only [trT] at h
    cases op with
    | Not =>
      simp only [Option.map_eq_some_iff] at h
      obtain ⟨y, h1, rfl⟩ := h
      exact t_not (ih.t G h1)
    | _ => cases h
  | Compare a ops bs pos =>
    simp only [trT] at h
    exact (ih.c G h).2
  | IfExp _ _ _ _ => simp [trT] at h
  | _ =>
    simp only [trT] at h
    exact t_val rfl (ih.e G h)
theorem snd_c (ih : SndN cl C k n) {a : Expr} {ops : List CmpOp} {bs : List Expr} {x : Ex} {pos : Pos} (G : Good cl C k X c) (h : trC (n + 1) c a ops bs = some x) : PE X (.Compare a ops bs pos) (rdE X cl C x) ∧ PT X (.Compare a ops bs pos) (rdT X cl C x) := by
  unfold trC at h
  split at h
  · split at h
    · rw [Option.map_eq_some_iff] at h
      obtain ⟨y, h1, rfl⟩ := h
      exact ⟨e_isN (ih.e G h1), t_isN (ih.e G h1)⟩
    · rw [Option.map_eq_some_iff] at h
      obtain ⟨y, h1, rfl⟩ := h
      exact ⟨e_isB (ih.e G h1), t_isB (ih.e G h1)⟩
    · cases h
  · split at h
    · rw [Option.map_eq_some_iff] at h
      obtain ⟨y, h1, rfl⟩ := h
      exact ⟨e_notN (ih.e G h1), t_notN (ih.e G h1)⟩
    · rw [Option.map_eq_some_iff] at h
      obtain ⟨y, h1, rfl⟩ := h
      exact ⟨e_notB (ih.e G h1), t_notB (ih.e G h1)⟩
    · cases h
  · obtain ⟨h0, h⟩ := guardB_eq h
    obtain ⟨o, h1, h⟩ := bnd_eq h
    obtain ⟨y, h2, h⟩ := bnd_eq h
    obtain ⟨z, h3, h⟩ := bnd_eq h
    cases h
    have e1 := cR_eq h1
    rw [← e1]
    exact ⟨e_cmp G.room (ih.e G h2) (ih.e G h3) (beh_of h0), t_cmp G.room (ih.e G h2) (ih.e G h3) (beh_of h0)⟩
  · obtain ⟨h0, h⟩ := guardB_eq h
    obtain ⟨o, h1, h⟩ := bnd_eq h
    obtain ⟨o', h1', h⟩ := bnd_eq h
    obtain ⟨y, h2, h⟩ := bnd_eq h
    obtain ⟨z, h3, h⟩ := bnd_eq h
    obtain ⟨u, h4, h⟩ := bnd_eq h
    cases h
    have e1 := cR_eq h1
    have e2 := cR_eq h1'
    rw [← e1, ← e2]
    exact ⟨e_chain G.room (ih.e G h2) (ih.e G h3) (ih.e G h4) (beh_of h0), t_chain G.room (ih.e G h2) (ih.e G h3) (ih.e G h4) (beh_of h0)⟩
  · cases h
theorem star1 {a : Expr} {env : Env} (h : noStar a = true) : starEach [a] env = [(false, eval a env)] := by rw [star_cons h]; rfl
theorem tup_of {e : Expr} (h : isTup e = true) : ∃ es j p, e = .Tuple es j p := by
  cases e <;> first | exact ⟨_, _, _, rfl⟩ | cases h
theorem snd_i (ih : SndN cl C k n) {tg e : Expr} {x : SL.Itr} (G : Good cl C k X c) (h : trI (n + 1) c tg e = some x) : PI X tg e (rdI X cl C x) := by
  unfold trI at h
  split at h
  · split at h
    · rename_i hb
      rw [Bool.and_eq_true] at hb
      have e1 := of_decide_eq_true hb.2
      subst e1
      obtain ⟨b1, b2, b3, b4⟩ := blt_of G hb.1
      obtain ⟨h0, h⟩ := guardB_eq h
      rw [Option.map_eq_some_iff] at h
      obtain ⟨y, h1, rfl⟩ := h
      exact i_range1 b1 b2 (ih.e G h1) (star1 h0)
    · split at h
      · rename_i hb
        rw [Bool.and_eq_true] at hb
        have e1 := of_decide_eq_true hb.2
        subst e1
        obtain ⟨b1, b2, b3, b4⟩ := blt_of G hb.1
        obtain ⟨h0, h⟩ := guardB_eq h
        rw [Bool.and_eq_true] at h0
        rw [Option.map_eq_some_iff] at h
        obtain ⟨y, h1, rfl⟩ := h
        obtain ⟨es, j, p, rfl⟩ := tup_of h0.2
        exact i_enum b1 b2 (ih.e G h1) (star1 h0.1)
      · rw [Option.map_eq_some_iff] at h
        obtain ⟨y, h1, rfl⟩ := h
        exact i_of (ih.e G h1)
  · split at h
    · rename_i hb
      rw [Bool.and_eq_true] at hb
      have e1 := of_decide_eq_true hb.2
      subst e1
      obtain ⟨b1, b2, b3, b4⟩ := blt_of G hb.1
      obtain ⟨h0, h⟩ := guardB_eq h
      rw [Bool.and_eq_true] at h0
      obtain ⟨y, h1, h⟩ := bnd_eq h
      obtain ⟨z, h2, h⟩ := bnd_eq h
      cases h
      exact i_range2 b1 b2 (ih.e G h1) (ih.e G h2) (by rw [star_cons h0.1, star1 h0.2]) (star1 h0.2)
    · split at h
      · rename_i hb
        rw [Bool.and_eq_true] at hb
        have e1 := of_decide_eq_true hb.2
        subst e1
        obtain ⟨b1, b2, b3, b4⟩ := blt_of G hb.1
        obtain ⟨h0, h⟩ := guardB_eq h
        rw [Bool.and_eq_true, Bool.and_eq_true] at h0
        obtain ⟨y, h1, h⟩ := bnd_eq h
        obtain ⟨z, h2, h⟩ := bnd_eq h
        cases h
        obtain ⟨es, j, p, rfl⟩ := tup_of h0.2
        exact i_zip2 b1 b2 (ih.e G h1) (ih.e G h2) (star_cons h0.1.1) (star_cons h0.1.2) (back_no (by simp [h0.1.2]))
      · rw [Option.map_eq_some_iff] at h
        obtain ⟨y, h1, rfl⟩ := h
        exact i_of (ih.e G h1)
  · split at h
    · rename_i hb
      rw [Bool.and_eq_true] at hb
      have e1 := of_decide_eq_true hb.2
      subst e1
      obtain ⟨b1, b2, b3, b4⟩ := blt_of G hb.1
      obtain ⟨h0, h⟩ := guardB_eq h
      rw [Bool.and_eq_true, Bool.and_eq_true, Bool.and_eq_true] at h0
      obtain ⟨y, h1, h⟩ := bnd_eq h
      obtain ⟨z, h2, h⟩ := bnd_eq h
      obtain ⟨u, h3, h⟩ := bnd_eq h
      cases h
      obtain ⟨es, j, p, rfl⟩ := tup_of h0.2
      exact i_zip3 b1 b2 (ih.e G h1) (ih.e G h2) (ih.e G h3) (star_cons h0.1.1.1) (star_cons h0.1.1.2) (star_cons h0.1.2) (back_no (by simp [h0.1.1.2, h0.1.2]))
    · rw [Option.map_eq_some_iff] at h
      obtain ⟨y, h1, rfl⟩ := h
      exact i_of (ih.e G h1)
  · obtain ⟨h0, h⟩ := guardB_eq h
    rw [Option.map_eq_some_iff] at h
    obtain ⟨y, h1, rfl⟩ := h
    exact i_of (ih.e G h1)
theorem inB_of {a b : List Nat} (h : inB a b = true) : ∀ i ∈ a, i ∈ b := fun i hi => of_decide_eq_true (List.all_eq_true.mp h i hi)
theorem pi_blk {s : Shared} {H0 : Hp} {scope : Scope} {cenv : Env} {fp : List Addr} {tg e : Expr} {it : SL.Itr} (h : PI (X.blk s H0 scope cenv fp) tg e (rdI (X.blk s H0 scope cenv fp) cl C it)) : PI (X.blk s H0 scope cenv fp) tg e (rdI X cl C it) :=
  ⟨fun pins s1 σ H R I ⟨ρ, env, S, src, ds, S', RS, E, e, q⟩ => h.run pins s1 σ H R I ⟨ρ, env, S, src, ds, S', RS, E, e, fun ρ' H' J x R' ok wk => q ρ' H' J x R' ok ⟨wk.go, wk.stop⟩⟩⟩
theorem snd_lc (ih : SndN cl C k n) {al : Bool} {elt : Expr} {gs : List Comprehension} {scope : Scope} {x : Ex} {pos : Pos} (G : Good cl C k X c) (h : trLc (n + 1) c al elt gs scope = some x) : PE X (.ListComp elt gs scope pos) (rdE X cl C x) ∧
    ∀ {i : Nat} {y : Str} {py spos : Pos}, X.N[i]? = some y → X.env.scope.names.lookup y = some .local → swapsWith (.ListComp elt gs scope pos) (some (.Name y py)) spos.line X.env = pure true → PS X (.Assign [.Name y py] (.ListComp elt gs scope pos) spos) (tAsg (rdE X cl C x) (gName i)) := by
  unfold trLc at h
  have hh := guardB_eq h
  clear h
  obtain ⟨hb, h⟩ := hh
  have B : BlkOk X.N X.env.scope scope (ownB c.N scope.names) := by
    rw [G.N, G.sc]
    exact blk_ok hb
  have nd : X.N.Nodup := by rw [G.N]; exact G.nd
  split at h
  · have hh := guardB_eq h
    clear h
    obtain ⟨h0, h⟩ := hh
    rw [Bool.and_eq_true] at h0
    have e0 := of_decide_eq_true h0.1
    subst e0
    obtain ⟨it, h1, h⟩ := bnd_eq h
    obtain ⟨t, h2, h⟩ := bnd_eq h
    have hh := guardB_eq h
    clear h
    obtain ⟨h3, h⟩ := hh
    obtain ⟨tt, h4, h⟩ := bnd_eq h
    obtain ⟨el, h5, h⟩ := bnd_eq h
    cases h
    have hg := fun (s : Shared) (H : Hp) (Ca : Addr) (cs : List (Str × Addr)) (fp : List Addr) => (sndG (cl := cl) (C := C) (k := k) n).g (G.blk hb s H Ca cs fp) h2
    have ht := fun (s : Shared) (H : Hp) (Ca : Addr) (cs : List (Str × Addr)) (fp : List Addr) => ih.if_ (G.blk hb s H Ca cs fp) h4
    have he := fun (s : Shared) (H : Hp) (Ca : Addr) (cs : List (Str × Addr)) (fp : List Addr) => ih.e (G.blk hb s H Ca cs fp) h5
    exact ⟨e_lc G.calm nd (ih.i G h1) B (inB_of h3) hg ht he (fold_of h0.2), fun hy hl hsw => s_setLc hy hl hsw G.calm nd (ih.i G h1) B (inB_of h3) hg ht he (fold_of h0.2)⟩
  · have hh := guardB_eq h
    clear h
    obtain ⟨h0, h⟩ := hh
    simp only [Bool.and_eq_true] at h0
    obtain ⟨⟨⟨⟨e0, e1⟩, s1⟩, s2⟩, s3⟩ := h0
    have e0 := of_decide_eq_true e0
    have e1 := of_decide_eq_true e1
    have e2 := List.isEmpty_iff.mp s3
    subst e0 e1 e2
    obtain ⟨it, h1, h⟩ := bnd_eq h
    obtain ⟨t, h2, h⟩ := bnd_eq h
    obtain ⟨it1, h6, h⟩ := bnd_eq h
    obtain ⟨t1, h7, h⟩ := bnd_eq h
    have hh := guardB_eq h
    clear h
    obtain ⟨h3, h⟩ := hh
    rw [Bool.and_eq_true] at h3
    obtain ⟨tt, h4, h⟩ := bnd_eq h
    obtain ⟨el, h5, h⟩ := bnd_eq h
    cases h
    have hg := fun (s : Shared) (H : Hp) (Ca : Addr) (cs : List (Str × Addr)) (fp : List Addr) => (sndG (cl := cl) (C := C) (k := k) n).g (G.blk hb s H Ca cs fp) h2
    have hg1 := fun (s : Shared) (H : Hp) (Ca : Addr) (cs : List (Str × Addr)) (fp : List Addr) => (sndG (cl := cl) (C := C) (k := k) n).g (G.blk hb s H Ca cs fp) h7
    have hi1 := fun (s : Shared) (H : Hp) (Ca : Addr) (cs : List (Str × Addr)) (fp : List Addr) => pi_blk (ih.i (G.blk hb s H Ca cs fp) h6)
    have ht := fun (s : Shared) (H : Hp) (Ca : Addr) (cs : List (Str × Addr)) (fp : List Addr) => ih.if_ (G.blk hb s H Ca cs fp) h4
    have he := fun (s : Shared) (H : Hp) (Ca : Addr) (cs : List (Str × Addr)) (fp : List Addr) => ih.e (G.blk hb s H Ca cs fp) h5
    exact ⟨e_lc2 G.calm nd (ih.i G h1) B (inB_of h3.2) (inB_of h3.1) (fun i hi => hi) hg hi1 hg1 ht he (fold_of s1) (fun _ => fold_of s2),
      fun hy hl hsw => s_setLc2 hy hl hsw G.calm nd (ih.i G h1) B (inB_of h3.2) (inB_of h3.1) (fun i hi => hi) hg hi1 hg1 ht he (fold_of s1) (fun _ => fold_of s2)⟩
  · cases h
theorem few1 {b : Expr} {p : Pos} {env : Env} (h : noStar b = true) : ((backTo p (starEach [b] env)).all (fun x => !x.1) && (backToKw p (keywordEach [] env)).all (fun x => x.1.isSome) && decide ([b].length + ([] : List Keyword).length + (if ([] : List Keyword).isEmpty then 0 else 1) < 30)) = true := by
  rw [star1 h]
  rfl
theorem snd_m (ih : SndN cl C k n) {o : Expr} {m : Str} {ap p : Pos} {es : List Expr} {x : Ex} (G : Good cl C k X c) (hb : noBare o = true) (h : trM (n + 1) c o m ap es p = some x) : PE X (.Call (.Attribute o m ap) es [] p) (rdE X cl C x) := by
  unfold trM at h
  have hh := guardB_eq h
  clear h
  obtain ⟨hl, h⟩ := hh
  split at h
  · have hh := guardB_eq h
    clear h
    obtain ⟨hs, h⟩ := hh
    split at h
    · rename_i hm
      have hm := of_decide_eq_true hm
      subst hm
      obtain ⟨y, h1, h⟩ := bnd_eq h
      obtain ⟨z, h2, h⟩ := bnd_eq h
      cases h
      exact e_index (ih.e G h1) (ih.e G h2) (base_of hb) (few1 hs) hl (star_cons hs)
    · split at h
      · rename_i hm
        have hm := of_decide_eq_true hm
        subst hm
        obtain ⟨y, h1, h⟩ := bnd_eq h
        obtain ⟨z, h2, h⟩ := bnd_eq h
        cases h
        exact e_count (ih.e G h1) (ih.e G h2) (base_of hb) (few1 hs) hl (star_cons hs)
      · cases h
  · have hh := guardB_eq h
    clear h
    obtain ⟨hs, h⟩ := hh
    simp only [Bool.and_eq_true] at hs
    have hm := of_decide_eq_true hs.2
    subst hm
    obtain ⟨y, h1, h⟩ := bnd_eq h
    obtain ⟨z, h2, h⟩ := bnd_eq h
    obtain ⟨u, h3, h⟩ := bnd_eq h
    cases h
    refine e_mget G.room (ih.e G h1) (ih.e G h2) (ih.e G h3) ⟨base_of hb, ?_, hl, ?_⟩
    · rw [star_cons hs.1.1, star1 hs.1.2]
      rfl
    · rw [star_cons hs.1.1, star1 hs.1.2]
      rfl
  · cases h
end SL

/-! SLq: the translator is sound: expressions, the whole; statements. -/
namespace SL
open PySem PySem.Spec PyProof.Rows L2
variable {cl : Str → Option Addr} {C : Orc} {k n : Nat} {X : Cx} {c : Cfg}
theorem bi_rule (G : Good cl C k X c) {al : Bool} {x : Str} {f : Bi} (h : biOf x = some f) : ∃ id, CallR X (.builtin id) (rBi X cl al f) ∧ bootBuiltins x = some (.builtin id) := by
  have m := PySem.mem_of_lookup h
  simp only [List.mem_cons, Prod.mk.injEq, List.not_mem_nil, or_false] at m
  rcases m with ⟨rfl, rfl⟩ | ⟨rfl, rfl⟩ | ⟨rfl, rfl⟩ | ⟨rfl, rfl⟩ | ⟨rfl, rfl⟩ | ⟨rfl, rfl⟩
  · exact ⟨_, b_len, by decide +kernel⟩
  · exact ⟨_, b_min G.room G.calm, by decide +kernel⟩
  · exact ⟨_, b_max G.room G.calm, by decide +kernel⟩
  · exact ⟨_, b_sum G.calm, by decide +kernel⟩
  · exact ⟨_, b_all G.calm, by decide +kernel⟩
  · exact ⟨_, b_sorted G.room G.calm, by decide +kernel⟩
theorem bt_rule (G : Good cl C k X c) {al : Bool} {x : Str} {f : Bi} (h : btOf x = some f) : ∃ id, CallR X (.type id) (rBi X cl al f) ∧ bootBuiltins x = some (.type id) := by
  have m := PySem.mem_of_lookup h
  simp only [List.mem_cons, Prod.mk.injEq, List.not_mem_nil, or_false] at m
  rcases m with ⟨rfl, rfl⟩ | ⟨rfl, rfl⟩ | ⟨rfl, rfl⟩
  · exact ⟨_, b_tuple, by decide +kernel⟩
  · exact ⟨_, b_list, by decide +kernel⟩
  · exact ⟨_, b_int, by decide +kernel⟩
theorem es_ne {fl : List Bool} {e : Expr} {es : List Expr} {xs : Exs} (ih : SndN cl C k n) (G : Good cl C k X c) (h : trEs n c fl (e :: es) = some xs) : PA X (e :: es) (rdA X cl C xs) ∧ noStar e = true ∧ es.all noStar = true := by
  obtain ⟨h1, h2⟩ := ih.es G h
  rw [List.all_cons, Bool.and_eq_true] at h2
  exact ⟨h1, h2.1, h2.2⟩
theorem ty1 {y : Str} {p2 : Pos} {ts : List Ty} (h : trTy c [.Name y p2] = some ts) : ∃ t, ts = [t] ∧ tyOf y = some t ∧ y ∈ c.bs ∧ glB c.sc y = true ∧ nmOk y = true := by
  simp only [trTy] at h
  obtain ⟨h1, h⟩ := guardB_eq h
  obtain ⟨t, h2, h⟩ := bnd_eq h
  cases h
  simp only [Bool.and_eq_true, decide_eq_true_eq] at h1
  exact ⟨t, rfl, h2, h1.1.1, h1.1.2, h1.2⟩
theorem snd_call (ih : SndN cl C k n) {al : Bool} {x : Str} {np pos : Pos} {e : Expr} {es : List Expr} {y : Ex} (G : Good cl C k X c) (h : (guardB (glB c.sc x && nmOk x) (
        if decide (x ∈ c.fs) then (trEs n c [] (e :: es)).map (.call x)
        else if decide (x ∈ c.ks) then (trEs n c [] (e :: es)).map (.new x)
        else guardB (decide (x ∈ c.bs)) (if decide (x = "isinstance") then
            match es with
            | [.Name y p2] => bnd (trE n c false e) fun a => bnd (trTy c [.Name y p2]) fun ts => some (.isi a ts)
            | [.Tuple ys _ _] => bnd (trE n c false e) fun a => bnd (trTy c ys) fun ts => guardB (decide (ts.length ≤ 1000)) (some (.isi a ts))
            | _ => none
          else match biOf x with
            | some f => (trEs n c [] (e :: es)).map (.bi al f)
            | none => match btOf x with
              | some f => (trEs n c [] (e :: es)).map (.bi al f)
              | none => none))) = some y) : PE X (.Call (.Name x np) (e :: es) [] pos) (rdE X cl C y) := by
  obtain ⟨h0, h1⟩ := guardB_eq h
  clear h
  rw [Bool.and_eq_true] at h0
  obtain ⟨n1, n2, n3⟩ := nm_of h0.2
  have g0 := G.gl h0.1
  split at h1
  · rename_i hf
    rw [Option.map_eq_some_iff] at h1
    obtain ⟨xs, h2, rfl⟩ := h1
    obtain ⟨a1, a2, a3⟩ := es_ne ih G h2
    obtain ⟨fa, m1, m2⟩ := G.fs x (of_decide_eq_true hf)
    exact e_call m2 (G.room.mono (Nat.le_succ k)) g0 m1 a1 n1 (star_cons a2) (back_no a3)
  · split at h1
    · rename_i hf
      rw [Option.map_eq_some_iff] at h1
      obtain ⟨xs, h2, rfl⟩ := h1
      obtain ⟨a1, a2, a3⟩ := es_ne ih G h2
      obtain ⟨CA, fa, m1, m2, m3, m4⟩ := G.ks x (of_decide_eq_true hf)
      exact e_new m3 m2 m4 G.room g0 m1 a1 n1 (star_cons a2) (back_no a3)
    · obtain ⟨hb, h2⟩ := guardB_eq h1
      clear h1
      have mb := G.bs x (of_decide_eq_true hb)
      split at h2
      · rename_i hx
        have hx := of_decide_eq_true hx
        subst hx
        split at h2
        · rename_i y p2
          obtain ⟨a, h3, h4⟩ := bnd_eq h2
          clear h2
          obtain ⟨ts, h5, h6⟩ := bnd_eq h4
          clear h4
          cases h6
          obtain ⟨t, rfl, q1, q2, q3, q4⟩ := ty1 h5
          obtain ⟨r1, r2, r3⟩ := nm_of q4
          have hs : noStar e = true := by
            cases e <;> first | rfl | (cases n <;> simp [trE] at h3)
          exact e_isi1 (ih.e G h3) g0 mb (G.gl q3) (G.bs y q2) (tyOf_boot q1) r3 r1 (star_cons hs) rfl rfl
        · obtain ⟨a, h3, h4⟩ := bnd_eq h2
          clear h2
          obtain ⟨ts, h5, h6⟩ := bnd_eq h4
          clear h4
          obtain ⟨hl, h7⟩ := guardB_eq h6
          clear h6
          cases h7
          have hs : noStar e = true := by
            cases e <;> first | rfl | (cases n <;> simp [trE] at h3)
          exact e_isiT (ih.e G h3) g0 mb (ts_of G h5) (of_decide_eq_true hl) (star_cons hs) rfl rfl
        · cases h2
      · split at h2
        · rename_i f hbi
          rw [Option.map_eq_some_iff] at h2
          obtain ⟨xs, h3, rfl⟩ := h2
          obtain ⟨a1, a2, a3⟩ := es_ne ih G h3
          obtain ⟨id, r1, r2⟩ := bi_rule (al := al) G hbi
          exact e_bi r1 g0 mb r2 a1 n3 n1 (star_cons a2) (back_no a3)
        · split at h2
          · rename_i f hbi
            rw [Option.map_eq_some_iff] at h2
            obtain ⟨xs, h3, rfl⟩ := h2
            obtain ⟨a1, a2, a3⟩ := es_ne ih G h3
            obtain ⟨id, r1, r2⟩ := bt_rule (al := al) G hbi
            exact e_ty r1 g0 mb r2 a1 n3 n1 (star_cons a2) (back_no a3)
          · cases h2
theorem all_no {pos : Pos} {env : Env} : ∀ {es : List Expr}, es.all noStar = true → (backTo pos (starEach es env)).all (fun x => !x.1) = true
  | [], _ => rfl
  | e :: es, h => by
    rw [List.all_cons, Bool.and_eq_true] at h
    rw [star_cons h.1]
    show (true && (backTo pos (starEach es env)).all (fun x => !x.1)) = true
    rw [all_no h.2]
    rfl
theorem meth_ht {v m : Str} {vp ap pos : Pos} {e : Expr} {es : List Expr} {env : Env} (hs : (e :: es).all noStar = true) (hl : es.length < 20) (hline : (ap.endLine == pos.line) = true) : eval (.Call (.Attribute (.Name v vp) m ap) (e :: es) [] pos) env = (do
      let ov ← eval (.Name v vp) env
      standAt ap.atName
      let (f, first) ← holding [ov] (getMethod ov m (do return (← importBound (.Name v vp) env).getD true))
      callWith pos f first (backTo pos (starEach (e :: es) env)) (backToKw pos (keywordEach [] env))) := by
  rw [arm_eval_Call, base_of rfl]
  have hform : methodCallForm ((e :: es).length + ([] : List Keyword).length) (backTo pos (starEach (e :: es) env)) (backToKw pos (keywordEach [] env)) = true := by
    unfold methodCallForm
    rw [all_no hs]
    show (true && true && decide ((e :: es).length + 0 + 0 < 30)) = true
    simp
    omega
  have hpos : methodCallPos true (.Name v vp) env ap pos = pure pos := by unfold methodCallPos; simp [hline]
  unfold methodCall
  rw [hform, hpos]
  simp only [pure_bind]
  rfl
theorem snd_e (ih : SndN cl C k n) {al : Bool} {e : Expr} {x : Ex} (G : Good cl C k X c) (h : trE (n + 1) c al e = some x) : PE X e (rdE X cl C x) := by
  cases e with
  | Name y pos =>
    simp only [trE] at h
    obtain ⟨h0, h1⟩ := guardB_eq h
    obtain ⟨n1, n2, n3⟩ := nm_of h0
    split at h1
    · rename_i hv
      rw [Option.map_eq_some_iff] at h1
      obtain ⟨i, h2, rfl⟩ := h1
      exact e_var (pe_var (by rw [G.N]; exact idxS_get h2) (G.vis hv) n1 n2)
    · obtain ⟨hg, h2⟩ := guardB_eq h1
      rw [Option.map_eq_some_iff] at h2
      obtain ⟨d, h3, rfl⟩ := h2
      obtain ⟨u, v, m1, m2, m3⟩ := G.cs y d h3
      exact e_con m3 (pe_glob (G.gl hg) m1 m2 n1)
  | Constant kk j pos =>
    simp only [trE] at h
    cases kk with
    | none => cases h; exact e_con (v := .non) (fun _ _ => rfl) pe_non
    | bool b => cases h; exact e_con (v := .bl b) (fun _ _ => rfl) pe_bl
    | int i => cases h; exact e_con (v := .int i) (fun _ _ => rfl) pe_int
    | str y => cases h; exact e_con (v := .str y) (fun _ _ => rfl) pe_str
    | _ => cases h
  | Tuple es j pos =>
    simp only [trE] at h
    obtain ⟨xs, h1, h2⟩ := bnd_eq h
    obtain ⟨hl, h3⟩ := guardB_eq h2
    cases h3
    exact e_tup (ih.es G h1).1 (of_decide_eq_true hl)
  | List es pos =>
    simp only [trE] at h
    obtain ⟨xs, h1, h2⟩ := bnd_eq h
    obtain ⟨hl, h3⟩ := guardB_eq h2
    cases h3
    exact e_lst (ih.es G h1).1 (of_decide_eq_true hl)
  | BinOp a op b pos =>
    simp only [trE] at h
    obtain ⟨o, h1, h2⟩ := bnd_eq h
    obtain ⟨y, h3, h4⟩ := bnd_eq h2
    obtain ⟨z, h5, h6⟩ := bnd_eq h4
    cases h6
    rw [← opR_eq h1]
    exact e_bin (ih.e G h3) (ih.e G h5)
  | UnaryOp op a pos =>
    simp only [trE] at h
    cases op with
    | USub =>
      simp only [Option.map_eq_some_iff] at h
      obtain ⟨y, h1, rfl⟩ := h
      exact e_neg (ih.e G h1)
    | Not =>
      simp only [Option.map_eq_some_iff] at h
      obtain ⟨y, h1, rfl⟩ := h
      exact e_not (ih.e G h1)
    | _ => cases h
  | BoolOp op es pos =>
    simp only [trE] at h
    exact ih.bo G h
  | IfExp t a b pos =>
    simp only [trE] at h
    obtain ⟨z, h1, h2⟩ := bnd_eq h
    obtain ⟨y, h3, h4⟩ := bnd_eq h2
    obtain ⟨u, h5, h6⟩ := bnd_eq h4
    cases h6
    exact e_ite (ih.t G h1) (ih.e G h3) (ih.e G h5)
  | Compare a ops bs pos =>
    simp only [trE] at h
    exact (ih.c G h).1
  | Subscript a s pos =>
    simp only [trE] at h
    split at h
    · rename_i lo hi st sp
      split at h
      · obtain ⟨y, h1, h2⟩ := bnd_eq h
        obtain ⟨l, h3, h4⟩ := bnd_eq h2
        obtain ⟨u, h5, h6⟩ := bnd_eq h4
        cases h6
        exact e_slice (ih.e G h1) (ih.o G h3) (ih.o G h5)
      · split at h
        · obtain ⟨hi, h1⟩ := guardB_eq h
          clear h
          have hi := of_decide_eq_true hi
          subst hi
          rw [Option.map_eq_some_iff] at h1
          obtain ⟨y, h2, rfl⟩ := h1
          exact e_rev (ih.e G h2)
        · cases h
      · cases h
    · obtain ⟨hs, h1⟩ := guardB_eq h
      obtain ⟨y, h2, h3⟩ := bnd_eq h1
      obtain ⟨z, h4, h5⟩ := bnd_eq h3
      cases h5
      exact e_sub G.room (ih.e G h2) (ih.e G h4) (plain_ix hs)
  | Attribute a f pos =>
    simp only [trE] at h
    obtain ⟨h0, h1⟩ := guardB_eq h
    rw [Bool.and_eq_true] at h0
    rw [Option.map_eq_some_iff] at h1
    obtain ⟨y, h2, rfl⟩ := h1
    exact e_fld G.kl (G.fl f (of_decide_eq_true h0.1)) (ih.e G h2) (base_of h0.2)
  | Call f es kw pos =>
    simp only [trE] at h
    obtain ⟨h0, h1⟩ := guardB_eq h
    clear h
    have hk : kw = [] := List.isEmpty_iff.mp h0
    subst hk
    split at h1
    · rename_i y np
      split at h1
      · obtain ⟨h2, h3⟩ := guardB_eq h1
        clear h1
        cases h3
        simp only [Bool.and_eq_true] at h2
        obtain ⟨n1, n2, n3⟩ := nm_of h2.1.2
        obtain ⟨fa, m1, m2⟩ := G.fs y (of_decide_eq_true h2.2)
        exact e_call0 m2 (G.room.mono (Nat.le_succ k)) (G.gl h2.1.1) m1 n1
      · exact snd_call ih G h1
    · split at h1
      · split at h1
        · obtain ⟨hg, h1⟩ := guardB_eq h1
          rw [Bool.and_eq_true] at hg
          obtain ⟨cn, h2, h3⟩ := bnd_eq h1
          obtain ⟨y, h4, h5⟩ := bnd_eq h3
          obtain ⟨xs, h6, h7⟩ := bnd_eq h5
          cases h7
          obtain ⟨CA, fa, m1, m2, m3⟩ := G.ms _ _ h2
          obtain ⟨a1, a2, a3⟩ := es_ne ih G h6
          exact e_meth (pl := _) m1 (G.kl _ _ m1) m2 m3 (G.room.mono (Nat.le_succ k)) (ih.e G h4) a1 (star_cons a2) (back_no a3) (meth_ht (by rw [List.all_cons, a2, a3]; rfl) (of_decide_eq_true hg.2) hg.1)
        · exact ih.m G rfl h1
      · obtain ⟨hb, h2⟩ := guardB_eq h1
        exact ih.m G hb h2
    · cases h1
  | ListComp elt gs scope pos =>
    simp only [trE] at h
    exact (ih.lc G h).1
  | Dict ks vs pos =>
    simp only [trE] at h
    split at h
    · cases h
      exact e_dct0
    · obtain ⟨y, h1, h2⟩ := bnd_eq h
      obtain ⟨z, h3, h4⟩ := bnd_eq h2
      cases h4
      exact e_dct1 G.room (ih.e G h1) (ih.e G h3)
    · cases h
  | _ => simp [trE] at h
theorem sndN : ∀ n, SndN cl C k n
  | 0 => ⟨fun _ h => by simp [trE] at h, fun _ _ h => by simp [trM] at h, fun _ h => by simp [trEs] at h, fun _ h => by simp [trO] at h, fun _ h => by simp [trBo] at h, fun _ h => by simp [trBt] at h, fun _ h => by simp [trT] at h, fun _ h => by simp [trC] at h,
      fun _ h => by simp [trI] at h, fun _ h => by simp [trLc] at h, fun _ h => by simp [trIf] at h⟩
  | n + 1 =>
    have ih := sndN n
    ⟨snd_e ih, snd_m ih, snd_es ih, snd_o ih, snd_bo ih, snd_bt ih, snd_t ih, snd_c ih, snd_i ih, snd_lc ih, snd_if ih⟩
end SL

/-! SLr: the translator is sound: statements; defs. -/
namespace SL
open PySem PySem.Spec PyProof.Rows L2
variable {cl : Str → Option Addr} {C : Orc} {k n : Nat} {X : Cx} {c : Cfg}
structure GoodS (cl : Str → Option Addr) (C : Orc) (k : Nat) (X : Cx) (c : Cfg) : Prop where
  g : Good cl C k X c
  xe : X.xe = fun _ _ => False
  kind : X.env.scope.kind = .function
theorem GoodS.bk (G : GoodS cl C k X c) : X.env.blockKind = .function := by
  unfold Env.blockKind
  rw [G.kind]
  rfl
theorem sole_of {ts : List Expr} {kt : Nat} {pt : Pos} {e : Expr} {l : Nat} {env : Env} : swapsWithSole [.Tuple ts kt pt] e l env = pure false := by
  unfold swapsWithSole
  cases e <;> rfl
theorem swp_sub {e a b : Expr} {p : Pos} {l : Nat} {env : Env} : swapsWith e (some (.Subscript a b p)) l env = pure false := by
  unfold swapsWith
  cases e <;> rfl
theorem swp_att {e a : Expr} {f : Str} {p : Pos} {l : Nat} {env : Env} : swapsWith e (some (.Attribute a f p)) l env = pure false := by
  unfold swapsWith
  cases e <;> rfl
theorem swp_lc (G : GoodS cl C k X c) {elt : Expr} {gs : List Comprehension} {scope : Scope} {pos py : Pos} {y : Str} {l : Nat} :
    swapsWith (.ListComp elt gs scope pos) (some (.Name y py)) l X.env = pure (X.env.scope.names.lookup y == some .local && py.line == pos.line && !(scope.names.any fun (n, k) => n == y && (k == .local || k == .cell))) := by
  unfold swapsWith
  simp only [G.bk, Expr.pos]
  rfl
theorem sw_names {sc : Scope} {line : Nat} {f : Expr → Option Str} (h1 : ∀ x p, f (.Name x p) = if (sc.names.lookup x == some .local && p.line == line) = true then some x else none) (h2 : ∀ e, isName e = false → f e = none) :
    ∀ ts : List Expr, ts.filterMap f = swNames sc line ts
  | [] => rfl
  | e :: es => by
    have ih := sw_names h1 h2 es
    cases hn : isName e with
    | true =>
      cases e with
      | Name x p =>
        rw [swNames, List.filterMap_cons, h1]
        by_cases hh : (sc.names.lookup x == some .local && p.line == line) = true
        · rw [if_pos hh, if_pos hh, ih]
        · rw [if_neg hh, if_neg hh, ih]
      | _ => cases hn
    | false =>
      rw [List.filterMap_cons, h2 e hn, ih]
      cases e <;> first | rfl | cases hn
theorem sw_val (G : GoodS cl C k X c) {ts vs : List Expr} {kt k2 : Nat} {pt p2 : Pos} {b : Bool} (h : swK c.sc ts vs = some b) : swappedStores [.Tuple ts kt pt] (.Tuple vs k2 p2) X.env = pure (if b then some (swNames c.sc (lineOf ts) ts) else none) := by
  unfold swappedStores
  simp only [G.bk]
  rw [sw_names (sc := c.sc) (line := lineOf ts) (fun x p => by
    show (if (X.env.scope.names.lookup x == some .local && p.line == lineOf ts) = true then some x else none) = _
    rw [G.g.sc]) (fun e h => by cases e <;> first | rfl | cases h)]
  rw [show (ScopeKind.function != ScopeKind.function) = false from rfl, Bool.or_false]
  unfold swK at h
  split at h
  · rename_i h1
    cases h
    exact if_pos h1
  · rename_i h1
    refine (if_neg h1).trans ?_
    split at h
    · rename_i h2
      cases h
      refine (if_pos ?_).trans rfl
      exact h2
    · rename_i h2
      refine (if_neg ?_).trans ?_
      · exact h2
      · split at h
        · rename_i h3
          cases h
          exact if_pos h3
        · rename_i h3
          refine (if_neg h3).trans ?_
          split at h
          · rename_i h4
            cases h
            exact if_pos h4
          · rename_i h4
            refine (if_neg h4).trans ?_
            split at h
            · cases h
            · rename_i h5
              cases h
              exact if_neg h5
theorem sw_len {sc : Scope} {line : Nat} : ∀ {ts : List Expr}, (swNames sc line ts).length ≤ ts.length
  | [] => Nat.le_refl _
  | e :: es => by
    have ih := sw_len (sc := sc) (line := line) (ts := es)
    cases e with
    | Name x p =>
      rw [swNames]
      split
      · simp only [List.length_cons]; omega
      · simp only [List.length_cons]; omega
    | _ => simp only [swNames, List.length_cons]; omega
/-- all of them are plain local names -/
theorem sw_all {sc : Scope} {line : Nat} : ∀ {ts : List Expr}, (swNames sc line ts).length = ts.length → ∀ e ∈ ts, ∃ x p, e = .Name x p ∧ sc.names.lookup x = some .local
  | [], _, _, h => by cases h
  | e :: es, hl, d, hd => by
    have hle := sw_len (sc := sc) (line := line) (ts := es)
    cases e with
    | Name x p =>
      rw [swNames] at hl
      split at hl
      · rename_i hh
        rw [Bool.and_eq_true] at hh
        rcases List.mem_cons.mp hd with rfl | hd
        · exact ⟨x, p, rfl, by simpa using hh.1⟩
        · exact sw_all (by simpa using hl) d hd
      · simp only [List.length_cons] at hl
        omega
    | _ =>
      simp only [swNames, List.length_cons] at hl
      omega
theorem swK_true {sc : Scope} {ts vs : List Expr} (h : swK sc ts vs = some true) : (ts.length = 2 ∨ ts.length = 3) ∧ vs.length = ts.length ∧ (swNames sc (lineOf ts) ts).length = ts.length ∧ (swNames sc (lineOf ts) ts).eraseDups.length = (swNames sc (lineOf ts) ts).length := by
  unfold swK at h
  split at h
  · cases h
  · rename_i h1
    split at h
    · cases h
    · split at h
      · cases h
      · rename_i h3
        simp only [Bool.or_eq_true, bne_iff_ne, ne_eq, not_or, Decidable.not_not, Bool.not_eq_true', Bool.or_eq_false_iff, not_and, beq_eq_false_iff_ne] at h1 h3
        refine ⟨?_, h1.2, h3.1, h3.2⟩
        by_cases e : ts.length = 2
        · exact .inl e
        · exact .inr (h1.1 e)
theorem swN2 {sc : Scope} {l : Nat} {x y : Str} {p q : Pos} (h : (swNames sc l [.Name x p, .Name y q]).length = 2) : swNames sc l [.Name x p, .Name y q] = [x, y] := by
  simp only [swNames] at h ⊢
  split at h <;> split at h <;> simp_all
theorem swN3 {sc : Scope} {l : Nat} {x y z : Str} {p q r : Pos} (h : (swNames sc l [.Name x p, .Name y q, .Name z r]).length = 3) : swNames sc l [.Name x p, .Name y q, .Name z r] = [x, y, z] := by
  simp only [swNames] at h ⊢
  split at h <;> split at h <;> split at h <;> simp_all
theorem er_two {x y : Str} (h : [x, y].eraseDups.length = 2) : x ≠ y := by
  rintro rfl
  simp [List.eraseDups_cons] at h
theorem er_three {x y z : Str} (h : [x, y, z].eraseDups.length = 3) : x ≠ y ∧ x ≠ z ∧ y ≠ z := by
  refine ⟨?_, ?_, ?_⟩
  · rintro rfl
    simp only [List.eraseDups_cons] at h
    by_cases e : x = z
    · subst e
      simp at h
    · have e1 : (z == x) = false := beq_eq_false_iff_ne.mpr fun q => e q.symm
      simp [e1, List.filter_cons, List.eraseDups_cons] at h
  · rintro rfl
    simp only [List.eraseDups_cons] at h
    by_cases e : x = y
    · subst e
      simp at h
    · have e1 : (y == x) = false := beq_eq_false_iff_ne.mpr fun q => e q.symm
      simp [e1, List.filter_cons, List.eraseDups_cons] at h
  · rintro rfl
    simp only [List.eraseDups_cons] at h
    by_cases e : x = y
    · subst e
      simp at h
    · have e1 : (y == x) = false := beq_eq_false_iff_ne.mpr fun q => e q.symm
      simp [e1, List.filter_cons, List.eraseDups_cons] at h
theorem trG_name {x : Str} {p : Pos} {t : Tg} (h : trG n c (.Name x p) = some t) : ∃ i, t = .name i ∧ idxS c.N x = some i := by
  cases n with
  | zero => simp [trG] at h
  | succ n =>
    simp only [trG] at h
    obtain ⟨_, h⟩ := guardB_eq h
    rw [Option.map_eq_some_iff] at h
    obtain ⟨i, h1, rfl⟩ := h
    exact ⟨i, rfl, h1⟩
theorem idx_ne {x y : Str} {i j : Nat} (h : idxS c.N x = some i) (h' : idxS c.N y = some j) (ne : x ≠ y) : i ≠ j := by
  rintro rfl
  have a := idxS_get h
  rw [idxS_get h'] at a
  exact ne (Option.some.inj a).symm
theorem trGs2 {a b : Expr} {ts : List Tg} (h : trGs n c [a, b] = some ts) : ∃ m t u, trG m c a = some t ∧ (∃ m', trG m' c b = some u) ∧ ts = [t, u] := by
  match n, h with
  | n + 3, h =>
    simp only [trGs] at h
    obtain ⟨_, h⟩ := guardB_eq h
    obtain ⟨t, h1, h⟩ := bnd_eq h
    rw [Option.map_eq_some_iff] at h
    obtain ⟨us, h2, rfl⟩ := h
    obtain ⟨_, h2⟩ := guardB_eq h2
    obtain ⟨u, h3, h2⟩ := bnd_eq h2
    cases h2
    exact ⟨_, t, u, h1, ⟨_, h3⟩, rfl⟩
  | 0, h => simp [trGs] at h
  | 1, h =>
    simp only [trGs] at h
    obtain ⟨_, h⟩ := guardB_eq h
    obtain ⟨t, h1, h⟩ := bnd_eq h
    simp at h
  | 2, h =>
    simp only [trGs] at h
    obtain ⟨_, h⟩ := guardB_eq h
    obtain ⟨t, h1, h⟩ := bnd_eq h
    rw [Option.map_eq_some_iff] at h
    obtain ⟨us, h2, rfl⟩ := h
    obtain ⟨_, h2⟩ := guardB_eq h2
    obtain ⟨u, h3, h2⟩ := bnd_eq h2
    simp at h2
theorem trGs_cons {a : Expr} {es : List Expr} {ts : List Tg} (h : trGs n c (a :: es) = some ts) : ∃ m t us, trG m c a = some t ∧ (∃ m', trGs m' c es = some us) ∧ ts = t :: us := by
  cases n with
  | zero => simp [trGs] at h
  | succ n =>
    simp only [trGs] at h
    obtain ⟨_, h⟩ := guardB_eq h
    obtain ⟨t, h1, h⟩ := bnd_eq h
    rw [Option.map_eq_some_iff] at h
    obtain ⟨us, h2, rfl⟩ := h
    exact ⟨_, t, us, h1, ⟨_, h2⟩, rfl⟩
structure SndS (cl : Str → Option Addr) (C : Orc) (k : Nat) (n : Nat) : Prop where
  s : ∀ {X : Cx} {c : Cfg} {st : Stmt} {u : SS}, GoodS cl C k X c → trS n c st = some u → PS X st (rdS X cl C u)
  ss : ∀ {X : Cx} {c : Cfg} {st : List Stmt} {u : SSs}, GoodS cl C k X c → trSs n c st = some u → PSs X st (rdSs X cl C u)
theorem snd_asgN (G : GoodS cl C k X c) {al : Bool} {y : Str} {py pos : Pos} {e : Expr} {x : Ex} {i : Nat} (hy : y ∈ c.st) (hi : idxS c.N y = some i) (h : trE n c al e = some x) : PS X (.Assign [.Name y py] e pos) (rdS X cl C (.asg (.name i) x)) := by
  obtain ⟨s1, s2⟩ := G.g.st y hy
  have hN : X.N.Nodup := by rw [G.g.N]; exact G.g.nd
  have hX : X.N[i]? = some y := by rw [G.g.N]; exact idxS_get hi
  have he := (sndN (cl := cl) (C := C) (k := k) n).e G.g h
  refine s_setN ?_
  by_cases hn : noComp e = true
  · exact ps_set hN hX s1 he (swp_of hn) s2
  · cases e with
    | ListComp elt gs scope lp =>
      cases hb : (X.env.scope.names.lookup y == some .local && py.line == lp.line && !(scope.names.any fun (n, k) => n == y && (k == .local || k == .cell))) with
      | false => exact ps_set hN hX s1 he (by rw [swp_lc G, hb]) s2
      | true =>
        cases n with
        | zero => simp [trE] at h
        | succ n =>
          simp only [trE] at h
          have hl : X.env.scope.names.lookup y = some .local := by
            simp only [Bool.and_eq_true] at hb
            simpa using hb.1.1
          exact ((sndN (cl := cl) (C := C) (k := k) n).lc G.g h).2 hX hl (by rw [swp_lc G, hb])
    | SetComp _ _ _ _ => cases n <;> simp [trE] at h
    | DictComp _ _ _ _ _ => cases n <;> simp [trE] at h
    | _ => exact absurd rfl hn
theorem asg1 {tg : Expr} {env : Env} (h : noStar tg = true) : (assignEach [tg] env).map (·.2) = [assign tg env] := by
  rw [asg_cons h]
  rfl
theorem snd_asgT (G : GoodS cl C k X c) {ts vs : List Expr} {kt k2 : Nat} {pt p2 pos : Pos} {xs : Exs} {gs : List Tg} {fl : List Bool} {b : Bool} (h1 : trEs n c fl vs = some xs) (hl : lenX xs ≤ 1000) (h2 : trGs n c ts = some gs) (h3 : swK c.sc ts vs = some b) :
    PS X (.Assign [.Tuple ts kt pt] (.Tuple vs k2 p2) pos) (rdS X cl C (.asg (.tup gs) (.tup xs))) := by
  have hsw := sw_val G (kt := kt) (k2 := k2) (pt := pt) (p2 := p2) h3
  have hN : X.N.Nodup := by rw [G.g.N]; exact G.g.nd
  have ha := ((sndN (cl := cl) (C := C) (k := k) n).es G.g h1).1
  cases b with
  | false =>
    obtain ⟨g1, g2, g3⟩ := (sndG (cl := cl) (C := C) (k := k) n).gs G.g h2
    exact s_asg (ps_asg (e_tup ha hl) (g_tup G.g.calm g1 (by rw [asg_len, g3]) (asg_none g2)) sole_of hsw (asg1 rfl))
  | true =>
    obtain ⟨k1, k2', k3, k4⟩ := swK_true h3
    have hall := sw_all k3
    rcases k1 with k1 | k1
    · match ts, vs, k1, k2' with
      | [t1, t2], [v1, v2], _, _ =>
        obtain ⟨x, px, rfl, lx⟩ := hall t1 (by simp)
        obtain ⟨y, py, rfl, ly⟩ := hall t2 (by simp)
        obtain ⟨m, u1, u2, q1, ⟨m', q2⟩, rfl⟩ := trGs2 h2
        obtain ⟨i, rfl, i1⟩ := trG_name q1
        obtain ⟨j, rfl, j1⟩ := trG_name q2
        have e2 := swN2 k3
        rw [e2] at k4 hsw
        have ne := er_two k4
        exact s_par (ps_par G.g.calm hN (by rw [G.g.N]; exact idxS_get i1) (by rw [G.g.N]; exact idxS_get j1) (idx_ne i1 j1 ne) (by rw [G.g.sc]; exact lx) (by rw [G.g.sc]; exact ly) ha hsw sole_of)
    · match ts, vs, k1, k2' with
      | [t1, t2, t3], [v1, v2, v3], _, _ =>
        obtain ⟨x, px, rfl, lx⟩ := hall t1 (by simp)
        obtain ⟨y, py, rfl, ly⟩ := hall t2 (by simp)
        obtain ⟨z, pz, rfl, lz⟩ := hall t3 (by simp)
        obtain ⟨m, u1, us, q1, ⟨m', q2⟩, rfl⟩ := trGs_cons h2
        obtain ⟨m2, u2, u3, q4, ⟨m3, q3⟩, rfl⟩ := trGs2 q2
        obtain ⟨i, rfl, i1⟩ := trG_name q1
        obtain ⟨j, rfl, j1⟩ := trG_name q4
        obtain ⟨l, rfl, l1⟩ := trG_name q3
        have e3 := swN3 k3
        rw [e3] at k4 hsw
        obtain ⟨n1, n2, n3⟩ := er_three k4
        exact s_par3 (ps_par3 G.g.calm hN (by rw [G.g.N]; exact idxS_get i1) (by rw [G.g.N]; exact idxS_get j1) (by rw [G.g.N]; exact idxS_get l1) (idx_ne i1 j1 n1) (idx_ne i1 l1 n2) (idx_ne j1 l1 n3)
          (by rw [G.g.sc]; exact lx) (by rw [G.g.sc]; exact ly) (by rw [G.g.sc]; exact lz) ha hsw sole_of)
theorem sws_none {ts : List Expr} {kt : Nat} {pt : Pos} {e : Expr} {env : Env} (h : isTup e = false) : swappedStores [.Tuple ts kt pt] e env = pure none := by
  unfold swappedStores
  cases e <;> first | rfl | cases h
theorem snd_s (ih : SndS cl C k n) {st : Stmt} {u : SS} (G : GoodS cl C k X c) (h : trS (n + 1) c st = some u) : PS X st (rdS X cl C u) := by
  have iE := sndN (cl := cl) (C := C) (k := k) n
  cases st with
  | Return v pos =>
    simp only [trS] at h
    cases v with
    | none => cases h; exact s_retN
    | some e =>
      simp only [Option.map_eq_some_iff] at h
      obtain ⟨x, h1, rfl⟩ := h
      exact s_ret (iE.e G.g h1)
  | Pass pos =>
    simp only [trS] at h
    cases h
    exact s_pass
  | Break pos =>
    simp only [trS] at h
    cases h
    exact s_brk
  | Raise a b pos =>
    simp only [trS] at h
    cases h
    exact s_bad
  | If t a b pos =>
    simp only [trS] at h
    obtain ⟨x, h1, h⟩ := bnd_eq h
    obtain ⟨u1, h2, h⟩ := bnd_eq h
    obtain ⟨u2, h3, h⟩ := bnd_eq h
    cases h
    exact s_if (iE.t G.g h1) (ih.ss G h2) (ih.ss G h3)
  | For tg iter body els pos =>
    simp only [trS] at h
    obtain ⟨h0, h1⟩ := guardB_eq h
    clear h
    rw [Bool.and_eq_true] at h0
    have e0 := List.isEmpty_iff.mp h0.1
    subst e0
    obtain ⟨it, h2, h3⟩ := bnd_eq h1
    obtain ⟨t, h4, h5⟩ := bnd_eq h3
    obtain ⟨u1, h6, h7⟩ := bnd_eq h5
    cases h7
    exact s_for G.xe G.g.calm (iE.i G.g h2) ((sndG n).g G.g h4) (ih.ss G h6) (fold_of h0.2)
  | While t body els pos =>
    simp only [trS] at h
    obtain ⟨h0, h1⟩ := guardB_eq h
    clear h
    have e0 := List.isEmpty_iff.mp h0
    subst e0
    obtain ⟨x, h2, h3⟩ := bnd_eq h1
    obtain ⟨u1, h4, h5⟩ := bnd_eq h3
    cases h5
    exact s_while G.xe (iE.t G.g h2) (ih.ss G h4)
  | Expr e pos =>
    simp only [trS] at h
    split at h
    · split at h
      · rename_i hm
        obtain ⟨h0, h1⟩ := guardB_eq h
        clear h
        have hm := of_decide_eq_true hm
        subst hm
        simp only [Bool.and_eq_true] at h0
        obtain ⟨x, h2, h3⟩ := bnd_eq h1
        obtain ⟨y, h4, h5⟩ := bnd_eq h3
        cases h5
        exact s_append (iE.e G.g h2) (iE.e G.g h4) (base_of h0.1.1) (few1 h0.1.2) h0.2 (star_cons h0.1.2) rfl
      · split at h
        · rename_i hm
          obtain ⟨h0, h1⟩ := guardB_eq h
          clear h
          have hm := of_decide_eq_true hm
          subst hm
          simp only [Bool.and_eq_true] at h0
          obtain ⟨x, h2, h3⟩ := bnd_eq h1
          obtain ⟨y, h4, h5⟩ := bnd_eq h3
          cases h5
          exact s_extend (iE.e G.g h2) (iE.e G.g h4) (base_of h0.1.1) (few1 h0.1.2) h0.2 (star_cons h0.1.2) rfl
        · rw [Option.map_eq_some_iff] at h
          obtain ⟨x, h1, rfl⟩ := h
          exact s_ex (iE.e G.g h1) rfl
    · obtain ⟨h0, h1⟩ := guardB_eq h
      rw [Option.map_eq_some_iff] at h1
      obtain ⟨x, h2, rfl⟩ := h1
      exact s_ex (iE.e G.g h2) (swp_of h0)
  | Assign ts e pos =>
    simp only [trS] at h
    split at h
    · obtain ⟨h0, h1⟩ := guardB_eq h
      obtain ⟨i, h2, h3⟩ := bnd_eq h1
      rw [Option.map_eq_some_iff] at h3
      obtain ⟨x, h4, rfl⟩ := h3
      exact snd_asgN G (of_decide_eq_true h0) h2 h4
    · obtain ⟨z, h1, h2⟩ := bnd_eq h
      obtain ⟨x, h3, h4⟩ := bnd_eq h2
      obtain ⟨y, h5, h6⟩ := bnd_eq h4
      cases h6
      exact s_setSub G.g.room (iE.e G.g h3) (iE.e G.g h5) (iE.e G.g h1) swp_sub
    · obtain ⟨h0, h1⟩ := guardB_eq h
      obtain ⟨z, h2, h3⟩ := bnd_eq h1
      obtain ⟨x, h4, h5⟩ := bnd_eq h3
      cases h5
      exact s_setFld G.g.kl (G.g.fl _ (of_decide_eq_true h0)) (iE.e G.g h4) (iE.e G.g h2) swp_att
    · split at h
      · obtain ⟨xs, h1, h2⟩ := bnd_eq h
        obtain ⟨hl, h3⟩ := guardB_eq h2
        obtain ⟨gs, h4, h5⟩ := bnd_eq h3
        obtain ⟨b, h6, h7⟩ := bnd_eq h5
        cases h7
        exact snd_asgT G h1 (of_decide_eq_true hl) h4 h6
      · obtain ⟨h0, h1⟩ := guardB_eq h
        rw [Bool.and_eq_true] at h0
        obtain ⟨x, h2, h3⟩ := bnd_eq h1
        obtain ⟨gs, h4, h5⟩ := bnd_eq h3
        cases h5
        obtain ⟨g1, g2, g3⟩ := (sndG (cl := cl) (C := C) (k := k) n).gs G.g h4
        exact s_asg (ps_asg (iE.e G.g h2) (g_tup G.g.calm g1 (by rw [asg_len, g3]) (asg_none g2)) sole_of (sws_none (by simpa using h0.2)) (asg1 rfl))
    · cases h
  | _ => simp [trS] at h
theorem sndS : ∀ n, SndS cl C k n
  | 0 => ⟨fun _ h => by simp [trS] at h, fun _ h => by simp [trSs] at h⟩
  | n + 1 => by
    have ih := sndS n
    refine ⟨fun G h => snd_s ih G h, fun {X c st u} G h => ?_⟩
    cases st with
    | nil =>
      simp only [trSs] at h
      cases h
      exact ss_nil
    | cons s r =>
      simp only [trSs] at h
      obtain ⟨x, h1, h2⟩ := bnd_eq h
      rw [Option.map_eq_some_iff] at h2
      obtain ⟨y, h3, rfl⟩ := h2
      exact ss_cons (ih.s G h1) (ih.ss G h3)
end SL

/-! SLs: defs by their bodies; all defs by the depth of calls. -/
namespace SL
open PySem PySem.Spec PyProof.Rows L2
variable {P : Program} {w : World} {K : PySem.W.Frag} {mg : Str → Option Value} {base : Heap} {cl : Str → Option Addr} {Γ : Str → Option Fn}
/-- a def of the text, the small language's def for it; g: what is common to all defs -/
structure DefOk (K : PySem.W.Frag) (Γ : Str → Option Fn) (g : Cfg) (key : Str) (fa : Addr) (fd : FuncData) (ps : List Str) : Prop where
  ex : ∃ (name qual : Str) (st : Stmt) (N : List Str) (mu : List Str) (ra ea : Bool) (fn : Fn), Fun K name qual st fa fd ∧ FnScope N ps (defScope st) ∧ Γ key = some fn ∧ fn.ps = ps.length ∧ fn.ns = N.length ∧
    trSs 100 { g with N := N, sc := defScope st, st := stB (defScope st).names, mu := mu, ra := ra, ea := ea } (defBody st) = some fn.body ∧ uniqB (defScope st).names = true
  bd : Binds K fd ps []
structure Tab (K : PySem.W.Frag) (mg : Str → Option Value) (cl : Str → Option Addr) (Γ : Str → Option Fn) (g : Cfg) : Prop where
  cs : ∀ n d, g.cs.lookup n = some d → ∃ u v, mg n = some u ∧ RelV v u ∧ ∀ ρ H, RepV K ρ H d v
  bs : ∀ n ∈ g.bs, mg n = none
  fs : ∀ n ∈ g.fs, ∃ fa fd ps, mg n = some (.ref fa) ∧ DefOk K Γ g n fa fd ps
  ks : ∀ n ∈ g.ks, ∃ CA fa fd ps, mg n = some (.ref CA) ∧ cl n = some CA ∧ Mk K CA fa ∧ DefOk K Γ g n fa fd ps
  ms : ∀ m cn, g.ms.lookup m = some cn → ∃ CA fa fd ps, cl cn = some CA ∧ Meth K CA m fa ∧ DefOk K Γ g m fa fd ps
  kl : ∀ c A, cl c = some A → L2.Cls K A
  fl : ∀ f ∈ g.fl, ∀ c A, cl c = some A → NoAttr K A f
theorem startE_len (n : Nat) (ds : List D) (h : ds.length ≤ n) : (startE n ds).length = n := by
  unfold startE
  rw [List.length_append, List.length_map, List.length_replicate]
  omega
theorem rep_start {ρ : Rho} {H : Hp} {ds : List D} {vs : List V} {N : List Str} (r : RepVs K ρ H ds vs) (hl : ds.length ≤ N.length) : RepE K ρ H (startE N.length ds) (L2.start N vs) := by
  refine ⟨?_, fun i d h => ?_⟩
  · rw [startE_len _ _ hl]
    unfold L2.start
    rw [List.length_append, List.length_map, List.length_replicate, ← r.length]
    omega
  · unfold startE at h
    by_cases hi : i < ds.length
    · rw [List.getElem?_append_left (by rw [List.length_map]; exact hi), List.getElem?_map, List.getElem?_eq_getElem hi] at h
      cases h
      obtain ⟨v, h1, h2⟩ := r.get (List.getElem?_eq_getElem hi)
      refine ⟨v, ?_, h2⟩
      unfold L2.start
      rw [List.getElem?_append_left (by rw [List.length_map, ← r.length]; exact hi), List.getElem?_map, h1]
      rfl
    · rw [List.getElem?_append_right (by rw [List.length_map]; omega), List.getElem?_replicate] at h
      split at h <;> cases h
theorem call_eq {j : Nat} {key : Str} {ds : List D} {S S' : Sto} {d : D} (h : callK Γ (j + 1) key ds S = some (d, S')) : ∃ fn f env', Γ key = some fn ∧ ds.length = fn.ps ∧ exSs (callK Γ j) fn.body (startE fn.ns ds) S = some (f, env', S') ∧ ((f = .nx ∧ d = .non) ∨ f = .ret d) := by
  simp only [callK] at h
  obtain ⟨fn, h1, h2⟩ := bnd_eq h
  obtain ⟨h3, h4⟩ := guardB_eq h2
  obtain ⟨⟨f, env', S1⟩, h5, h6⟩ := bnd_eq h4
  refine ⟨fn, f, env', h1, of_decide_eq_true h3, ?_⟩
  cases f with
  | nx => cases h6; exact ⟨h5, .inl ⟨rfl, rfl⟩⟩
  | brk => cases h6
  | ret e => cases h6; exact ⟨h5, .inr rfl⟩
theorem fn_all {g : Cfg} (T : Tab K mg cl Γ g) : ∀ (j : Nat) (key : Str) (fa : Addr) (fd : FuncData) (ps : List Str), DefOk K Γ g key fa fd ps → FnOk P w K mg base CX0 (2 * j) fa fd ps (spO ⟨P, w, K, cl⟩ (callK Γ j) key)
  | 0, key, fa, fd, ps, _ => by
    have no : ∀ vs H Q E, spO ⟨P, w, K, cl⟩ (callK Γ 0) key vs H Q E → False := fun vs H Q E ⟨_, _, _, _, _, _, _, h, _⟩ => by cases h
    exact ⟨fun vs H Q E h => (no vs H Q E h).elim, fun A outer s H args us vs Q E _ _ _ _ h => (no vs H Q E h).elim⟩
  | j + 1, key, fa, fd, ps, D => by
    obtain ⟨name, qual, st, N, mu, ra, ea, fn, F, Sc, hΓ, hps, hns, htr, huq⟩ := D.ex
    have ih := fn_all T j
    have hle : ps.length ≤ N.length := by
      have := congrArg List.length Sc.pre
      rw [List.length_take] at this
      omega
    refine F.ok (k := 2 * j + 1) Sc (fun vs H Q E ⟨ρ, S, ds, d, S', R, r, h, q⟩ => ?_) fun cdv A outer s H vs Q E hr ⟨ρ, S, ds, d, S', R, r, h, q⟩ => ?_
    · obtain ⟨fn', f, env', h1, h2, _⟩ := call_eq h
      rw [hΓ] at h1
      cases h1
      rw [← r.length, h2, hps]
    · obtain ⟨fn', f, env', h1, h2, h3, h4⟩ := call_eq h
      rw [hΓ] at h1
      cases h1
      have G : GoodS cl (callK Γ j) (2 * j) (cxOf CX0 P w K mg base N qual (defScope st) fa cdv A outer s H E).nox { g with N := N, sc := defScope st, st := stB (defScope st).names, mu := mu, ra := ra, ea := ea } := {
        xe := rfl
        kind := Sc.kind
        g := {
          calm := rfl
          room := hr
          cs := T.cs
          bs := T.bs
          fs := fun n hn => let ⟨fa, fd, ps, m1, m2⟩ := T.fs n hn; ⟨fa, m1, ⟨fd, ps, ih n fa fd ps m2, m2.bd⟩, by obtain ⟨_, _, _, _, _, _, _, _, F, _⟩ := m2.ex; exact F.kp⟩
          ks := fun n hn => let ⟨CA, fa, fd, ps, m1, m2, m3, m4⟩ := T.ks n hn; ⟨CA, fa, m1, m2, m3, ⟨fd, ps, ih n fa fd ps m4, m4.bd⟩, by obtain ⟨_, _, _, _, _, _, _, _, F, _⟩ := m4.ex; exact F.kp⟩
          ms := fun m cn hn => let ⟨CA, fa, fd, ps, m1, m2, m3⟩ := T.ms m cn hn; ⟨CA, fa, m1, m2, ⟨fd, ps, ih m fa fd ps m3, m3.bd⟩, by obtain ⟨_, _, _, _, _, _, _, _, F, _⟩ := m3.ex; exact F.kp⟩
          kl := T.kl
          fl := fun f hf c A h => T.fl f hf c A h
          N := rfl
          nd := Sc.nd
          sc := rfl
          st := fun n hn => by
            obtain ⟨kk, k1, k2⟩ := stB_mem (show n ∈ stB (defScope st).names from hn)
            unfold uniqB at huq
            rw [List.all_eq_true] at huq
            have hl : (defScope st).names.lookup n = some kk := of_decide_eq_true (huq _ k1)
            rcases k2 with rfl | rfl
            · exact ⟨.inl hl, .inl rfl⟩
            · exact ⟨.inr hl, .inl rfl⟩ } }
      refine ⟨_, (sndS (cl := cl) (C := callK Γ j) (k := 2 * j) 100).ss G htr, ρ, startE N.length ds, S, f, env', S', R, rep_start r (by rw [h2, hps]; exact hle), by rw [← hns]; exact h3, ?_⟩
      rcases h4 with ⟨rfl, rfl⟩ | rfl
      · exact fun ρ' H' σ' x R' E' => q _ _ _ x R' rfl
      · exact fun ρ' H' v x R' rv => q _ _ _ x R' rv
/-! ### the law -/
def spLaw (K : PySem.W.Frag) : Sp := fun vs H Q _ => ∃ (a : Addr) (ns : List Int), vs = [.ref a] ∧ SqL K H a (ns.map V.int) ∧ ns.length ≤ 63 ∧ ∀ H', Q (.bl true) H'
theorem law_ok {g : Cfg} (T : Tab K mg cl Γ g) {fa : Addr} {fd : FuncData} {ps : List Str} {j : Nat} (Df : DefOk K Γ g "law" fa fd ps) (h : ∀ ns : List Int, ns.length ≤ 63 → ∃ S', callK Γ j "law" [.ro (ns.map .int)] [] = some (.bl true, S')) :
    FnOk P w K mg base CX0 (2 * j) fa fd ps (spLaw K) := (fn_all T j "law" fa fd ps Df).imp fun vs H Q E ⟨a, ns, e, hs, hl, q⟩ => by
  subst e
  obtain ⟨S', e1⟩ := h ns hl
  have hv : ∀ is : List Int, RepVs K ⟨[], []⟩ H (is.map .int) (is.map V.int) := fun is => RepVs.of_ints is
  refine ⟨⟨[], []⟩, [], [.ro (ns.map .int)], .bl true, S', ⟨rfl, List.nodup_nil, fun n c a h => by simp at h, fun a h => (nomatch h), fun a h => (nomatch h)⟩, ⟨_, _, rfl, ⟨a, _, rfl, ?_, hv ns⟩, rfl⟩, e1, fun ρ' H' v x R' rv => ?_⟩
  · rcases hs with hs | hs
    · exact .inl ⟨hs, fun m => (m.elim (fun z => nomatch z) fun z => nomatch z)⟩
    · exact .inr (.inr hs)
  · rw [show v = .bl true from rv]
    exact q H'
end SL

/-! PDefs: the defs in the small language. -/
namespace SL
open PySem
def b_is_whole : SSs := (.cons (.ret (.and_ (.isi (.var 0) [.int]) (.not_ (.isi (.var 0) [.bool])))) .nil)
def b_is_within : SSs := (.cons (.ret (.and_ (.call "is_whole" (.cons (.var 0) .nil)) (.chain .le .le (.var 1) (.var 0) (.var 2)))) .nil)
def b_is_row : SSs := (.cons (.ifs (.or_ (.not_ (.isi (.var 2) [.tuple])) (.cmp .ne (.bi false .len (.cons (.var 2) .nil)) (.con (.int 2)))) (.cons (.ret (.con (.bl false))) .nil) .nil) (.cons (.ret (.and_ (.call "is_within" (.cons (.sub (.var 2) (.con (.int 0))) (.cons (.con (.int 0)) (.cons (.var 1) .nil)))) (.call "is_within" (.cons (.sub (.var 2) (.con (.int 1))) (.cons (.con (.int 0)) (.cons (.bin false .sub (.var 0) (.con (.int 1))) .nil)))))) .nil))
def b_is_book_E0 : Ex := (.call "is_row" (.cons (.var 1) (.cons (.var 2) (.cons (.var 6) .nil))))
def b_is_book_E1 : Ex := (.cmp .le (.sub (.var 4) (.con (.int 0))) (.sub (.var 5) (.con (.int 0))))
def b_is_book : SSs := (.cons (.ifs (.or_ (.not_ (.isi (.var 0) [.tuple])) (.or_ (.cmp .ne (.bi false .len (.cons (.var 0) .nil)) (.con (.int 3))) (.not_ (.call "is_within" (.cons (.sub (.var 0) (.con (.int 0))) (.cons (.con (.int 1)) (.cons (.con (.int 4)) .nil))))))) (.cons (.ret (.con (.bl false))) .nil) .nil) (.cons (.asg (.tup [(.name 1), (.name 2), (.name 3)]) (.var 0)) (.cons (.ifs (.or_ (.not_ (.call "is_within" (.cons (.var 2) (.cons (.con (.int 0)) (.cons (.con (.int 30)) .nil))))) (.or_ (.not_ (.isi (.var 3) [.tuple])) (.cmp .gt (.bi false .len (.cons (.var 3) .nil)) (.con (.int 16))))) (.cons (.ret (.con (.bl false))) .nil) .nil) (.cons (.ifs (.not_ (.bi false .all (.cons (.lc false [6] (.of (.var 3)) (.name 6) .no b_is_book_E0) .nil))) (.cons (.ret (.con (.bl false))) .nil) .nil) (.cons (.ret (.bi false .all (.cons (.lc false [4, 5] (.zip2 (.var 3) (.slice false (.var 3) (.so (.con (.int 1))) .no)) (.tup [(.name 4), (.name 5)]) .no b_is_book_E1) .nil))) .nil)))))
def b_are_sights_L0 : SSs := (.cons (.ifs (.or_ (.not_ (.isi (.var 2) [.tuple])) (.or_ (.cmp .ne (.bi false .len (.cons (.var 2) .nil)) (.con (.int 3))) (.not_ (.call "is_row" (.cons (.sub (.var 0) (.con (.int 0))) (.cons (.sub (.var 0) (.con (.int 1))) (.cons (.slice false (.var 2) .no (.so (.con (.int 2)))) .nil))))))) (.cons (.ret (.con (.bl false))) .nil) .nil) (.cons (.ifs (.not_ (.call "is_within" (.cons (.sub (.var 2) (.con (.int 2))) (.cons (.con (.int 0)) (.cons (.con (.int 16)) .nil))))) (.cons (.ret (.con (.bl false))) .nil) .nil) .nil))
def b_are_sights_E0 : Ex := (.cmp .lt (.var 2) (.var 3))
def b_are_sights : SSs := (.cons (.ifs (.not_ (.call "is_book" (.cons (.var 0) .nil))) (.cons .bad .nil) .nil) (.cons (.ifs (.or_ (.not_ (.isi (.var 1) [.tuple])) (.cmp .gt (.bi false .len (.cons (.var 1) .nil)) (.con (.int 6)))) (.cons (.ret (.con (.bl false))) .nil) .nil) (.cons (.for_ (.name 2) (.of (.var 1)) b_are_sights_L0) (.cons (.ret (.bi false .all (.cons (.lc false [2, 3] (.zip2 (.var 1) (.slice false (.var 1) (.so (.con (.int 1))) .no)) (.tup [(.name 2), (.name 3)]) .no b_are_sights_E0) .nil))) .nil))))
def b_look_at : SSs := (.cons (.ifs (.not_ (.call "are_sights" (.cons (.var 0) (.cons (.var 1) .nil)))) (.cons .bad .nil) .nil) .nil)
def b_joined_by_T0 : Exo := (.so (.and_ (.cmp .eq (.sub (.var 3) (.con (.int 1))) (.var 1)) (.cmp .le (.sub (.var 3) (.con (.int 0))) (.var 2))))
def b_joined_by_E0 : Ex := (.con (.int 1))
def b_joined_by : SSs := (.cons (.ret (.bi false .len (.cons (.lc false [3] (.of (.sub (.var 0) (.con (.int 2)))) (.name 3) b_joined_by_T0 b_joined_by_E0) .nil))) .nil)
def b_joined_ahead_T0 : Exo := (.so (.cmp .eq (.sub (.var 3) (.con (.int 1))) (.var 2)))
def b_joined_ahead_E0 : Ex := (.con (.int 1))
def b_joined_ahead : SSs := (.cons (.ret (.bi false .len (.cons (.lc false [3] (.of (.slice false (.sub (.var 0) (.con (.int 2))) .no (.so (.var 1)))) (.name 3) b_joined_ahead_T0 b_joined_ahead_E0) .nil))) .nil)
def b_is_served_E0 : Ex := (.call "is_within" (.cons (.var 2) (.cons (.con (.int 0)) (.cons (.con (.int 1)) .nil))))
def b_is_served : SSs := (.cons (.ret (.and_ (.isi (.var 1) [.tuple]) (.and_ (.cmp .eq (.bi false .len (.cons (.var 1) .nil)) (.var 0)) (.bi false .all (.cons (.lc false [2] (.of (.var 1)) (.name 2) .no b_is_served_E0) .nil))))) .nil)
def b_shortest_of : SSs := (.cons (.ret (.mth .index (.var 0) (.bi false .min (.cons (.var 0) .nil)))) .nil)
def b_lengths_of_E0 : Ex := (.bin false .sub (.var 10) (.var 11))
def b_lengths_of_L0 : SSs := (.cons (.ifs (.cmp .eq (.var 8) (.var 7)) (.cons (.ifs (.cmp .ne (.call "shortest_of" (.cons (.var 5) .nil)) (.var 9)) (.cons (.ret (.con .non)) .nil) .nil) (.cons (.setSub (.var 5) (.var 9) (.bin false .add (.sub (.var 5) (.var 9)) (.con (.int 1)))) .nil)) .nil) .nil)
def b_lengths_of_L1 : SSs := (.cons (.asg (.name 5) (.lc true [10, 11] (.zip2 (.var 5) (.sub (.var 1) (.var 7))) (.tup [(.name 10), (.name 11)]) .no b_lengths_of_E0)) (.cons (.ifs (.cmp .lt (.bi false .min (.cons (.var 5) .nil)) (.con (.int 0))) (.cons (.ret (.con .non)) .nil) .nil) (.cons (.for_ (.tup [(.name 8), (.name 9)]) (.of (.var 4)) b_lengths_of_L0) (.cons (.append (.var 6) (.bi false .tuple (.cons (.var 5) .nil))) .nil))))
def b_lengths_of : SSs := (.cons (.asg (.tup [(.name 2), (.name 3), (.name 4)]) (.var 0)) (.cons (.asg (.name 5) (.bin true .mul (.lst false (.cons (.con (.int 0)) .nil)) (.var 2))) (.cons (.asg (.name 6) (.lst true .nil)) (.cons (.for_ (.name 7) (.range1 (.bin false .add (.var 3) (.con (.int 1)))) b_lengths_of_L1) (.cons (.ret (.var 6)) .nil)))))
def b_is_story_E0 : Ex := (.call "is_served" (.cons (.sub (.var 0) (.con (.int 0))) (.cons (.var 4) .nil)))
def b_is_story_E1 : Ex := (.cmp .eq (.sub (.sub (.var 3) (.var 5)) (.var 6)) (.var 7))
def b_is_story : SSs := (.cons (.ex (.call "look_at" (.cons (.var 0) (.cons (.var 1) .nil)))) (.cons (.ifs (.or_ (.not_ (.isi (.var 2) [.tuple])) (.cmp .ne (.bi false .len (.cons (.var 2) .nil)) (.bin false .add (.sub (.var 0) (.con (.int 1))) (.con (.int 1))))) (.cons (.ret (.con (.bl false))) .nil) .nil) (.cons (.ifs (.not_ (.bi false .all (.cons (.lc false [4] (.of (.var 2)) (.name 4) .no b_is_story_E0) .nil))) (.cons (.ret (.con (.bl false))) .nil) .nil) (.cons (.asg (.name 3) (.call "lengths_of" (.cons (.var 0) (.cons (.var 2) .nil)))) (.cons (.ret (.and_ (.isN true (.var 3)) (.bi false .all (.cons (.lc false [5, 6, 7] (.of (.var 1)) (.tup [(.name 5), (.name 6), (.name 7)]) .no b_is_story_E1) .nil)))) .nil)))))
def b_node : SSs := (.cons (.ret (.ite (.cmp .lt (.var 1) (.con (.int 0))) (.con .non) (.tup (.cons (.var 0) (.cons (.var 1) .nil))))) .nil)
def b_fact_of : SSs := (.cons (.asg (.name 3) (.sub (.var 2) (.con (.int 0)))) (.cons (.ifs (.cmp .in_ (.var 3) (.tup (.cons (.con (.str "one")) (.cons (.con (.str "back")) (.cons (.con (.str "there")) .nil))))) (.cons (.asg (.tup [(.name 4), (.name 5)]) (.slice false (.var 2) (.so (.con (.int 1))) .no)) (.cons (.ifs (.cmp .eq (.var 3) (.con (.str "one"))) (.cons (.ret (.tup (.cons (.call "node" (.cons (.var 4) (.cons (.var 5) .nil))) (.cons (.call "node" (.cons (.var 4) (.cons (.bin false .sub (.var 5) (.con (.int 1))) .nil))) (.cons (.con (.int 1)) .nil))))) .nil) .nil) (.cons (.ifs (.cmp .eq (.var 3) (.con (.str "back"))) (.cons (.ret (.tup (.cons (.call "node" (.cons (.var 4) (.cons (.bin false .sub (.var 5) (.con (.int 1))) .nil))) (.cons (.call "node" (.cons (.var 4) (.cons (.var 5) .nil))) (.cons (.con (.int 0)) .nil))))) .nil) .nil) (.cons (.ret (.tup (.cons (.call "node" (.cons (.var 4) (.cons (.var 5) .nil))) (.cons (.con .non) (.cons (.call "joined_by" (.cons (.var 0) (.cons (.var 4) (.cons (.bin false .sub (.var 5) (.con (.int 1))) .nil)))) .nil))))) .nil)))) .nil) (.cons (.ifs (.cmp .eq (.var 3) (.con (.str "joined"))) (.cons (.asg (.tup [(.name 6), (.name 4)]) (.slice false (.var 2) (.so (.con (.int 1))) .no)) (.cons (.asg (.tup [(.name 5), (.name 7)]) (.sub (.sub (.var 0) (.con (.int 2))) (.var 6))) (.cons (.asg (.name 8) (.bin false .sub (.call "joined_ahead" (.cons (.var 0) (.cons (.var 6) (.cons (.var 4) .nil)))) (.call "joined_ahead" (.cons (.var 0) (.cons (.var 6) (.cons (.var 7) .nil)))))) (.cons (.ret (.tup (.cons (.call "node" (.cons (.var 4) (.cons (.var 5) .nil))) (.cons (.call "node" (.cons (.var 7) (.cons (.var 5) .nil))) (.cons (.bin false .sub (.var 8) (.bi false .int (.cons (.cmp .lt (.var 4) (.var 7)) .nil))) .nil))))) .nil)))) .nil) (.cons (.asg (.tup [(.name 5), (.name 4), (.name 9)]) (.sub (.var 1) (.sub (.var 2) (.con (.int 1))))) (.cons (.asg (.name 10) (.bin false .sub (.call "joined_by" (.cons (.var 0) (.cons (.var 4) (.cons (.var 5) .nil)))) (.var 9))) (.cons (.ifs (.cmp .eq (.var 3) (.con (.str "least"))) (.cons (.ret (.tup (.cons (.con .non) (.cons (.call "node" (.cons (.var 4) (.cons (.var 5) .nil))) (.cons (.bin false .sub (.con (.int 0)) (.var 10)) .nil))))) .nil) .nil) (.cons (.ret (.tup (.cons (.call "node" (.cons (.var 4) (.cons (.var 5) .nil))) (.cons (.con .non) (.cons (.var 10) .nil))))) .nil)))))))
def b_all_facts_E0 : Ex := (.tup (.cons (.var 10) (.cons (.var 6) (.cons (.var 7) .nil))))
def b_all_facts_L0 : SSs := (.cons (.extend (.var 5) (.lc false [10] (.of (.tup (.cons (.con (.str "one")) (.cons (.con (.str "back")) (.cons (.con (.str "there")) .nil))))) (.name 10) .no b_all_facts_E0)) .nil)
def b_all_facts_L1 : SSs := (.cons (.for_ (.name 7) (.range1 (.bin false .add (.var 3) (.con (.int 1)))) b_all_facts_L0) .nil)
def b_all_facts_T0 : Exo := (.so (.cmp .ne (.var 6) (.sub (.var 9) (.con (.int 1)))))
def b_all_facts_E1 : Ex := (.tup (.cons (.con (.str "joined")) (.cons (.var 8) (.cons (.var 6) .nil))))
def b_all_facts_L2 : SSs := (.cons (.extend (.var 5) (.lc false [6] (.range1 (.var 2)) (.name 6) b_all_facts_T0 b_all_facts_E1)) .nil)
def b_all_facts_L3 : SSs := (.cons (.extend (.var 5) (.lst false (.cons (.tup (.cons (.con (.str "least")) (.cons (.var 8) .nil))) (.cons (.tup (.cons (.con (.str "most")) (.cons (.var 8) .nil))) .nil)))) .nil)
def b_all_facts : SSs := (.cons (.asg (.tup [(.name 2), (.name 3), (.name 4)]) (.var 0)) (.cons (.asg (.name 5) (.lst true .nil)) (.cons (.for_ (.name 6) (.range1 (.var 2)) b_all_facts_L1) (.cons (.for_ (.tup [(.name 8), (.name 9)]) (.enum (.var 4)) b_all_facts_L2) (.cons (.for_ (.name 8) (.range1 (.bi false .len (.cons (.var 1) .nil))) b_all_facts_L3) (.cons (.ret (.var 5)) .nil))))))
def b_Bounds_E0 : Ex := (.bin false .add (.call "fact_of" (.cons (.var 1) (.cons (.var 2) (.cons (.var 6) .nil)))) (.tup (.cons (.var 6) .nil)))
def b_Bounds_L0 : SSs := (.cons (.asg (.name 3) (.ite (.meth (.var 0) "Bounds" "tighten" (.cons (.var 5) .nil)) (.tup (.cons (.sub (.var 5) (.con (.int 0))) .nil)) (.var 3))) .nil)
def b_Bounds_L1 : SSs := (.cons (.asg (.name 3) (.con .non)) (.cons (.for_ (.name 5) (.of (.fld (.var 0) "steps")) b_Bounds_L0) (.cons (.ifs (.isN false (.var 3)) (.cons .brk .nil) .nil) .nil)))
def b_Bounds : SSs := (.cons (.setFld (.var 0) "steps" (.lc false [6] (.of (.call "all_facts" (.cons (.var 1) (.cons (.var 2) .nil)))) (.name 6) .no b_Bounds_E0)) (.cons (.setFld (.var 0) "most" (.dct (.cons (.con .non) .nil) (.cons (.con (.int 0)) .nil))) (.cons (.setFld (.var 0) "by" (.dct .nil .nil)) (.cons (.asg (.name 3) (.con .non)) (.cons (.for_ (.name 4) (.range1 (.bin false .add (.con (.int 2)) (.bin false .mul (.sub (.var 1) (.con (.int 0))) (.bin false .add (.sub (.var 1) (.con (.int 1))) (.con (.int 1)))))) b_Bounds_L1) (.cons (.setFld (.var 0) "ring" (.ite (.isN false (.var 3)) (.con .non) (.meth (.var 0) "Bounds" "ring_from" (.cons (.sub (.var 3) (.con (.int 0))) (.cons (.bin false .add (.con (.int 2)) (.bin false .mul (.sub (.var 1) (.con (.int 0))) (.bin false .add (.sub (.var 1) (.con (.int 1))) (.con (.int 1))))) .nil))))) .nil))))))
def b_tighten : SSs := (.cons (.asg (.tup [(.name 2), (.name 3), (.name 4), (.name 5)]) (.var 1)) (.cons (.ifs (.cmp .nin (.var 3) (.fld (.var 0) "most")) (.cons (.ret (.con (.bl false))) .nil) .nil) (.cons (.asg (.name 6) (.bin false .add (.sub (.fld (.var 0) "most") (.var 3)) (.var 4))) (.cons (.ifs (.and_ (.cmp .in_ (.var 2) (.fld (.var 0) "most")) (.cmp .le (.sub (.fld (.var 0) "most") (.var 2)) (.var 6))) (.cons (.ret (.con (.bl false))) .nil) .nil) (.cons (.setSub (.fld (.var 0) "most") (.var 2) (.var 6)) (.cons (.setSub (.fld (.var 0) "by") (.var 2) (.var 1)) (.cons (.ret (.con (.bl true))) .nil)))))))
def b_ring_from_L0 : SSs := (.cons (.asg (.name 3) (.sub (.sub (.fld (.var 0) "by") (.var 3)) (.con (.int 1)))) .nil)
def b_ring_from_C0 : Ex := (.cmp .ne (.sub (.sub (.var 5) (.neg (.con (.int 1)))) (.con (.int 1))) (.var 3))
def b_ring_from_W0 : SSs := (.cons (.append (.var 5) (.sub (.fld (.var 0) "by") (.sub (.sub (.var 5) (.neg (.con (.int 1)))) (.con (.int 1))))) .nil)
def b_ring_from_E0 : Ex := (.sub (.var 6) (.con (.int 3)))
def b_ring_from : SSs := (.cons (.asg (.name 3) (.var 1)) (.cons (.for_ (.name 4) (.range1 (.var 2)) b_ring_from_L0) (.cons (.asg (.name 5) (.lst true (.cons (.sub (.fld (.var 0) "by") (.var 3)) .nil))) (.cons (.while_ b_ring_from_C0 b_ring_from_W0) (.cons (.ret (.bi false .tuple (.cons (.lc false [6] (.of (.var 5)) (.name 6) .no b_ring_from_E0) .nil))) .nil)))))
def b_can_be : SSs := (.cons (.ex (.call "look_at" (.cons (.var 0) (.cons (.var 1) .nil)))) (.cons (.ret (.isN false (.fld (.new "Bounds" (.cons (.var 0) (.cons (.var 1) .nil))) "ring"))) .nil))
def b__law_well : SSs := (.cons (.ifs (.cmp .ge (.var 0) (.bin false .pow (.con (.int 10)) (.con (.int 18)))) (.cons (.ret (.lst true (.cons (.bin false .sub (.var 0) (.bin false .pow (.con (.int 10)) (.con (.int 18)))) (.cons (.bin false .mod (.var 0) (.con (.int 2305843009213693951))) (.cons (.var 1) .nil))))) .nil) .nil) (.cons (.ret (.lst true (.cons (.con (.int 0)) (.cons (.bin false .mod (.var 0) (.con (.int 2305843009213693951))) (.cons (.var 1) .nil))))) .nil))
def b__law_take : SSs := (.cons (.ifs (.cmp .gt (.sub (.var 0) (.con (.int 0))) (.con (.int 0))) (.cons (.asg (.name 2) (.bin false .mod (.sub (.var 0) (.con (.int 0))) (.var 1))) (.cons (.setSub (.var 0) (.con (.int 0)) (.bin false .fdiv (.sub (.var 0) (.con (.int 0))) (.var 1))) (.cons (.ret (.var 2)) .nil))) .nil) (.cons (.setSub (.var 0) (.con (.int 2)) (.bin false .add (.sub (.var 0) (.con (.int 2))) (.con (.int 1)))) (.cons (.asg (.name 3) (.con (.int 2305843009213693951))) (.cons (.asg (.name 4) (.bin false .mod (.bin false .add (.sub (.var 0) (.con (.int 1))) (.bin false .mul (.con (.int 1000003)) (.sub (.var 0) (.con (.int 2))))) (.var 3))) (.cons (.asg (.name 4) (.bin false .mod (.bin false .add (.bin false .add (.bin false .mul (.var 4) (.var 4)) (.bin false .mul (.con (.int 7919)) (.bin false .pow (.sub (.var 0) (.con (.int 2))) (.con (.int 2))))) (.con (.int 5))) (.var 3))) (.cons (.ret (.bin false .mod (.bin false .fdiv (.bin false .mod (.bin false .pow (.var 4) (.con (.int 3))) (.var 3)) (.con (.int 13))) (.var 1))) .nil))))))
def b__law_bags_E0 : Ex := (.call "_law_well" (.cons (.var 3) (.cons (.bin false .mul (.con (.int 977)) (.var 2)) .nil)))
def b__law_bags : SSs := (.cons (.ret (.lc false [2, 3] (.enum (.bin false .add (.slice false (.var 0) .no (.so (.var 1))) (.lst false (.cons (.con (.int 0)) .nil)))) (.tup [(.name 2), (.name 3)]) .no b__law_bags_E0)) .nil)
def b__law_same_E0 : Ex := (.call "_law_same" (.cons (.var 2) (.cons (.var 3) .nil)))
def b__law_same : SSs := (.cons (.ifs (.or_ (.and_ (.isi (.var 0) [.list]) (.isi (.var 1) [.list])) (.and_ (.isi (.var 0) [.tuple]) (.isi (.var 1) [.tuple]))) (.cons (.ret (.and_ (.cmp .eq (.bi false .len (.cons (.var 0) .nil)) (.bi false .len (.cons (.var 1) .nil))) (.bi false .all (.cons (.lc false [2, 3] (.zip2 (.var 0) (.var 1)) (.tup [(.name 2), (.name 3)]) .no b__law_same_E0) .nil)))) .nil) .nil) (.cons (.ifs (.or_ (.isi (.var 0) [.bool, .list, .tuple]) (.isi (.var 1) [.bool, .list, .tuple])) (.cons (.ret (.and_ (.isi (.var 0) [.bool]) (.and_ (.isi (.var 1) [.bool]) (.cmp .eq (.var 0) (.var 1))))) .nil) .nil) (.cons (.ifs (.or_ (.isi (.var 0) [.int]) (.isi (.var 1) [.int])) (.cons (.ret (.and_ (.isi (.var 0) [.int]) (.and_ (.isi (.var 1) [.int]) (.cmp .eq (.var 0) (.var 1))))) .nil) .nil) (.cons (.ifs (.or_ (.isi (.var 0) [.str]) (.isi (.var 1) [.str])) (.cons (.ret (.and_ (.isi (.var 0) [.str]) (.and_ (.isi (.var 1) [.str]) (.cmp .eq (.var 0) (.var 1))))) .nil) .nil) (.cons (.ret (.and_ (.isN false (.var 0)) (.isN false (.var 1)))) .nil)))))
def b__law_in : SSs := (.cons (.ret (.and_ (.isi (.var 0) [.int]) (.and_ (.not_ (.isi (.var 0) [.bool])) (.chain .le .le (.var 1) (.var 0) (.var 2))))) .nil)
def b__law_run_E0 : Ex := (.bi false .int (.cons (.and_ (.cmp .gt (.var 12) (.con (.int 0))) (.cmp .le (.call "_law_take" (.cons (.var 0) (.cons (.con (.int 4)) .nil))) (.var 7))) .nil))
def b__law_run_E1 : Ex := (.bin false .sub (.var 12) (.var 13))
def b__law_run_L0 : SSs := (.cons (.ifs (.cmp .lt (.bi false .len (.cons (.var 5) .nil)) (.var 3)) (.cons (.asg (.name 11) (.mth .index (.var 4) (.bi false .min (.cons (.var 4) .nil)))) (.cons (.setSub (.var 4) (.var 11) (.bin false .add (.sub (.var 4) (.var 11)) (.con (.int 1)))) (.cons (.append (.var 5) (.tup (.cons (.var 8) (.cons (.var 11) .nil)))) .nil))) .nil) .nil)
def b__law_run_L1 : SSs := (.cons (.asg (.name 9) (.lc false [12] (.of (.var 4)) (.name 12) .no b__law_run_E0)) (.cons (.asg (.name 4) (.lc true [12, 13] (.zip2 (.var 4) (.var 9)) (.tup [(.name 12), (.name 13)]) .no b__law_run_E1)) (.cons (.append (.var 6) (.bi false .tuple (.cons (.var 9) .nil))) (.cons (.for_ (.name 10) (.range1 (.sub (.lst false (.cons (.con (.int 0)) (.cons (.con (.int 1)) (.cons (.con (.int 1)) (.cons (.con (.int 2)) (.cons (.con (.int 4)) .nil)))))) (.call "_law_take" (.cons (.var 0) (.cons (.con (.int 5)) .nil))))) b__law_run_L0) .nil))))
def b__law_run : SSs := (.cons (.asg (.tup [(.name 4), (.name 5), (.name 6)]) (.tup (.cons (.bin true .mul (.lst false (.cons (.con (.int 0)) .nil)) (.var 1)) (.cons (.lst true .nil) (.cons (.lst true .nil) .nil))))) (.cons (.asg (.name 7) (.call "_law_take" (.cons (.var 0) (.cons (.con (.int 4)) .nil)))) (.cons (.for_ (.name 8) (.range1 (.bin false .add (.var 2) (.con (.int 1)))) b__law_run_L1) (.cons (.ret (.tup (.cons (.tup (.cons (.var 1) (.cons (.var 2) (.cons (.bi false .tuple (.cons (.var 5) .nil)) .nil)))) (.cons (.bi false .tuple (.cons (.var 6) .nil)) .nil)))) .nil))))
def b__law_lengths_E0 : Ex := (.bin false .sub (.var 7) (.var 8))
def b__law_lengths_L0 : SSs := (.cons (.ifs (.cmp .eq (.var 5) (.var 4)) (.cons (.ifs (.cmp .ne (.mth .index (.var 2) (.bi false .min (.cons (.var 2) .nil))) (.var 6)) (.cons (.ret (.con .non)) .nil) .nil) (.cons (.setSub (.var 2) (.var 6) (.bin false .add (.sub (.var 2) (.var 6)) (.con (.int 1)))) .nil)) .nil) .nil)
def b__law_lengths_L1 : SSs := (.cons (.asg (.name 2) (.lc true [7, 8] (.zip2 (.var 2) (.sub (.var 1) (.var 4))) (.tup [(.name 7), (.name 8)]) .no b__law_lengths_E0)) (.cons (.ifs (.cmp .lt (.bi false .min (.cons (.var 2) .nil)) (.con (.int 0))) (.cons (.ret (.con .non)) .nil) .nil) (.cons (.for_ (.tup [(.name 5), (.name 6)]) (.of (.sub (.var 0) (.con (.int 2)))) b__law_lengths_L0) (.cons (.append (.var 3) (.bi false .tuple (.cons (.var 2) .nil))) .nil))))
def b__law_lengths : SSs := (.cons (.asg (.tup [(.name 2), (.name 3)]) (.tup (.cons (.bin true .mul (.lst false (.cons (.con (.int 0)) .nil)) (.sub (.var 0) (.con (.int 0)))) (.cons (.lst true .nil) .nil)))) (.cons (.for_ (.name 4) (.range1 (.bin false .add (.sub (.var 0) (.con (.int 1))) (.con (.int 1)))) b__law_lengths_L1) (.cons (.ret (.var 3)) .nil)))
def b__law_sights_L0 : SSs := (.cons (.asg (.tup [(.name 6), (.name 7)]) (.tup (.cons (.call "_law_take" (.cons (.var 0) (.cons (.bin false .add (.sub (.var 1) (.con (.int 1))) (.con (.int 1))) .nil))) (.cons (.call "_law_take" (.cons (.var 0) (.cons (.sub (.var 1) (.con (.int 0))) .nil))) .nil)))) (.cons (.asg (.name 8) (.ite (.and_ (.cmp .ne (.var 3) (.lst false .nil)) (.cmp .gt (.call "_law_take" (.cons (.var 0) (.cons (.con (.int 9)) .nil))) (.con (.int 0)))) (.sub (.sub (.var 3) (.var 6)) (.var 7)) (.call "_law_take" (.cons (.var 0) (.cons (.con (.int 4)) .nil))))) (.cons (.setSub (.var 4) (.tup (.cons (.var 6) (.cons (.var 7) (.cons (.var 8) .nil)))) (.con (.bl true))) .nil)))
def b__law_sights : SSs := (.cons (.asg (.name 4) (.dct .nil .nil)) (.cons (.for_ (.name 5) (.range1 (.call "_law_take" (.cons (.var 0) (.cons (.bin false .add (.var 2) (.con (.int 1))) .nil)))) b__law_sights_L0) (.cons (.ret (.bi false .tuple (.cons (.bi false .sorted (.cons (.var 4) .nil)) .nil))) .nil)))
def b__law_bent_k02_E0 : Ex := (.bi true .list (.cons (.var 7) .nil))
def b__law_bent_k02_L0 : SSs := (.cons (.asg (.tup [(.name 5), (.name 6)]) (.tup (.cons (.call "_law_take" (.cons (.var 0) (.cons (.bi false .len (.cons (.var 3) .nil)) .nil))) (.cons (.call "_law_take" (.cons (.var 0) (.cons (.var 2) .nil))) .nil)))) (.cons (.setSub (.sub (.var 3) (.var 5)) (.var 6) (.bin false .sub (.con (.int 1)) (.sub (.sub (.var 3) (.var 5)) (.var 6)))) .nil))
def b__law_bent_k02_E1 : Ex := (.bi true .tuple (.cons (.var 8) .nil))
def b__law_bent_k02 : SSs := (.cons (.asg (.name 3) (.lc false [7] (.of (.var 1)) (.name 7) .no b__law_bent_k02_E0)) (.cons (.for_ (.name 4) (.range1 (.bin false .add (.con (.int 1)) (.call "_law_take" (.cons (.var 0) (.cons (.con (.int 2)) .nil))))) b__law_bent_k02_L0) (.cons (.ret (.bi false .tuple (.cons (.lc false [8] (.of (.var 3)) (.name 8) .no b__law_bent_k02_E1) .nil))) .nil)))
def b__law_is_story_T0 : Exo := (.so (.not_ (.call "_law_in" (.cons (.var 8) (.cons (.con (.int 0)) (.cons (.con (.int 1)) .nil))))))
def b__law_is_story_E0 : Ex := (.var 8)
def b__law_is_story_L0 : SSs := (.cons (.ifs (.or_ (.not_ (.isi (.var 3) [.tuple])) (.cmp .ne (.bi false .len (.cons (.var 3) .nil)) (.sub (.var 0) (.con (.int 0))))) (.cons (.ret (.con (.bl false))) .nil) .nil) (.cons (.ifs (.cmp .ne (.lc false [8] (.of (.var 3)) (.name 8) b__law_is_story_T0 b__law_is_story_E0) (.lst false .nil)) (.cons (.ret (.con (.bl false))) .nil) .nil) .nil))
def b__law_is_story_T1 : Exo := (.so (.cmp .ne (.sub (.sub (.var 4) (.var 5)) (.var 6)) (.var 7)))
def b__law_is_story_E1 : Ex := (.con (.int 1))
def b__law_is_story : SSs := (.cons (.ifs (.or_ (.not_ (.isi (.var 2) [.tuple])) (.cmp .ne (.bi false .len (.cons (.var 2) .nil)) (.bin false .add (.sub (.var 0) (.con (.int 1))) (.con (.int 1))))) (.cons (.ret (.con (.bl false))) .nil) .nil) (.cons (.for_ (.name 3) (.of (.var 2)) b__law_is_story_L0) (.cons (.asg (.name 4) (.call "_law_lengths" (.cons (.var 0) (.cons (.var 2) .nil)))) (.cons (.ifs (.isN false (.var 4)) (.cons (.ret (.con (.bl false))) .nil) .nil) (.cons (.ret (.cmp .eq (.lc false [5, 6, 7] (.of (.var 1)) (.tup [(.name 5), (.name 6), (.name 7)]) b__law_is_story_T1 b__law_is_story_E1) (.lst false .nil))) .nil)))))
def b__law_written_L0 : SSs := (.cons (.ifs (.isB true true (.call "is_story" (.cons (.var 0) (.cons (.var 2) (.cons (.var 1) .nil))))) (.cons (.ret (.con (.bl false))) .nil) .nil) .nil)
def b__law_written_L1 : SSs := (.cons (.ifs (.isB true false (.call "is_story" (.cons (.var 0) (.cons (.tup .nil) (.cons (.var 3) .nil))))) (.cons (.ret (.con (.bl false))) .nil) .nil) .nil)
def b__law_written : SSs := (.cons (.asg (.name 0) (.tup (.cons (.con (.int 2)) (.cons (.con (.int 2)) (.cons (.tup (.cons (.tup (.cons (.con (.int 0)) (.cons (.con (.int 0)) .nil))) (.cons (.tup (.cons (.con (.int 0)) (.cons (.con (.int 1)) .nil))) (.cons (.tup (.cons (.con (.int 1)) (.cons (.con (.int 0)) .nil))) (.cons (.tup (.cons (.con (.int 2)) (.cons (.con (.int 0)) .nil))) .nil))))) .nil))))) (.cons (.asg (.name 1) (.tup (.cons (.tup (.cons (.con (.int 0)) (.cons (.con (.int 0)) .nil))) (.cons (.tup (.cons (.con (.int 0)) (.cons (.con (.int 0)) .nil))) (.cons (.tup (.cons (.con (.int 1)) (.cons (.con (.int 0)) .nil))) .nil))))) (.cons (.for_ (.name 2) (.of (.lst false (.cons (.tup .nil) (.cons (.tup (.cons (.tup (.cons (.con (.int 2)) (.cons (.con (.int 0)) (.cons (.con (.int 2)) .nil)))) (.cons (.tup (.cons (.con (.int 2)) (.cons (.con (.int 1)) (.cons (.con (.int 1)) .nil)))) .nil))) .nil)))) b__law_written_L0) (.cons (.for_ (.name 3) (.of (.lst false (.cons (.tup (.cons (.tup (.cons (.con (.int 0)) (.cons (.con (.int 0)) .nil))) (.cons (.tup (.cons (.con (.int 0)) (.cons (.con (.int 0)) .nil))) (.cons (.tup (.cons (.con (.int 0)) (.cons (.con (.int 0)) .nil))) .nil)))) (.cons (.tup (.cons (.tup (.cons (.con (.int 1)) (.cons (.con (.int 0)) .nil))) (.cons (.tup (.cons (.con (.int 0)) (.cons (.con (.int 0)) .nil))) (.cons (.tup (.cons (.con (.int 1)) (.cons (.con (.int 0)) .nil))) .nil)))) (.cons (.tup (.cons (.tup (.cons (.con (.int 0)) (.cons (.con (.int 0)) .nil))) (.cons (.tup (.cons (.con (.int 0)) (.cons (.con (.int 0)) .nil))) .nil))) (.cons (.tup (.cons (.tup (.cons (.con (.int 0)) (.cons (.con (.int 0)) .nil))) (.cons (.tup (.cons (.con (.int 0)) (.cons (.con (.int 0)) .nil))) (.cons (.tup (.cons (.con (.bl true)) (.cons (.con (.int 0)) .nil))) .nil)))) .nil)))))) b__law_written_L1) (.cons (.ret (.and_ (.isB false true (.call "can_be" (.cons (.tup (.cons (.con (.int 1)) (.cons (.con (.int 0)) (.cons (.tup .nil) .nil)))) (.cons (.tup .nil) .nil)))) (.isB false false (.call "can_be" (.cons (.tup (.cons (.con (.int 2)) (.cons (.con (.int 0)) (.cons (.tup (.cons (.tup (.cons (.con (.int 0)) (.cons (.con (.int 1)) .nil))) .nil)) .nil)))) (.cons (.tup .nil) .nil)))))) .nil)))))
def b_law_k02_E0 : Ex := (.call "_law_bent" (.cons (.var 1) (.cons (.var 4) (.cons (.var 2) .nil))))
def b_law_k02_L0 : SSs := (.cons (.ifs (.not_ (.call "_law_same" (.cons (.call "is_story" (.cons (.var 3) (.cons (.var 9) (.cons (.var 8) .nil)))) (.cons (.call "_law_is_story" (.cons (.var 3) (.cons (.var 9) (.cons (.var 8) .nil)))) .nil)))) (.cons (.ret (.con (.bl false))) .nil) .nil) .nil)
def b_law_k02_L1 : SSs := (.cons (.for_ (.name 9) (.of (.tup (.cons (.tup .nil) (.cons (.var 6) .nil)))) b_law_k02_L0) .nil)
def b_law_k02_L2 : SSs := (.cons (.asg (.name 2) (.bin false .add (.con (.int 1)) (.call "_law_take" (.cons (.var 1) (.cons (.con (.int 4)) .nil))))) (.cons (.asg (.tup [(.name 3), (.name 4)]) (.call "_law_run" (.cons (.var 1) (.cons (.var 2) (.cons (.call "_law_take" (.cons (.var 1) (.cons (.sub (.lst false (.cons (.con (.int 31)) (.cons (.con (.int 6)) .nil))) (.call "_law_take" (.cons (.var 1) (.cons (.con (.int 2)) .nil)))) .nil))) (.cons (.con (.int 16)) .nil)))))) (.cons (.asg (.name 5) (.call "_law_lengths" (.cons (.var 3) (.cons (.var 4) .nil)))) (.cons (.asg (.name 6) (.call "_law_sights" (.cons (.var 1) (.cons (.var 3) (.cons (.con (.int 6)) (.cons (.var 5) .nil)))))) (.cons (.ifs (.or_ (.isB true true (.call "can_be" (.cons (.var 3) (.cons (.tup .nil) .nil)))) (.isB true true (.call "is_story" (.cons (.var 3) (.cons (.tup .nil) (.cons (.var 4) .nil)))))) (.cons (.ret (.con (.bl false))) .nil) .nil) (.cons (.asg (.name 7) (.lst false (.cons (.var 4) (.cons (.slice false (.var 4) .no (.so (.neg (.con (.int 1))))) (.cons (.bin false .add (.var 4) (.slice false (.var 4) .no (.so (.con (.int 1))))) (.cons (.bi false .list (.cons (.var 4) .nil)) (.cons (.rev false (.var 4)) (.cons (.con .non) (.cons (.tup .nil) (.cons (.con (.int 7)) .nil)))))))))) (.cons (.for_ (.name 8) (.of (.bin false .add (.var 7) (.lc false [10] (.range1 (.con (.int 12))) (.name 10) .no b_law_k02_E0))) b_law_k02_L1) .nil)))))))
def b_law_k02 : SSs := (.cons (.ifs (.not_ (.call "_law_written" .nil)) (.cons (.ret (.con (.bl false))) .nil) .nil) (.cons (.for_ (.name 1) (.of (.call "_law_bags" (.cons (.var 0) (.cons (.con (.int 8)) .nil)))) b_law_k02_L2) (.cons (.ret (.con (.bl true))) .nil)))
def b_least_of_E0 : Ex := (.call "fact_of" (.cons (.var 0) (.cons (.var 1) (.cons (.var 8) .nil))))
def b_least_of_L0 : SSs := (.cons (.ifs (.and_ (.cmp .in_ (.var 5) (.var 2)) (.cmp .lt (.mget (.var 2) (.var 6) (.neg (.con (.int 1)))) (.bin false .sub (.sub (.var 2) (.var 5)) (.var 7)))) (.cons (.setSub (.var 2) (.var 6) (.bin false .sub (.sub (.var 2) (.var 5)) (.var 7))) (.cons (.asg (.name 4) (.con (.bl true))) .nil)) .nil) .nil)
def b_least_of_C0 : Ex := (.var 4)
def b_least_of_W0 : SSs := (.cons (.asg (.name 4) (.con (.bl false))) (.cons (.for_ (.tup [(.name 5), (.name 6), (.name 7)]) (.of (.var 3)) b_least_of_L0) .nil))
def b_least_of : SSs := (.cons (.asg (.name 2) (.dct (.cons (.con .non) .nil) (.cons (.con (.int 0)) .nil))) (.cons (.asg (.name 3) (.lc false [8] (.of (.call "all_facts" (.cons (.var 0) (.cons (.var 1) .nil)))) (.name 8) .no b_least_of_E0)) (.cons (.asg (.name 4) (.con (.bl true))) (.cons (.while_ b_least_of_C0 b_least_of_W0) (.cons (.ret (.var 2)) .nil)))))
def b_served_table_E0 : Ex := (.sub (.var 4) (.tup (.cons (.var 6) (.cons (.var 5) .nil))))
def b_served_table_E1 : Ex := (.bi false .tuple (.cons (.lc false [6] (.range1 (.sub (.var 0) (.con (.int 0)))) (.name 6) .no b_served_table_E0) .nil))
def b_served_table : SSs := (.cons (.asg (.name 3) (.new "Bounds" (.cons (.var 0) (.cons (.var 1) .nil)))) (.cons (.ifs (.isN true (.fld (.var 3) "ring")) (.cons (.ret (.con .non)) .nil) .nil) (.cons (.asg (.name 4) (.ite (.var 2) (.fld (.var 3) "most") (.call "least_of" (.cons (.var 0) (.cons (.var 1) .nil))))) (.cons (.ret (.lc false [5] (.range1 (.bin false .add (.sub (.var 0) (.con (.int 1))) (.con (.int 1)))) (.name 5) .no b_served_table_E1)) .nil))))
def b_story_of_E0 : Ex := (.bin false .sub (.var 4) (.var 5))
def b_story_of_E1 : Ex := (.bi false .tuple (.cons (.lc false [4, 5] (.zip2 (.var 2) (.var 3)) (.tup [(.name 4), (.name 5)]) .no b_story_of_E0) .nil))
def b_story_of : SSs := (.cons (.asg (.name 1) (.bin false .add (.lst false (.cons (.bi false .tuple (.cons (.bin false .mul (.lst false (.cons (.con (.int 0)) .nil)) (.bi false .len (.cons (.sub (.var 0) (.con (.int 0))) .nil))) .nil)) .nil)) (.slice false (.var 0) .no (.so (.neg (.con (.int 1))))))) (.cons (.ret (.bi false .tuple (.cons (.lc false [2, 3] (.zip2 (.var 0) (.var 1)) (.tup [(.name 2), (.name 3)]) .no b_story_of_E1) .nil))) .nil))
def b_lengths_by_E0 : Ex := (.bin false .sub (.call "joined_by" (.cons (.var 0) (.cons (.var 5) (.cons (.var 3) .nil)))) (.var 6))
def b_lengths_by_L0 : SSs := (.cons (.append (.var 2) (.bi false .tuple (.cons (.lc false [5, 6] (.enum (.var 4)) (.tup [(.name 5), (.name 6)]) .no b_lengths_by_E0) .nil))) .nil)
def b_lengths_by : SSs := (.cons (.asg (.name 2) (.lst true .nil)) (.cons (.for_ (.tup [(.name 3), (.name 4)]) (.enum (.var 1)) b_lengths_by_L0) (.cons (.ret (.var 2)) .nil)))
def b_longest : SSs := (.cons (.ex (.call "look_at" (.cons (.var 0) (.cons (.var 1) .nil)))) (.cons (.asg (.name 2) (.call "served_table" (.cons (.var 0) (.cons (.var 1) (.cons (.con (.bl false)) .nil))))) (.cons (.ret (.ite (.isN false (.var 2)) (.con .non) (.tup (.cons (.call "lengths_by" (.cons (.var 0) (.cons (.var 2) .nil))) (.cons (.call "story_of" (.cons (.var 2) .nil)) .nil))))) .nil)))
def b_shortest : SSs := (.cons (.ex (.call "look_at" (.cons (.var 0) (.cons (.var 1) .nil)))) (.cons (.asg (.name 2) (.call "served_table" (.cons (.var 0) (.cons (.var 1) (.cons (.con (.bl true)) .nil))))) (.cons (.ret (.ite (.isN false (.var 2)) (.con .non) (.tup (.cons (.call "lengths_by" (.cons (.var 0) (.cons (.var 2) .nil))) (.cons (.call "story_of" (.cons (.var 2) .nil)) .nil))))) .nil)))
def b_served_ways_T0 : Exo := (.so (.cmp .le (.var 4) (.var 2)))
def b_served_ways_E0 : Ex := (.bin false .add (.var 3) (.tup (.cons (.bin false .sub (.var 2) (.var 4)) .nil)))
def b_served_ways_L0 : SSs := (.cons (.asg (.name 1) (.lc2 false [3, 4] [4] (.of (.var 1)) (.name 3) (.of (.tup (.cons (.con (.int 0)) (.cons (.con (.int 1)) .nil)))) (.name 4) b_served_ways_T0 b_served_ways_E0)) .nil)
def b_served_ways : SSs := (.cons (.asg (.name 1) (.lst false (.cons (.tup .nil) .nil))) (.cons (.for_ (.name 2) (.of (.var 0)) b_served_ways_L0) (.cons (.ret (.var 1)) .nil)))
def b_joined_L0 : SSs := (.cons (.ifs (.cmp .ne (.call "shortest_of" (.cons (.var 2) .nil)) (.var 3)) (.cons (.ret (.con .non)) .nil) .nil) (.cons (.setSub (.var 2) (.var 3) (.bin false .add (.sub (.var 2) (.var 3)) (.con (.int 1)))) .nil))
def b_joined : SSs := (.cons (.asg (.name 2) (.bi true .list (.cons (.var 0) .nil))) (.cons (.for_ (.name 3) (.of (.var 1)) b_joined_L0) (.cons (.ret (.bi false .tuple (.cons (.var 2) .nil))) .nil)))
def b_how_many_T0 : Exo := (.so (.cmp .eq (.var 13) (.var 6)))
def b_how_many_E0 : Ex := (.var 14)
def b_how_many_T1 : Exo := (.so (.cmp .eq (.var 13) (.var 6)))
def b_how_many_E1 : Ex := (.tup (.cons (.var 14) (.cons (.var 15) .nil)))
def b_how_many_E2 : Ex := (.cmp .eq (.sub (.var 12) (.var 14)) (.var 15))
def b_how_many_L0 : SSs := (.cons (.asg (.name 12) (.call "joined" (.cons (.var 11) (.cons (.var 7) .nil)))) (.cons (.ifs (.and_ (.isN true (.var 12)) (.bi false .all (.cons (.lc false [14, 15] (.of (.var 8)) (.tup [(.name 14), (.name 15)]) .no b_how_many_E2) .nil))) (.cons (.setSub (.var 9) (.var 12) (.bin false .add (.mget (.var 9) (.var 12) (.con (.int 0))) (.sub (.var 5) (.var 10)))) .nil) .nil) .nil))
def b_how_many_L1 : SSs := (.cons (.for_ (.name 11) (.of (.call "served_ways" (.cons (.var 10) .nil))) b_how_many_L0) .nil)
def b_how_many_L2 : SSs := (.cons (.asg (.name 7) (.lc false [13, 14] (.of (.var 4)) (.tup [(.name 13), (.name 14)]) b_how_many_T0 b_how_many_E0)) (.cons (.asg (.name 8) (.lc false [13, 14, 15] (.of (.var 1)) (.tup [(.name 13), (.name 14), (.name 15)]) b_how_many_T1 b_how_many_E1)) (.cons (.asg (.name 9) (.dct .nil .nil)) (.cons (.for_ (.name 10) (.of (.var 5)) b_how_many_L1) (.cons (.asg (.name 5) (.var 9)) .nil)))))
def b_how_many : SSs := (.cons (.ex (.call "look_at" (.cons (.var 0) (.cons (.var 1) .nil)))) (.cons (.asg (.tup [(.name 2), (.name 3), (.name 4)]) (.var 0)) (.cons (.ifs (.cmp .gt (.var 2) (.con (.int 2))) (.cons .bad .nil) .nil) (.cons (.asg (.name 5) (.dct (.cons (.bin false .mul (.tup (.cons (.con (.int 0)) .nil)) (.var 2)) .nil) (.cons (.con (.int 1)) .nil))) (.cons (.for_ (.name 6) (.range1 (.bin false .add (.var 3) (.con (.int 1)))) b_how_many_L2) (.cons (.ret (.bi false .vsum (.cons (.var 5) .nil))) .nil))))))
def b__law_servings_E0 : Ex := (.bin false .add (.var 4) (.tup (.cons (.con (.int 0)) .nil)))
def b__law_servings_E1 : Ex := (.bin false .add (.var 4) (.tup (.cons (.con (.int 1)) .nil)))
def b__law_servings_L0 : SSs := (.cons (.asg (.name 3) (.lc false [4] (.of (.var 1)) (.name 4) .no b__law_servings_E0)) (.cons (.ifs (.cmp .gt (.var 2) (.con (.int 0))) (.cons (.asg (.name 3) (.bin false .add (.var 3) (.lc false [4] (.of (.var 1)) (.name 4) .no b__law_servings_E1))) .nil) .nil) (.cons (.asg (.name 1) (.bi false .sorted (.cons (.var 3) .nil))) .nil)))
def b__law_servings : SSs := (.cons (.asg (.name 1) (.lst false (.cons (.tup .nil) .nil))) (.cons (.for_ (.name 2) (.of (.var 0)) b__law_servings_L0) (.cons (.ret (.var 1)) .nil)))
def b__law_behind_L0 : SSs := (.cons (.ifs (.cmp .eq (.var 3) (.var 1)) (.cons (.ifs (.cmp .ne (.mth .index (.var 2) (.bi false .min (.cons (.var 2) .nil))) (.var 4)) (.cons (.ret (.con .non)) .nil) .nil) (.cons (.setSub (.var 2) (.var 4) (.bin false .add (.sub (.var 2) (.var 4)) (.con (.int 1)))) .nil)) .nil) .nil)
def b__law_behind : SSs := (.cons (.asg (.name 2) (.bi true .list (.cons (.var 2) .nil))) (.cons (.for_ (.tup [(.name 3), (.name 4)]) (.of (.sub (.var 0) (.con (.int 2)))) b__law_behind_L0) (.cons (.ret (.bi false .tuple (.cons (.var 2) .nil))) .nil)))
def b__law_stories_E0 : Ex := (.bin false .sub (.var 10) (.var 11))
def b__law_stories_L0 : SSs := (.cons (.asg (.name 9) (.call "_law_behind" (.cons (.var 0) (.cons (.var 3) (.cons (.lc false [10, 11] (.zip2 (.var 7) (.var 8)) (.tup [(.name 10), (.name 11)]) .no b__law_stories_E0) .nil))))) (.cons (.ifs (.and_ (.isN true (.var 9)) (.call "_law_seen_so" (.cons (.var 1) (.cons (.var 3) (.cons (.var 9) .nil))))) (.cons (.append (.var 4) (.tup (.cons (.bin false .add (.var 5) (.tup (.cons (.var 8) .nil))) (.cons (.bin false .add (.var 6) (.tup (.cons (.var 9) .nil))) .nil)))) .nil) .nil) .nil))
def b__law_stories_L1 : SSs := (.cons (.asg (.name 7) (.ite (.cmp .ne (.var 6) (.tup .nil)) (.sub (.var 6) (.neg (.con (.int 1)))) (.bin false .mul (.tup (.cons (.con (.int 0)) .nil)) (.sub (.var 0) (.con (.int 0)))))) (.cons (.for_ (.name 8) (.of (.call "_law_servings" (.cons (.var 7) .nil))) b__law_stories_L0) .nil))
def b__law_stories_L2 : SSs := (.cons (.asg (.name 4) (.lst true .nil)) (.cons (.for_ (.tup [(.name 5), (.name 6)]) (.of (.var 2)) b__law_stories_L1) (.cons (.asg (.name 2) (.var 4)) .nil)))
def b__law_stories : SSs := (.cons (.asg (.name 2) (.lst false (.cons (.tup (.cons (.tup .nil) (.cons (.tup .nil) .nil))) .nil))) (.cons (.for_ (.name 3) (.range1 (.bin false .add (.sub (.var 0) (.con (.int 1))) (.con (.int 1)))) b__law_stories_L2) (.cons (.ret (.var 2)) .nil)))
def b__law_seen_so_T0 : Exo := (.so (.and_ (.cmp .eq (.var 3) (.var 1)) (.cmp .ne (.sub (.var 2) (.var 4)) (.var 5))))
def b__law_seen_so_E0 : Ex := (.con (.int 1))
def b__law_seen_so : SSs := (.cons (.ret (.cmp .eq (.lc false [3, 4, 5] (.of (.var 0)) (.tup [(.name 3), (.name 4), (.name 5)]) b__law_seen_so_T0 b__law_seen_so_E0) (.lst false .nil))) .nil)
def b__law_small : SSs := (.cons (.asg (.tup [(.name 1), (.name 2)]) (.call "_law_run" (.cons (.var 0) (.cons (.bin false .add (.con (.int 1)) (.call "_law_take" (.cons (.var 0) (.cons (.con (.int 3)) .nil)))) (.cons (.call "_law_take" (.cons (.var 0) (.cons (.con (.int 5)) .nil))) (.cons (.con (.int 5)) .nil)))))) (.cons (.asg (.tup [(.name 3), (.name 4), (.name 5)]) (.var 1)) (.cons (.ifs (.and_ (.cmp .ne (.var 5) (.tup .nil)) (.cmp .eq (.call "_law_take" (.cons (.var 0) (.cons (.con (.int 2)) .nil))) (.con (.int 0)))) (.cons (.asg (.name 6) (.call "_law_take" (.cons (.var 0) (.cons (.bi false .len (.cons (.var 5) .nil)) .nil)))) (.cons (.asg (.name 5) (.bin false .add (.bin false .add (.slice false (.var 5) .no (.so (.var 6))) (.tup (.cons (.tup (.cons (.sub (.sub (.var 5) (.var 6)) (.con (.int 0))) (.cons (.call "_law_take" (.cons (.var 0) (.cons (.var 3) .nil))) .nil))) .nil))) (.slice false (.var 5) (.so (.bin false .add (.var 6) (.con (.int 1)))) .no))) .nil)) .nil) (.cons (.ret (.tup (.cons (.var 3) (.cons (.var 4) (.cons (.var 5) .nil))))) .nil))))
def b__law_ends_E0 : Ex := (.sub (.sub (.var 9) (.var 4)) (.var 6))
def b__law_ends_L0 : SSs := (.cons (.asg (.name 7) (.bi false .sorted (.cons (.lc false [8, 9] (.of (.var 0)) (.tup [(.name 8), (.name 9)]) .no b__law_ends_E0) .nil))) (.cons (.append (.var 5) (.ite (.var 2) (.sub (.var 7) (.neg (.con (.int 1)))) (.sub (.var 7) (.con (.int 0))))) .nil))
def b__law_ends_L1 : SSs := (.cons (.asg (.name 5) (.lst true .nil)) (.cons (.for_ (.name 6) (.range1 (.sub (.var 1) (.con (.int 0)))) b__law_ends_L0) (.cons (.append (.var 3) (.bi false .tuple (.cons (.var 5) .nil))) .nil)))
def b__law_ends : SSs := (.cons (.asg (.name 3) (.lst true .nil)) (.cons (.for_ (.name 4) (.range1 (.bin false .add (.sub (.var 1) (.con (.int 1))) (.con (.int 1)))) b__law_ends_L1) (.cons (.ret (.var 3)) .nil)))
def b__law_told_so_T0 : Exo := (.so (.cmp .eq (.bi false .list (.cons (.var 8) .nil)) (.var 5)))
def b__law_told_so_E0 : Ex := (.var 7)
def b__law_told_so_L0 : SSs := (.cons (.ifs (.cmp .eq (.var 2) (.lst false .nil)) (.cons (.ifs (.isN true (.var 3)) (.cons (.ret (.con (.bl false))) .nil) .nil) .nil) (.cons (.asg (.name 5) (.call "_law_ends" (.cons (.var 2) (.cons (.var 0) (.cons (.var 4) .nil))))) (.cons (.asg (.name 6) (.lc false [7, 8] (.of (.var 2)) (.tup [(.name 7), (.name 8)]) b__law_told_so_T0 b__law_told_so_E0)) (.cons (.ifs (.or_ (.isN false (.var 3)) (.not_ (.call "_law_same" (.cons (.var 3) (.cons (.tup (.cons (.var 5) (.cons (.ite (.cmp .ne (.var 6) (.lst false .nil)) (.sub (.var 6) (.con (.int 0))) (.con .non)) .nil))) .nil))))) (.cons (.ret (.con (.bl false))) .nil) .nil) (.cons (.append (.sub (.var 3) (.con (.int 0))) (.con .non)) .nil))))) .nil)
def b__law_told_so : SSs := (.cons (.for_ (.tup [(.name 3), (.name 4)]) (.of (.lst false (.cons (.tup (.cons (.call "longest" (.cons (.var 0) (.cons (.var 1) .nil))) (.cons (.con (.bl true)) .nil))) (.cons (.tup (.cons (.call "shortest" (.cons (.var 0) (.cons (.var 1) .nil))) (.cons (.con (.bl false)) .nil))) .nil)))) b__law_told_so_L0) (.cons (.ret (.con (.bl true))) .nil))
def b_law_k03_E0 : Ex := (.bi false .list (.cons (.sub (.var 9) (.con (.int 1))) .nil))
def b_law_k03_L0 : SSs := (.cons (.ifs (.not_ (.call "_law_told_so" (.cons (.var 2) (.cons (.var 6) (.cons (.var 7) .nil))))) (.cons (.ret (.con (.bl false))) .nil) .nil) .nil)
def b_law_k03_L1 : SSs := (.cons (.asg (.name 7) (.call "_law_stories" (.cons (.var 2) (.cons (.var 6) .nil)))) (.cons (.ifs (.not_ (.call "_law_same" (.cons (.call "can_be" (.cons (.var 2) (.cons (.var 6) .nil))) (.cons (.cmp .ne (.var 7) (.lst false .nil)) .nil)))) (.cons (.ret (.con (.bl false))) .nil) .nil) (.cons (.for_ (.name 8) (.range1 (.con (.int 2))) b_law_k03_L0) (.cons (.ifs (.and_ (.cmp .lt (.sub (.var 2) (.con (.int 0))) (.con (.int 3))) (.not_ (.call "_law_same" (.cons (.call "how_many" (.cons (.var 2) (.cons (.var 6) .nil))) (.cons (.bi false .len (.cons (.var 7) .nil)) .nil))))) (.cons (.ret (.con (.bl false))) .nil) .nil) .nil))))
def b_law_k03_L2 : SSs := (.cons (.asg (.name 2) (.call "_law_small" (.cons (.var 1) .nil))) (.cons (.asg (.name 3) (.call "_law_stories" (.cons (.var 2) (.cons (.tup .nil) .nil)))) (.cons (.asg (.name 4) (.lc false [9] (.of (.var 3)) (.name 9) .no b_law_k03_E0)) (.cons (.asg (.name 5) (.ite (.cmp .ne (.var 4) (.lst false .nil)) (.sub (.var 4) (.call "_law_take" (.cons (.var 1) (.cons (.bi false .len (.cons (.var 4) .nil)) .nil)))) (.lst false .nil))) (.cons (.for_ (.name 6) (.of (.lst false (.cons (.tup .nil) (.cons (.call "_law_sights" (.cons (.var 1) (.cons (.var 2) (.cons (.con (.int 3)) (.cons (.var 5) .nil))))) .nil)))) b_law_k03_L1) .nil)))))
def b_law_k03 : SSs := (.cons (.for_ (.name 1) (.of (.call "_law_bags" (.cons (.var 0) (.cons (.con (.int 5)) .nil)))) b_law_k03_L2) (.cons (.ret (.con (.bl true))) .nil))
def b__law_mixed_E0 : Ex := (.ite (.var 3) (.bi false .max (.cons (.var 12) .nil)) (.bi false .min (.cons (.var 12) .nil)))
def b__law_mixed_T0 : Exo := (.so (.and_ (.cmp .eq (.var 13) (.var 7)) (.cmp .eq (.var 14) (.var 11))))
def b__law_mixed_E1 : Ex := (.con (.int 1))
def b__law_mixed_E2 : Ex := (.lc false [13, 14] (.of (.sub (.var 0) (.con (.int 2)))) (.tup [(.name 13), (.name 14)]) b__law_mixed_T0 b__law_mixed_E1)
def b__law_mixed_E3 : Ex := (.bin false .sub (.bin false .add (.sub (.var 6) (.var 15)) (.bi false .len (.cons (.sub (.var 10) (.var 15)) .nil))) (.sub (.var 9) (.var 15)))
def b__law_mixed_L0 : SSs := (.cons (.asg (.name 8) (.bi false .listZip (.cons (.sub (.var 1) (.var 7)) (.cons (.sub (.var 2) (.var 7)) .nil)))) (.cons (.asg (.name 9) (.bi false .tuple (.cons (.lc false [12] (.of (.var 8)) (.name 12) .no b__law_mixed_E0) .nil))) (.cons (.asg (.name 10) (.lc false [11] (.range1 (.sub (.var 0) (.con (.int 0)))) (.name 11) .no b__law_mixed_E2)) (.cons (.append (.var 5) (.bi false .tuple (.cons (.lc false [15] (.range1 (.sub (.var 0) (.con (.int 0)))) (.name 15) .no b__law_mixed_E3) .nil))) (.cons (.append (.var 4) (.var 9)) (.cons (.asg (.name 6) (.var 9)) .nil))))))
def b__law_mixed : SSs := (.cons (.asg (.tup [(.name 4), (.name 5), (.name 6)]) (.tup (.cons (.lst true .nil) (.cons (.lst true .nil) (.cons (.bin false .mul (.tup (.cons (.con (.int 0)) .nil)) (.sub (.var 0) (.con (.int 0)))) .nil))))) (.cons (.for_ (.name 7) (.range1 (.bin false .add (.sub (.var 0) (.con (.int 1))) (.con (.int 1)))) b__law_mixed_L0) (.cons (.ret (.tup (.cons (.var 4) (.cons (.bi false .tuple (.cons (.var 5) .nil)) .nil)))) .nil)))
def b__law_between_T0 : Exo := (.so (.not_ (.chain .le .le (.sub (.var 3) (.var 6)) (.sub (.var 4) (.var 6)) (.sub (.var 5) (.var 6)))))
def b__law_between_E0 : Ex := (.var 6)
def b__law_between_L0 : SSs := (.cons (.ifs (.cmp .ne (.lc false [6] (.range1 (.bi false .len (.cons (.var 4) .nil))) (.name 6) b__law_between_T0 b__law_between_E0) (.lst false .nil)) (.cons (.ret (.con (.bl false))) .nil) .nil) .nil)
def b__law_between : SSs := (.cons (.for_ (.tup [(.name 3), (.name 4), (.name 5)]) (.zip3 (.var 0) (.var 1) (.var 2)) b__law_between_L0) (.cons (.ret (.con (.bl true))) .nil))
def b_law_k04_T0 : Exo := (.so (.cmp .eq (.sub (.sub (.var 4) (.sub (.var 19) (.con (.int 0)))) (.sub (.var 19) (.con (.int 1)))) (.sub (.var 19) (.con (.int 2)))))
def b_law_k04_E0 : Ex := (.var 19)
def b_law_k04_L0 : SSs := (.cons (.ifs (.or_ (.cmp .ne (.sub (.sub (.var 11) (.var 15)) (.var 16)) (.var 17)) (.cmp .ne (.sub (.sub (.var 13) (.var 15)) (.var 16)) (.var 17))) (.cons (.ret (.con (.bl false))) .nil) .nil) .nil)
def b_law_k04_L1 : SSs := (.cons (.asg (.tup [(.name 21), (.name 22)]) (.call "_law_mixed" (.cons (.var 2) (.cons (.var 19) (.cons (.var 20) (.cons (.var 18) .nil)))))) (.cons (.ifs (.or_ (.isB true true (.call "is_story" (.cons (.var 2) (.cons (.tup .nil) (.cons (.var 22) .nil))))) (.cmp .ne (.call "_law_lengths" (.cons (.var 2) (.cons (.var 22) .nil))) (.var 21))) (.cons (.ret (.con (.bl false))) .nil) .nil) .nil))
def b_law_k04_L2 : SSs := (.cons (.for_ (.tup [(.name 19), (.name 20)]) (.of (.lst false (.cons (.tup (.cons (.var 4) (.cons (.var 11) .nil))) (.cons (.tup (.cons (.var 4) (.cons (.var 13) .nil))) (.cons (.tup (.cons (.var 7) (.cons (.var 11) .nil))) (.cons (.tup (.cons (.var 5) (.cons (.var 13) .nil))) .nil)))))) b_law_k04_L1) .nil)
def b_law_k04_L3 : SSs := (.cons (.asg (.tup [(.name 2), (.name 3)]) (.call "_law_run" (.cons (.var 1) (.cons (.bin false .add (.con (.int 1)) (.call "_law_take" (.cons (.var 1) (.cons (.con (.int 4)) .nil)))) (.cons (.call "_law_take" (.cons (.var 1) (.cons (.con (.int 31)) .nil))) (.cons (.con (.int 16)) .nil)))))) (.cons (.asg (.name 4) (.call "_law_lengths" (.cons (.var 2) (.cons (.var 3) .nil)))) (.cons (.asg (.tup [(.tup [(.name 5), (.name 6)]), (.tup [(.name 7), (.name 8)])]) (.tup (.cons (.call "longest" (.cons (.var 2) (.cons (.tup .nil) .nil))) (.cons (.call "shortest" (.cons (.var 2) (.cons (.tup .nil) .nil))) .nil)))) (.cons (.ifs (.not_ (.call "_law_between" (.cons (.var 7) (.cons (.var 4) (.cons (.var 5) .nil))))) (.cons (.ret (.con (.bl false))) .nil) .nil) (.cons (.ifs (.or_ (.cmp .ne (.call "_law_lengths" (.cons (.var 2) (.cons (.var 6) .nil))) (.var 5)) (.cmp .ne (.call "_law_lengths" (.cons (.var 2) (.cons (.var 8) .nil))) (.var 7))) (.cons (.ret (.con (.bl false))) .nil) .nil) (.cons (.ifs (.or_ (.isB true true (.call "is_story" (.cons (.var 2) (.cons (.tup .nil) (.cons (.var 6) .nil))))) (.isB true true (.call "is_story" (.cons (.var 2) (.cons (.tup .nil) (.cons (.var 8) .nil)))))) (.cons (.ret (.con (.bl false))) .nil) .nil) (.cons (.asg (.name 9) (.call "_law_sights" (.cons (.var 1) (.cons (.var 2) (.cons (.con (.int 6)) (.cons (.var 4) .nil)))))) (.cons (.asg (.name 10) (.lc false [19] (.of (.var 9)) (.name 19) b_law_k04_T0 b_law_k04_E0)) (.cons (.asg (.tup [(.tup [(.name 11), (.name 12)]), (.tup [(.name 13), (.name 14)])]) (.tup (.cons (.call "longest" (.cons (.var 2) (.cons (.bi false .tuple (.cons (.var 10) .nil)) .nil))) (.cons (.call "shortest" (.cons (.var 2) (.cons (.bi false .tuple (.cons (.var 10) .nil)) .nil))) .nil)))) (.cons (.ifs (.or_ (.not_ (.call "_law_between" (.cons (.var 7) (.cons (.var 13) (.cons (.var 4) .nil))))) (.not_ (.call "_law_between" (.cons (.var 4) (.cons (.var 11) (.cons (.var 5) .nil)))))) (.cons (.ret (.con (.bl false))) .nil) .nil) (.cons (.for_ (.tup [(.name 15), (.name 16), (.name 17)]) (.of (.var 10)) b_law_k04_L0) (.cons (.for_ (.name 18) (.of (.tup (.cons (.con (.bl true)) (.cons (.con (.bl false)) .nil)))) b_law_k04_L2) .nil))))))))))))
def b_law_k04 : SSs := (.cons (.for_ (.name 1) (.of (.call "_law_bags" (.cons (.var 0) (.cons (.con (.int 6)) .nil)))) b_law_k04_L3) (.cons (.ret (.con (.bl true))) .nil))
def b_ring : SSs := (.cons (.ex (.call "look_at" (.cons (.var 0) (.cons (.var 1) .nil)))) (.cons (.ret (.fld (.new "Bounds" (.cons (.var 0) (.cons (.var 1) .nil))) "ring")) .nil))
def b_is_fact : SSs := (.cons (.ifs (.or_ (.not_ (.isi (.var 2) [.tuple])) (.or_ (.not_ (.chain .le .le (.con (.int 2)) (.bi false .len (.cons (.var 2) .nil)) (.con (.int 3)))) (.not_ (.isi (.sub (.var 2) (.con (.int 0))) [.str])))) (.cons (.ret (.con (.bl false))) .nil) .nil) (.cons (.asg (.tup [(.name 3), (.name 4), (.name 5)]) (.var 0)) (.cons (.ifs (.cmp .in_ (.sub (.var 2) (.con (.int 0))) (.tup (.cons (.con (.str "least")) (.cons (.con (.str "most")) .nil)))) (.cons (.ret (.and_ (.cmp .eq (.bi false .len (.cons (.var 2) .nil)) (.con (.int 2))) (.call "is_within" (.cons (.sub (.var 2) (.con (.int 1))) (.cons (.con (.int 0)) (.cons (.bin false .sub (.bi false .len (.cons (.var 1) .nil)) (.con (.int 1))) .nil)))))) .nil) .nil) (.cons (.ifs (.or_ (.cmp .ne (.bi false .len (.cons (.var 2) .nil)) (.con (.int 3))) (.cmp .nin (.sub (.var 2) (.con (.int 0))) (.tup (.cons (.con (.str "one")) (.cons (.con (.str "back")) (.cons (.con (.str "there")) (.cons (.con (.str "joined")) .nil))))))) (.cons (.ret (.con (.bl false))) .nil) .nil) (.cons (.ifs (.cmp .ne (.sub (.var 2) (.con (.int 0))) (.con (.str "joined"))) (.cons (.ret (.and_ (.call "is_within" (.cons (.sub (.var 2) (.con (.int 1))) (.cons (.con (.int 0)) (.cons (.bin false .sub (.var 3) (.con (.int 1))) .nil)))) (.call "is_within" (.cons (.sub (.var 2) (.con (.int 2))) (.cons (.con (.int 0)) (.cons (.var 4) .nil)))))) .nil) .nil) (.cons (.ifs (.or_ (.not_ (.call "is_within" (.cons (.sub (.var 2) (.con (.int 1))) (.cons (.con (.int 0)) (.cons (.bin false .sub (.bi false .len (.cons (.var 5) .nil)) (.con (.int 1))) .nil))))) (.not_ (.call "is_within" (.cons (.sub (.var 2) (.con (.int 2))) (.cons (.con (.int 0)) (.cons (.bin false .sub (.var 3) (.con (.int 1))) .nil)))))) (.cons (.ret (.con (.bl false))) .nil) .nil) (.cons (.ret (.cmp .ne (.sub (.var 2) (.con (.int 2))) (.sub (.sub (.var 5) (.sub (.var 2) (.con (.int 1)))) (.con (.int 1))))) .nil)))))))
def b_is_ring_E0 : Ex := (.call "is_fact" (.cons (.var 0) (.cons (.var 1) (.cons (.var 4) .nil))))
def b_is_ring_E1 : Ex := (.call "fact_of" (.cons (.var 0) (.cons (.var 1) (.cons (.var 4) .nil))))
def b_is_ring_E2 : Ex := (.cmp .eq (.sub (.var 4) (.con (.int 1))) (.sub (.var 5) (.con (.int 0))))
def b_is_ring_E3 : Ex := (.var 6)
def b_is_ring : SSs := (.cons (.ex (.call "look_at" (.cons (.var 0) (.cons (.var 1) .nil)))) (.cons (.ifs (.or_ (.not_ (.isi (.var 2) [.tuple])) (.or_ (.cmp .eq (.var 2) (.tup .nil)) (.not_ (.bi false .all (.cons (.lc false [4] (.of (.var 2)) (.name 4) .no b_is_ring_E0) .nil))))) (.cons (.ret (.con (.bl false))) .nil) .nil) (.cons (.asg (.name 3) (.lc false [4] (.of (.var 2)) (.name 4) .no b_is_ring_E1)) (.cons (.ifs (.not_ (.bi false .all (.cons (.lc false [4, 5] (.zip2 (.var 3) (.bin false .add (.slice false (.var 3) (.so (.con (.int 1))) .no) (.slice false (.var 3) .no (.so (.con (.int 1)))))) (.tup [(.name 4), (.name 5)]) .no b_is_ring_E2) .nil))) (.cons (.ret (.con (.bl false))) .nil) .nil) (.cons (.ret (.cmp .lt (.bi false .sum (.cons (.lc false [4, 5, 6] (.of (.var 3)) (.tup [(.name 4), (.name 5), (.name 6)]) .no b_is_ring_E3) .nil)) (.con (.int 0)))) .nil)))))
def b__law_true_T0 : Exo := (.so (.cmp .eq (.sub (.sub (.var 3) (.sub (.var 4) (.con (.int 0)))) (.sub (.var 4) (.con (.int 1)))) (.sub (.var 4) (.con (.int 2)))))
def b__law_true_E0 : Ex := (.var 4)
def b__law_true : SSs := (.cons (.asg (.name 3) (.call "_law_lengths" (.cons (.var 1) (.cons (.var 2) .nil)))) (.cons (.ret (.bi false .sortedSet (.cons (.lc false [4] (.of (.call "_law_sights" (.cons (.var 0) (.cons (.var 1) (.cons (.con (.int 6)) (.cons (.var 3) .nil)))))) (.name 4) b__law_true_T0 b__law_true_E0) .nil))) .nil))
def b__law_node : SSs := (.cons (.ret (.ite (.cmp .lt (.var 1) (.con (.int 0))) (.con (.str "nought")) (.tup (.cons (.var 0) (.cons (.var 1) .nil))))) .nil)
def b__law_fact_T0 : Exo := (.so (.and_ (.cmp .eq (.var 17) (.var 7)) (.cmp .le (.var 16) (.var 6))))
def b__law_fact_E0 : Ex := (.con (.int 1))
def b__law_fact_E1 : Ex := (.sub (.var 15) (.con (.int 1)))
def b__law_fact_T1 : Exo := (.so (.and_ (.cmp .eq (.var 17) (.sub (.var 2) (.con (.int 1)))) (.cmp .lt (.var 16) (.sub (.var 2) (.con (.int 2))))))
def b__law_fact_E2 : Ex := (.con (.int 1))
def b__law_fact : SSs := (.cons (.asg (.tup [(.name 3), (.name 4), (.name 5)]) (.var 0)) (.cons (.ifs (.or_ (.not_ (.isi (.var 2) [.tuple])) (.or_ (.cmp .nin (.bi false .len (.cons (.var 2) .nil)) (.tup (.cons (.con (.int 2)) (.cons (.con (.int 3)) .nil)))) (.not_ (.isi (.sub (.var 2) (.con (.int 0))) [.str])))) (.cons (.ret (.con .non)) .nil) .nil) (.cons (.ifs (.cmp .eq (.bi false .len (.cons (.var 2) .nil)) (.con (.int 2))) (.cons (.ifs (.or_ (.cmp .nin (.sub (.var 2) (.con (.int 0))) (.tup (.cons (.con (.str "least")) (.cons (.con (.str "most")) .nil)))) (.not_ (.call "_law_in" (.cons (.sub (.var 2) (.con (.int 1))) (.cons (.con (.int 0)) (.cons (.bin false .sub (.bi false .len (.cons (.var 1) .nil)) (.con (.int 1))) .nil)))))) (.cons (.ret (.con .non)) .nil) .nil) (.cons (.asg (.tup [(.name 6), (.name 7), (.name 8)]) (.sub (.var 1) (.sub (.var 2) (.con (.int 1))))) (.cons (.asg (.name 9) (.bin false .sub (.bi false .len (.cons (.lc false [16, 17] (.of (.var 5)) (.tup [(.name 16), (.name 17)]) b__law_fact_T0 b__law_fact_E0) .nil)) (.var 8))) (.cons (.ret (.ite (.cmp .eq (.sub (.var 2) (.con (.int 0))) (.con (.str "least"))) (.tup (.cons (.con (.str "nought")) (.cons (.tup (.cons (.var 7) (.cons (.var 6) .nil))) (.cons (.bin false .sub (.con (.int 0)) (.var 9)) .nil)))) (.tup (.cons (.tup (.cons (.var 7) (.cons (.var 6) .nil))) (.cons (.con (.str "nought")) (.cons (.var 9) .nil)))))) .nil)))) .nil) (.cons (.ifs (.cmp .eq (.sub (.var 2) (.con (.int 0))) (.con (.str "joined"))) (.cons (.ifs (.or_ (.not_ (.call "_law_in" (.cons (.sub (.var 2) (.con (.int 1))) (.cons (.con (.int 0)) (.cons (.bin false .sub (.bi false .len (.cons (.var 5) .nil)) (.con (.int 1))) .nil))))) (.or_ (.not_ (.call "_law_in" (.cons (.sub (.var 2) (.con (.int 2))) (.cons (.con (.int 0)) (.cons (.bin false .sub (.var 3) (.con (.int 1))) .nil))))) (.cmp .eq (.sub (.var 2) (.con (.int 2))) (.sub (.sub (.var 5) (.sub (.var 2) (.con (.int 1)))) (.con (.int 1)))))) (.cons (.ret (.con .non)) .nil) .nil) (.cons (.asg (.tup [(.name 6), (.name 10)]) (.sub (.var 5) (.sub (.var 2) (.con (.int 1))))) (.cons (.asg (.name 11) (.lc false [15] (.of (.slice false (.var 5) .no (.so (.sub (.var 2) (.con (.int 1)))))) (.name 15) .no b__law_fact_E1)) (.cons (.asg (.name 12) (.bin false .sub (.bin false .sub (.mth .count (.var 11) (.sub (.var 2) (.con (.int 2)))) (.mth .count (.var 11) (.var 10))) (.ite (.cmp .lt (.sub (.var 2) (.con (.int 2))) (.var 10)) (.con (.int 1)) (.con (.int 0))))) (.cons (.ret (.tup (.cons (.tup (.cons (.sub (.var 2) (.con (.int 2))) (.cons (.var 6) .nil))) (.cons (.tup (.cons (.var 10) (.cons (.var 6) .nil))) (.cons (.var 12) .nil))))) .nil))))) .nil) (.cons (.ifs (.or_ (.cmp .nin (.sub (.var 2) (.con (.int 0))) (.tup (.cons (.con (.str "one")) (.cons (.con (.str "back")) (.cons (.con (.str "there")) .nil))))) (.or_ (.not_ (.call "_law_in" (.cons (.sub (.var 2) (.con (.int 1))) (.cons (.con (.int 0)) (.cons (.bin false .sub (.var 3) (.con (.int 1))) .nil))))) (.not_ (.call "_law_in" (.cons (.sub (.var 2) (.con (.int 2))) (.cons (.con (.int 0)) (.cons (.var 4) .nil))))))) (.cons (.ret (.con .non)) .nil) .nil) (.cons (.asg (.tup [(.name 13), (.name 14)]) (.tup (.cons (.call "_law_node" (.cons (.sub (.var 2) (.con (.int 1))) (.cons (.sub (.var 2) (.con (.int 2))) .nil))) (.cons (.call "_law_node" (.cons (.sub (.var 2) (.con (.int 1))) (.cons (.bin false .sub (.sub (.var 2) (.con (.int 2))) (.con (.int 1))) .nil))) .nil)))) (.cons (.ifs (.cmp .eq (.sub (.var 2) (.con (.int 0))) (.con (.str "there"))) (.cons (.ret (.tup (.cons (.var 13) (.cons (.con (.str "nought")) (.cons (.bi false .len (.cons (.lc false [16, 17] (.of (.var 5)) (.tup [(.name 16), (.name 17)]) b__law_fact_T1 b__law_fact_E2) .nil)) .nil))))) .nil) .nil) (.cons (.ret (.ite (.cmp .eq (.sub (.var 2) (.con (.int 0))) (.con (.str "one"))) (.tup (.cons (.var 13) (.cons (.var 14) (.cons (.con (.int 1)) .nil)))) (.tup (.cons (.var 14) (.cons (.var 13) (.cons (.con (.int 0)) .nil)))))) .nil))))))))
def b__law_is_ring_E0 : Ex := (.call "_law_fact" (.cons (.var 0) (.cons (.var 1) (.cons (.var 5) .nil))))
def b__law_is_ring_L0 : SSs := (.cons (.ifs (.cmp .ne (.sub (.sub (.var 3) (.bin false .sub (.var 4) (.con (.int 1)))) (.con (.int 1))) (.sub (.sub (.var 3) (.var 4)) (.con (.int 0)))) (.cons (.ret (.con (.bl false))) .nil) .nil) .nil)
def b__law_is_ring_E1 : Ex := (.sub (.var 6) (.con (.int 2)))
def b__law_is_ring : SSs := (.cons (.ifs (.or_ (.not_ (.isi (.var 2) [.tuple])) (.cmp .eq (.var 2) (.tup .nil))) (.cons (.ret (.con (.bl false))) .nil) .nil) (.cons (.asg (.name 3) (.lc false [5] (.of (.var 2)) (.name 5) .no b__law_is_ring_E0)) (.cons (.ifs (.cmp .in_ (.con .non) (.var 3)) (.cons (.ret (.con (.bl false))) .nil) .nil) (.cons (.for_ (.name 4) (.range1 (.bi false .len (.cons (.var 3) .nil))) b__law_is_ring_L0) (.cons (.ret (.cmp .lt (.bi false .sum (.cons (.lc false [6] (.of (.var 3)) (.name 6) .no b__law_is_ring_E1) .nil)) (.con (.int 0)))) .nil)))))
def b__law_a_fact : SSs := (.cons (.asg (.name 2) (.sub (.lst false (.cons (.con (.str "one")) (.cons (.con (.str "back")) (.cons (.con (.str "there")) (.cons (.con (.str "joined")) (.cons (.con (.str "least")) (.cons (.con (.str "most")) .nil))))))) (.call "_law_take" (.cons (.var 0) (.cons (.con (.int 6)) .nil))))) (.cons (.ifs (.cmp .in_ (.var 2) (.tup (.cons (.con (.str "least")) (.cons (.con (.str "most")) .nil)))) (.cons (.ret (.tup (.cons (.var 2) (.cons (.call "_law_take" (.cons (.var 0) (.cons (.con (.int 6)) .nil))) .nil)))) .nil) .nil) (.cons (.ret (.tup (.cons (.var 2) (.cons (.call "_law_take" (.cons (.var 0) (.cons (.con (.int 5)) .nil))) (.cons (.call "_law_take" (.cons (.var 0) (.cons (.con (.int 7)) .nil))) .nil))))) .nil)))
def b__law_things_E0 : Ex := (.call "_law_a_fact" (.cons (.var 0) (.cons (.var 1) .nil)))
def b__law_things : SSs := (.cons (.asg (.name 3) (.lst true (.cons (.con .non) (.cons (.tup .nil) (.cons (.con (.int 7)) (.cons (.tup (.cons (.con .non) .nil)) (.cons (.tup (.cons (.tup (.cons (.con (.str "one")) (.cons (.con (.int 0)) .nil))) .nil)) (.cons (.tup (.cons (.tup (.cons (.con (.str "there")) (.cons (.con (.int 0)) (.cons (.con (.int 0)) .nil)))) (.cons (.tup (.cons (.con (.str "one")) (.cons (.con (.int 0)) (.cons (.con (.int 0)) .nil)))) .nil))) (.cons (.tup (.cons (.tup (.cons (.con (.str "one")) (.cons (.con (.int 0)) (.cons (.con (.int 0)) .nil)))) (.cons (.tup (.cons (.con (.str "back")) (.cons (.con (.int 0)) (.cons (.con (.int 0)) .nil)))) .nil))) .nil))))))))) (.cons (.append (.var 3) (.bi false .tuple (.cons (.lc false [5] (.range1 (.bin false .add (.con (.int 1)) (.call "_law_take" (.cons (.var 0) (.cons (.con (.int 3)) .nil))))) (.name 5) .no b__law_things_E0) .nil))) (.cons (.ifs (.isN true (.var 2)) (.cons (.asg (.name 4) (.call "_law_take" (.cons (.var 0) (.cons (.bi false .len (.cons (.var 2) .nil)) .nil)))) (.cons (.asg (.name 3) (.bin true .add (.var 3) (.lst false (.cons (.var 2) (.cons (.bin false .add (.slice false (.var 2) (.so (.var 4)) .no) (.slice false (.var 2) .no (.so (.var 4)))) (.cons (.bin false .add (.slice false (.var 2) .no (.so (.var 4))) (.slice false (.var 2) (.so (.bin false .add (.var 4) (.con (.int 1)))) .no)) (.cons (.bi false .list (.cons (.var 2) .nil)) .nil))))))) (.cons (.asg (.name 3) (.bin true .add (.var 3) (.bin false .mul (.lst false (.cons (.bin false .add (.var 2) (.var 2)) .nil)) (.bi false .int (.cons (.cmp .lt (.bi false .len (.cons (.var 2) .nil)) (.con (.int 101))) .nil))))) (.cons (.asg (.name 3) (.bin true .add (.var 3) (.lst false (.cons (.rev false (.var 2)) (.cons (.bin false .add (.bin false .add (.slice false (.var 2) .no (.so (.var 4))) (.tup (.cons (.call "_law_a_fact" (.cons (.var 0) (.cons (.var 1) .nil))) .nil))) (.slice false (.var 2) (.so (.bin false .add (.var 4) (.con (.int 1)))) .no)) .nil))))) (.cons (.append (.var 3) (.bin false .add (.bin false .add (.slice false (.var 2) .no (.so (.var 4))) (.tup (.cons (.bin false .add (.slice false (.sub (.var 2) (.var 4)) .no (.so (.neg (.con (.int 1))))) (.tup (.cons (.con (.bl true)) .nil))) .nil))) (.slice false (.var 2) (.so (.bin false .add (.var 4) (.con (.int 1)))) .no))) .nil))))) .nil) (.cons (.ret (.var 3)) .nil))))
def b__law_bent_k05 : SSs := (.cons (.asg (.tup [(.name 2), (.name 3), (.name 4)]) (.var 1)) (.cons (.ifs (.or_ (.cmp .eq (.var 4) (.tup .nil)) (.cmp .eq (.call "_law_take" (.cons (.var 0) (.cons (.con (.int 4)) .nil))) (.con (.int 0)))) (.cons (.ret (.var 1)) .nil) .nil) (.cons (.asg (.name 5) (.call "_law_take" (.cons (.var 0) (.cons (.bi false .len (.cons (.var 4) .nil)) .nil)))) (.cons (.ret (.tup (.cons (.var 2) (.cons (.var 3) (.cons (.bin false .add (.bin false .add (.slice false (.var 4) .no (.so (.var 5))) (.tup (.cons (.tup (.cons (.sub (.sub (.var 4) (.var 5)) (.con (.int 0))) (.cons (.call "_law_take" (.cons (.var 0) (.cons (.var 2) .nil))) .nil))) .nil))) (.slice false (.var 4) (.so (.bin false .add (.var 5) (.con (.int 1)))) .no)) .nil))))) .nil))))
def b_law_k05_L0 : SSs := (.cons (.asg (.name 9) (.call "_law_is_ring" (.cons (.var 4) (.cons (.var 6) (.cons (.var 8) .nil))))) (.cons (.ifs (.or_ (.not_ (.call "_law_same" (.cons (.call "is_ring" (.cons (.var 4) (.cons (.var 6) (.cons (.var 8) .nil)))) (.cons (.var 9) .nil)))) (.and_ (.var 9) (.isN false (.var 7)))) (.cons (.ret (.con (.bl false))) .nil) .nil) .nil))
def b_law_k05_L1 : SSs := (.cons (.asg (.name 6) (.call "_law_sights" (.cons (.var 1) (.cons (.var 4) (.cons (.con (.int 3)) (.cons (.lst false .nil) .nil)))))) (.cons (.asg (.name 7) (.call "ring" (.cons (.var 4) (.cons (.var 6) .nil)))) (.cons (.ifs (.cmp .ne (.isN false (.var 7)) (.call "can_be" (.cons (.var 4) (.cons (.var 6) .nil)))) (.cons (.ret (.con (.bl false))) .nil) .nil) (.cons (.ifs (.and_ (.isN true (.var 7)) (.not_ (.call "_law_is_ring" (.cons (.var 4) (.cons (.var 6) (.cons (.var 7) .nil)))))) (.cons (.ret (.con (.bl false))) .nil) .nil) (.cons (.ifs (.and_ (.var 5) (.cmp .ne (.isN false (.var 7)) (.cmp .ne (.call "_law_stories" (.cons (.var 4) (.cons (.var 6) .nil))) (.lst false .nil)))) (.cons (.ret (.con (.bl false))) .nil) .nil) (.cons (.for_ (.name 8) (.of (.call "_law_things" (.cons (.var 1) (.cons (.var 4) (.cons (.var 7) .nil))))) b_law_k05_L0) .nil))))))
def b_law_k05_L2 : SSs := (.cons (.asg (.tup [(.name 2), (.name 3)]) (.call "_law_run" (.cons (.var 1) (.cons (.bin false .add (.con (.int 1)) (.call "_law_take" (.cons (.var 1) (.cons (.con (.int 4)) .nil)))) (.cons (.call "_law_take" (.cons (.var 1) (.cons (.con (.int 31)) .nil))) (.cons (.con (.int 16)) .nil)))))) (.cons (.for_ (.tup [(.name 4), (.name 5)]) (.of (.lst false (.cons (.tup (.cons (.call "_law_small" (.cons (.var 1) .nil)) (.cons (.con (.bl true)) .nil))) (.cons (.tup (.cons (.call "_law_bent" (.cons (.var 1) (.cons (.var 2) .nil))) (.cons (.con (.bl false)) .nil))) .nil)))) b_law_k05_L1) (.cons (.ifs (.or_ (.isN true (.call "ring" (.cons (.var 2) (.cons (.tup .nil) .nil)))) (.isN true (.call "ring" (.cons (.var 2) (.cons (.bi false .tuple (.cons (.call "_law_true" (.cons (.var 1) (.cons (.var 2) (.cons (.var 3) .nil)))) .nil)) .nil))))) (.cons (.ret (.con (.bl false))) .nil) .nil) .nil)))
def b_law_k05 : SSs := (.cons (.for_ (.name 1) (.of (.call "_law_bags" (.cons (.var 0) (.cons (.con (.int 5)) .nil)))) b_law_k05_L2) (.cons (.ret (.isN true (.call "ring" (.cons (.tup (.cons (.con (.int 2)) (.cons (.con (.int 0)) (.cons (.tup (.cons (.tup (.cons (.con (.int 0)) (.cons (.con (.int 1)) .nil))) .nil)) .nil)))) (.cons (.tup .nil) .nil))))) .nil))
def b_first_tick_L0 : SSs := (.cons (.ifs (.cmp .ge (.sub (.var 4) (.var 1)) (.var 2)) (.cons (.ret (.var 3)) .nil) .nil) .nil)
def b_first_tick : SSs := (.cons (.for_ (.tup [(.name 3), (.name 4)]) (.enum (.var 0)) b_first_tick_L0) (.cons (.ret (.con .non)) .nil))
def b_served_when : SSs := (.cons (.ex (.call "look_at" (.cons (.var 0) (.cons (.var 1) .nil)))) (.cons (.ifs (.not_ (.call "is_within" (.cons (.var 2) (.cons (.con (.int 0)) (.cons (.bin false .sub (.bi false .len (.cons (.sub (.var 0) (.con (.int 2))) .nil)) (.con (.int 1))) .nil))))) (.cons .bad .nil) .nil) (.cons (.asg (.tup [(.name 3), (.name 4)]) (.tup (.cons (.call "served_table" (.cons (.var 0) (.cons (.var 1) (.cons (.con (.bl true)) .nil)))) (.cons (.call "served_table" (.cons (.var 0) (.cons (.var 1) (.cons (.con (.bl false)) .nil)))) .nil)))) (.cons (.ifs (.or_ (.isN false (.var 3)) (.isN false (.var 4))) (.cons (.ret (.con .non)) .nil) .nil) (.cons (.asg (.name 5) (.sub (.sub (.sub (.var 0) (.con (.int 2))) (.var 2)) (.con (.int 1)))) (.cons (.asg (.name 6) (.bin false .add (.call "joined_ahead" (.cons (.var 0) (.cons (.var 2) (.cons (.var 5) .nil)))) (.con (.int 1)))) (.cons (.ret (.tup (.cons (.call "first_tick" (.cons (.var 3) (.cons (.var 5) (.cons (.var 6) .nil)))) (.cons (.call "first_tick" (.cons (.var 4) (.cons (.var 5) (.cons (.var 6) .nil)))) .nil)))) .nil)))))))
def b__law_tick_T0 : Exo := (.so (.cmp .eq (.sub (.var 7) (.con (.int 1))) (.var 3)))
def b__law_tick_E0 : Ex := (.con (.int 1))
def b__law_tick_L0 : SSs := (.cons (.asg (.name 4) (.bin false .sub (.var 4) (.sub (.var 6) (.var 3)))) (.cons (.ifs (.cmp .eq (.var 4) (.con (.int 0))) (.cons (.ret (.var 5)) .nil) .nil) .nil))
def b__law_tick : SSs := (.cons (.asg (.name 3) (.sub (.sub (.sub (.var 0) (.con (.int 2))) (.var 2)) (.con (.int 1)))) (.cons (.asg (.name 4) (.bin false .add (.con (.int 1)) (.bi false .len (.cons (.lc false [7] (.of (.slice false (.sub (.var 0) (.con (.int 2))) .no (.so (.var 2)))) (.name 7) b__law_tick_T0 b__law_tick_E0) .nil)))) (.cons (.for_ (.tup [(.name 5), (.name 6)]) (.enum (.var 1)) b__law_tick_L0) (.cons (.ret (.con .non)) .nil))))
def b__law_far : SSs := (.cons (.ret (.ite (.isN false (.var 0)) (.con (.int 99)) (.var 0))) .nil)
def b__law_great_so_k06_E0 : Ex := (.call "_law_take" (.cons (.var 0) (.cons (.bi false .len (.cons (.sub (.var 1) (.con (.int 2))) .nil)) .nil)))
def b__law_great_so_k06_L0 : SSs := (.cons (.asg (.tup [(.name 7), (.name 8)]) (.sub (.sub (.var 1) (.con (.int 2))) (.var 6))) (.cons (.asg (.tup [(.name 9), (.name 10)]) (.call "served_when" (.cons (.var 1) (.cons (.var 3) (.cons (.var 6) .nil))))) (.cons (.asg (.name 11) (.call "served_when" (.cons (.var 1) (.cons (.tup .nil) (.cons (.var 6) .nil))))) (.cons (.asg (.name 12) (.call "_law_far" (.cons (.call "_law_tick" (.cons (.var 1) (.cons (.var 2) (.cons (.var 6) .nil)))) .nil))) (.cons (.ifs (.or_ (.not_ (.chain .le .le (.call "_law_far" (.cons (.var 9) .nil)) (.var 12) (.call "_law_far" (.cons (.var 10) .nil)))) (.cmp .le (.call "_law_far" (.cons (.var 9) .nil)) (.var 7))) (.cons (.ret (.con (.bl false))) .nil) .nil) (.cons (.ifs (.or_ (.cmp .gt (.call "_law_far" (.cons (.sub (.var 11) (.con (.int 0))) .nil)) (.call "_law_far" (.cons (.var 9) .nil))) (.cmp .lt (.call "_law_far" (.cons (.sub (.var 11) (.con (.int 1))) .nil)) (.call "_law_far" (.cons (.var 10) .nil)))) (.cons (.ret (.con (.bl false))) .nil) .nil) (.cons (.ifs (.and_ (.cmp .in_ (.var 8) (.var 4)) (.or_ (.cmp .lt (.call "_law_far" (.cons (.var 9) .nil)) (.sub (.sub (.var 4) (.var 8)) (.con (.int 0)))) (.cmp .lt (.call "_law_far" (.cons (.var 10) .nil)) (.sub (.sub (.var 4) (.var 8)) (.con (.int 1)))))) (.cons (.ret (.con (.bl false))) .nil) .nil) (.cons (.setSub (.var 4) (.var 8) (.tup (.cons (.call "_law_far" (.cons (.var 9) .nil)) (.cons (.call "_law_far" (.cons (.var 10) .nil)) .nil)))) .nil))))))))
def b__law_great_so_k06 : SSs := (.cons (.asg (.tup [(.name 1), (.name 2)]) (.call "_law_run" (.cons (.var 0) (.cons (.bin false .add (.con (.int 1)) (.call "_law_take" (.cons (.var 0) (.cons (.con (.int 4)) .nil)))) (.cons (.call "_law_take" (.cons (.var 0) (.cons (.con (.int 31)) .nil))) (.cons (.con (.int 16)) .nil)))))) (.cons (.asg (.tup [(.name 3), (.name 4)]) (.tup (.cons (.bi false .tuple (.cons (.call "_law_true" (.cons (.var 0) (.cons (.var 1) (.cons (.var 2) .nil)))) .nil)) (.cons (.dct .nil .nil) .nil)))) (.cons (.asg (.name 5) (.ite (.cmp .ne (.sub (.var 1) (.con (.int 2))) (.tup .nil)) (.bi false .sortedSet (.cons (.lc false [13] (.range1 (.con (.int 4))) (.name 13) .no b__law_great_so_k06_E0) .nil)) (.lst false .nil))) (.cons (.for_ (.name 6) (.of (.var 5)) b__law_great_so_k06_L0) (.cons (.ret (.con (.bl true))) .nil)))))
def b_law_k06_E0 : Ex := (.call "_law_far" (.cons (.call "_law_tick" (.cons (.var 2) (.cons (.var 10) (.cons (.var 7) .nil)))) .nil))
def b_law_k06_E1 : Ex := (.ite (.cmp .eq (.var 12) (.con (.int 99))) (.con .non) (.var 12))
def b_law_k06_L0 : SSs := (.cons (.asg (.name 8) (.con .non)) (.cons (.ifs (.cmp .ne (.var 6) (.lst false .nil)) (.cons (.asg (.name 9) (.bi false .sorted (.cons (.lc false [10, 11] (.of (.var 6)) (.tup [(.name 10), (.name 11)]) .no b_law_k06_E0) .nil))) (.cons (.asg (.name 8) (.bi false .tuple (.cons (.lc false [12] (.of (.tup (.cons (.sub (.var 9) (.con (.int 0))) (.cons (.sub (.var 9) (.neg (.con (.int 1)))) .nil)))) (.name 12) .no b_law_k06_E1) .nil))) .nil)) .nil) (.cons (.ifs (.not_ (.call "_law_same" (.cons (.call "served_when" (.cons (.var 2) (.cons (.var 5) (.cons (.var 7) .nil)))) (.cons (.var 8) .nil)))) (.cons (.ret (.con (.bl false))) .nil) .nil) .nil)))
def b_law_k06_L1 : SSs := (.cons (.asg (.name 2) (.call "_law_small" (.cons (.var 1) .nil))) (.cons (.asg (.name 3) (.call "_law_stories" (.cons (.var 2) (.cons (.tup .nil) .nil)))) (.cons (.asg (.name 4) (.ite (.cmp .ne (.var 3) (.lst false .nil)) (.bi false .list (.cons (.sub (.sub (.var 3) (.call "_law_take" (.cons (.var 1) (.cons (.bi false .len (.cons (.var 3) .nil)) .nil)))) (.con (.int 1))) .nil)) (.lst false .nil))) (.cons (.asg (.name 5) (.call "_law_sights" (.cons (.var 1) (.cons (.var 2) (.cons (.con (.int 2)) (.cons (.var 4) .nil)))))) (.cons (.asg (.name 6) (.call "_law_stories" (.cons (.var 2) (.cons (.var 5) .nil)))) (.cons (.for_ (.name 7) (.range1 (.bi false .len (.cons (.sub (.var 2) (.con (.int 2))) .nil))) b_law_k06_L0) (.cons (.ifs (.not_ (.call "_law_great_so" (.cons (.var 1) .nil))) (.cons (.ret (.con (.bl false))) .nil) .nil) .nil)))))))
def b_law_k06 : SSs := (.cons (.for_ (.name 1) (.of (.call "_law_bags" (.cons (.var 0) (.cons (.con (.int 4)) .nil)))) b_law_k06_L1) (.cons (.ret (.con (.bl true))) .nil))
def b_can_so : SSs := (.cons (.ret (.isN false (.fld (.new "Bounds" (.cons (.var 0) (.cons (.var 1) .nil))) "ring"))) .nil)
def b_next_lines_L0 : SSs := (.cons (.ifs (.call "can_so" (.cons (.tup (.cons (.var 2) (.cons (.var 3) (.cons (.bin false .add (.var 4) (.tup (.cons (.tup (.cons (.var 3) (.cons (.var 6) .nil))) .nil))) .nil)))) (.cons (.call "later_sights" (.cons (.var 1) (.cons (.var 3) (.cons (.var 6) .nil)))) .nil))) (.cons (.append (.var 5) (.var 6)) .nil) .nil) .nil)
def b_next_lines : SSs := (.cons (.ex (.call "look_at" (.cons (.var 0) (.cons (.var 1) .nil)))) (.cons (.asg (.tup [(.name 2), (.name 3), (.name 4)]) (.var 0)) (.cons (.asg (.name 5) (.lst true .nil)) (.cons (.for_ (.name 6) (.range1 (.var 2)) b_next_lines_L0) (.cons (.ret (.var 5)) .nil)))))
def b_later_sights_L0 : SSs := (.cons (.append (.var 3) (.tup (.cons (.var 4) (.cons (.var 5) (.cons (.bin false .add (.var 6) (.bi false .int (.cons (.cmp .eq (.tup (.cons (.var 4) (.cons (.var 5) .nil))) (.tup (.cons (.var 1) (.cons (.var 2) .nil)))) .nil))) .nil))))) .nil)
def b_later_sights : SSs := (.cons (.asg (.name 3) (.lst true .nil)) (.cons (.for_ (.tup [(.name 4), (.name 5), (.name 6)]) (.of (.var 0)) b_later_sights_L0) (.cons (.ret (.bi false .tuple (.cons (.var 3) .nil))) .nil)))
def b_mends_L0 : SSs := (.cons (.asg (.name 10) (.tup (.cons (.var 2) (.cons (.var 3) (.cons (.bin false .add (.bin false .add (.slice false (.var 4) .no (.so (.var 6))) (.tup (.cons (.tup (.cons (.var 7) (.cons (.var 9) .nil))) .nil))) (.slice false (.var 4) (.so (.bin false .add (.var 6) (.con (.int 1)))) .no)) .nil))))) (.cons (.ifs (.and_ (.cmp .ne (.var 9) (.var 8)) (.call "can_so" (.cons (.var 10) (.cons (.var 1) .nil)))) (.cons (.append (.var 5) (.tup (.cons (.var 6) (.cons (.var 9) .nil)))) .nil) .nil) .nil))
def b_mends_L1 : SSs := (.cons (.for_ (.name 9) (.range1 (.var 2)) b_mends_L0) .nil)
def b_mends : SSs := (.cons (.ex (.call "look_at" (.cons (.var 0) (.cons (.var 1) .nil)))) (.cons (.asg (.tup [(.name 2), (.name 3), (.name 4)]) (.var 0)) (.cons (.asg (.name 5) (.lst true .nil)) (.cons (.for_ (.tup [(.name 6), (.tup [(.name 7), (.name 8)])]) (.enum (.var 4)) b_mends_L1) (.cons (.ret (.var 5)) .nil)))))
def b__law_next_E0 : Ex := (.mth .index (.sub (.var 4) (.neg (.con (.int 1)))) (.bi false .min (.cons (.sub (.var 4) (.neg (.con (.int 1)))) .nil)))
def b__law_next : SSs := (.cons (.asg (.name 2) (.lc false [3, 4] (.of (.var 1)) (.tup [(.name 3), (.name 4)]) .no b__law_next_E0)) (.cons (.ret (.bi false .sortedSet (.cons (.var 2) .nil))) .nil))
def b__law_mends_L0 : SSs := (.cons (.asg (.name 10) (.tup (.cons (.var 2) (.cons (.var 3) (.cons (.bin false .add (.bin false .add (.slice false (.var 4) .no (.so (.var 6))) (.tup (.cons (.tup (.cons (.var 7) (.cons (.var 9) .nil))) .nil))) (.slice false (.var 4) (.so (.bin false .add (.var 6) (.con (.int 1)))) .no)) .nil))))) (.cons (.ifs (.and_ (.cmp .ne (.var 9) (.var 8)) (.cmp .ne (.call "_law_stories" (.cons (.var 10) (.cons (.var 1) .nil))) (.lst false .nil))) (.cons (.append (.var 5) (.tup (.cons (.var 6) (.cons (.var 9) .nil)))) .nil) .nil) .nil))
def b__law_mends_L1 : SSs := (.cons (.for_ (.name 9) (.range1 (.var 2)) b__law_mends_L0) .nil)
def b__law_mends : SSs := (.cons (.asg (.tup [(.name 2), (.name 3), (.name 4)]) (.var 0)) (.cons (.asg (.name 5) (.lst true .nil)) (.cons (.for_ (.tup [(.name 6), (.tup [(.name 7), (.name 8)])]) (.enum (.var 4)) b__law_mends_L1) (.cons (.ret (.var 5)) .nil))))
def b__law_great_so_k07_T0 : Exo := (.so (.cmp .lt (.sub (.var 13) (.con (.int 0))) (.var 5)))
def b__law_great_so_k07_E0 : Ex := (.var 13)
def b__law_great_so_k07_L0 : SSs := (.cons (.ifs (.not_ (.call "_law_same" (.cons (.call "can_be" (.cons (.tup (.cons (.var 4) (.cons (.var 5) (.cons (.bin false .add (.var 6) (.tup (.cons (.tup (.cons (.var 5) (.cons (.var 10) .nil))) .nil))) .nil)))) (.cons (.var 9) .nil))) (.cons (.cmp .in_ (.var 10) (.var 8)) .nil)))) (.cons (.ret (.con (.bl false))) .nil) .nil) .nil)
def b__law_great_so_k07 : SSs := (.cons (.asg (.tup [(.name 1), (.name 2)]) (.call "_law_run" (.cons (.var 0) (.cons (.bin false .add (.con (.int 1)) (.call "_law_take" (.cons (.var 0) (.cons (.con (.int 4)) .nil)))) (.cons (.call "_law_take" (.cons (.var 0) (.cons (.con (.int 16)) .nil))) (.cons (.con (.int 12)) .nil)))))) (.cons (.asg (.name 3) (.bi false .tuple (.cons (.call "_law_true" (.cons (.var 0) (.cons (.var 1) (.cons (.var 2) .nil)))) .nil))) (.cons (.asg (.tup [(.name 4), (.name 5), (.name 6)]) (.var 1)) (.cons (.asg (.name 7) (.sub (.call "_law_lengths" (.cons (.var 1) (.cons (.var 2) .nil))) (.neg (.con (.int 1))))) (.cons (.asg (.name 8) (.call "next_lines" (.cons (.var 1) (.cons (.var 3) .nil)))) (.cons (.ifs (.or_ (.cmp .nin (.mth .index (.var 7) (.bi false .min (.cons (.var 7) .nil))) (.var 8)) (.cmp .ne (.var 8) (.bi false .sortedSet (.cons (.var 8) .nil)))) (.cons (.ret (.con (.bl false))) .nil) .nil) (.cons (.asg (.name 9) (.bi false .tuple (.cons (.lc false [13] (.of (.var 3)) (.name 13) b__law_great_so_k07_T0 b__law_great_so_k07_E0) .nil))) (.cons (.asg (.name 8) (.call "next_lines" (.cons (.var 1) (.cons (.var 9) .nil)))) (.cons (.for_ (.name 10) (.range1 (.var 4)) b__law_great_so_k07_L0) (.cons (.ifs (.cmp .ne (.var 6) (.tup .nil)) (.cons (.asg (.tup [(.name 11), (.name 10)]) (.tup (.cons (.call "_law_take" (.cons (.var 0) (.cons (.bi false .len (.cons (.var 6) .nil)) .nil))) (.cons (.call "_law_take" (.cons (.var 0) (.cons (.var 4) .nil))) .nil)))) (.cons (.asg (.name 12) (.tup (.cons (.var 4) (.cons (.var 5) (.cons (.bin false .add (.bin false .add (.slice false (.var 6) .no (.so (.var 11))) (.tup (.cons (.tup (.cons (.sub (.sub (.var 6) (.var 11)) (.con (.int 0))) (.cons (.var 10) .nil))) .nil))) (.slice false (.var 6) (.so (.bin false .add (.var 11) (.con (.int 1)))) .no)) .nil))))) (.cons (.ifs (.and_ (.cmp .ne (.var 10) (.sub (.sub (.var 6) (.var 11)) (.con (.int 1)))) (.cmp .nin (.tup (.cons (.var 11) (.cons (.sub (.sub (.var 6) (.var 11)) (.con (.int 1))) .nil))) (.call "mends" (.cons (.var 12) (.cons (.tup .nil) .nil))))) (.cons (.ret (.con (.bl false))) .nil) .nil) .nil))) .nil) (.cons (.ret (.con (.bl true))) .nil)))))))))))
def b_law_k07_L0 : SSs := (.cons (.asg (.tup [(.name 7), (.name 8)]) (.tup (.cons (.call "next_lines" (.cons (.var 2) (.cons (.var 5) .nil))) (.cons (.call "mends" (.cons (.var 2) (.cons (.var 5) .nil))) .nil)))) (.cons (.ifs (.not_ (.call "_law_same" (.cons (.var 7) (.cons (.call "_law_next" (.cons (.var 2) (.cons (.call "_law_stories" (.cons (.var 2) (.cons (.var 5) .nil))) .nil))) .nil)))) (.cons (.ret (.con (.bl false))) .nil) .nil) (.cons (.ifs (.not_ (.call "_law_same" (.cons (.var 8) (.cons (.call "_law_mends" (.cons (.var 2) (.cons (.var 5) .nil))) .nil)))) (.cons (.ret (.con (.bl false))) .nil) .nil) (.cons (.append (.var 7) (.con .non)) (.cons (.append (.var 8) (.con .non)) .nil)))))
def b_law_k07_L1 : SSs := (.cons (.asg (.name 2) (.call "_law_small" (.cons (.var 1) .nil))) (.cons (.asg (.name 3) (.call "_law_stories" (.cons (.var 2) (.cons (.tup .nil) .nil)))) (.cons (.asg (.name 4) (.ite (.cmp .ne (.var 3) (.lst false .nil)) (.bi false .list (.cons (.sub (.sub (.var 3) (.call "_law_take" (.cons (.var 1) (.cons (.bi false .len (.cons (.var 3) .nil)) .nil)))) (.con (.int 1))) .nil)) (.lst false .nil))) (.cons (.asg (.name 5) (.call "_law_sights" (.cons (.var 1) (.cons (.var 2) (.cons (.con (.int 2)) (.cons (.var 4) .nil)))))) (.cons (.for_ (.name 6) (.range1 (.con (.int 2))) b_law_k07_L0) (.cons (.ifs (.not_ (.call "_law_great_so" (.cons (.var 1) .nil))) (.cons (.ret (.con (.bl false))) .nil) .nil) .nil))))))
def b_law_k07 : SSs := (.cons (.for_ (.name 1) (.of (.call "_law_bags" (.cons (.var 0) (.cons (.con (.int 3)) .nil)))) b_law_k07_L1) (.cons (.ret (.con (.bl true))) .nil))
def b_law_k08_L0 : SSs := (.cons (.asg (.name 11) (.bi false .tuple (.cons (.bi false .sortedSet (.cons (.bin false .add (.var 5) (.tup (.cons (.tup (.cons (.var 7) (.cons (.var 8) (.cons (.var 10) .nil)))) .nil))) .nil)) .nil))) (.cons (.asg (.name 9) (.bin false .add (.var 9) (.call "how_many" (.cons (.var 3) (.cons (.var 11) .nil))))) .nil))
def b_law_k08_L1 : SSs := (.cons (.ifs (.cmp .lt (.call "how_many" (.cons (.var 3) (.cons (.bi false .tuple (.cons (.bi false .sortedSet (.cons (.bin false .add (.var 5) (.tup (.cons (.tup (.cons (.var 7) (.cons (.var 8) (.cons (.var 10) .nil)))) .nil))) .nil)) .nil)) .nil))) (.con (.int 1))) (.cons (.ret (.con (.bl false))) .nil) .nil) .nil)
def b_law_k08_L2 : SSs := (.cons (.asg (.name 2) (.bin false .add (.con (.int 1)) (.call "_law_take" (.cons (.var 1) (.cons (.con (.int 2)) .nil))))) (.cons (.asg (.tup [(.name 3), (.name 4)]) (.call "_law_run" (.cons (.var 1) (.cons (.var 2) (.cons (.call "_law_take" (.cons (.var 1) (.cons (.con (.int 31)) .nil))) (.cons (.con (.int 16)) .nil)))))) (.cons (.asg (.name 5) (.slice false (.bi false .tuple (.cons (.call "_law_true" (.cons (.var 1) (.cons (.var 3) (.cons (.var 4) .nil)))) .nil)) .no (.so (.con (.int 5))))) (.cons (.asg (.name 6) (.call "how_many" (.cons (.var 3) (.cons (.var 5) .nil)))) (.cons (.ifs (.or_ (.cmp .lt (.var 6) (.con (.int 1))) (.or_ (.cmp .gt (.var 6) (.call "how_many" (.cons (.var 3) (.cons (.tup .nil) .nil)))) (.not_ (.isi (.var 6) [.int])))) (.cons (.ret (.con (.bl false))) .nil) .nil) (.cons (.asg (.tup [(.name 7), (.name 8)]) (.tup (.cons (.call "_law_take" (.cons (.var 1) (.cons (.bin false .add (.sub (.var 3) (.con (.int 1))) (.con (.int 1))) .nil))) (.cons (.call "_law_take" (.cons (.var 1) (.cons (.var 2) .nil))) .nil)))) (.cons (.asg (.name 9) (.con (.int 0))) (.cons (.for_ (.name 10) (.range1 (.con (.int 17))) b_law_k08_L0) (.cons (.ifs (.cmp .ne (.var 9) (.var 6)) (.cons (.ret (.con (.bl false))) .nil) .nil) (.cons (.asg (.tup [(.tup [(.name 12), (.name 13)]), (.tup [(.name 14), (.name 15)])]) (.tup (.cons (.call "longest" (.cons (.var 3) (.cons (.var 5) .nil))) (.cons (.call "shortest" (.cons (.var 3) (.cons (.var 5) .nil))) .nil)))) (.cons (.for_ (.name 10) (.of (.tup (.cons (.sub (.sub (.var 14) (.var 7)) (.var 8)) (.cons (.sub (.sub (.var 12) (.var 7)) (.var 8)) .nil)))) b_law_k08_L1) .nil)))))))))))
def b_law_k08 : SSs := (.cons (.ifs (.or_ (.cmp .ne (.call "how_many" (.cons (.tup (.cons (.con (.int 1)) (.cons (.con (.int 3)) (.cons (.tup (.cons (.tup (.cons (.con (.int 0)) (.cons (.con (.int 0)) .nil))) (.cons (.tup (.cons (.con (.int 0)) (.cons (.con (.int 0)) .nil))) .nil))) .nil)))) (.cons (.tup .nil) .nil))) (.con (.int 7))) (.cmp .ne (.call "how_many" (.cons (.tup (.cons (.con (.int 2)) (.cons (.con (.int 0)) (.cons (.tup .nil) .nil)))) (.cons (.tup .nil) .nil))) (.con (.int 1)))) (.cons (.ret (.con (.bl false))) .nil) .nil) (.cons (.for_ (.name 1) (.of (.call "_law_bags" (.cons (.var 0) (.cons (.con (.int 5)) .nil)))) b_law_k08_L2) (.cons (.ret (.con (.bl true))) .nil)))
def fnM (x : Str) (p n : Nat) (b : SSs) : Str × Fn := (x, ⟨p, n, b⟩)
def stdTbl : List (Str × Fn) := fnM "is_whole" 1 1 b_is_whole :: fnM "is_within" 3 3 b_is_within :: fnM "is_row" 3 3 b_is_row :: fnM "is_book" 1 7 b_is_book :: fnM "are_sights" 2 4 b_are_sights :: fnM "look_at" 2 2 b_look_at :: fnM "joined_by" 3 4 b_joined_by :: fnM "joined_ahead" 3 4 b_joined_ahead :: fnM "is_served" 2 3 b_is_served :: fnM "shortest_of" 1 1 b_shortest_of :: fnM "lengths_of" 2 12 b_lengths_of :: fnM "is_story" 3 8 b_is_story :: fnM "node" 2 2 b_node :: fnM "fact_of" 3 11 b_fact_of :: fnM "all_facts" 2 11 b_all_facts :: fnM "Bounds" 3 7 b_Bounds :: fnM "tighten" 2 7 b_tighten :: fnM "ring_from" 3 7 b_ring_from :: fnM "can_be" 2 2 b_can_be :: fnM "_law_well" 2 2 b__law_well :: fnM "_law_take" 2 5 b__law_take :: fnM "_law_bags" 2 4 b__law_bags :: fnM "_law_same" 2 4 b__law_same :: fnM "_law_in" 3 3 b__law_in :: fnM "_law_run" 4 14 b__law_run :: fnM "_law_lengths" 2 9 b__law_lengths :: fnM "_law_sights" 4 9 b__law_sights :: fnM "_law_is_story" 3 9 b__law_is_story :: fnM "_law_written" 0 4 b__law_written :: fnM "least_of" 2 9 b_least_of :: fnM "served_table" 3 7 b_served_table :: fnM "story_of" 1 6 b_story_of :: fnM "lengths_by" 2 7 b_lengths_by :: fnM "longest" 2 3 b_longest :: fnM "shortest" 2 3 b_shortest :: fnM "served_ways" 1 5 b_served_ways :: fnM "joined" 2 4 b_joined :: fnM "how_many" 2 16 b_how_many :: fnM "_law_servings" 1 5 b__law_servings :: fnM "_law_behind" 3 5 b__law_behind :: fnM "_law_stories" 2 12 b__law_stories :: fnM "_law_seen_so" 3 6 b__law_seen_so :: fnM "_law_small" 1 7 b__law_small :: fnM "_law_ends" 3 10 b__law_ends :: fnM "_law_told_so" 3 9 b__law_told_so :: fnM "_law_mixed" 4 16 b__law_mixed :: fnM "_law_between" 3 7 b__law_between :: fnM "ring" 2 2 b_ring :: fnM "is_fact" 3 6 b_is_fact :: fnM "is_ring" 3 7 b_is_ring :: fnM "_law_true" 3 5 b__law_true :: fnM "_law_node" 2 2 b__law_node :: fnM "_law_fact" 3 18 b__law_fact :: fnM "_law_is_ring" 3 7 b__law_is_ring :: fnM "_law_a_fact" 2 3 b__law_a_fact :: fnM "_law_things" 3 6 b__law_things :: fnM "first_tick" 3 5 b_first_tick :: fnM "served_when" 3 7 b_served_when :: fnM "_law_tick" 3 8 b__law_tick :: fnM "_law_far" 1 1 b__law_far :: fnM "can_so" 2 2 b_can_so :: fnM "next_lines" 2 7 b_next_lines :: fnM "later_sights" 3 7 b_later_sights :: fnM "mends" 2 11 b_mends :: fnM "_law_next" 2 5 b__law_next :: fnM "_law_mends" 2 11 b__law_mends :: []
structure Std (Γ : Str → Option Fn) : Prop where
  h_is_whole : Γ "is_whole" = some ⟨1, 1, b_is_whole⟩
  h_is_within : Γ "is_within" = some ⟨3, 3, b_is_within⟩
  h_is_row : Γ "is_row" = some ⟨3, 3, b_is_row⟩
  h_is_book : Γ "is_book" = some ⟨1, 7, b_is_book⟩
  h_are_sights : Γ "are_sights" = some ⟨2, 4, b_are_sights⟩
  h_look_at : Γ "look_at" = some ⟨2, 2, b_look_at⟩
  h_joined_by : Γ "joined_by" = some ⟨3, 4, b_joined_by⟩
  h_joined_ahead : Γ "joined_ahead" = some ⟨3, 4, b_joined_ahead⟩
  h_is_served : Γ "is_served" = some ⟨2, 3, b_is_served⟩
  h_shortest_of : Γ "shortest_of" = some ⟨1, 1, b_shortest_of⟩
  h_lengths_of : Γ "lengths_of" = some ⟨2, 12, b_lengths_of⟩
  h_is_story : Γ "is_story" = some ⟨3, 8, b_is_story⟩
  h_node : Γ "node" = some ⟨2, 2, b_node⟩
  h_fact_of : Γ "fact_of" = some ⟨3, 11, b_fact_of⟩
  h_all_facts : Γ "all_facts" = some ⟨2, 11, b_all_facts⟩
  h_Bounds : Γ "Bounds" = some ⟨3, 7, b_Bounds⟩
  h_tighten : Γ "tighten" = some ⟨2, 7, b_tighten⟩
  h_ring_from : Γ "ring_from" = some ⟨3, 7, b_ring_from⟩
  h_can_be : Γ "can_be" = some ⟨2, 2, b_can_be⟩
  h__law_well : Γ "_law_well" = some ⟨2, 2, b__law_well⟩
  h__law_take : Γ "_law_take" = some ⟨2, 5, b__law_take⟩
  h__law_bags : Γ "_law_bags" = some ⟨2, 4, b__law_bags⟩
  h__law_same : Γ "_law_same" = some ⟨2, 4, b__law_same⟩
  h__law_in : Γ "_law_in" = some ⟨3, 3, b__law_in⟩
  h__law_run : Γ "_law_run" = some ⟨4, 14, b__law_run⟩
  h__law_lengths : Γ "_law_lengths" = some ⟨2, 9, b__law_lengths⟩
  h__law_sights : Γ "_law_sights" = some ⟨4, 9, b__law_sights⟩
  h__law_is_story : Γ "_law_is_story" = some ⟨3, 9, b__law_is_story⟩
  h__law_written : Γ "_law_written" = some ⟨0, 4, b__law_written⟩
  h_least_of : Γ "least_of" = some ⟨2, 9, b_least_of⟩
  h_served_table : Γ "served_table" = some ⟨3, 7, b_served_table⟩
  h_story_of : Γ "story_of" = some ⟨1, 6, b_story_of⟩
  h_lengths_by : Γ "lengths_by" = some ⟨2, 7, b_lengths_by⟩
  h_longest : Γ "longest" = some ⟨2, 3, b_longest⟩
  h_shortest : Γ "shortest" = some ⟨2, 3, b_shortest⟩
  h_served_ways : Γ "served_ways" = some ⟨1, 5, b_served_ways⟩
  h_joined : Γ "joined" = some ⟨2, 4, b_joined⟩
  h_how_many : Γ "how_many" = some ⟨2, 16, b_how_many⟩
  h__law_servings : Γ "_law_servings" = some ⟨1, 5, b__law_servings⟩
  h__law_behind : Γ "_law_behind" = some ⟨3, 5, b__law_behind⟩
  h__law_stories : Γ "_law_stories" = some ⟨2, 12, b__law_stories⟩
  h__law_seen_so : Γ "_law_seen_so" = some ⟨3, 6, b__law_seen_so⟩
  h__law_small : Γ "_law_small" = some ⟨1, 7, b__law_small⟩
  h__law_ends : Γ "_law_ends" = some ⟨3, 10, b__law_ends⟩
  h__law_told_so : Γ "_law_told_so" = some ⟨3, 9, b__law_told_so⟩
  h__law_mixed : Γ "_law_mixed" = some ⟨4, 16, b__law_mixed⟩
  h__law_between : Γ "_law_between" = some ⟨3, 7, b__law_between⟩
  h_ring : Γ "ring" = some ⟨2, 2, b_ring⟩
  h_is_fact : Γ "is_fact" = some ⟨3, 6, b_is_fact⟩
  h_is_ring : Γ "is_ring" = some ⟨3, 7, b_is_ring⟩
  h__law_true : Γ "_law_true" = some ⟨3, 5, b__law_true⟩
  h__law_node : Γ "_law_node" = some ⟨2, 2, b__law_node⟩
  h__law_fact : Γ "_law_fact" = some ⟨3, 18, b__law_fact⟩
  h__law_is_ring : Γ "_law_is_ring" = some ⟨3, 7, b__law_is_ring⟩
  h__law_a_fact : Γ "_law_a_fact" = some ⟨2, 3, b__law_a_fact⟩
  h__law_things : Γ "_law_things" = some ⟨3, 6, b__law_things⟩
  h_first_tick : Γ "first_tick" = some ⟨3, 5, b_first_tick⟩
  h_served_when : Γ "served_when" = some ⟨3, 7, b_served_when⟩
  h__law_tick : Γ "_law_tick" = some ⟨3, 8, b__law_tick⟩
  h__law_far : Γ "_law_far" = some ⟨1, 1, b__law_far⟩
  h_can_so : Γ "can_so" = some ⟨2, 2, b_can_so⟩
  h_next_lines : Γ "next_lines" = some ⟨2, 7, b_next_lines⟩
  h_later_sights : Γ "later_sights" = some ⟨3, 7, b_later_sights⟩
  h_mends : Γ "mends" = some ⟨2, 11, b_mends⟩
  h__law_next : Γ "_law_next" = some ⟨2, 5, b__law_next⟩
  h__law_mends : Γ "_law_mends" = some ⟨2, 11, b__law_mends⟩
end SL

/-! PA: how the evaluator is run by simp: continuations are left alone until their turn comes. -/
namespace SL
open PySem
inductive Tag {α : Sort _} (f : α) : Type where | mk
def bndT {α β : Type} (x : Option α) (f : α → Option β) (_ : Tag f) : Option β := bnd x f
theorem toT {α β : Type} (x : Option α) (f : α → Option β) : bnd x f = bndT x f .mk := rfl
theorem bndT_some {α β : Type} (a : α) (f : α → Option β) : bndT (some a) f .mk = f a := rfl
theorem bndT_none {α β : Type} (f : α → Option β) : bndT none f .mk = none := rfl
def guT {β : Type} (b : Bool) (x : Option β) (_ : Tag x) : Option β := guardB b x
theorem toG {β : Type} (b : Bool) (x : Option β) : guardB b x = guT b x .mk := rfl
theorem bndT_ite {α β : Type} {c : Prop} [Decidable c] (x y : Option α) (f : α → Option β) : bndT (if c then x else y) f .mk = if c then bndT x f .mk else bndT y f .mk := by split <;> rfl
theorem ite_and {c : Prop} [Decidable c] (b : Bool) (S : Sto) : (if c then some (D.bl b, S) else some (D.bl false, S)) = some (D.bl (decide c && b), S) := by by_cases h : c <;> simp [h]
theorem ite_or {c : Prop} [Decidable c] (b : Bool) (S : Sto) : (if c then some (D.bl true, S) else some (D.bl b, S)) = some (D.bl (decide c || b), S) := by by_cases h : c <;> simp [h]
theorem guT_true {β : Type} (x : Option β) : guT true x .mk = x := rfl
def forT (src : Src) (asg : D → En → Option En) (body : En → Sto → RS) (_ : Tag asg) (_ : Tag body) (ds : List D) (env : En) (S : Sto) : RS := forGo src asg body ds env S
theorem toF (src : Src) (asg : D → En → Option En) (body : En → Sto → RS) (ds : List D) (env : En) (S : Sto) : forGo src asg body ds env S = forT src asg body .mk .mk ds env S := rfl
def lcT (src : Src) (asg : D → Option En) (tst : En → Sto → R Bool) (el : En → Sto → R D) (_ : Tag asg) (_ : Tag tst) (_ : Tag el) (ds : List D) (S : Sto) (acc : List D) : Option (List D × Sto) := lcGo src asg tst el ds S acc
theorem toL (src : Src) (asg : D → Option En) (tst : En → Sto → R Bool) (el : En → Sto → R D) (ds : List D) (S : Sto) (acc : List D) : lcGo src asg tst el ds S acc = lcT src asg tst el .mk .mk .mk ds S acc := rfl
/-- a call's end -/
def fin : Fl × En × Sto → R D
  | (.nx, _, S) => some (.non, S)
  | (.ret d, _, S) => some (d, S)
  | (.brk, _, _) => none
theorem fin_nx (e : En) (S : Sto) : fin (.nx, e, S) = some (.non, S) := rfl
theorem fin_ret (d : D) (e : En) (S : Sto) : fin (.ret d, e, S) = some (d, S) := rfl
/-! ### values -/
theorem bl_some (b : Bool) : boolOf (.bl b) = some b := rfl
theorem eqv_ii (i j : Int) : PyData.eqv (.int i) (.int j) = decide (i = j) := by
  by_cases h : i = j <;> simp [PyData.eqv, h]
theorem eqv_ss (i j : Str) : PyData.eqv (.str i) (.str j) = decide (i = j) := by
  by_cases h : i = j <;> simp [PyData.eqv, h]
theorem eqv_bb (i j : Bool) : PyData.eqv (.bool i) (.bool j) = decide (i = j) := by
  cases i <;> cases j <;> simp [PyData.eqv]
theorem eq_ii (i j : Int) (S : Sto) : cmpD .eq (.int i) (.int j) S = some (decide (i = j)) := by
  simp [cmpD, eqB, pyOf, pyF, SeqAt.shaped, PyData.canLay0, PyData.depth, eqv_ii]
theorem ne_ii (i j : Int) (S : Sto) : cmpD .ne (.int i) (.int j) S = some (!decide (i = j)) := by
  simp [cmpD, eqB, pyOf, pyF, SeqAt.shaped, PyData.canLay0, PyData.depth, eqv_ii]
theorem eq_ss (i j : Str) (S : Sto) (hi : PyData.strOk i = true) (hj : PyData.strOk j = true) : cmpD .eq (.str i) (.str j) S = some (decide (i = j)) := by
  simp [cmpD, eqB, pyOf, pyF, SeqAt.shaped, PyData.canLay0, PyData.depth, eqv_ss, hi, hj]
theorem ne_ss (i j : Str) (S : Sto) (hi : PyData.strOk i = true) (hj : PyData.strOk j = true) : cmpD .ne (.str i) (.str j) S = some (!decide (i = j)) := by
  simp [cmpD, eqB, pyOf, pyF, SeqAt.shaped, PyData.canLay0, PyData.depth, eqv_ss, hi, hj]
theorem eq_bb (i j : Bool) (S : Sto) : cmpD .eq (.bl i) (.bl j) S = some (decide (i = j)) := by
  simp [cmpD, eqB, pyOf, pyF, SeqAt.shaped, PyData.canLay0, PyData.depth, eqv_bb]
theorem ne_bb (i j : Bool) (S : Sto) : cmpD .ne (.bl i) (.bl j) S = some (!decide (i = j)) := by
  simp [cmpD, eqB, pyOf, pyF, SeqAt.shaped, PyData.canLay0, PyData.depth, eqv_bb]
theorem lt_ii (i j : Int) (S : Sto) : cmpD .lt (.int i) (.int j) S = some (decide (i < j)) := rfl
theorem le_ii (i j : Int) (S : Sto) : cmpD .le (.int i) (.int j) S = some (decide (i ≤ j)) := rfl
theorem gt_ii (i j : Int) (S : Sto) : cmpD .gt (.int i) (.int j) S = some (decide (j < i)) := rfl
theorem ge_ii (i j : Int) (S : Sto) : cmpD .ge (.int i) (.int j) S = some (decide (j ≤ i)) := rfl
theorem add_ii (al : Bool) (i j : Int) (S : Sto) : binD al .add (.int i) (.int j) S = some (.int (i + j), S) := rfl
theorem sub_ii (al : Bool) (i j : Int) (S : Sto) : binD al .sub (.int i) (.int j) S = some (.int (i - j), S) := rfl
theorem isi_i (i : Int) (ts : List Ty) (S : Sto) : isiD S (.int i) ts = some (ts.any (tyIs S (.int i))) := rfl
theorem isi_b (i : Bool) (ts : List Ty) (S : Sto) : isiD S (.bl i) ts = some (ts.any (tyIs S (.bl i))) := rfl
theorem isi_n (ts : List Ty) (S : Sto) : isiD S .non ts = some (ts.any (tyIs S .non)) := rfl
theorem isi_s (i : Str) (ts : List Ty) (S : Sto) : isiD S (.str i) ts = some (ts.any (tyIs S (.str i))) := rfl
theorem isi_t (i : List D) (ts : List Ty) (S : Sto) : isiD S (.tup i) ts = some (ts.any (tyIs S (.tup i))) := rfl
theorem isi_l (i : List D) (ts : List Ty) (S : Sto) : isiD S (.lst i) ts = some (ts.any (tyIs S (.lst i))) := rfl
theorem sub_t (S : Sto) (ds : List D) (i : Int) : subD S (.tup ds) (.int i) = L2.atI ds i := rfl
theorem at0 (a : D) (r : List D) : L2.atI (a :: r) 0 = some a := by simp [L2.atI, L2.ixN]
theorem at1 (a b : D) (r : List D) : L2.atI (a :: b :: r) 1 = some b := by
  have h : (1 : Int) < (r.length : Int) + 1 + 1 := by omega
  simp [L2.atI, L2.ixN, h]
theorem at2 (a b c : D) (r : List D) : L2.atI (a :: b :: c :: r) 2 = some c := by
  have h : (2 : Int) < (r.length : Int) + 1 + 1 + 1 := by omega
  simp [L2.atI, L2.ixN, h]
theorem at3 (a b c d : D) (r : List D) : L2.atI (a :: b :: c :: d :: r) 3 = some d := by
  have h : (3 : Int) < (r.length : Int) + 1 + 1 + 1 + 1 := by omega
  simp [L2.atI, L2.ixN, h]
theorem ok_one : PyData.strOk "one" = true := by decide +kernel
theorem ok_back : PyData.strOk "back" = true := by decide +kernel
theorem ok_there : PyData.strOk "there" = true := by decide +kernel
theorem ok_joined : PyData.strOk "joined" = true := by decide +kernel
theorem ok_least : PyData.strOk "least" = true := by decide +kernel
theorem ok_most : PyData.strOk "most" = true := by decide +kernel
theorem walk_t (S : Sto) (ds : List D) : walkD S (.tup ds) = some ds := rfl
theorem walk_l (S : Sto) (ds : List D) : walkD S (.lst ds) = some ds := rfl
theorem seq_t (S : Sto) (ds : List D) : seqOf S (.tup ds) = some ds := rfl
theorem seq_l (S : Sto) (ds : List D) : seqOf S (.lst ds) = some ds := rfl
theorem srcOf_t (S : Sto) (ds : List D) : srcOf S (.tup ds) = [] := rfl
theorem srcOf_l (S : Sto) (ds : List D) : srcOf S (.lst ds) = [] := rfl
theorem srcOk_nil (S : Sto) : srcOk [] S = true := rfl
theorem mk_f (ds : List D) (S : Sto) : mk false ds S = (.lst ds, S) := rfl
theorem mk_t (ds : List D) (S : Sto) : mk true ds S = (.obj S.length, S ++ [.lst ds]) := rfl
theorem len_l (al : Bool) (ds : List D) (S : Sto) : biD al .len [.lst ds] S = some (.int ds.length, S) := rfl
theorem blsOf_map {α : Type} (p : α → Bool) : ∀ xs : List α, blsOf (xs.map fun x => .bl (p x)) = some (xs.map p)
  | [] => rfl
  | x :: xs => by simp [blsOf, blsOf_map p xs]
theorem intsOf_map : ∀ xs : List Int, intsOf (xs.map .int) = some xs
  | [] => rfl
  | x :: xs => by simp [intsOf, intsOf_map xs]
theorem all_l {α : Type} (al : Bool) (p : α → Bool) (xs : List α) (S : Sto) : biD al .all [.lst (xs.map fun x => .bl (p x))] S = some (.bl (xs.all p), S) := by
  simp [biD, bAll, lstOf, blsOf_map, Function.comp_def]
theorem tup_seq (al : Bool) (ds : List D) (S : Sto) : biD al .tuple [.lst ds] S = some (.tup ds, S) := rfl
theorem lcGo_pure {α : Type} (toD : α → D) (src : Src) (asg : D → Option En) (tst : En → Sto → R Bool) (el : En → Sto → R D) (S : Sto) (p : α → Bool) (f : α → D) (hs : srcOk src S = true) :
    ∀ (xs : List α) (acc : List D), (∀ x ∈ xs, ∃ env, asg (toD x) = some env ∧ tst env S = some (p x, S) ∧ (p x = true → el env S = some (f x, S))) → acc.length + xs.length ≤ 16777216 →
    lcGo src asg tst el (xs.map toD) S acc = some (acc ++ (xs.filter p).map f, S)
  | [], acc, _, _ => by simp [lcGo]
  | x :: xs, acc, h, hl => by
    obtain ⟨env, h1, h2, h3⟩ := h x (.head _)
    have ih := fun acc => lcGo_pure toD src asg tst el S p f hs xs acc (fun y hy => h y (.tail _ hy))
    simp only [List.length_cons] at hl
    cases hp : p x with
    | true => 
      have hb : acc.length < 16777216 := by omega
      simp [lcGo, h1, h2, hp, h3 hp, hs, hb, List.filter_cons]
      rw [ih _ (by simp; omega)]
      simp
    | false =>
      simp [lcGo, h1, h2, hp, hs, List.filter_cons]
      rw [ih _ (by omega)]
theorem lcT_pure {α : Type} (toD : α → D) (p : α → Bool) (f : α → D) (xs : List α) {src : Src} {asg : D → Option En} {tst : En → Sto → R Bool} {el : En → Sto → R D} {S : Sto} {acc : List D} (hs : srcOk src S = true) (hl : acc.length + xs.length ≤ 16777216)
    (h : ∀ x ∈ xs, ∃ env, asg (toD x) = some env ∧ tst env S = some (p x, S) ∧ (p x = true → el env S = some (f x, S))) :
    lcT src asg tst el .mk .mk .mk (xs.map toD) S acc = some (acc ++ (xs.filter p).map f, S) := lcGo_pure toD src asg tst el S p f hs xs acc h hl
theorem lcT_all {α : Type} (toD : α → D) (f : α → D) (xs : List α) {src : Src} {asg : D → Option En} {tst : En → Sto → R Bool} {el : En → Sto → R D} {S : Sto} {acc : List D} (hs : srcOk src S = true) (hl : acc.length + xs.length ≤ 16777216)
    (h : ∀ x ∈ xs, ∃ env, asg (toD x) = some env ∧ tst env S = some (true, S) ∧ el env S = some (f x, S)) :
    lcT src asg tst el .mk .mk .mk (xs.map toD) S acc = some (acc ++ xs.map f, S) := by
  have := lcT_pure toD (fun _ => true) f xs (src := src) (asg := asg) (tst := tst) (el := el) (S := S) (acc := acc) hs hl (fun x hx => let ⟨e, a, b, c⟩ := h x hx; ⟨e, a, b, fun _ => c⟩)
  rwa [List.filter_eq_self.2 (fun _ _ => rfl)] at this
theorem cut1 (ds : List D) : cutD ds (some 1) none = ds.tail := by
  cases ds with
  | nil => simp [cutD, HT.sIx]
  | cons d ds =>
    simp [cutD, HT.sIx]
theorem zipT_map {α β : Type} (f : α → D) (g : β → D) (xs : List α) (ys : List β) : zipT (xs.map f) (ys.map g) = (xs.zip ys).map fun p => .tup [f p.1, g p.2] := by
  simp [zipT, List.zip_map, Function.comp_def]
theorem zipT_tail {α : Type} (f : α → D) (xs : List α) : zipT (xs.map f) (xs.map f).tail = (xs.zip xs.tail).map fun p => .tup [f p.1, f p.2] := by
  rw [← zipT_map]; cases xs <;> rfl
def forK (src : Src) (asg : D → En → Option En) (body : En → Sto → RS) (ds : List D) : Fl × En × Sto → RS
  | (.nx, e, S) => guardB (srcOk src S) (forGo src asg body ds e S)
  | (.brk, e, S) => some (.nx, e, S)
  | (.ret d, e, S) => some (.ret d, e, S)
theorem forK_nx (src : Src) (asg : D → En → Option En) (body : En → Sto → RS) (ds : List D) (e : En) (S : Sto) : forK src asg body ds (.nx, e, S) = guardB (srcOk src S) (forGo src asg body ds e S) := rfl
theorem forK_brk (src : Src) (asg : D → En → Option En) (body : En → Sto → RS) (ds : List D) (e : En) (S : Sto) : forK src asg body ds (.brk, e, S) = some (.nx, e, S) := rfl
theorem forK_ret (src : Src) (asg : D → En → Option En) (body : En → Sto → RS) (ds : List D) (d : D) (e : En) (S : Sto) : forK src asg body ds (.ret d, e, S) = some (.ret d, e, S) := rfl
theorem forT_nil (src : Src) (asg : D → En → Option En) (body : En → Sto → RS) (env : En) (S : Sto) : forT src asg body .mk .mk [] env S = some (.nx, env, S) := rfl
theorem forT_cons (src : Src) (asg : D → En → Option En) (body : En → Sto → RS) (d : D) (ds : List D) (env : En) (S : Sto) :
    forT src asg body .mk .mk (d :: ds) env S = bndT (asg d env) (fun env1 => bnd (body env1 S) (fun r => forK src asg body ds r)) .mk := by
  show bnd _ _ = bnd _ _
  congr 1
  funext e
  congr 1
  funext ⟨f, e, S⟩
  cases f <;> rfl
theorem forGo_cons (src : Src) (asg : D → En → Option En) (body : En → Sto → RS) (d : D) (ds : List D) (env : En) (S : Sto) :
    forGo src asg body (d :: ds) env S = bnd (asg d env) (fun env1 => bnd (body env1 S) (fun r => forK src asg body ds r)) := forT_cons ..
theorem slice_t (al : Bool) (S : Sto) (ds : List D) (lo hi : Option Int) : sliceD al S (.tup ds) lo hi = some (.tup (cutD ds lo hi), S) := rfl
theorem cut0 (ds : List D) (n : Nat) : cutD ds none (some (n : Int)) = ds.take n := by
  simp [cutD, HT.sIx]
  rw [if_neg (by omega)]
  omega
theorem cut_02 (a b c : D) : cutD [a, b, c] none (some 2) = [a, b] := by simp [cutD, HT.sIx]
theorem seq_o (S : Sto) (n : Nat) : seqOf S (.obj n) = (match S[n]? with
    | some (.lst ds) => some ds
    | _ => none) := rfl
theorem lst_o (S : Sto) (n : Nat) : lstOf S (.obj n) = (match S[n]? with
    | some (.lst ds) => some ds
    | _ => none) := rfl
theorem lst_l (S : Sto) (ds : List D) : lstOf S (.lst ds) = some ds := rfl
theorem srcOf_o (S : Sto) (n : Nat) : srcOf S (.obj n) = (match S[n]? with
    | some c => [(n, c)]
    | none => []) := rfl
theorem isi_o (S : Sto) (n : Nat) (ts : List Ty) : isiD S (.obj n) ts = if (match S[n]? with | some (.lst _) => true | _ => false) then some (ts.any (tyIs S (.obj n))) else none := rfl
def subC : Option Cell → D → Option D
  | some (.lst ds), .int i => L2.atI ds i
  | some (.dct _ kvs), i => bnd (goodKey i) (atK kvs)
  | _, _ => none
theorem subC_l (ds : List D) (i : Int) : subC (some (.lst ds)) (.int i) = L2.atI ds i := rfl
theorem subC_d (ep : Nat) (kvs : List (NestedKey × D)) (i : D) : subC (some (.dct ep kvs)) i = bnd (goodKey i) (atK kvs) := rfl
theorem sub_o (S : Sto) (n : Nat) (i : D) : subD S (.obj n) i = subC S[n]? i := by
  simp only [subD, seq_o]
  split
  · next ds h => 
    split at h
    · next ds' h' => 
      cases h
      rw [h']
      cases i <;> rfl
    · cases h
  · next h =>
    split at h
    · cases h
    · next h' =>
      simp only [dictAt]
      cases hc : S[n]? with
      | none => rfl
      | some c =>
        cases c with
        | lst ds => exact absurd hc (h' ds)
        | dct ep kvs => cases hk : goodKey i <;> simp [subC, hk]
        | ins c fs => rfl
theorem min_s (al : Bool) (x : D) (S : Sto) : biD al .min [x] S = (((seqOf S x).bind intsOf).bind minL).map fun m => (.int m, S) := rfl
theorem tup_s (al : Bool) (x : D) (S : Sto) : biD al .tuple [x] S = (seqOf S x).map fun ds => (.tup ds, S) := rfl
theorem list_s (al : Bool) (x : D) (S : Sto) : biD al .list [x] S = (seqOf S x).map fun ds => mk al ds S := rfl
theorem len_s (al : Bool) (x : D) (S : Sto) : biD al .len [x] S = (seqOf S x).map fun ds => (.int ds.length, S) := rfl
theorem index_s (al : Bool) (x : D) (j : Int) (S : Sto) : biD al .index [x, .int j] S = ((lstOf S x).bind intsOf).bind fun ns => if j ∈ ns then some (.int (ns.idxOf j), S) else none := rfl
theorem omap_some {α β : Type} (f : α → β) (a : α) : Option.map f (some a) = some (f a) := rfl
theorem obind_some {α β : Type} (f : α → Option β) (a : α) : Option.bind (some a) f = f a := rfl
theorem ixN_nat {n i : Nat} (h : i < n) : L2.ixN n (i : Int) = some i := by
  have h2 : (i : Int) < n := by omega
  simp [L2.ixN, h2]
theorem atI_nat {α : Type} (xs : List α) (i : Nat) : L2.atI xs (i : Int) = xs[i]? := by
  by_cases h : i < xs.length
  · simp [L2.atI, ixN_nat h]
  · have h2 : ¬ (i : Int) < xs.length := by omega
    simp [L2.atI, L2.ixN, h2]
    omega
theorem ixN_int {n : Nat} {i : Int} (h0 : 0 ≤ i) (h : i < n) : L2.ixN n i = some i.toNat := by
  simp [L2.ixN, h, h0]
theorem minL_mem : ∀ (xs : List Int), xs ≠ [] → ∃ m, minL xs = some m ∧ m ∈ xs ∧ ∀ x ∈ xs, m ≤ x
  | [], h => absurd rfl h
  | x :: xs, _ => by
    refine ⟨_, rfl, ?_⟩
    have : ∀ (ys : List Int) (a : Int), (ys.foldl min a ∈ a :: ys) ∧ ∀ y ∈ a :: ys, ys.foldl min a ≤ y := by
      intro ys
      induction ys with
      | nil => intro a; simp
      | cons y ys ih =>
        intro a
        obtain ⟨h1, h2⟩ := ih (min a y)
        simp only [List.foldl_cons, List.mem_cons] at *
        refine ⟨?_, ?_⟩
        · rcases h1 with h1 | h1
          · rw [h1]; omega
          · exact .inr (.inr h1)
        · intro z hz
          have := h2 (min a y) (.inl rfl)
          rcases hz with hz | hz | hz
          · omega
          · omega
          · exact h2 z (.inr hz)
    exact this xs x
def minI (xs : List Int) : Int := (minL xs).getD 0
theorem minL_eq {xs : List Int} (h : xs ≠ []) : minL xs = some (minI xs) := by
  obtain ⟨m, h1, _⟩ := minL_mem xs h
  simp [minI, h1]
theorem minI_mem {xs : List Int} (h : xs ≠ []) : minI xs ∈ xs ∧ ∀ x ∈ xs, minI xs ≤ x := by
  obtain ⟨m, h1, h2⟩ := minL_mem xs h
  simp only [minI, h1, Option.getD_some]
  exact h2
def shortest (now : List Int) : Int := now.idxOf (minI now)
theorem rangeD_cons {lo hi : Int} (h : lo < hi) : rangeD lo (hi - lo).toNat = .int lo :: rangeD (lo + 1) (hi - (lo + 1)).toNat := by
  obtain ⟨n, hn⟩ : ∃ n, (hi - lo).toNat = n + 1 := ⟨(hi - lo).toNat - 1, by omega⟩
  rw [hn, show (hi - (lo + 1)).toNat = n by omega]
  rfl
theorem get_app {S : Sto} {n : Nat} {c : Cell} (T : Sto) (h : S[n]? = some c) : (S ++ T)[n]? = some c := by
  obtain ⟨h1, h2⟩ := List.getElem?_eq_some_iff.1 h
  rw [List.getElem?_append_left h1, h]
theorem get_lt {S : Sto} {n : Nat} {c : Cell} (h : S[n]? = some c) : n < S.length := (List.getElem?_eq_some_iff.1 h).1
theorem pre_get {S S' : Sto} {n : Nat} {c : Cell} (p : S <+: S') (h : S[n]? = some c) : S'[n]? = some c := by
  obtain ⟨T, rfl⟩ := p
  exact get_app T h
theorem pre_set {S S' : Sto} {n : Nat} (c : Cell) (p : S <+: S') (h : S.length ≤ n) : S <+: S'.set n c := by
  obtain ⟨T, rfl⟩ := p
  rw [List.set_append_right _ _ h]
  exact List.prefix_append ..
theorem pre_app {S S' : Sto} (T : Sto) (p : S <+: S') : S <+: S' ++ T := p.trans (List.prefix_append ..)
def Turn {σ : Type} (o : Option σ) (good : σ → Prop) (bad : Prop) : Prop := match o with
  | some s => good s
  | none => bad
theorem turn_some {σ : Type} (s : σ) (good : σ → Prop) (bad : Prop) : Turn (some s) good bad = good s := rfl
theorem turn_none {σ : Type} (good : σ → Prop) (bad : Prop) : Turn none good bad = bad := rfl
/-- one turn of a for loop: on with s', or out with a value -/
def ForTurn {σ : Type} (src : Src) (asg : D → En → Option En) (body : En → Sto → RS) (d : D) (env : En) (S : Sto) (o : Option σ) (Inv : σ → En → Sto → Prop) (Bad : D → Sto → Prop) : Prop :=
  Turn o (fun s' => ∃ env1 env2 S2, asg d env = some env1 ∧ body env1 S = some (.nx, env2, S2) ∧ srcOk src S2 = true ∧ Inv s' env2 S2)
    (∃ env1 env2 S2 d', asg d env = some env1 ∧ body env1 S = some (.ret d', env2, S2) ∧ Bad d' S2)
theorem for_runI {α σ : Type} (toD : α → D) {src : Src} {asg : D → En → Option En} {body : En → Sto → RS} (step : σ → α → Option σ) (Inv : Nat → σ → En → Sto → Prop) (Bad : D → Sto → Prop) (xs : List α)
    (hs : ∀ j x, xs[j]? = some x → ∀ s env S, Inv j s env S → ForTurn src asg body (toD x) env S (step s x) (Inv (j + 1)) Bad) :
    ∀ (ys : List α) (j : Nat), xs.drop j = ys → ∀ (s : σ) (env : En) (S : Sto), Inv j s env S →
    Turn (ys.foldlM step s) (fun s' => ∃ env' S', forGo src asg body (ys.map toD) env S = some (.nx, env', S') ∧ Inv (j + ys.length) s' env' S')
      (∃ env' S' d, forGo src asg body (ys.map toD) env S = some (.ret d, env', S') ∧ Bad d S')
  | [], j, _, s, env, S, h => ⟨env, S, rfl, h⟩
  | x :: ys, j, hj, s, env, S, h => by
    have hx0 : xs[j]? = some x := by
      have := congrArg (fun l => l[0]?) hj
      simpa using this
    have h1 := hs j x hx0 s env S h
    rw [List.foldlM_cons]
    cases hx : step s x with
    | none =>
      rw [hx] at h1
      obtain ⟨env1, env2, S2, d, a, b, c⟩ := h1
      exact ⟨env2, S2, d, by rw [List.map_cons, forGo_cons, a, bnd_some, b, bnd_some, forK_ret], c⟩
    | some s' =>
      rw [hx] at h1
      obtain ⟨env1, env2, S2, a, b, c, e⟩ := h1
      have hj' : xs.drop (j + 1) = ys := by rw [← List.tail_drop, hj]; rfl
      have ih := for_runI toD step Inv Bad xs hs ys (j + 1) hj' s' env2 S2 e
      have e1 : forGo src asg body ((x :: ys).map toD) env S = forGo src asg body (ys.map toD) env2 S2 := by rw [List.map_cons, forGo_cons, a, bnd_some, b, bnd_some, forK_nx, c, guardB_true]
      rw [e1]
      rw [show j + 1 + ys.length = j + (x :: ys).length by simp; omega] at ih
      exact ih
theorem for_run {α σ : Type} (toD : α → D) {src : Src} {asg : D → En → Option En} {body : En → Sto → RS} (step : σ → α → Option σ) (Inv : Nat → σ → En → Sto → Prop) (Bad : D → Sto → Prop) (xs : List α) (s : σ) (env : En) (S : Sto) (h : Inv 0 s env S)
    (hs : ∀ j x, xs[j]? = some x → ∀ s env S, Inv j s env S → ForTurn src asg body (toD x) env S (step s x) (Inv (j + 1)) Bad) :
    Turn (xs.foldlM step s) (fun s' => ∃ env' S', forGo src asg body (xs.map toD) env S = some (.nx, env', S') ∧ Inv xs.length s' env' S')
      (∃ env' S' d, forGo src asg body (xs.map toD) env S = some (.ret d, env', S') ∧ Bad d S') := by
  have := for_runI toD step Inv Bad xs hs xs 0 rfl s env S h
  rwa [Nat.zero_add] at this
theorem rangeD_map (n lo : Nat) : rangeD (lo : Int) n = (List.range' lo n).map fun i : Nat => .int (i : Int) := by
  induction n generalizing lo with
  | zero => rfl
  | succ n ih => rw [rangeD, List.range'_succ, List.map_cons, ← ih (lo + 1)]; rfl
theorem rangeD_zero (n : Nat) : rangeD 0 n = (List.range n).map fun i : Nat => .int (i : Int) := by
  rw [List.range_eq_range', ← rangeD_map n 0]; rfl
theorem rng1_i (n : Nat) (h : n < 2 ^ 62) : rng1 (.int (n : Int)) = some ((List.range n).map fun i : Nat => .int (i : Int)) := by
  rw [← rangeD_zero]
  have h2 : (n : Int).natAbs < 2 ^ 62 := by omega
  simp only [rng1, h2, decide_true, guardB, Int.toNat_natCast, if_true]
theorem mul_rep (d : D) (n : Nat) (S : Sto) (h : n ≤ 1000) : binD true .mul (.lst [d]) (.int n) S = some (.obj S.length, S ++ [.lst (List.replicate n d)]) := by
  have e : (List.replicate n [d]).flatten = List.replicate n d := by simp
  have h1 : (n : Int).natAbs < 2 ^ 63 ∧ [d].length * (n : Int).toNat ≤ 16777216 := by
    refine ⟨by omega, ?_⟩
    rw [List.length_singleton, Nat.one_mul, Int.toNat_natCast]
    omega
  simp only [binD, lst_l]
  rw [if_pos h1, Int.toNat_natCast, e, mk_t]
theorem lcGo_yes {src : Src} {asg : D → Option En} {tst : En → Sto → R Bool} {el : En → Sto → R D} {d : D} {ds : List D} {S S1 S2 : Sto} {acc : List D} {env : En} {x : D} (h1 : asg d = some env) (h2 : tst env S = some (true, S1)) (h3 : el env S1 = some (x, S2)) (hs : srcOk src S2 = true) (hl : acc.length < 16777216) :
    lcGo src asg tst el (d :: ds) S acc = lcGo src asg tst el ds S2 (acc ++ [x]) := by
  have hl' : decide (acc.length < 16777216) = true := by simpa using hl
  rw [lcGo, h1, bnd_some, h2, bnd_some]
  simp only [if_true]
  rw [h3, bnd_some, hs, hl']
  rfl
theorem lcGo_no {src : Src} {asg : D → Option En} {tst : En → Sto → R Bool} {el : En → Sto → R D} {d : D} {ds : List D} {S S1 : Sto} {acc : List D} {env : En} (h1 : asg d = some env) (h2 : tst env S = some (false, S1)) (hs : srcOk src S1 = true) :
    lcGo src asg tst el (d :: ds) S acc = lcGo src asg tst el ds S1 acc := by
  rw [lcGo, h1, bnd_some, h2, bnd_some]
  simp only [Bool.false_eq_true, if_false]
  rw [hs]
  rfl
def walkC : Option Cell → Option (List D)
  | some (.lst ds) => some ds
  | some (.dct _ kvs) => some (kvs.map fun q => ofKey q.1)
  | _ => none
theorem walkC_l (ds : List D) : walkC (some (.lst ds)) = some ds := rfl
theorem walkC_d (ep : Nat) (kvs : List (NestedKey × D)) : walkC (some (.dct ep kvs)) = some (kvs.map fun q => ofKey q.1) := rfl
theorem walk_o (S : Sto) (n : Nat) : walkD S (.obj n) = walkC S[n]? := by
  simp only [walkD, seq_o, dictAt]
  cases S[n]? with
  | none => rfl
  | some c => cases c <;> rfl
theorem sub_l (S : Sto) (ds : List D) (i : Int) : subD S (.lst ds) (.int i) = L2.atI ds i := rfl
theorem len_t (al : Bool) (ds : List D) (S : Sto) : biD al .len [.tup ds] S = some (.int ds.length, S) := rfl
theorem int_b (al : Bool) (b : Bool) (S : Sto) : biD al .int [.bl b] S = some (.int (if b then 1 else 0), S) := rfl
theorem int_i (al : Bool) (b : Int) (S : Sto) : biD al .int [.int b] S = some (.int b, S) := rfl
variable {Γ : Str → Option Fn}
theorem call_step {f : Str} {p n : Nat} {b : SSs} (h : Γ f = some ⟨p, n, b⟩) (k : Nat) (ds : List D) (S : Sto) : callK Γ (k + 1) f ds S = guardB (decide (ds.length = p)) (bnd (exSs (callK Γ k) b (startE n ds) S) fin) := by
  simp only [callK, h, bnd_some]
  congr 1
  congr 1
  funext ⟨f, e, S1⟩
  cases f <;> rfl
theorem ev_is_whole (G : Std Γ) (k : Nat) (i : Int) (S : Sto) : callK Γ (k + 1) "is_whole" [.int i] S = some (.bl true, S) := by
  rw [call_step G.h_is_whole]
  simp -dsimp [↓toT, ↓toG, ↓toF, ↓toL, bndT_some, bndT_none, guT_true, ite_and, ite_or, fin_nx, fin_ret, exSs, exS, evE, evs, evO, evT, evI, bl_some, optInt, asgT, asgTs, startE, wipeE, List.map_cons, List.map_nil, List.length_cons, List.length_nil, List.replicate, List.cons_append, List.nil_append, List.append_nil, eq_ii, ne_ii, eq_ss, ne_ss, eq_bb, ne_bb, lt_ii, le_ii, gt_ii, ge_ii, add_ii, sub_ii, isi_i, isi_b, isi_n, isi_s, isi_t, isi_l, sub_t, sub_l, at0, at1, at2, at3, len_t, slice_t, cut1, cut_02, zipT_tail, zipT_map, forT_nil, forT_cons, forK_nx, forK_brk, forK_ret, len_l, walk_t, walk_l, walk_o, walkC_l, walkC_d, seq_t, seq_l, seq_o, lst_o, lst_l, srcOf_o, isi_o, sub_o, subC_l, subC_d, min_s, tup_s, list_s, len_s, index_s, omap_some, obind_some, srcOf_t, srcOf_l, srcOk_nil, mk_f, mk_t, int_b, int_i, b_is_whole, tyIs]
theorem ev_is_within (G : Std Γ) (k : Nat) (i lo hi : Int) (S : Sto) : callK Γ (k + 2) "is_within" [.int i, .int lo, .int hi] S = some (.bl (decide (lo ≤ i ∧ i ≤ hi)), S) := by
  rw [call_step G.h_is_within]
  simp -dsimp [↓toT, ↓toG, ↓toF, ↓toL, bndT_some, bndT_none, guT_true, ite_and, ite_or, fin_nx, fin_ret, exSs, exS, evE, evs, evO, evT, evI, bl_some, optInt, asgT, asgTs, startE, wipeE, List.map_cons, List.map_nil, List.length_cons, List.length_nil, List.replicate, List.cons_append, List.nil_append, List.append_nil, eq_ii, ne_ii, eq_ss, ne_ss, eq_bb, ne_bb, lt_ii, le_ii, gt_ii, ge_ii, add_ii, sub_ii, isi_i, isi_b, isi_n, isi_s, isi_t, isi_l, sub_t, sub_l, at0, at1, at2, at3, len_t, slice_t, cut1, cut_02, zipT_tail, zipT_map, forT_nil, forT_cons, forK_nx, forK_brk, forK_ret, len_l, walk_t, walk_l, walk_o, walkC_l, walkC_d, seq_t, seq_l, seq_o, lst_o, lst_l, srcOf_o, isi_o, sub_o, subC_l, subC_d, min_s, tup_s, list_s, len_s, index_s, omap_some, obind_some, srcOf_t, srcOf_l, srcOk_nil, mk_f, mk_t, int_b, int_i, b_is_within, ev_is_whole G]
theorem ev_is_row (G : Std Γ) (k : Nat) (lines last t l : Int) (S : Sto) : callK Γ (k + 3) "is_row" [.int lines, .int last, .tup [.int t, .int l]] S = some (.bl (decide ((0 ≤ t ∧ t ≤ last) ∧ 0 ≤ l ∧ l ≤ lines - 1)), S) := by
  rw [call_step G.h_is_row]
  simp -dsimp [↓toT, ↓toG, ↓toF, ↓toL, bndT_some, bndT_none, guT_true, ite_and, ite_or, fin_nx, fin_ret, exSs, exS, evE, evs, evO, evT, evI, bl_some, optInt, asgT, asgTs, startE, wipeE, List.map_cons, List.map_nil, List.length_cons, List.length_nil, List.replicate, List.cons_append, List.nil_append, List.append_nil, eq_ii, ne_ii, eq_ss, ne_ss, eq_bb, ne_bb, lt_ii, le_ii, gt_ii, ge_ii, add_ii, sub_ii, isi_i, isi_b, isi_n, isi_s, isi_t, isi_l, sub_t, sub_l, at0, at1, at2, at3, len_t, slice_t, cut1, cut_02, zipT_tail, zipT_map, forT_nil, forT_cons, forK_nx, forK_brk, forK_ret, len_l, walk_t, walk_l, walk_o, walkC_l, walkC_d, seq_t, seq_l, seq_o, lst_o, lst_l, srcOf_o, isi_o, sub_o, subC_l, subC_d, min_s, tup_s, list_s, len_s, index_s, omap_some, obind_some, srcOf_t, srcOf_l, srcOk_nil, mk_f, mk_t, int_b, int_i, b_is_row, tyIs, ev_is_within G]
end SL

/-! PB: books, sights. -/
namespace SL
open PySem
def rowD (r : Int × Int) : D := .tup [.int r.1, .int r.2]
def bookD (L E : Int) (rows : List (Int × Int)) : D := .tup [.int L, .int E, .tup (rows.map rowD)]
def sightD (s : Int × Int × Int) : D := .tup [.int s.1, .int s.2.1, .int s.2.2]
def sightsD (ss : List (Int × Int × Int)) : D := .tup (ss.map sightD)
def upT (rows : List (Int × Int)) : Bool := (rows.zip rows.tail).all fun p => decide (p.1.1 ≤ p.2.1)
structure BookOk (L E : Int) (rows : List (Int × Int)) : Prop where
  L1 : 1 ≤ L
  L4 : L ≤ 4
  E0 : 0 ≤ E
  E30 : E ≤ 30
  few : rows.length ≤ 16
  row : ∀ r ∈ rows, (0 ≤ r.1 ∧ r.1 ≤ E) ∧ 0 ≤ r.2 ∧ r.2 ≤ L - 1
  up : upT rows = true
variable {Γ : Str → Option Fn}
theorem ev_is_book (G : Std Γ) (k : Nat) (S : Sto) {L E : Int} {rows : List (Int × Int)} (h : BookOk L E rows) : callK Γ (k + 4) "is_book" [bookD L E rows] S = some (.bl true, S) := by
  rw [call_step G.h_is_book]
  have h1 := h.L1
  have h2 := h.L4
  have h3 := h.E0
  have h4 := h.E30
  have h5 := h.few
  have h5' : ¬ ((16 : Int) < (rows.length : Int)) := by omega
  have ha : (rows.all fun r => decide ((0 ≤ r.1 ∧ r.1 ≤ E) ∧ 0 ≤ r.2 ∧ r.2 ≤ L - 1)) = true := by
    rw [List.all_eq_true]; intro r hr; simpa using h.row r hr
  have hb := h.up
  rw [upT] at hb
  simp -dsimp [↓toT, ↓toG, ↓toF, ↓toL, bndT_some, bndT_none, guT_true, ite_and, ite_or, fin_nx, fin_ret, exSs, exS, evE, evs, evO, evT, evI, bl_some, optInt, asgT, asgTs, startE, wipeE, List.map_cons, List.map_nil, List.length_cons, List.length_nil, List.replicate, List.cons_append, List.nil_append, List.append_nil, eq_ii, ne_ii, eq_ss, ne_ss, eq_bb, ne_bb, lt_ii, le_ii, gt_ii, ge_ii, add_ii, sub_ii, isi_i, isi_b, isi_n, isi_s, isi_t, isi_l, sub_t, sub_l, at0, at1, at2, at3, len_t, slice_t, cut1, cut_02, zipT_tail, zipT_map, forT_nil, forT_cons, forK_nx, forK_brk, forK_ret, len_l, walk_t, walk_l, walk_o, walkC_l, walkC_d, seq_t, seq_l, seq_o, lst_o, lst_l, srcOf_o, isi_o, sub_o, subC_l, subC_d, min_s, tup_s, list_s, len_s, index_s, omap_some, obind_some, srcOf_t, srcOf_l, srcOk_nil, mk_f, mk_t, int_b, int_i, b_is_book, bookD, tyIs, ev_is_within G, h1, h2, h3, h4, h5']
  rw [lcT_all rowD (fun r => .bl (decide ((0 ≤ r.1 ∧ r.1 ≤ E) ∧ 0 ≤ r.2 ∧ r.2 ≤ L - 1))) rows rfl (by simp; omega) (fun r hr => ⟨_, rfl, rfl, by simp -dsimp [↓toT, ↓toG, ↓toF, ↓toL, bndT_some, bndT_none, guT_true, ite_and, ite_or, fin_nx, fin_ret, exSs, exS, evE, evs, evO, evT, evI, bl_some, optInt, asgT, asgTs, startE, wipeE, List.map_cons, List.map_nil, List.length_cons, List.length_nil, List.replicate, List.cons_append, List.nil_append, List.append_nil, eq_ii, ne_ii, eq_ss, ne_ss, eq_bb, ne_bb, lt_ii, le_ii, gt_ii, ge_ii, add_ii, sub_ii, isi_i, isi_b, isi_n, isi_s, isi_t, isi_l, sub_t, sub_l, at0, at1, at2, at3, len_t, slice_t, cut1, cut_02, zipT_tail, zipT_map, forT_nil, forT_cons, forK_nx, forK_brk, forK_ret, len_l, walk_t, walk_l, walk_o, walkC_l, walkC_d, seq_t, seq_l, seq_o, lst_o, lst_l, srcOf_o, isi_o, sub_o, subC_l, subC_d, min_s, tup_s, list_s, len_s, index_s, omap_some, obind_some, srcOf_t, srcOf_l, srcOk_nil, mk_f, mk_t, int_b, int_i, b_is_book_E0, rowD, ev_is_row G]⟩)]
  simp -dsimp only [↓toT, ↓toG, ↓toF, ↓toL, bndT_some, bndT_none, guT_true, ite_and, ite_or, fin_nx, fin_ret, exSs, exS, evE, evs, evO, evT, evI, bl_some, optInt, asgT, asgTs, startE, wipeE, List.map_cons, List.map_nil, List.length_cons, List.length_nil, List.replicate, List.cons_append, List.nil_append, List.append_nil, eq_ii, ne_ii, eq_ss, ne_ss, eq_bb, ne_bb, lt_ii, le_ii, gt_ii, ge_ii, add_ii, sub_ii, isi_i, isi_b, isi_n, isi_s, isi_t, isi_l, sub_t, sub_l, at0, at1, at2, at3, len_t, slice_t, cut1, cut_02, zipT_tail, zipT_map, forT_nil, forT_cons, forK_nx, forK_brk, forK_ret, len_l, walk_t, walk_l, walk_o, walkC_l, walkC_d, seq_t, seq_l, seq_o, lst_o, lst_l, srcOf_o, isi_o, sub_o, subC_l, subC_d, min_s, tup_s, list_s, len_s, index_s, omap_some, obind_some, srcOf_t, srcOf_l, srcOk_nil, mk_f, mk_t, int_b, int_i, all_l, ha, ↓toT, Bool.not_true, if_false]
  simp -dsimp [↓toT, ↓toG, ↓toF, ↓toL, bndT_some, bndT_none, guT_true, ite_and, ite_or, fin_nx, fin_ret, exSs, exS, evE, evs, evO, evT, evI, bl_some, optInt, asgT, asgTs, startE, wipeE, List.map_cons, List.map_nil, List.length_cons, List.length_nil, List.replicate, List.cons_append, List.nil_append, List.append_nil, eq_ii, ne_ii, eq_ss, ne_ss, eq_bb, ne_bb, lt_ii, le_ii, gt_ii, ge_ii, add_ii, sub_ii, isi_i, isi_b, isi_n, isi_s, isi_t, isi_l, sub_t, sub_l, at0, at1, at2, at3, len_t, slice_t, cut1, cut_02, zipT_tail, zipT_map, forT_nil, forT_cons, forK_nx, forK_brk, forK_ret, len_l, walk_t, walk_l, walk_o, walkC_l, walkC_d, seq_t, seq_l, seq_o, lst_o, lst_l, srcOf_o, isi_o, sub_o, subC_l, subC_d, min_s, tup_s, list_s, len_s, index_s, omap_some, obind_some, srcOf_t, srcOf_l, srcOk_nil, mk_f, mk_t, int_b, int_i]
  rw [lcT_all (fun p : (Int × Int) × (Int × Int) => .tup [rowD p.1, rowD p.2]) (fun p => .bl (decide (p.1.1 ≤ p.2.1))) _ rfl (by simp; omega) (fun r hr => ⟨_, rfl, rfl, by simp -dsimp [↓toT, ↓toG, ↓toF, ↓toL, bndT_some, bndT_none, guT_true, ite_and, ite_or, fin_nx, fin_ret, exSs, exS, evE, evs, evO, evT, evI, bl_some, optInt, asgT, asgTs, startE, wipeE, List.map_cons, List.map_nil, List.length_cons, List.length_nil, List.replicate, List.cons_append, List.nil_append, List.append_nil, eq_ii, ne_ii, eq_ss, ne_ss, eq_bb, ne_bb, lt_ii, le_ii, gt_ii, ge_ii, add_ii, sub_ii, isi_i, isi_b, isi_n, isi_s, isi_t, isi_l, sub_t, sub_l, at0, at1, at2, at3, len_t, slice_t, cut1, cut_02, zipT_tail, zipT_map, forT_nil, forT_cons, forK_nx, forK_brk, forK_ret, len_l, walk_t, walk_l, walk_o, walkC_l, walkC_d, seq_t, seq_l, seq_o, lst_o, lst_l, srcOf_o, isi_o, sub_o, subC_l, subC_d, min_s, tup_s, list_s, len_s, index_s, omap_some, obind_some, srcOf_t, srcOf_l, srcOk_nil, mk_f, mk_t, int_b, int_i, b_is_book_E1, rowD]⟩)]
  simp -dsimp only [↓toT, ↓toG, ↓toF, ↓toL, bndT_some, bndT_none, guT_true, ite_and, ite_or, fin_nx, fin_ret, exSs, exS, evE, evs, evO, evT, evI, bl_some, optInt, asgT, asgTs, startE, wipeE, List.map_cons, List.map_nil, List.length_cons, List.length_nil, List.replicate, List.cons_append, List.nil_append, List.append_nil, eq_ii, ne_ii, eq_ss, ne_ss, eq_bb, ne_bb, lt_ii, le_ii, gt_ii, ge_ii, add_ii, sub_ii, isi_i, isi_b, isi_n, isi_s, isi_t, isi_l, sub_t, sub_l, at0, at1, at2, at3, len_t, slice_t, cut1, cut_02, zipT_tail, zipT_map, forT_nil, forT_cons, forK_nx, forK_brk, forK_ret, len_l, walk_t, walk_l, walk_o, walkC_l, walkC_d, seq_t, seq_l, seq_o, lst_o, lst_l, srcOf_o, isi_o, sub_o, subC_l, subC_d, min_s, tup_s, list_s, len_s, index_s, omap_some, obind_some, srcOf_t, srcOf_l, srcOk_nil, mk_f, mk_t, int_b, int_i, all_l, hb]
structure SightsOk (L E : Int) (ss : List (Int × Int × Int)) : Prop where
  few : ss.length ≤ 6
  one : ∀ s ∈ ss, (0 ≤ s.1 ∧ s.1 ≤ E) ∧ (0 ≤ s.2.1 ∧ s.2.1 ≤ L - 1) ∧ 0 ≤ s.2.2 ∧ s.2.2 ≤ 16
  up : ((ss.zip ss.tail).all fun p => HT.lexLt [p.1.1, p.1.2.1, p.1.2.2] [p.2.1, p.2.2.1, p.2.2.2]) = true
theorem lt_sights (a b : Int × Int × Int) (S : Sto) : cmpD .lt (sightD a) (sightD b) S = some (HT.lexLt [a.1, a.2.1, a.2.2] [b.1, b.2.1, b.2.2]) := by
  simp [cmpD, sightD, lexLtD, intsOf]
theorem ev_are_sights_L0 (G : Std Γ) (k : Nat) (S : Sto) {L E : Int} (rows : List (Int × Int)) (v3 : Option D) (sD : D) : ∀ (ss : List (Int × Int × Int)) (v2 : Option D),
    (∀ s ∈ ss, (0 ≤ s.1 ∧ s.1 ≤ E) ∧ (0 ≤ s.2.1 ∧ s.2.1 ≤ L - 1) ∧ 0 ≤ s.2.2 ∧ s.2.2 ≤ 16) →
    ∃ v, forGo [] (asgT (.name 2)) (fun env S => exSs (callK Γ (k + 3)) b_are_sights_L0 env S) (ss.map sightD) [some (bookD L E rows), some sD, v2, v3] S = some (.nx, [some (bookD L E rows), some sD, v, v3], S)
  | [], v2, _ => ⟨v2, rfl⟩
  | s :: ss, v2, h => by
    have h0 := h s (.head _)
    obtain ⟨v, hv⟩ := ev_are_sights_L0 G k S rows v3 sD ss (some (sightD s)) fun x hx => h x (.tail _ hx)
    refine ⟨v, ?_⟩
    have a1 := h0.1.1
    have a2 := h0.1.2
    have a3 := h0.2.1.1
    have a4 := h0.2.1.2
    have a5 := h0.2.2.1
    have a6 := h0.2.2.2
    simp -dsimp [↓toT, ↓toG, ↓toF, ↓toL, bndT_some, bndT_none, guT_true, ite_and, ite_or, fin_nx, fin_ret, exSs, exS, evE, evs, evO, evT, evI, bl_some, optInt, asgT, asgTs, startE, wipeE, List.map_cons, List.map_nil, List.length_cons, List.length_nil, List.replicate, List.cons_append, List.nil_append, List.append_nil, eq_ii, ne_ii, eq_ss, ne_ss, eq_bb, ne_bb, lt_ii, le_ii, gt_ii, ge_ii, add_ii, sub_ii, isi_i, isi_b, isi_n, isi_s, isi_t, isi_l, sub_t, sub_l, at0, at1, at2, at3, len_t, slice_t, cut1, cut_02, zipT_tail, zipT_map, forT_nil, forT_cons, forK_nx, forK_brk, forK_ret, len_l, walk_t, walk_l, walk_o, walkC_l, walkC_d, seq_t, seq_l, seq_o, lst_o, lst_l, srcOf_o, isi_o, sub_o, subC_l, subC_d, min_s, tup_s, list_s, len_s, index_s, omap_some, obind_some, srcOf_t, srcOf_l, srcOk_nil, mk_f, mk_t, int_b, int_i, b_are_sights_L0, bookD, sightD, tyIs, ev_is_row G, ev_is_within G, a1, a2, a3, a4, a5, a6]
    exact hv
theorem ev_are_sights (G : Std Γ) (k : Nat) (S : Sto) {L E : Int} {rows : List (Int × Int)} {ss : List (Int × Int × Int)} (h : BookOk L E rows) (hs : SightsOk L E ss) : callK Γ (k + 5) "are_sights" [bookD L E rows, sightsD ss] S = some (.bl true, S) := by
  rw [call_step G.h_are_sights]
  have h1 := hs.few
  have h2 : ¬ ((6 : Int) < (ss.length : Int)) := by omega
  have hb := hs.up
  simp -dsimp [↓toT, ↓toG, ↓toF, ↓toL, bndT_some, bndT_none, guT_true, ite_and, ite_or, fin_nx, fin_ret, exSs, exS, evE, evs, evO, evT, evI, bl_some, optInt, asgT, asgTs, startE, wipeE, List.map_cons, List.map_nil, List.length_cons, List.length_nil, List.replicate, List.cons_append, List.nil_append, List.append_nil, eq_ii, ne_ii, eq_ss, ne_ss, eq_bb, ne_bb, lt_ii, le_ii, gt_ii, ge_ii, add_ii, sub_ii, isi_i, isi_b, isi_n, isi_s, isi_t, isi_l, sub_t, sub_l, at0, at1, at2, at3, len_t, slice_t, cut1, cut_02, zipT_tail, zipT_map, forT_nil, forT_cons, forK_nx, forK_brk, forK_ret, len_l, walk_t, walk_l, walk_o, walkC_l, walkC_d, seq_t, seq_l, seq_o, lst_o, lst_l, srcOf_o, isi_o, sub_o, subC_l, subC_d, min_s, tup_s, list_s, len_s, index_s, omap_some, obind_some, srcOf_t, srcOf_l, srcOk_nil, mk_f, mk_t, int_b, int_i, b_are_sights, sightsD, tyIs, ev_is_book G _ _ h, h2]
  obtain ⟨v, hv⟩ := ev_are_sights_L0 G (k + 1) S rows none (.tup (ss.map sightD)) ss none hs.one
  rw [forT, hv]
  simp -dsimp [↓toT, ↓toG, ↓toF, ↓toL, bndT_some, bndT_none, guT_true, ite_and, ite_or, fin_nx, fin_ret, exSs, exS, evE, evs, evO, evT, evI, bl_some, optInt, asgT, asgTs, startE, wipeE, List.map_cons, List.map_nil, List.length_cons, List.length_nil, List.replicate, List.cons_append, List.nil_append, List.append_nil, eq_ii, ne_ii, eq_ss, ne_ss, eq_bb, ne_bb, lt_ii, le_ii, gt_ii, ge_ii, add_ii, sub_ii, isi_i, isi_b, isi_n, isi_s, isi_t, isi_l, sub_t, sub_l, at0, at1, at2, at3, len_t, slice_t, cut1, cut_02, zipT_tail, zipT_map, forT_nil, forT_cons, forK_nx, forK_brk, forK_ret, len_l, walk_t, walk_l, walk_o, walkC_l, walkC_d, seq_t, seq_l, seq_o, lst_o, lst_l, srcOf_o, isi_o, sub_o, subC_l, subC_d, min_s, tup_s, list_s, len_s, index_s, omap_some, obind_some, srcOf_t, srcOf_l, srcOk_nil, mk_f, mk_t, int_b, int_i]
  rw [lcT_all (fun p : (Int × Int × Int) × (Int × Int × Int) => .tup [sightD p.1, sightD p.2]) (fun p => .bl (HT.lexLt [p.1.1, p.1.2.1, p.1.2.2] [p.2.1, p.2.2.1, p.2.2.2])) _ rfl (by simp; omega) (fun r hr => ⟨_, rfl, rfl, by simp -dsimp [↓toT, ↓toG, ↓toF, ↓toL, bndT_some, bndT_none, guT_true, ite_and, ite_or, fin_nx, fin_ret, exSs, exS, evE, evs, evO, evT, evI, bl_some, optInt, asgT, asgTs, startE, wipeE, List.map_cons, List.map_nil, List.length_cons, List.length_nil, List.replicate, List.cons_append, List.nil_append, List.append_nil, eq_ii, ne_ii, eq_ss, ne_ss, eq_bb, ne_bb, lt_ii, le_ii, gt_ii, ge_ii, add_ii, sub_ii, isi_i, isi_b, isi_n, isi_s, isi_t, isi_l, sub_t, sub_l, at0, at1, at2, at3, len_t, slice_t, cut1, cut_02, zipT_tail, zipT_map, forT_nil, forT_cons, forK_nx, forK_brk, forK_ret, len_l, walk_t, walk_l, walk_o, walkC_l, walkC_d, seq_t, seq_l, seq_o, lst_o, lst_l, srcOf_o, isi_o, sub_o, subC_l, subC_d, min_s, tup_s, list_s, len_s, index_s, omap_some, obind_some, srcOf_t, srcOf_l, srcOk_nil, mk_f, mk_t, int_b, int_i, b_are_sights_E0, lt_sights]⟩)]
  simp -dsimp only [↓toT, ↓toG, ↓toF, ↓toL, bndT_some, bndT_none, guT_true, ite_and, ite_or, fin_nx, fin_ret, exSs, exS, evE, evs, evO, evT, evI, bl_some, optInt, asgT, asgTs, startE, wipeE, List.map_cons, List.map_nil, List.length_cons, List.length_nil, List.replicate, List.cons_append, List.nil_append, List.append_nil, eq_ii, ne_ii, eq_ss, ne_ss, eq_bb, ne_bb, lt_ii, le_ii, gt_ii, ge_ii, add_ii, sub_ii, isi_i, isi_b, isi_n, isi_s, isi_t, isi_l, sub_t, sub_l, at0, at1, at2, at3, len_t, slice_t, cut1, cut_02, zipT_tail, zipT_map, forT_nil, forT_cons, forK_nx, forK_brk, forK_ret, len_l, walk_t, walk_l, walk_o, walkC_l, walkC_d, seq_t, seq_l, seq_o, lst_o, lst_l, srcOf_o, isi_o, sub_o, subC_l, subC_d, min_s, tup_s, list_s, len_s, index_s, omap_some, obind_some, srcOf_t, srcOf_l, srcOk_nil, mk_f, mk_t, int_b, int_i, all_l, hb]
theorem ev_look_at (G : Std Γ) (k : Nat) (S : Sto) {L E : Int} {rows : List (Int × Int)} {ss : List (Int × Int × Int)} (h : BookOk L E rows) (hs : SightsOk L E ss) : callK Γ (k + 6) "look_at" [bookD L E rows, sightsD ss] S = some (.non, S) := by
  rw [call_step G.h_look_at]
  simp -dsimp [↓toT, ↓toG, ↓toF, ↓toL, bndT_some, bndT_none, guT_true, ite_and, ite_or, fin_nx, fin_ret, exSs, exS, evE, evs, evO, evT, evI, bl_some, optInt, asgT, asgTs, startE, wipeE, List.map_cons, List.map_nil, List.length_cons, List.length_nil, List.replicate, List.cons_append, List.nil_append, List.append_nil, eq_ii, ne_ii, eq_ss, ne_ss, eq_bb, ne_bb, lt_ii, le_ii, gt_ii, ge_ii, add_ii, sub_ii, isi_i, isi_b, isi_n, isi_s, isi_t, isi_l, sub_t, sub_l, at0, at1, at2, at3, len_t, slice_t, cut1, cut_02, zipT_tail, zipT_map, forT_nil, forT_cons, forK_nx, forK_brk, forK_ret, len_l, walk_t, walk_l, walk_o, walkC_l, walkC_d, seq_t, seq_l, seq_o, lst_o, lst_l, srcOf_o, isi_o, sub_o, subC_l, subC_d, min_s, tup_s, list_s, len_s, index_s, omap_some, obind_some, srcOf_t, srcOf_l, srcOk_nil, mk_f, mk_t, int_b, int_i, b_look_at, ev_are_sights G _ _ h hs]
def joinedBy (rows : List (Int × Int)) (l t : Int) : Int := (rows.filter fun r => decide (r.2 = l) && decide (r.1 ≤ t)).length
def joinedAhead (rows : List (Int × Int)) (at_ : Nat) (l : Int) : Int := ((rows.take at_).filter fun r => decide (r.2 = l)).length
theorem ev_joined_by (G : Std Γ) (k : Nat) (S : Sto) (L E : Int) (rows : List (Int × Int)) (hr : rows.length ≤ 10000) (l t : Int) : callK Γ (k + 1) "joined_by" [bookD L E rows, .int l, .int t] S = some (.int (joinedBy rows l t), S) := by
  rw [call_step G.h_joined_by]
  simp -dsimp [↓toT, ↓toG, ↓toF, ↓toL, bndT_some, bndT_none, guT_true, ite_and, ite_or, fin_nx, fin_ret, exSs, exS, evE, evs, evO, evT, evI, bl_some, optInt, asgT, asgTs, startE, wipeE, List.map_cons, List.map_nil, List.length_cons, List.length_nil, List.replicate, List.cons_append, List.nil_append, List.append_nil, eq_ii, ne_ii, eq_ss, ne_ss, eq_bb, ne_bb, lt_ii, le_ii, gt_ii, ge_ii, add_ii, sub_ii, isi_i, isi_b, isi_n, isi_s, isi_t, isi_l, sub_t, sub_l, at0, at1, at2, at3, len_t, slice_t, cut1, cut_02, zipT_tail, zipT_map, forT_nil, forT_cons, forK_nx, forK_brk, forK_ret, len_l, walk_t, walk_l, walk_o, walkC_l, walkC_d, seq_t, seq_l, seq_o, lst_o, lst_l, srcOf_o, isi_o, sub_o, subC_l, subC_d, min_s, tup_s, list_s, len_s, index_s, omap_some, obind_some, srcOf_t, srcOf_l, srcOk_nil, mk_f, mk_t, int_b, int_i, b_joined_by, bookD]
  rw [lcT_pure rowD (fun r => decide (r.2 = l) && decide (r.1 ≤ t)) (fun _ => .int 1) rows rfl (by simp; omega) (fun r hr => ⟨_, rfl, by simp -dsimp [↓toT, ↓toG, ↓toF, ↓toL, bndT_some, bndT_none, guT_true, ite_and, ite_or, fin_nx, fin_ret, exSs, exS, evE, evs, evO, evT, evI, bl_some, optInt, asgT, asgTs, startE, wipeE, List.map_cons, List.map_nil, List.length_cons, List.length_nil, List.replicate, List.cons_append, List.nil_append, List.append_nil, eq_ii, ne_ii, eq_ss, ne_ss, eq_bb, ne_bb, lt_ii, le_ii, gt_ii, ge_ii, add_ii, sub_ii, isi_i, isi_b, isi_n, isi_s, isi_t, isi_l, sub_t, sub_l, at0, at1, at2, at3, len_t, slice_t, cut1, cut_02, zipT_tail, zipT_map, forT_nil, forT_cons, forK_nx, forK_brk, forK_ret, len_l, walk_t, walk_l, walk_o, walkC_l, walkC_d, seq_t, seq_l, seq_o, lst_o, lst_l, srcOf_o, isi_o, sub_o, subC_l, subC_d, min_s, tup_s, list_s, len_s, index_s, omap_some, obind_some, srcOf_t, srcOf_l, srcOk_nil, mk_f, mk_t, int_b, int_i, b_joined_by_T0, rowD], fun _ => by simp -dsimp [↓toT, ↓toG, ↓toF, ↓toL, bndT_some, bndT_none, guT_true, ite_and, ite_or, fin_nx, fin_ret, exSs, exS, evE, evs, evO, evT, evI, bl_some, optInt, asgT, asgTs, startE, wipeE, List.map_cons, List.map_nil, List.length_cons, List.length_nil, List.replicate, List.cons_append, List.nil_append, List.append_nil, eq_ii, ne_ii, eq_ss, ne_ss, eq_bb, ne_bb, lt_ii, le_ii, gt_ii, ge_ii, add_ii, sub_ii, isi_i, isi_b, isi_n, isi_s, isi_t, isi_l, sub_t, sub_l, at0, at1, at2, at3, len_t, slice_t, cut1, cut_02, zipT_tail, zipT_map, forT_nil, forT_cons, forK_nx, forK_brk, forK_ret, len_l, walk_t, walk_l, walk_o, walkC_l, walkC_d, seq_t, seq_l, seq_o, lst_o, lst_l, srcOf_o, isi_o, sub_o, subC_l, subC_d, min_s, tup_s, list_s, len_s, index_s, omap_some, obind_some, srcOf_t, srcOf_l, srcOk_nil, mk_f, mk_t, int_b, int_i, b_joined_by_E0]⟩)]
  simp -dsimp [↓toT, ↓toG, ↓toF, ↓toL, bndT_some, bndT_none, guT_true, ite_and, ite_or, fin_nx, fin_ret, exSs, exS, evE, evs, evO, evT, evI, bl_some, optInt, asgT, asgTs, startE, wipeE, List.map_cons, List.map_nil, List.length_cons, List.length_nil, List.replicate, List.cons_append, List.nil_append, List.append_nil, eq_ii, ne_ii, eq_ss, ne_ss, eq_bb, ne_bb, lt_ii, le_ii, gt_ii, ge_ii, add_ii, sub_ii, isi_i, isi_b, isi_n, isi_s, isi_t, isi_l, sub_t, sub_l, at0, at1, at2, at3, len_t, slice_t, cut1, cut_02, zipT_tail, zipT_map, forT_nil, forT_cons, forK_nx, forK_brk, forK_ret, len_l, walk_t, walk_l, walk_o, walkC_l, walkC_d, seq_t, seq_l, seq_o, lst_o, lst_l, srcOf_o, isi_o, sub_o, subC_l, subC_d, min_s, tup_s, list_s, len_s, index_s, omap_some, obind_some, srcOf_t, srcOf_l, srcOk_nil, mk_f, mk_t, int_b, int_i, joinedBy]
theorem ev_joined_ahead (G : Std Γ) (k : Nat) (S : Sto) (L E : Int) (rows : List (Int × Int)) (hr : rows.length ≤ 10000) (at_ : Nat) (l : Int) : callK Γ (k + 1) "joined_ahead" [bookD L E rows, .int at_, .int l] S = some (.int (joinedAhead rows at_ l), S) := by
  rw [call_step G.h_joined_ahead]
  simp -dsimp [↓toT, ↓toG, ↓toF, ↓toL, bndT_some, bndT_none, guT_true, ite_and, ite_or, fin_nx, fin_ret, exSs, exS, evE, evs, evO, evT, evI, bl_some, optInt, asgT, asgTs, startE, wipeE, List.map_cons, List.map_nil, List.length_cons, List.length_nil, List.replicate, List.cons_append, List.nil_append, List.append_nil, eq_ii, ne_ii, eq_ss, ne_ss, eq_bb, ne_bb, lt_ii, le_ii, gt_ii, ge_ii, add_ii, sub_ii, isi_i, isi_b, isi_n, isi_s, isi_t, isi_l, sub_t, sub_l, at0, at1, at2, at3, len_t, slice_t, cut1, cut_02, zipT_tail, zipT_map, forT_nil, forT_cons, forK_nx, forK_brk, forK_ret, len_l, walk_t, walk_l, walk_o, walkC_l, walkC_d, seq_t, seq_l, seq_o, lst_o, lst_l, srcOf_o, isi_o, sub_o, subC_l, subC_d, min_s, tup_s, list_s, len_s, index_s, omap_some, obind_some, srcOf_t, srcOf_l, srcOk_nil, mk_f, mk_t, int_b, int_i, b_joined_ahead, bookD, cut0]
  rw [← List.map_take]
  rw [lcT_pure rowD (fun r => decide (r.2 = l)) (fun _ => .int 1) (rows.take at_) rfl (by simp; omega) (fun r hr => ⟨_, rfl, by simp -dsimp [↓toT, ↓toG, ↓toF, ↓toL, bndT_some, bndT_none, guT_true, ite_and, ite_or, fin_nx, fin_ret, exSs, exS, evE, evs, evO, evT, evI, bl_some, optInt, asgT, asgTs, startE, wipeE, List.map_cons, List.map_nil, List.length_cons, List.length_nil, List.replicate, List.cons_append, List.nil_append, List.append_nil, eq_ii, ne_ii, eq_ss, ne_ss, eq_bb, ne_bb, lt_ii, le_ii, gt_ii, ge_ii, add_ii, sub_ii, isi_i, isi_b, isi_n, isi_s, isi_t, isi_l, sub_t, sub_l, at0, at1, at2, at3, len_t, slice_t, cut1, cut_02, zipT_tail, zipT_map, forT_nil, forT_cons, forK_nx, forK_brk, forK_ret, len_l, walk_t, walk_l, walk_o, walkC_l, walkC_d, seq_t, seq_l, seq_o, lst_o, lst_l, srcOf_o, isi_o, sub_o, subC_l, subC_d, min_s, tup_s, list_s, len_s, index_s, omap_some, obind_some, srcOf_t, srcOf_l, srcOk_nil, mk_f, mk_t, int_b, int_i, b_joined_ahead_T0, rowD], fun _ => by simp -dsimp [↓toT, ↓toG, ↓toF, ↓toL, bndT_some, bndT_none, guT_true, ite_and, ite_or, fin_nx, fin_ret, exSs, exS, evE, evs, evO, evT, evI, bl_some, optInt, asgT, asgTs, startE, wipeE, List.map_cons, List.map_nil, List.length_cons, List.length_nil, List.replicate, List.cons_append, List.nil_append, List.append_nil, eq_ii, ne_ii, eq_ss, ne_ss, eq_bb, ne_bb, lt_ii, le_ii, gt_ii, ge_ii, add_ii, sub_ii, isi_i, isi_b, isi_n, isi_s, isi_t, isi_l, sub_t, sub_l, at0, at1, at2, at3, len_t, slice_t, cut1, cut_02, zipT_tail, zipT_map, forT_nil, forT_cons, forK_nx, forK_brk, forK_ret, len_l, walk_t, walk_l, walk_o, walkC_l, walkC_d, seq_t, seq_l, seq_o, lst_o, lst_l, srcOf_o, isi_o, sub_o, subC_l, subC_d, min_s, tup_s, list_s, len_s, index_s, omap_some, obind_some, srcOf_t, srcOf_l, srcOk_nil, mk_f, mk_t, int_b, int_i, b_joined_ahead_E0]⟩)]
  simp -dsimp [↓toT, ↓toG, ↓toF, ↓toL, bndT_some, bndT_none, guT_true, ite_and, ite_or, fin_nx, fin_ret, exSs, exS, evE, evs, evO, evT, evI, bl_some, optInt, asgT, asgTs, startE, wipeE, List.map_cons, List.map_nil, List.length_cons, List.length_nil, List.replicate, List.cons_append, List.nil_append, List.append_nil, eq_ii, ne_ii, eq_ss, ne_ss, eq_bb, ne_bb, lt_ii, le_ii, gt_ii, ge_ii, add_ii, sub_ii, isi_i, isi_b, isi_n, isi_s, isi_t, isi_l, sub_t, sub_l, at0, at1, at2, at3, len_t, slice_t, cut1, cut_02, zipT_tail, zipT_map, forT_nil, forT_cons, forK_nx, forK_brk, forK_ret, len_l, walk_t, walk_l, walk_o, walkC_l, walkC_d, seq_t, seq_l, seq_o, lst_o, lst_l, srcOf_o, isi_o, sub_o, subC_l, subC_d, min_s, tup_s, list_s, len_s, index_s, omap_some, obind_some, srcOf_t, srcOf_l, srcOk_nil, mk_f, mk_t, int_b, int_i, joinedAhead]
end SL

/-! PC: lengths behind each tick. -/
namespace SL
open PySem
variable {Γ : Str → Option Fn}
def tupI (r : List Int) : D := .tup (r.map .int)
def storyD (s : List (List Int)) : D := .tup (s.map tupI)
def join1 (t : Int) (now : List Int) (r : Int × Int) : Option (List Int) := if r.1 = t then (if shortest now = r.2 then some (now.set r.2.toNat (now.getD r.2.toNat 0 + 1)) else none) else some now
def joinTo (t : Int) (rs : List (Int × Int)) (now : List Int) : Option (List Int) := rs.foldlM (join1 t) now
def subI (now row : List Int) : List Int := (now.zip row).map fun p => p.1 - p.2
def stepT (rows : List (Int × Int)) (t : Int) (row now : List Int) : Option (List Int) := if minI (subI now row) < 0 then none else joinTo t rows (subI now row)
def stepL (rows : List (Int × Int)) (s : List (List Int)) (st : List Int × List (List Int)) (i : Nat) : Option (List Int × List (List Int)) := (stepT rows i (s.getD i []) st.1).map fun now => (now, st.2 ++ [now])
def lengthsOf (L : Nat) (n : Nat) (rows : List (Int × Int)) (s : List (List Int)) : Option (List (List Int)) := ((List.range n).foldlM (stepL rows s) (List.replicate L 0, [])).map (·.2)
theorem shortest_nonneg (now : List Int) : 0 ≤ shortest now := by unfold shortest; omega
theorem ev_shortest_of (G : Std Γ) (k : Nat) (S : Sto) (x : D) (now : List Int) (h0 : now ≠ []) (h1 : lstOf S x = some (now.map .int)) (h2 : seqOf S x = some (now.map .int)) :
    callK Γ (k + 1) "shortest_of" [x] S = some (.int (shortest now), S) := by
  rw [call_step G.h_shortest_of]
  have := (minI_mem h0).1
  simp -dsimp [↓toT, ↓toG, ↓toF, ↓toL, bndT_some, bndT_none, guT_true, ite_and, ite_or, fin_nx, fin_ret, exSs, exS, evE, evs, evO, evT, evI, bl_some, optInt, asgT, asgTs, startE, wipeE, List.map_cons, List.map_nil, List.length_cons, List.length_nil, List.replicate, List.cons_append, List.nil_append, List.append_nil, eq_ii, ne_ii, eq_ss, ne_ss, eq_bb, ne_bb, lt_ii, le_ii, gt_ii, ge_ii, add_ii, sub_ii, isi_i, isi_b, isi_n, isi_s, isi_t, isi_l, sub_t, sub_l, at0, at1, at2, at3, len_t, slice_t, cut1, cut_02, zipT_tail, zipT_map, forT_nil, forT_cons, forK_nx, forK_brk, forK_ret, len_l, walk_t, walk_l, walk_o, walkC_l, walkC_d, seq_t, seq_l, seq_o, lst_o, lst_l, srcOf_o, isi_o, sub_o, subC_l, subC_d, min_s, tup_s, list_s, len_s, index_s, omap_some, obind_some, srcOf_t, srcOf_l, srcOk_nil, mk_f, mk_t, int_b, int_i, b_shortest_of, h1, h2, intsOf_map, minL_eq h0, this, shortest]
theorem ev_lengths_L0 (G : Std Γ) (k n : Nat) (b st rw_ f : D) (L E t : Int) (a : Nat) (hn : 0 < n) (r : Int × Int) (hr : 0 ≤ r.2 ∧ r.2 < (n : Int)) (S0 : Sto) (ha : a < S0.length) 
    (Inv : List Int → En → Sto → Prop) (hI : Inv = fun now env S => now.length = n ∧ ∃ v8 v9, env = [some b, some st, some (.int L), some (.int E), some rw_, some (.obj a), some f, some (.int t), v8, v9, none, none] ∧ S = S0.set a (.lst (now.map .int)))
    (now : List Int) (env : En) (S : Sto) (h : Inv now env S) :
    ForTurn [] (asgT (.tup [.name 8, .name 9])) (fun env S => exSs (callK Γ (k + 1)) b_lengths_of_L0 env S) (rowD r) env S (join1 t now r) Inv (fun d S2 => d = .non ∧ ∃ c, S2 = S0.set a c) := by
  subst hI
  obtain ⟨hl, v8, v9, rfl, rfl⟩ := h
  have h0 : now ≠ [] := by rintro rfl; simp at hl; omega
  have hS : (S0.set a (.lst (now.map .int)))[a]? = some (.lst (now.map .int)) := by simp [ha]
  have hsh := ev_shortest_of G k (S0.set a (.lst (now.map .int))) (.obj a) now h0 (by simp [lst_o, ha]) (by simp [seq_o, ha])
  have hix : L2.ixN now.length r.2 = some r.2.toNat := ixN_int hr.1 (by omega)
  have hat : L2.atI (now.map D.int) r.2 = some (.int (now.getD r.2.toNat 0)) := by
    have : r.2.toNat < now.length := by omega
    simp [L2.atI, hix, List.getD, this]
  by_cases h1 : r.1 = t
  · by_cases h2 : shortest now = r.2
    · simp only [join1, h1, h2, if_true]
      refine ⟨_, _, _, rfl, ?_, rfl, by simpa using hl, some (.int r.1), some (.int r.2), rfl, rfl⟩
      simp -dsimp [↓toT, ↓toG, ↓toF, ↓toL, bndT_some, bndT_none, guT_true, ite_and, ite_or, fin_nx, fin_ret, exSs, exS, evE, evs, evO, evT, evI, bl_some, optInt, asgT, asgTs, startE, wipeE, List.map_cons, List.map_nil, List.length_cons, List.length_nil, List.replicate, List.cons_append, List.nil_append, List.append_nil, eq_ii, ne_ii, eq_ss, ne_ss, eq_bb, ne_bb, lt_ii, le_ii, gt_ii, ge_ii, add_ii, sub_ii, isi_i, isi_b, isi_n, isi_s, isi_t, isi_l, sub_t, sub_l, at0, at1, at2, at3, len_t, slice_t, cut1, cut_02, zipT_tail, zipT_map, forT_nil, forT_cons, forK_nx, forK_brk, forK_ret, len_l, walk_t, walk_l, walk_o, walkC_l, walkC_d, seq_t, seq_l, seq_o, lst_o, lst_l, srcOf_o, isi_o, sub_o, subC_l, subC_d, min_s, tup_s, list_s, len_s, index_s, omap_some, obind_some, srcOf_t, srcOf_l, srcOk_nil, mk_f, mk_t, int_b, int_i, b_lengths_of_L0, rowD, h1, h2, hsh, hS, setSubD, hix, hat, List.map_set]
    · simp only [join1, h1, h2, if_true, if_false]
      refine ⟨_, [some b, some st, some (.int L), some (.int E), some rw_, some (.obj a), some f, some (.int t), some (.int r.1), some (.int r.2), none, none], _, _, rfl, ?_, rfl, (.lst (now.map .int)), rfl⟩
      simp -dsimp [↓toT, ↓toG, ↓toF, ↓toL, bndT_some, bndT_none, guT_true, ite_and, ite_or, fin_nx, fin_ret, exSs, exS, evE, evs, evO, evT, evI, bl_some, optInt, asgT, asgTs, startE, wipeE, List.map_cons, List.map_nil, List.length_cons, List.length_nil, List.replicate, List.cons_append, List.nil_append, List.append_nil, eq_ii, ne_ii, eq_ss, ne_ss, eq_bb, ne_bb, lt_ii, le_ii, gt_ii, ge_ii, add_ii, sub_ii, isi_i, isi_b, isi_n, isi_s, isi_t, isi_l, sub_t, sub_l, at0, at1, at2, at3, len_t, slice_t, cut1, cut_02, zipT_tail, zipT_map, forT_nil, forT_cons, forK_nx, forK_brk, forK_ret, len_l, walk_t, walk_l, walk_o, walkC_l, walkC_d, seq_t, seq_l, seq_o, lst_o, lst_l, srcOf_o, isi_o, sub_o, subC_l, subC_d, min_s, tup_s, list_s, len_s, index_s, omap_some, obind_some, srcOf_t, srcOf_l, srcOk_nil, mk_f, mk_t, int_b, int_i, b_lengths_of_L0, rowD, h1, h2, hsh, hS, setSubD, hix, hat, List.map_set]
  · simp only [join1, h1, if_false]
    refine ⟨_, _, _, rfl, ?_, rfl, hl, some (.int r.1), some (.int r.2), rfl, rfl⟩
    simp -dsimp [↓toT, ↓toG, ↓toF, ↓toL, bndT_some, bndT_none, guT_true, ite_and, ite_or, fin_nx, fin_ret, exSs, exS, evE, evs, evO, evT, evI, bl_some, optInt, asgT, asgTs, startE, wipeE, List.map_cons, List.map_nil, List.length_cons, List.length_nil, List.replicate, List.cons_append, List.nil_append, List.append_nil, eq_ii, ne_ii, eq_ss, ne_ss, eq_bb, ne_bb, lt_ii, le_ii, gt_ii, ge_ii, add_ii, sub_ii, isi_i, isi_b, isi_n, isi_s, isi_t, isi_l, sub_t, sub_l, at0, at1, at2, at3, len_t, slice_t, cut1, cut_02, zipT_tail, zipT_map, forT_nil, forT_cons, forK_nx, forK_brk, forK_ret, len_l, walk_t, walk_l, walk_o, walkC_l, walkC_d, seq_t, seq_l, seq_o, lst_o, lst_l, srcOf_o, isi_o, sub_o, subC_l, subC_d, min_s, tup_s, list_s, len_s, index_s, omap_some, obind_some, srcOf_t, srcOf_l, srcOk_nil, mk_f, mk_t, int_b, int_i, b_lengths_of_L0, rowD, h1, hsh, hS, setSubD, hix, hat, List.map_set]
theorem at_story (s : List (List Int)) (i : Nat) (h : i < s.length) : L2.atI (s.map tupI) (i : Int) = some (.tup ((s.getD i []).map .int)) := by
  simp [atI_nat, h, List.getD, tupI]
theorem ev_lengths_L1 (G : Std Γ) (k n : Nat) (b : D) (L E : Int) (hn : 0 < n) (rows : List (Int × Int)) (hr : ∀ r ∈ rows, 0 ≤ r.2 ∧ r.2 < (n : Int)) (s : List (List Int)) (f : Nat) (S0 : Sto) (hf : S0.length ≤ f)
    (i : Nat) (hi : i < s.length) (hrow : (s.getD i []).length = n) (hi2 : i < 10000) (hn2 : n < 100000)
    (Inv : Nat → List Int × List (List Int) → En → Sto → Prop) (hI : Inv = fun j st env S => st.1.length = n ∧ st.2.length = j ∧ ∃ a v7 v8 v9, env = [some b, some (.tup (s.map tupI)), some (.int L), some (.int E), some (.tup (rows.map rowD)), some (.obj a), some (.obj f), v7, v8, v9, none, none] ∧ S0 <+: S ∧ S[a]? = some (.lst (st.1.map .int)) ∧ S[f]? = some (.lst (st.2.map tupI)))
    (st : List Int × List (List Int)) (env : En) (S : Sto) (h : Inv i st env S) :
    ForTurn [] (asgT (.name 7)) (fun env S => exSs (callK Γ (k + 1)) b_lengths_of_L1 env S) (.int (i : Int)) env S (stepL rows s st i) (Inv (i + 1)) (fun d S2 => d = .non ∧ S0 <+: S2) := by
  subst hI
  obtain ⟨now, found⟩ := st
  obtain ⟨hl, hl2, a, v7, v8, v9, rfl, hp, ha, hfd⟩ := h
  simp only at hl hl2 ha hfd
  have hst := at_story s i hi
  rw [stepL]
  generalize s.getD i [] = row at hrow hst
  have hsub : (subI now row).length = n := by simp [subI, hl, hrow]
  have hne : subI now row ≠ [] := by intro e; rw [e] at hsub; simp at hsub; omega
  have hflt := get_lt hfd
  have hlc : ∀ C : Orc, lcT [(a, Cell.lst (now.map .int))] (fun d => asgT (.tup [.name 10, .name 11]) d (wipeE [some b, some (.tup (s.map tupI)), some (.int L), some (.int E), some (.tup (rows.map rowD)), some (.obj a), some (.obj f), some (.int i), v8, v9, none, none] [10, 11])) (fun env S => evT C .no env S) (fun env S => evE C b_lengths_of_E0 env S) .mk .mk .mk ((now.zip row).map fun p => D.tup [.int p.1, .int p.2]) S [] = some ((subI now row).map .int, S) := by
    intro C
    rw [lcT_all (fun p : Int × Int => .tup [.int p.1, .int p.2]) (fun p => .int (p.1 - p.2)) _ (by simp [srcOk, ha]) (by simp; omega) (fun r hr => ⟨_, rfl, rfl, by simp -dsimp [↓toT, ↓toG, ↓toF, ↓toL, bndT_some, bndT_none, guT_true, ite_and, ite_or, fin_nx, fin_ret, exSs, exS, evE, evs, evO, evT, evI, bl_some, optInt, asgT, asgTs, startE, wipeE, List.map_cons, List.map_nil, List.length_cons, List.length_nil, List.replicate, List.cons_append, List.nil_append, List.append_nil, eq_ii, ne_ii, eq_ss, ne_ss, eq_bb, ne_bb, lt_ii, le_ii, gt_ii, ge_ii, add_ii, sub_ii, isi_i, isi_b, isi_n, isi_s, isi_t, isi_l, sub_t, sub_l, at0, at1, at2, at3, len_t, slice_t, cut1, cut_02, zipT_tail, zipT_map, forT_nil, forT_cons, forK_nx, forK_brk, forK_ret, len_l, walk_t, walk_l, walk_o, walkC_l, walkC_d, seq_t, seq_l, seq_o, lst_o, lst_l, srcOf_o, isi_o, sub_o, subC_l, subC_d, min_s, tup_s, list_s, len_s, index_s, omap_some, obind_some, srcOf_t, srcOf_l, srcOk_nil, mk_f, mk_t, int_b, int_i, b_lengths_of_E0]⟩)]
    simp [subI]
  have hrun := for_run rowD (src := []) (asg := asgT (.tup [.name 8, .name 9])) (body := fun env S => exSs (callK Γ (k + 1)) b_lengths_of_L0 env S) (join1 i)
    (fun _ nw env S' => nw.length = n ∧ ∃ v8 v9, env = [some b, some (.tup (s.map tupI)), some (.int L), some (.int E), some (.tup (rows.map rowD)), some (.obj S.length), some (.obj f), some (.int i), v8, v9, none, none] ∧ S' = (S ++ [Cell.lst ((subI now row).map .int)]).set S.length (.lst (nw.map .int)))
    (fun d S' => d = .non ∧ ∃ c, S' = (S ++ [Cell.lst ((subI now row).map .int)]).set S.length c) rows (subI now row)
    [some b, some (.tup (s.map tupI)), some (.int L), some (.int E), some (.tup (rows.map rowD)), some (.obj S.length), some (.obj f), some (.int i), v8, v9, none, none] (S ++ [Cell.lst ((subI now row).map .int)])
    ⟨hsub, v8, v9, rfl, by simp⟩ (fun _ r hr1 nw env S' h => ev_lengths_L0 G k n b _ _ _ L E i S.length hn r (hr r (List.mem_of_getElem? hr1)) _ (by simp) _ rfl nw env S' h)
  by_cases hm : minI (subI now row) < 0
  · simp only [stepT, hm, if_true, Option.map_none]
    refine ⟨_, [some b, some (.tup (s.map tupI)), some (.int L), some (.int E), some (.tup (rows.map rowD)), some (.obj S.length), some (.obj f), some (.int i), v8, v9, none, none], S ++ [Cell.lst ((subI now row).map .int)], .non, rfl, ?_, rfl, pre_app _ hp⟩
    simp -dsimp [↓toT, ↓toG, ↓toF, ↓toL, bndT_some, bndT_none, guT_true, ite_and, ite_or, fin_nx, fin_ret, exSs, exS, evE, evs, evO, evT, evI, bl_some, optInt, asgT, asgTs, startE, wipeE, List.map_cons, List.map_nil, List.length_cons, List.length_nil, List.replicate, List.cons_append, List.nil_append, List.append_nil, eq_ii, ne_ii, eq_ss, ne_ss, eq_bb, ne_bb, lt_ii, le_ii, gt_ii, ge_ii, add_ii, sub_ii, isi_i, isi_b, isi_n, isi_s, isi_t, isi_l, sub_t, sub_l, at0, at1, at2, at3, len_t, slice_t, cut1, cut_02, zipT_tail, zipT_map, forT_nil, forT_cons, forK_nx, forK_brk, forK_ret, len_l, walk_t, walk_l, walk_o, walkC_l, walkC_d, seq_t, seq_l, seq_o, lst_o, lst_l, srcOf_o, isi_o, sub_o, subC_l, subC_d, min_s, tup_s, list_s, len_s, index_s, omap_some, obind_some, srcOf_t, srcOf_l, srcOk_nil, mk_f, mk_t, int_b, int_i, b_lengths_of_L1, storyD, hst, ha, intsOf_map, hlc, minL_eq hne, hm]
  · simp only [stepT, hm, if_false]
    rw [joinTo]
    cases hj : rows.foldlM (join1 i) (subI now row) with
    | none =>
      rw [hj] at hrun
      obtain ⟨env', S', d, h1, rfl, c, rfl⟩ := hrun
      refine ⟨_, env', _, .non, rfl, ?_, rfl, pre_app [c] hp⟩
      simp -dsimp [↓toT, ↓toG, ↓toF, ↓toL, bndT_some, bndT_none, guT_true, ite_and, ite_or, fin_nx, fin_ret, exSs, exS, evE, evs, evO, evT, evI, bl_some, optInt, asgT, asgTs, startE, wipeE, List.map_cons, List.map_nil, List.length_cons, List.length_nil, List.replicate, List.cons_append, List.nil_append, List.append_nil, eq_ii, ne_ii, eq_ss, ne_ss, eq_bb, ne_bb, lt_ii, le_ii, gt_ii, ge_ii, add_ii, sub_ii, isi_i, isi_b, isi_n, isi_s, isi_t, isi_l, sub_t, sub_l, at0, at1, at2, at3, len_t, slice_t, cut1, cut_02, zipT_tail, zipT_map, forT_nil, forT_cons, forK_nx, forK_brk, forK_ret, len_l, walk_t, walk_l, walk_o, walkC_l, walkC_d, seq_t, seq_l, seq_o, lst_o, lst_l, srcOf_o, isi_o, sub_o, subC_l, subC_d, min_s, tup_s, list_s, len_s, index_s, omap_some, obind_some, srcOf_t, srcOf_l, srcOk_nil, mk_f, mk_t, int_b, int_i, b_lengths_of_L1, storyD, hst, ha, intsOf_map, hlc, minL_eq hne, hm]
      rw [forT, h1]
      simp -dsimp [↓toT, ↓toG, ↓toF, ↓toL, bndT_some, bndT_none, guT_true, ite_and, ite_or, fin_nx, fin_ret, exSs, exS, evE, evs, evO, evT, evI, bl_some, optInt, asgT, asgTs, startE, wipeE, List.map_cons, List.map_nil, List.length_cons, List.length_nil, List.replicate, List.cons_append, List.nil_append, List.append_nil, eq_ii, ne_ii, eq_ss, ne_ss, eq_bb, ne_bb, lt_ii, le_ii, gt_ii, ge_ii, add_ii, sub_ii, isi_i, isi_b, isi_n, isi_s, isi_t, isi_l, sub_t, sub_l, at0, at1, at2, at3, len_t, slice_t, cut1, cut_02, zipT_tail, zipT_map, forT_nil, forT_cons, forK_nx, forK_brk, forK_ret, len_l, walk_t, walk_l, walk_o, walkC_l, walkC_d, seq_t, seq_l, seq_o, lst_o, lst_l, srcOf_o, isi_o, sub_o, subC_l, subC_d, min_s, tup_s, list_s, len_s, index_s, omap_some, obind_some, srcOf_t, srcOf_l, srcOk_nil, mk_f, mk_t, int_b, int_i]
    | some now' =>
      rw [hj] at hrun
      obtain ⟨env', S', h1, hl', v8', v9', rfl, rfl⟩ := hrun
      have hff : (S ++ [Cell.lst (now'.map .int)])[f]? = some (.lst (found.map tupI)) := get_app _ hfd
      refine ⟨_, [some b, some (.tup (s.map tupI)), some (.int L), some (.int E), some (.tup (rows.map rowD)), some (.obj S.length), some (.obj f), some (.int i), v8', v9', none, none], (S ++ [Cell.lst (now'.map .int)]).set f (.lst ((found ++ [now']).map tupI)), rfl, ?_, rfl, hl', by simp [hl2], S.length, some (.int i), v8', v9', rfl, ?_, ?_, ?_⟩
      · simp -dsimp [↓toT, ↓toG, ↓toF, ↓toL, bndT_some, bndT_none, guT_true, ite_and, ite_or, fin_nx, fin_ret, exSs, exS, evE, evs, evO, evT, evI, bl_some, optInt, asgT, asgTs, startE, wipeE, List.map_cons, List.map_nil, List.length_cons, List.length_nil, List.replicate, List.cons_append, List.nil_append, List.append_nil, eq_ii, ne_ii, eq_ss, ne_ss, eq_bb, ne_bb, lt_ii, le_ii, gt_ii, ge_ii, add_ii, sub_ii, isi_i, isi_b, isi_n, isi_s, isi_t, isi_l, sub_t, sub_l, at0, at1, at2, at3, len_t, slice_t, cut1, cut_02, zipT_tail, zipT_map, forT_nil, forT_cons, forK_nx, forK_brk, forK_ret, len_l, walk_t, walk_l, walk_o, walkC_l, walkC_d, seq_t, seq_l, seq_o, lst_o, lst_l, srcOf_o, isi_o, sub_o, subC_l, subC_d, min_s, tup_s, list_s, len_s, index_s, omap_some, obind_some, srcOf_t, srcOf_l, srcOk_nil, mk_f, mk_t, int_b, int_i, b_lengths_of_L1, storyD, hst, ha, intsOf_map, hlc, minL_eq hne, hm]
        rw [forT, h1]
        have hb : found.length < 16777216 := by omega
        simp -dsimp [↓toT, ↓toG, ↓toF, ↓toL, bndT_some, bndT_none, guT_true, ite_and, ite_or, fin_nx, fin_ret, exSs, exS, evE, evs, evO, evT, evI, bl_some, optInt, asgT, asgTs, startE, wipeE, List.map_cons, List.map_nil, List.length_cons, List.length_nil, List.replicate, List.cons_append, List.nil_append, List.append_nil, eq_ii, ne_ii, eq_ss, ne_ss, eq_bb, ne_bb, lt_ii, le_ii, gt_ii, ge_ii, add_ii, sub_ii, isi_i, isi_b, isi_n, isi_s, isi_t, isi_l, sub_t, sub_l, at0, at1, at2, at3, len_t, slice_t, cut1, cut_02, zipT_tail, zipT_map, forT_nil, forT_cons, forK_nx, forK_brk, forK_ret, len_l, walk_t, walk_l, walk_o, walkC_l, walkC_d, seq_t, seq_l, seq_o, lst_o, lst_l, srcOf_o, isi_o, sub_o, subC_l, subC_d, min_s, tup_s, list_s, len_s, index_s, omap_some, obind_some, srcOf_t, srcOf_l, srcOk_nil, mk_f, mk_t, int_b, int_i, hff, appendD, hb, tupI]
      · exact pre_set _ (pre_app _ hp) hf
      · rw [List.getElem?_set_ne (by omega)]; simp
      · rw [List.getElem?_set_self (by simp; omega)]
end SL

/-! PD: lengths_of, is_story. -/
namespace SL
open PySem
variable {Γ : Str → Option Fn}
theorem ev_lengths_of (G : Std Γ) (k n m : Nat) (N E : Int) (hN : N = n) (hE : E + 1 = m) (S : Sto) (rows : List (Int × Int)) (hn : 0 < n) (hn2 : n ≤ 1000) (hm : m ≤ 1000) (hr : ∀ r ∈ rows, 0 ≤ r.2 ∧ r.2 < (n : Int)) (s : List (List Int)) (hs : s.length = m) (hw : ∀ row ∈ s, row.length = n) :
    Turn (lengthsOf n m rows s) (fun found => ∃ S' f, callK Γ (k + 2) "lengths_of" [bookD N E rows, storyD s] S = some (.obj f, S') ∧ S <+: S' ∧ S'[f]? = some (.lst (found.map tupI)))
      (∃ S', callK Γ (k + 2) "lengths_of" [bookD N E rows, storyD s] S = some (.non, S') ∧ S <+: S') := by
  rw [call_step G.h_lengths_of]
  have hrun := for_run (fun i : Nat => D.int (i : Int)) (src := []) (asg := asgT (.name 7)) (body := fun env S => exSs (callK Γ (k + 1)) b_lengths_of_L1 env S) (stepL rows s)
    (fun j st env S' => st.1.length = n ∧ st.2.length = j ∧ ∃ a v7 v8 v9, env = [some (bookD N E rows), some (.tup (s.map tupI)), some (.int N), some (.int E), some (.tup (rows.map rowD)), some (.obj a), some (.obj (S.length + 1)), v7, v8, v9, none, none] ∧ S <+: S' ∧ S'[a]? = some (.lst (st.1.map .int)) ∧ S'[S.length + 1]? = some (.lst (st.2.map tupI)))
    (fun d S' => d = .non ∧ S <+: S') (List.range m) (List.replicate n 0, [])
    [some (bookD N E rows), some (.tup (s.map tupI)), some (.int N), some (.int E), some (.tup (rows.map rowD)), some (.obj S.length), some (.obj (S.length + 1)), none, none, none, none, none] (S ++ [.lst (List.replicate n (.int 0)), .lst []])
    ⟨by simp, rfl, S.length, none, none, none, rfl, List.prefix_append .., by simp, by simp⟩
    (fun j x hx st env S' h => by
      have hj : j < m ∧ x = j := by
        have := List.getElem?_eq_some_iff.1 hx
        obtain ⟨h1, h2⟩ := this
        simp at h1 h2
        exact ⟨h1, h2.symm⟩
      obtain ⟨hj, rfl⟩ := hj
      exact ev_lengths_L1 G k n _ _ _ hn rows hr s (S.length + 1) S (by omega) x (by omega) (hw _ (by simp [List.getD, hs, hj])) (by omega) (by omega) _ rfl st env S' h)
  have hz : binD true .mul (.lst [.int 0]) (.int N) S = some (.obj S.length, S ++ [.lst (List.replicate n (.int 0))]) := by rw [hN]; exact mul_rep (.int 0) n S hn2
  have hrg : rng1 (.int (E + 1)) = some ((List.range m).map fun i : Nat => .int (i : Int)) := by rw [hE]; exact rng1_i m (by omega)
  clear hN hE
  rw [lengthsOf]
  rw [bookD] at *
  cases hj : (List.range m).foldlM (stepL rows s) (List.replicate n 0, []) with
  | none =>
    rw [hj] at hrun
    obtain ⟨env', S', d, h1, rfl, h2⟩ := hrun
    refine ⟨S', ?_, h2⟩
    simp -dsimp [↓toT, ↓toG, ↓toF, ↓toL, bndT_some, bndT_none, guT_true, ite_and, ite_or, fin_nx, fin_ret, exSs, exS, evE, evs, evO, evT, evI, bl_some, optInt, asgT, asgTs, startE, wipeE, List.map_cons, List.map_nil, List.length_cons, List.length_nil, List.replicate, List.cons_append, List.nil_append, List.append_nil, eq_ii, ne_ii, eq_ss, ne_ss, eq_bb, ne_bb, lt_ii, le_ii, gt_ii, ge_ii, add_ii, sub_ii, isi_i, isi_b, isi_n, isi_s, isi_t, isi_l, sub_t, sub_l, at0, at1, at2, at3, len_t, slice_t, cut1, cut_02, zipT_tail, zipT_map, forT_nil, forT_cons, forK_nx, forK_brk, forK_ret, len_l, walk_t, walk_l, walk_o, walkC_l, walkC_d, seq_t, seq_l, seq_o, lst_o, lst_l, srcOf_o, isi_o, sub_o, subC_l, subC_d, min_s, tup_s, list_s, len_s, index_s, omap_some, obind_some, srcOf_t, srcOf_l, srcOk_nil, mk_f, mk_t, int_b, int_i, b_lengths_of, bookD, storyD, hz, hrg]
    rw [forT, h1]
    simp -dsimp [↓toT, ↓toG, ↓toF, ↓toL, bndT_some, bndT_none, guT_true, ite_and, ite_or, fin_nx, fin_ret, exSs, exS, evE, evs, evO, evT, evI, bl_some, optInt, asgT, asgTs, startE, wipeE, List.map_cons, List.map_nil, List.length_cons, List.length_nil, List.replicate, List.cons_append, List.nil_append, List.append_nil, eq_ii, ne_ii, eq_ss, ne_ss, eq_bb, ne_bb, lt_ii, le_ii, gt_ii, ge_ii, add_ii, sub_ii, isi_i, isi_b, isi_n, isi_s, isi_t, isi_l, sub_t, sub_l, at0, at1, at2, at3, len_t, slice_t, cut1, cut_02, zipT_tail, zipT_map, forT_nil, forT_cons, forK_nx, forK_brk, forK_ret, len_l, walk_t, walk_l, walk_o, walkC_l, walkC_d, seq_t, seq_l, seq_o, lst_o, lst_l, srcOf_o, isi_o, sub_o, subC_l, subC_d, min_s, tup_s, list_s, len_s, index_s, omap_some, obind_some, srcOf_t, srcOf_l, srcOk_nil, mk_f, mk_t, int_b, int_i]
  | some st =>
    rw [hj] at hrun
    obtain ⟨env', S', h1, hl, hl2, a, v7, v8, v9, rfl, h2, h3, h4⟩ := hrun
    refine ⟨S', S.length + 1, ?_, h2, h4⟩
    simp -dsimp [↓toT, ↓toG, ↓toF, ↓toL, bndT_some, bndT_none, guT_true, ite_and, ite_or, fin_nx, fin_ret, exSs, exS, evE, evs, evO, evT, evI, bl_some, optInt, asgT, asgTs, startE, wipeE, List.map_cons, List.map_nil, List.length_cons, List.length_nil, List.replicate, List.cons_append, List.nil_append, List.append_nil, eq_ii, ne_ii, eq_ss, ne_ss, eq_bb, ne_bb, lt_ii, le_ii, gt_ii, ge_ii, add_ii, sub_ii, isi_i, isi_b, isi_n, isi_s, isi_t, isi_l, sub_t, sub_l, at0, at1, at2, at3, len_t, slice_t, cut1, cut_02, zipT_tail, zipT_map, forT_nil, forT_cons, forK_nx, forK_brk, forK_ret, len_l, walk_t, walk_l, walk_o, walkC_l, walkC_d, seq_t, seq_l, seq_o, lst_o, lst_l, srcOf_o, isi_o, sub_o, subC_l, subC_d, min_s, tup_s, list_s, len_s, index_s, omap_some, obind_some, srcOf_t, srcOf_l, srcOk_nil, mk_f, mk_t, int_b, int_i, b_lengths_of, bookD, storyD, hz, hrg]
    rw [forT, h1]
    simp -dsimp [↓toT, ↓toG, ↓toF, ↓toL, bndT_some, bndT_none, guT_true, ite_and, ite_or, fin_nx, fin_ret, exSs, exS, evE, evs, evO, evT, evI, bl_some, optInt, asgT, asgTs, startE, wipeE, List.map_cons, List.map_nil, List.length_cons, List.length_nil, List.replicate, List.cons_append, List.nil_append, List.append_nil, eq_ii, ne_ii, eq_ss, ne_ss, eq_bb, ne_bb, lt_ii, le_ii, gt_ii, ge_ii, add_ii, sub_ii, isi_i, isi_b, isi_n, isi_s, isi_t, isi_l, sub_t, sub_l, at0, at1, at2, at3, len_t, slice_t, cut1, cut_02, zipT_tail, zipT_map, forT_nil, forT_cons, forK_nx, forK_brk, forK_ret, len_l, walk_t, walk_l, walk_o, walkC_l, walkC_d, seq_t, seq_l, seq_o, lst_o, lst_l, srcOf_o, isi_o, sub_o, subC_l, subC_d, min_s, tup_s, list_s, len_s, index_s, omap_some, obind_some, srcOf_t, srcOf_l, srcOk_nil, mk_f, mk_t, int_b, int_i]
end SL

/-! PE: is_story. -/
namespace SL
open PySem
variable {Γ : Str → Option Fn}
def bits (row : List Int) : Prop := ∀ x ∈ row, 0 ≤ x ∧ x ≤ 1
def seenOk (found : List (List Int)) (ss : List (Int × Int × Int)) : Bool := ss.all fun x => decide ((found.getD x.1.toNat []).getD x.2.1.toNat 0 = x.2.2)
def storyOk (n m : Nat) (rows : List (Int × Int)) (ss : List (Int × Int × Int)) (s : List (List Int)) : Bool := match lengthsOf n m rows s with
  | none => false
  | some found => seenOk found ss
theorem ev_is_served (G : Std Γ) (k n : Nat) (N : Int) (hN : N = n) (S : Sto) (row : List Int) (hw : row.length = n) (hb : bits row) (hn : n ≤ 1000) : callK Γ (k + 3) "is_served" [.int N, tupI row] S = some (.bl true, S) := by
  rw [call_step G.h_is_served]
  have ha : (row.all fun x => decide (0 ≤ x ∧ x ≤ 1)) = true := by
    rw [List.all_eq_true]; intro x hx; simpa using hb x hx
  have hl : ((row.length : Nat) : Int) = N := by omega
  clear hN
  simp -dsimp [↓toT, ↓toG, ↓toF, ↓toL, bndT_some, bndT_none, guT_true, ite_and, ite_or, fin_nx, fin_ret, exSs, exS, evE, evs, evO, evT, evI, bl_some, optInt, asgT, asgTs, startE, wipeE, List.map_cons, List.map_nil, List.length_cons, List.length_nil, List.replicate, List.cons_append, List.nil_append, List.append_nil, eq_ii, ne_ii, eq_ss, ne_ss, eq_bb, ne_bb, lt_ii, le_ii, gt_ii, ge_ii, add_ii, sub_ii, isi_i, isi_b, isi_n, isi_s, isi_t, isi_l, sub_t, sub_l, at0, at1, at2, at3, len_t, slice_t, cut1, cut_02, zipT_tail, zipT_map, forT_nil, forT_cons, forK_nx, forK_brk, forK_ret, len_l, walk_t, walk_l, walk_o, walkC_l, walkC_d, seq_t, seq_l, seq_o, lst_o, lst_l, srcOf_o, isi_o, sub_o, subC_l, subC_d, min_s, tup_s, list_s, len_s, index_s, omap_some, obind_some, srcOf_t, srcOf_l, srcOk_nil, mk_f, mk_t, int_b, int_i, b_is_served, tupI, tyIs, hl]
  rw [lcT_all D.int (fun x => .bl (decide (0 ≤ x ∧ x ≤ 1))) row rfl (by simp; omega) (fun x hx => ⟨_, rfl, rfl, by simp -dsimp [↓toT, ↓toG, ↓toF, ↓toL, bndT_some, bndT_none, guT_true, ite_and, ite_or, fin_nx, fin_ret, exSs, exS, evE, evs, evO, evT, evI, bl_some, optInt, asgT, asgTs, startE, wipeE, List.map_cons, List.map_nil, List.length_cons, List.length_nil, List.replicate, List.cons_append, List.nil_append, List.append_nil, eq_ii, ne_ii, eq_ss, ne_ss, eq_bb, ne_bb, lt_ii, le_ii, gt_ii, ge_ii, add_ii, sub_ii, isi_i, isi_b, isi_n, isi_s, isi_t, isi_l, sub_t, sub_l, at0, at1, at2, at3, len_t, slice_t, cut1, cut_02, zipT_tail, zipT_map, forT_nil, forT_cons, forK_nx, forK_brk, forK_ret, len_l, walk_t, walk_l, walk_o, walkC_l, walkC_d, seq_t, seq_l, seq_o, lst_o, lst_l, srcOf_o, isi_o, sub_o, subC_l, subC_d, min_s, tup_s, list_s, len_s, index_s, omap_some, obind_some, srcOf_t, srcOf_l, srcOk_nil, mk_f, mk_t, int_b, int_i, b_is_served_E0, ev_is_within G]⟩)]
  simp -dsimp only [↓toT, ↓toG, ↓toF, ↓toL, bndT_some, bndT_none, guT_true, ite_and, ite_or, fin_nx, fin_ret, exSs, exS, evE, evs, evO, evT, evI, bl_some, optInt, asgT, asgTs, startE, wipeE, List.map_cons, List.map_nil, List.length_cons, List.length_nil, List.replicate, List.cons_append, List.nil_append, List.append_nil, eq_ii, ne_ii, eq_ss, ne_ss, eq_bb, ne_bb, lt_ii, le_ii, gt_ii, ge_ii, add_ii, sub_ii, isi_i, isi_b, isi_n, isi_s, isi_t, isi_l, sub_t, sub_l, at0, at1, at2, at3, len_t, slice_t, cut1, cut_02, zipT_tail, zipT_map, forT_nil, forT_cons, forK_nx, forK_brk, forK_ret, len_l, walk_t, walk_l, walk_o, walkC_l, walkC_d, seq_t, seq_l, seq_o, lst_o, lst_l, srcOf_o, isi_o, sub_o, subC_l, subC_d, min_s, tup_s, list_s, len_s, index_s, omap_some, obind_some, srcOf_t, srcOf_l, srcOk_nil, mk_f, mk_t, int_b, int_i, all_l, ha]
theorem joinTo_len (t : Int) : ∀ (rs : List (Int × Int)) (now now' : List Int), joinTo t rs now = some now' → now'.length = now.length
  | [], now, now', h => by cases h; rfl
  | r :: rs, now, now', h => by
    rw [joinTo, List.foldlM_cons] at h
    cases hj : join1 t now r with
    | none => rw [hj] at h; cases h
    | some now1 =>
      rw [hj] at h
      have h2 := joinTo_len t rs now1 now' h
      rw [h2]
      unfold join1 at hj
      split at hj
      · split at hj
        · cases hj; simp
        · cases hj
      · cases hj; rfl
theorem stepL_len {rows : List (Int × Int)} {s : List (List Int)} {st st' : List Int × List (List Int)} {i n : Nat} (h : stepL rows s st i = some st') (h1 : st.1.length = n) (h2 : (s.getD i []).length = n) (h3 : ∀ r ∈ st.2, r.length = n) : st'.1.length = n ∧ st'.2.length = st.2.length + 1 ∧ ∀ r ∈ st'.2, r.length = n := by
  unfold stepL at h
  cases hj : stepT rows i (s.getD i []) st.1 with
  | none => rw [hj] at h; cases h
  | some now =>
    rw [hj] at h
    cases h
    unfold stepT at hj
    split at hj
    · cases hj
    · have := joinTo_len _ _ _ _ hj
      have e : now.length = n := by rw [this]; simp only [subI, List.length_map, List.length_zip, h1, h2]; omega
      refine ⟨e, by simp, ?_⟩
      intro r hr
      rcases List.mem_append.1 hr with hr | hr
      · exact h3 r hr
      · rw [List.mem_singleton] at hr
        subst hr; exact e
theorem foldL_len (rows : List (Int × Int)) (s : List (List Int)) (n : Nat) (hw : ∀ i, i < s.length → (s.getD i []).length = n) : ∀ (is : List Nat) (st st' : List Int × List (List Int)), (∀ i ∈ is, i < s.length) → is.foldlM (stepL rows s) st = some st' → st.1.length = n → (∀ r ∈ st.2, r.length = n) → st'.1.length = n ∧ st'.2.length = st.2.length + is.length ∧ ∀ r ∈ st'.2, r.length = n
  | [], st, st', _, h, h1, h2 => by cases h; exact ⟨h1, rfl, h2⟩
  | i :: is, st, st', hi, h, h1, h2 => by
    rw [List.foldlM_cons] at h
    cases hj : stepL rows s st i with
    | none => rw [hj] at h; cases h
    | some st1 =>
      rw [hj] at h
      obtain ⟨a, b, c⟩ := stepL_len hj h1 (hw i (hi i (.head _))) h2
      obtain ⟨a', b', c'⟩ := foldL_len rows s n hw is st1 st' (fun j hj => hi j (.tail _ hj)) h a c
      refine ⟨a', ?_, c'⟩
      rw [b', b, List.length_cons]; omega
theorem lengthsOf_len {n m : Nat} {rows : List (Int × Int)} {s : List (List Int)} {found : List (List Int)} (hs : s.length = m) (hw : ∀ row ∈ s, row.length = n) (h : lengthsOf n m rows s = some found) : found.length = m ∧ ∀ r ∈ found, r.length = n := by
  unfold lengthsOf at h
  cases hj : (List.range m).foldlM (stepL rows s) (List.replicate n 0, []) with
  | none => rw [hj] at h; cases h
  | some st =>
    rw [hj] at h
    cases h
    obtain ⟨a, b, c⟩ := foldL_len rows s n (fun i hi => hw _ (by simp [List.getD, hi])) (List.range m) _ _ (by simp [hs]) hj (by simp) (by simp)
    exact ⟨by simpa using b, c⟩
theorem at_found {found : List (List Int)} {n m : Nat} (h1 : found.length = m) (h2 : ∀ r ∈ found, r.length = n) {t l : Int} (ht : 0 ≤ t ∧ t < m) (hl : 0 ≤ l ∧ l < n) :
    ∃ r : List Int, L2.atI (found.map tupI) t = some (tupI r) ∧ L2.atI (r.map D.int) l = some (.int ((found.getD t.toNat []).getD l.toNat 0)) := by
  have e1 : t.toNat < found.length := by omega
  have e2 := h2 (found.getD t.toNat []) (by simp [List.getD, e1])
  have e3 : l.toNat < (found.getD t.toNat []).length := by omega
  refine ⟨found.getD t.toNat [], ?_, ?_⟩
  · obtain ⟨i, rfl⟩ : ∃ i : Nat, t = i := ⟨t.toNat, by omega⟩
    rw [atI_nat]; simp only [Int.toNat_natCast] at *; simp [List.getD, e1]
  · generalize found.getD t.toNat [] = r at e3
    obtain ⟨i, rfl⟩ : ∃ i : Nat, l = i := ⟨l.toNat, by omega⟩
    rw [atI_nat]; simp only [Int.toNat_natCast] at *; simp [List.getD, e3]
theorem book_0 (S : Sto) (L E : Int) (rows : List (Int × Int)) : subD S (bookD L E rows) (.int 0) = some (.int L) := rfl
theorem book_1 (S : Sto) (L E : Int) (rows : List (Int × Int)) : subD S (bookD L E rows) (.int 1) = some (.int E) := rfl
theorem book_2 (S : Sto) (L E : Int) (rows : List (Int × Int)) : subD S (bookD L E rows) (.int 2) = some (.tup (rows.map rowD)) := rfl
theorem book_t (ts : List Tg) (env : En) (L E : Int) (rows : List (Int × Int)) : asgT (.tup ts) (bookD L E rows) env = asgTs ts [.int L, .int E, .tup (rows.map rowD)] env := by rw [bookD, asgT]
theorem book_q (S : Sto) (L E : Int) (rows : List (Int × Int)) : seqOf S (bookD L E rows) = some [.int L, .int E, .tup (rows.map rowD)] := rfl
theorem book_i (S : Sto) (L E : Int) (rows : List (Int × Int)) (ts : List Ty) : isiD S (bookD L E rows) ts = some (ts.any (tyIs S (bookD L E rows))) := rfl
theorem sights_w (S : Sto) (ss : List (Int × Int × Int)) : walkD S (sightsD ss) = some (ss.map sightD) := rfl
theorem sights_s (S : Sto) (ss : List (Int × Int × Int)) : srcOf S (sightsD ss) = [] := rfl
theorem sights_q (S : Sto) (ss : List (Int × Int × Int)) : seqOf S (sightsD ss) = some (ss.map sightD) := rfl
theorem story_w (S : Sto) (s : List (List Int)) : walkD S (storyD s) = some (s.map tupI) := rfl
theorem story_s (S : Sto) (s : List (List Int)) : srcOf S (storyD s) = [] := rfl
theorem story_q (S : Sto) (s : List (List Int)) : seqOf S (storyD s) = some (s.map tupI) := rfl
theorem story_i (S : Sto) (s : List (List Int)) (ts : List Ty) : isiD S (storyD s) ts = some (ts.any (tyIs S (.tup (s.map tupI)))) := rfl
theorem ev_is_story (G : Std Γ) (k n m : Nat) (N E : Int) (hN : N = n) (hE : E + 1 = m) (S : Sto) (rows : List (Int × Int)) (ss : List (Int × Int × Int)) (hB : BookOk N E rows) (hS : SightsOk N E ss) (s : List (List Int)) (hw : ∀ row ∈ s, row.length = n ∧ bits row) (hs1 : s.length ≤ 1000) :
    ∃ S', callK Γ (k + 7) "is_story" [bookD N E rows, sightsD ss, storyD s] S = some (.bl (decide (s.length = m) && storyOk n m rows ss s), S') ∧ S <+: S' := by
  rw [call_step G.h_is_story]
  have hL1 := hB.L1
  have hL4 := hB.L4
  have hE0 := hB.E0
  have hE30 := hB.E30
  by_cases hl : s.length = m
  · have hl' : ((s.length : Nat) : Int) = E + 1 := by omega
    have hlen := ev_lengths_of G (k + 4) n m N E hN hE S rows (by omega) (by omega) (by omega) (fun r hr => by have := hB.row r hr; omega) s hl (fun r hr => (hw r hr).1)
    have hserv : lcT [] (fun d => asgT (.name 4) d (wipeE [some (bookD N E rows), some (sightsD ss), some (storyD s), none, none, none, none, none] [4])) (fun env S => evT (callK Γ (k + 6)) .no env S) (fun env S => evE (callK Γ (k + 6)) b_is_story_E0 env S) .mk .mk .mk (s.map tupI) S [] = some (s.map fun _ => .bl true, S) := by
      rw [lcT_all tupI (fun _ => .bl true) s rfl (by simp; omega) (fun x hx => ⟨_, rfl, rfl, by simp -dsimp [↓toT, ↓toG, ↓toF, ↓toL, bndT_some, bndT_none, guT_true, ite_and, ite_or, fin_nx, fin_ret, exSs, exS, evE, evs, evO, evT, evI, bl_some, optInt, asgT, asgTs, startE, wipeE, List.map_cons, List.map_nil, List.length_cons, List.length_nil, List.replicate, List.cons_append, List.nil_append, List.append_nil, eq_ii, ne_ii, eq_ss, ne_ss, eq_bb, ne_bb, lt_ii, le_ii, gt_ii, ge_ii, add_ii, sub_ii, isi_i, isi_b, isi_n, isi_s, isi_t, isi_l, sub_t, sub_l, at0, at1, at2, at3, len_t, slice_t, cut1, cut_02, zipT_tail, zipT_map, forT_nil, forT_cons, forK_nx, forK_brk, forK_ret, len_l, walk_t, walk_l, walk_o, walkC_l, walkC_d, seq_t, seq_l, seq_o, lst_o, lst_l, srcOf_o, isi_o, sub_o, subC_l, subC_d, min_s, tup_s, list_s, len_s, index_s, omap_some, obind_some, srcOf_t, srcOf_l, srcOk_nil, mk_f, mk_t, int_b, int_i, book_0, book_1, book_2, ↓book_t, book_q, book_i, sights_w, sights_s, sights_q, story_w, story_s, story_q, story_i, b_is_story_E0, ev_is_served G (k + 3) n N hN S x (hw x hx).1 (hw x hx).2 (by omega)]⟩)]
      simp
    have ha : biD false .all [.lst (s.map fun _ => .bl true)] S = some (.bl true, S) := by
      rw [all_l false (fun _ => true) s S]; simp
    have hlk := ev_look_at G k S hB hS
    have hsl : decide (s.length = m) = true := by simp [hl]
    rw [hsl, Bool.true_and, storyOk]
    cases hf : lengthsOf n m rows s with
    | none =>
      rw [hf] at hlen
      obtain ⟨S', h1, h2⟩ := hlen
      refine ⟨S', ?_, h2⟩
      generalize hM : E + 1 = M at *
      clear hN hE
      simp -dsimp [↓toT, ↓toG, ↓toF, ↓toL, bndT_some, bndT_none, guT_true, ite_and, ite_or, fin_nx, fin_ret, exSs, exS, evE, evs, evO, evT, evI, bl_some, optInt, asgT, asgTs, startE, wipeE, List.map_cons, List.map_nil, List.length_cons, List.length_nil, List.replicate, List.cons_append, List.nil_append, List.append_nil, eq_ii, ne_ii, eq_ss, ne_ss, eq_bb, ne_bb, lt_ii, le_ii, gt_ii, ge_ii, add_ii, sub_ii, isi_i, isi_b, isi_n, isi_s, isi_t, isi_l, sub_t, sub_l, at0, at1, at2, at3, len_t, slice_t, cut1, cut_02, zipT_tail, zipT_map, forT_nil, forT_cons, forK_nx, forK_brk, forK_ret, len_l, walk_t, walk_l, walk_o, walkC_l, walkC_d, seq_t, seq_l, seq_o, lst_o, lst_l, srcOf_o, isi_o, sub_o, subC_l, subC_d, min_s, tup_s, list_s, len_s, index_s, omap_some, obind_some, srcOf_t, srcOf_l, srcOk_nil, mk_f, mk_t, int_b, int_i, book_0, book_1, book_2, ↓book_t, book_q, book_i, sights_w, sights_s, sights_q, story_w, story_s, story_q, story_i, b_is_story, tyIs, hl', hlk, hM]
      rw [hserv]
      simp -dsimp only [↓toT, ↓toG, ↓toF, ↓toL, bndT_some, bndT_none, guT_true, ite_and, ite_or, fin_nx, fin_ret, exSs, exS, evE, evs, evO, evT, evI, bl_some, optInt, asgT, asgTs, startE, wipeE, List.map_cons, List.map_nil, List.length_cons, List.length_nil, List.replicate, List.cons_append, List.nil_append, List.append_nil, eq_ii, ne_ii, eq_ss, ne_ss, eq_bb, ne_bb, lt_ii, le_ii, gt_ii, ge_ii, add_ii, sub_ii, isi_i, isi_b, isi_n, isi_s, isi_t, isi_l, sub_t, sub_l, at0, at1, at2, at3, len_t, slice_t, cut1, cut_02, zipT_tail, zipT_map, forT_nil, forT_cons, forK_nx, forK_brk, forK_ret, len_l, walk_t, walk_l, walk_o, walkC_l, walkC_d, seq_t, seq_l, seq_o, lst_o, lst_l, srcOf_o, isi_o, sub_o, subC_l, subC_d, min_s, tup_s, list_s, len_s, index_s, omap_some, obind_some, srcOf_t, srcOf_l, srcOk_nil, mk_f, mk_t, int_b, int_i, book_0, book_1, book_2, ↓book_t, book_q, book_i, sights_w, sights_s, sights_q, story_w, story_s, story_q, story_i, ha, Bool.not_true, if_false, h1]
      simp -dsimp [↓toT, ↓toG, ↓toF, ↓toL, bndT_some, bndT_none, guT_true, ite_and, ite_or, fin_nx, fin_ret, exSs, exS, evE, evs, evO, evT, evI, bl_some, optInt, asgT, asgTs, startE, wipeE, List.map_cons, List.map_nil, List.length_cons, List.length_nil, List.replicate, List.cons_append, List.nil_append, List.append_nil, eq_ii, ne_ii, eq_ss, ne_ss, eq_bb, ne_bb, lt_ii, le_ii, gt_ii, ge_ii, add_ii, sub_ii, isi_i, isi_b, isi_n, isi_s, isi_t, isi_l, sub_t, sub_l, at0, at1, at2, at3, len_t, slice_t, cut1, cut_02, zipT_tail, zipT_map, forT_nil, forT_cons, forK_nx, forK_brk, forK_ret, len_l, walk_t, walk_l, walk_o, walkC_l, walkC_d, seq_t, seq_l, seq_o, lst_o, lst_l, srcOf_o, isi_o, sub_o, subC_l, subC_d, min_s, tup_s, list_s, len_s, index_s, omap_some, obind_some, srcOf_t, srcOf_l, srcOk_nil, mk_f, mk_t, int_b, int_i, book_0, book_1, book_2, ↓book_t, book_q, book_i, sights_w, sights_s, sights_q, story_w, story_s, story_q, story_i, h1]
    | some found =>
      rw [hf] at hlen
      obtain ⟨S', f, h1, h2, h3⟩ := hlen
      obtain ⟨hfl, hfw⟩ := lengthsOf_len hl (fun r hr => (hw r hr).1) hf
      refine ⟨S', ?_, h2⟩
      have hsee : lcT [] (fun d => asgT (.tup [.name 5, .name 6, .name 7]) d (wipeE [some (bookD N E rows), some (sightsD ss), some (storyD s), some (.obj f), none, none, none, none] [5, 6, 7])) (fun env S => evT (callK Γ (k + 6)) .no env S) (fun env S => evE (callK Γ (k + 6)) b_is_story_E1 env S) .mk .mk .mk (ss.map sightD) S' [] = some (ss.map fun x => .bl (decide ((found.getD x.1.toNat []).getD x.2.1.toNat 0 = x.2.2)), S') := by
        have := hS.few
        rw [lcT_all sightD (fun x => .bl (decide ((found.getD x.1.toNat []).getD x.2.1.toNat 0 = x.2.2))) ss rfl (by simp; omega) (fun x hx => ⟨_, rfl, rfl, by
          have h4 := hS.one x hx
          obtain ⟨r, e1, e2⟩ := at_found hfl hfw (t := x.1) (l := x.2.1) (by omega) (by omega)
          simp -dsimp [↓toT, ↓toG, ↓toF, ↓toL, bndT_some, bndT_none, guT_true, ite_and, ite_or, fin_nx, fin_ret, exSs, exS, evE, evs, evO, evT, evI, bl_some, optInt, asgT, asgTs, startE, wipeE, List.map_cons, List.map_nil, List.length_cons, List.length_nil, List.replicate, List.cons_append, List.nil_append, List.append_nil, eq_ii, ne_ii, eq_ss, ne_ss, eq_bb, ne_bb, lt_ii, le_ii, gt_ii, ge_ii, add_ii, sub_ii, isi_i, isi_b, isi_n, isi_s, isi_t, isi_l, sub_t, sub_l, at0, at1, at2, at3, len_t, slice_t, cut1, cut_02, zipT_tail, zipT_map, forT_nil, forT_cons, forK_nx, forK_brk, forK_ret, len_l, walk_t, walk_l, walk_o, walkC_l, walkC_d, seq_t, seq_l, seq_o, lst_o, lst_l, srcOf_o, isi_o, sub_o, subC_l, subC_d, min_s, tup_s, list_s, len_s, index_s, omap_some, obind_some, srcOf_t, srcOf_l, srcOk_nil, mk_f, mk_t, int_b, int_i, book_0, book_1, book_2, ↓book_t, book_q, book_i, sights_w, sights_s, sights_q, story_w, story_s, story_q, story_i, b_is_story_E1, h3, e1, e2, sightD, tupI]⟩)]
        simp
      generalize hM : E + 1 = M at *
      clear hN hE
      simp -dsimp [↓toT, ↓toG, ↓toF, ↓toL, bndT_some, bndT_none, guT_true, ite_and, ite_or, fin_nx, fin_ret, exSs, exS, evE, evs, evO, evT, evI, bl_some, optInt, asgT, asgTs, startE, wipeE, List.map_cons, List.map_nil, List.length_cons, List.length_nil, List.replicate, List.cons_append, List.nil_append, List.append_nil, eq_ii, ne_ii, eq_ss, ne_ss, eq_bb, ne_bb, lt_ii, le_ii, gt_ii, ge_ii, add_ii, sub_ii, isi_i, isi_b, isi_n, isi_s, isi_t, isi_l, sub_t, sub_l, at0, at1, at2, at3, len_t, slice_t, cut1, cut_02, zipT_tail, zipT_map, forT_nil, forT_cons, forK_nx, forK_brk, forK_ret, len_l, walk_t, walk_l, walk_o, walkC_l, walkC_d, seq_t, seq_l, seq_o, lst_o, lst_l, srcOf_o, isi_o, sub_o, subC_l, subC_d, min_s, tup_s, list_s, len_s, index_s, omap_some, obind_some, srcOf_t, srcOf_l, srcOk_nil, mk_f, mk_t, int_b, int_i, book_0, book_1, book_2, ↓book_t, book_q, book_i, sights_w, sights_s, sights_q, story_w, story_s, story_q, story_i, b_is_story, tyIs, hl', hlk, hM]
      rw [hserv]
      simp -dsimp only [↓toT, ↓toG, ↓toF, ↓toL, bndT_some, bndT_none, guT_true, ite_and, ite_or, fin_nx, fin_ret, exSs, exS, evE, evs, evO, evT, evI, bl_some, optInt, asgT, asgTs, startE, wipeE, List.map_cons, List.map_nil, List.length_cons, List.length_nil, List.replicate, List.cons_append, List.nil_append, List.append_nil, eq_ii, ne_ii, eq_ss, ne_ss, eq_bb, ne_bb, lt_ii, le_ii, gt_ii, ge_ii, add_ii, sub_ii, isi_i, isi_b, isi_n, isi_s, isi_t, isi_l, sub_t, sub_l, at0, at1, at2, at3, len_t, slice_t, cut1, cut_02, zipT_tail, zipT_map, forT_nil, forT_cons, forK_nx, forK_brk, forK_ret, len_l, walk_t, walk_l, walk_o, walkC_l, walkC_d, seq_t, seq_l, seq_o, lst_o, lst_l, srcOf_o, isi_o, sub_o, subC_l, subC_d, min_s, tup_s, list_s, len_s, index_s, omap_some, obind_some, srcOf_t, srcOf_l, srcOk_nil, mk_f, mk_t, int_b, int_i, book_0, book_1, book_2, ↓book_t, book_q, book_i, sights_w, sights_s, sights_q, story_w, story_s, story_q, story_i, ha, Bool.not_true, if_false, h1]
      simp -dsimp [↓toT, ↓toG, ↓toF, ↓toL, bndT_some, bndT_none, guT_true, ite_and, ite_or, fin_nx, fin_ret, exSs, exS, evE, evs, evO, evT, evI, bl_some, optInt, asgT, asgTs, startE, wipeE, List.map_cons, List.map_nil, List.length_cons, List.length_nil, List.replicate, List.cons_append, List.nil_append, List.append_nil, eq_ii, ne_ii, eq_ss, ne_ss, eq_bb, ne_bb, lt_ii, le_ii, gt_ii, ge_ii, add_ii, sub_ii, isi_i, isi_b, isi_n, isi_s, isi_t, isi_l, sub_t, sub_l, at0, at1, at2, at3, len_t, slice_t, cut1, cut_02, zipT_tail, zipT_map, forT_nil, forT_cons, forK_nx, forK_brk, forK_ret, len_l, walk_t, walk_l, walk_o, walkC_l, walkC_d, seq_t, seq_l, seq_o, lst_o, lst_l, srcOf_o, isi_o, sub_o, subC_l, subC_d, min_s, tup_s, list_s, len_s, index_s, omap_some, obind_some, srcOf_t, srcOf_l, srcOk_nil, mk_f, mk_t, int_b, int_i, book_0, book_1, book_2, ↓book_t, book_q, book_i, sights_w, sights_s, sights_q, story_w, story_s, story_q, story_i, h1]
      rw [hsee]
      simp -dsimp only [↓toT, ↓toG, ↓toF, ↓toL, bndT_some, bndT_none, guT_true, ite_and, ite_or, fin_nx, fin_ret, exSs, exS, evE, evs, evO, evT, evI, bl_some, optInt, asgT, asgTs, startE, wipeE, List.map_cons, List.map_nil, List.length_cons, List.length_nil, List.replicate, List.cons_append, List.nil_append, List.append_nil, eq_ii, ne_ii, eq_ss, ne_ss, eq_bb, ne_bb, lt_ii, le_ii, gt_ii, ge_ii, add_ii, sub_ii, isi_i, isi_b, isi_n, isi_s, isi_t, isi_l, sub_t, sub_l, at0, at1, at2, at3, len_t, slice_t, cut1, cut_02, zipT_tail, zipT_map, forT_nil, forT_cons, forK_nx, forK_brk, forK_ret, len_l, walk_t, walk_l, walk_o, walkC_l, walkC_d, seq_t, seq_l, seq_o, lst_o, lst_l, srcOf_o, isi_o, sub_o, subC_l, subC_d, min_s, tup_s, list_s, len_s, index_s, omap_some, obind_some, srcOf_t, srcOf_l, srcOk_nil, mk_f, mk_t, int_b, int_i, book_0, book_1, book_2, ↓book_t, book_q, book_i, sights_w, sights_s, sights_q, story_w, story_s, story_q, story_i, all_l]
      rfl
  · refine ⟨S, ?_, List.prefix_refl _⟩
    have hl' : ¬ ((s.length : Nat) : Int) = E + 1 := by omega
    have hlk := ev_look_at G k S hB hS
    have hsl : decide (s.length = m) = false := by simp [hl]
    rw [hsl, Bool.false_and]
    simp -dsimp [↓toT, ↓toG, ↓toF, ↓toL, bndT_some, bndT_none, guT_true, ite_and, ite_or, fin_nx, fin_ret, exSs, exS, evE, evs, evO, evT, evI, bl_some, optInt, asgT, asgTs, startE, wipeE, List.map_cons, List.map_nil, List.length_cons, List.length_nil, List.replicate, List.cons_append, List.nil_append, List.append_nil, eq_ii, ne_ii, eq_ss, ne_ss, eq_bb, ne_bb, lt_ii, le_ii, gt_ii, ge_ii, add_ii, sub_ii, isi_i, isi_b, isi_n, isi_s, isi_t, isi_l, sub_t, sub_l, at0, at1, at2, at3, len_t, slice_t, cut1, cut_02, zipT_tail, zipT_map, forT_nil, forT_cons, forK_nx, forK_brk, forK_ret, len_l, walk_t, walk_l, walk_o, walkC_l, walkC_d, seq_t, seq_l, seq_o, lst_o, lst_l, srcOf_o, isi_o, sub_o, subC_l, subC_d, min_s, tup_s, list_s, len_s, index_s, omap_some, obind_some, srcOf_t, srcOf_l, srcOk_nil, mk_f, mk_t, int_b, int_i, book_0, book_1, book_2, ↓book_t, book_q, book_i, sights_w, sights_s, sights_q, story_w, story_s, story_q, story_i, b_is_story, tyIs, hl', hlk]
end SL

/-! PF: the law's own lengths. -/
namespace SL
open PySem
variable {Γ : Str → Option Fn}
theorem story_at (S : Sto) (s : List (List Int)) (i : Int) : subD S (storyD s) (.int i) = L2.atI (s.map tupI) i := rfl
theorem ev_law_lengths_L0 (G : Std Γ) (k n : Nat) (b st f : D) (t : Int) (a : Nat) (hn : 0 < n) (r : Int × Int) (hr : 0 ≤ r.2 ∧ r.2 < (n : Int)) (S0 : Sto) (ha : a < S0.length) 
    (Inv : List Int → En → Sto → Prop) (hI : Inv = fun now env S => now.length = n ∧ ∃ v8 v9, env = [some b, some st, some (.obj a), some f, some (.int t), v8, v9, none, none] ∧ S = S0.set a (.lst (now.map .int)))
    (now : List Int) (env : En) (S : Sto) (h : Inv now env S) :
    ForTurn [] (asgT (.tup [.name 5, .name 6])) (fun env S => exSs (callK Γ k) b__law_lengths_L0 env S) (rowD r) env S (join1 t now r) Inv (fun d S2 => d = .non ∧ ∃ c, S2 = S0.set a c) := by
  subst hI
  obtain ⟨hl, v8, v9, rfl, rfl⟩ := h
  have h0 : now ≠ [] := by rintro rfl; simp at hl; omega
  have hS : (S0.set a (.lst (now.map .int)))[a]? = some (.lst (now.map .int)) := by simp [ha]
  have hmm := (minI_mem h0).1
  have hix : L2.ixN now.length r.2 = some r.2.toNat := ixN_int hr.1 (by omega)
  have hat : L2.atI (now.map D.int) r.2 = some (.int (now.getD r.2.toNat 0)) := by
    have : r.2.toNat < now.length := by omega
    simp [L2.atI, hix, List.getD, this]
  by_cases h1 : r.1 = t
  · by_cases h2 : shortest now = r.2
    · simp only [join1, h1, h2, if_true]
      rw [shortest] at h2
      refine ⟨_, _, _, rfl, ?_, rfl, by simpa using hl, some (.int r.1), some (.int r.2), rfl, rfl⟩
      simp -dsimp [↓toT, ↓toG, ↓toF, ↓toL, bndT_some, bndT_none, guT_true, ite_and, ite_or, fin_nx, fin_ret, exSs, exS, evE, evs, evO, evT, evI, bl_some, optInt, asgT, asgTs, startE, wipeE, List.map_cons, List.map_nil, List.length_cons, List.length_nil, List.replicate, List.cons_append, List.nil_append, List.append_nil, eq_ii, ne_ii, eq_ss, ne_ss, eq_bb, ne_bb, lt_ii, le_ii, gt_ii, ge_ii, add_ii, sub_ii, isi_i, isi_b, isi_n, isi_s, isi_t, isi_l, sub_t, sub_l, at0, at1, at2, at3, len_t, slice_t, cut1, cut_02, zipT_tail, zipT_map, forT_nil, forT_cons, forK_nx, forK_brk, forK_ret, len_l, walk_t, walk_l, walk_o, walkC_l, walkC_d, seq_t, seq_l, seq_o, lst_o, lst_l, srcOf_o, isi_o, sub_o, subC_l, subC_d, min_s, tup_s, list_s, len_s, index_s, omap_some, obind_some, srcOf_t, srcOf_l, srcOk_nil, mk_f, mk_t, int_b, int_i, b__law_lengths_L0, rowD, h1, h2, hS, setSubD, intsOf_map, minL_eq h0, hmm, hix, hat, List.map_set]
    · simp only [join1, h1, h2, if_true, if_false]
      rw [shortest] at h2
      refine ⟨_, [some b, some st, some (.obj a), some f, some (.int t), some (.int r.1), some (.int r.2), none, none], _, _, rfl, ?_, rfl, (.lst (now.map .int)), rfl⟩
      simp -dsimp [↓toT, ↓toG, ↓toF, ↓toL, bndT_some, bndT_none, guT_true, ite_and, ite_or, fin_nx, fin_ret, exSs, exS, evE, evs, evO, evT, evI, bl_some, optInt, asgT, asgTs, startE, wipeE, List.map_cons, List.map_nil, List.length_cons, List.length_nil, List.replicate, List.cons_append, List.nil_append, List.append_nil, eq_ii, ne_ii, eq_ss, ne_ss, eq_bb, ne_bb, lt_ii, le_ii, gt_ii, ge_ii, add_ii, sub_ii, isi_i, isi_b, isi_n, isi_s, isi_t, isi_l, sub_t, sub_l, at0, at1, at2, at3, len_t, slice_t, cut1, cut_02, zipT_tail, zipT_map, forT_nil, forT_cons, forK_nx, forK_brk, forK_ret, len_l, walk_t, walk_l, walk_o, walkC_l, walkC_d, seq_t, seq_l, seq_o, lst_o, lst_l, srcOf_o, isi_o, sub_o, subC_l, subC_d, min_s, tup_s, list_s, len_s, index_s, omap_some, obind_some, srcOf_t, srcOf_l, srcOk_nil, mk_f, mk_t, int_b, int_i, b__law_lengths_L0, rowD, h1, h2, hS, setSubD, intsOf_map, minL_eq h0, hmm, hix, hat, List.map_set]
  · simp only [join1, h1, if_false]
    refine ⟨_, _, _, rfl, ?_, rfl, hl, some (.int r.1), some (.int r.2), rfl, rfl⟩
    simp -dsimp [↓toT, ↓toG, ↓toF, ↓toL, bndT_some, bndT_none, guT_true, ite_and, ite_or, fin_nx, fin_ret, exSs, exS, evE, evs, evO, evT, evI, bl_some, optInt, asgT, asgTs, startE, wipeE, List.map_cons, List.map_nil, List.length_cons, List.length_nil, List.replicate, List.cons_append, List.nil_append, List.append_nil, eq_ii, ne_ii, eq_ss, ne_ss, eq_bb, ne_bb, lt_ii, le_ii, gt_ii, ge_ii, add_ii, sub_ii, isi_i, isi_b, isi_n, isi_s, isi_t, isi_l, sub_t, sub_l, at0, at1, at2, at3, len_t, slice_t, cut1, cut_02, zipT_tail, zipT_map, forT_nil, forT_cons, forK_nx, forK_brk, forK_ret, len_l, walk_t, walk_l, walk_o, walkC_l, walkC_d, seq_t, seq_l, seq_o, lst_o, lst_l, srcOf_o, isi_o, sub_o, subC_l, subC_d, min_s, tup_s, list_s, len_s, index_s, omap_some, obind_some, srcOf_t, srcOf_l, srcOk_nil, mk_f, mk_t, int_b, int_i, b__law_lengths_L0, rowD, h1, hS, setSubD, hix, hat, List.map_set]
theorem ev_law_lengths_L1 (G : Std Γ) (k n : Nat) (L E : Int) (hn : 0 < n) (rows : List (Int × Int)) (hr : ∀ r ∈ rows, 0 ≤ r.2 ∧ r.2 < (n : Int)) (s : List (List Int)) (f : Nat) (S0 : Sto) (hf : S0.length ≤ f)
    (i : Nat) (hi : i < s.length) (hrow : (s.getD i []).length = n) (hi2 : i < 10000) (hn2 : n < 100000)
    (Inv : Nat → List Int × List (List Int) → En → Sto → Prop) (hI : Inv = fun j st env S => st.1.length = n ∧ st.2.length = j ∧ ∃ a v7 v8 v9, env = [some (bookD L E rows), some (storyD s), some (.obj a), some (.obj f), v7, v8, v9, none, none] ∧ S0 <+: S ∧ S[a]? = some (.lst (st.1.map .int)) ∧ S[f]? = some (.lst (st.2.map tupI)))
    (st : List Int × List (List Int)) (env : En) (S : Sto) (h : Inv i st env S) :
    ForTurn [] (asgT (.name 4)) (fun env S => exSs (callK Γ k) b__law_lengths_L1 env S) (.int (i : Int)) env S (stepL rows s st i) (Inv (i + 1)) (fun d S2 => d = .non ∧ S0 <+: S2) := by
  subst hI
  obtain ⟨now, found⟩ := st
  obtain ⟨hl, hl2, a, v7, v8, v9, rfl, hp, ha, hfd⟩ := h
  simp only at hl hl2 ha hfd
  have hst := at_story s i hi
  rw [stepL]
  generalize s.getD i [] = row at hrow hst
  have hsub : (subI now row).length = n := by simp [subI, hl, hrow]
  have hne : subI now row ≠ [] := by intro e; rw [e] at hsub; simp at hsub; omega
  have hflt := get_lt hfd
  have hlc : ∀ C : Orc, lcT [(a, Cell.lst (now.map .int))] (fun d => asgT (.tup [.name 7, .name 8]) d (wipeE [some (bookD L E rows), some (storyD s), some (.obj a), some (.obj f), some (.int i), v8, v9, none, none] [7, 8])) (fun env S => evT C .no env S) (fun env S => evE C b__law_lengths_E0 env S) .mk .mk .mk ((now.zip row).map fun p => D.tup [.int p.1, .int p.2]) S [] = some ((subI now row).map .int, S) := by
    intro C
    rw [lcT_all (fun p : Int × Int => .tup [.int p.1, .int p.2]) (fun p => .int (p.1 - p.2)) _ (by simp [srcOk, ha]) (by simp; omega) (fun r hr => ⟨_, rfl, rfl, by simp -dsimp [↓toT, ↓toG, ↓toF, ↓toL, bndT_some, bndT_none, guT_true, ite_and, ite_or, fin_nx, fin_ret, exSs, exS, evE, evs, evO, evT, evI, bl_some, optInt, asgT, asgTs, startE, wipeE, List.map_cons, List.map_nil, List.length_cons, List.length_nil, List.replicate, List.cons_append, List.nil_append, List.append_nil, eq_ii, ne_ii, eq_ss, ne_ss, eq_bb, ne_bb, lt_ii, le_ii, gt_ii, ge_ii, add_ii, sub_ii, isi_i, isi_b, isi_n, isi_s, isi_t, isi_l, sub_t, sub_l, at0, at1, at2, at3, len_t, slice_t, cut1, cut_02, zipT_tail, zipT_map, forT_nil, forT_cons, forK_nx, forK_brk, forK_ret, len_l, walk_t, walk_l, walk_o, walkC_l, walkC_d, seq_t, seq_l, seq_o, lst_o, lst_l, srcOf_o, isi_o, sub_o, subC_l, subC_d, min_s, tup_s, list_s, len_s, index_s, omap_some, obind_some, srcOf_t, srcOf_l, srcOk_nil, mk_f, mk_t, int_b, int_i, book_0, book_1, book_2, ↓book_t, book_q, book_i, sights_w, sights_s, sights_q, story_w, story_s, story_q, story_i, b__law_lengths_E0]⟩)]
    simp [subI]
  have hrun := for_run rowD (src := []) (asg := asgT (.tup [.name 5, .name 6])) (body := fun env S => exSs (callK Γ k) b__law_lengths_L0 env S) (join1 i)
    (fun _ nw env S' => nw.length = n ∧ ∃ v8 v9, env = [some (bookD L E rows), some (storyD s), some (.obj S.length), some (.obj f), some (.int i), v8, v9, none, none] ∧ S' = (S ++ [Cell.lst ((subI now row).map .int)]).set S.length (.lst (nw.map .int)))
    (fun d S' => d = .non ∧ ∃ c, S' = (S ++ [Cell.lst ((subI now row).map .int)]).set S.length c) rows (subI now row)
    [some (bookD L E rows), some (storyD s), some (.obj S.length), some (.obj f), some (.int i), v8, v9, none, none] (S ++ [Cell.lst ((subI now row).map .int)])
    ⟨hsub, v8, v9, rfl, by simp⟩ (fun _ r hr1 nw env S' h => ev_law_lengths_L0 G k n _ _ _ i S.length hn r (hr r (List.mem_of_getElem? hr1)) _ (by simp) _ rfl nw env S' h)
  by_cases hm : minI (subI now row) < 0
  · simp only [stepT, hm, if_true, Option.map_none]
    refine ⟨_, [some (bookD L E rows), some (storyD s), some (.obj S.length), some (.obj f), some (.int i), v8, v9, none, none], S ++ [Cell.lst ((subI now row).map .int)], .non, rfl, ?_, rfl, pre_app _ hp⟩
    simp -dsimp [↓toT, ↓toG, ↓toF, ↓toL, bndT_some, bndT_none, guT_true, ite_and, ite_or, fin_nx, fin_ret, exSs, exS, evE, evs, evO, evT, evI, bl_some, optInt, asgT, asgTs, startE, wipeE, List.map_cons, List.map_nil, List.length_cons, List.length_nil, List.replicate, List.cons_append, List.nil_append, List.append_nil, eq_ii, ne_ii, eq_ss, ne_ss, eq_bb, ne_bb, lt_ii, le_ii, gt_ii, ge_ii, add_ii, sub_ii, isi_i, isi_b, isi_n, isi_s, isi_t, isi_l, sub_t, sub_l, at0, at1, at2, at3, len_t, slice_t, cut1, cut_02, zipT_tail, zipT_map, forT_nil, forT_cons, forK_nx, forK_brk, forK_ret, len_l, walk_t, walk_l, walk_o, walkC_l, walkC_d, seq_t, seq_l, seq_o, lst_o, lst_l, srcOf_o, isi_o, sub_o, subC_l, subC_d, min_s, tup_s, list_s, len_s, index_s, omap_some, obind_some, srcOf_t, srcOf_l, srcOk_nil, mk_f, mk_t, int_b, int_i, book_0, book_1, book_2, ↓book_t, book_q, book_i, sights_w, sights_s, sights_q, story_w, story_s, story_q, story_i, b__law_lengths_L1, hst, story_at, ha, intsOf_map, hlc, minL_eq hne, hm]
  · simp only [stepT, hm, if_false]
    rw [joinTo]
    cases hj : rows.foldlM (join1 i) (subI now row) with
    | none =>
      rw [hj] at hrun
      obtain ⟨env', S', d, h1, rfl, c, rfl⟩ := hrun
      refine ⟨_, env', _, .non, rfl, ?_, rfl, pre_app [c] hp⟩
      simp -dsimp [↓toT, ↓toG, ↓toF, ↓toL, bndT_some, bndT_none, guT_true, ite_and, ite_or, fin_nx, fin_ret, exSs, exS, evE, evs, evO, evT, evI, bl_some, optInt, asgT, asgTs, startE, wipeE, List.map_cons, List.map_nil, List.length_cons, List.length_nil, List.replicate, List.cons_append, List.nil_append, List.append_nil, eq_ii, ne_ii, eq_ss, ne_ss, eq_bb, ne_bb, lt_ii, le_ii, gt_ii, ge_ii, add_ii, sub_ii, isi_i, isi_b, isi_n, isi_s, isi_t, isi_l, sub_t, sub_l, at0, at1, at2, at3, len_t, slice_t, cut1, cut_02, zipT_tail, zipT_map, forT_nil, forT_cons, forK_nx, forK_brk, forK_ret, len_l, walk_t, walk_l, walk_o, walkC_l, walkC_d, seq_t, seq_l, seq_o, lst_o, lst_l, srcOf_o, isi_o, sub_o, subC_l, subC_d, min_s, tup_s, list_s, len_s, index_s, omap_some, obind_some, srcOf_t, srcOf_l, srcOk_nil, mk_f, mk_t, int_b, int_i, book_0, book_1, book_2, ↓book_t, book_q, book_i, sights_w, sights_s, sights_q, story_w, story_s, story_q, story_i, b__law_lengths_L1, hst, story_at, ha, intsOf_map, hlc, minL_eq hne, hm]
      rw [forT, h1]
      simp -dsimp [↓toT, ↓toG, ↓toF, ↓toL, bndT_some, bndT_none, guT_true, ite_and, ite_or, fin_nx, fin_ret, exSs, exS, evE, evs, evO, evT, evI, bl_some, optInt, asgT, asgTs, startE, wipeE, List.map_cons, List.map_nil, List.length_cons, List.length_nil, List.replicate, List.cons_append, List.nil_append, List.append_nil, eq_ii, ne_ii, eq_ss, ne_ss, eq_bb, ne_bb, lt_ii, le_ii, gt_ii, ge_ii, add_ii, sub_ii, isi_i, isi_b, isi_n, isi_s, isi_t, isi_l, sub_t, sub_l, at0, at1, at2, at3, len_t, slice_t, cut1, cut_02, zipT_tail, zipT_map, forT_nil, forT_cons, forK_nx, forK_brk, forK_ret, len_l, walk_t, walk_l, walk_o, walkC_l, walkC_d, seq_t, seq_l, seq_o, lst_o, lst_l, srcOf_o, isi_o, sub_o, subC_l, subC_d, min_s, tup_s, list_s, len_s, index_s, omap_some, obind_some, srcOf_t, srcOf_l, srcOk_nil, mk_f, mk_t, int_b, int_i, book_0, book_1, book_2, ↓book_t, book_q, book_i, sights_w, sights_s, sights_q, story_w, story_s, story_q, story_i]
    | some now' =>
      rw [hj] at hrun
      obtain ⟨env', S', h1, hl', v8', v9', rfl, rfl⟩ := hrun
      have hff : (S ++ [Cell.lst (now'.map .int)])[f]? = some (.lst (found.map tupI)) := get_app _ hfd
      refine ⟨_, [some (bookD L E rows), some (storyD s), some (.obj S.length), some (.obj f), some (.int i), v8', v9', none, none], (S ++ [Cell.lst (now'.map .int)]).set f (.lst ((found ++ [now']).map tupI)), rfl, ?_, rfl, hl', by simp [hl2], S.length, some (.int i), v8', v9', rfl, ?_, ?_, ?_⟩
      · simp -dsimp [↓toT, ↓toG, ↓toF, ↓toL, bndT_some, bndT_none, guT_true, ite_and, ite_or, fin_nx, fin_ret, exSs, exS, evE, evs, evO, evT, evI, bl_some, optInt, asgT, asgTs, startE, wipeE, List.map_cons, List.map_nil, List.length_cons, List.length_nil, List.replicate, List.cons_append, List.nil_append, List.append_nil, eq_ii, ne_ii, eq_ss, ne_ss, eq_bb, ne_bb, lt_ii, le_ii, gt_ii, ge_ii, add_ii, sub_ii, isi_i, isi_b, isi_n, isi_s, isi_t, isi_l, sub_t, sub_l, at0, at1, at2, at3, len_t, slice_t, cut1, cut_02, zipT_tail, zipT_map, forT_nil, forT_cons, forK_nx, forK_brk, forK_ret, len_l, walk_t, walk_l, walk_o, walkC_l, walkC_d, seq_t, seq_l, seq_o, lst_o, lst_l, srcOf_o, isi_o, sub_o, subC_l, subC_d, min_s, tup_s, list_s, len_s, index_s, omap_some, obind_some, srcOf_t, srcOf_l, srcOk_nil, mk_f, mk_t, int_b, int_i, book_0, book_1, book_2, ↓book_t, book_q, book_i, sights_w, sights_s, sights_q, story_w, story_s, story_q, story_i, b__law_lengths_L1, hst, story_at, ha, intsOf_map, hlc, minL_eq hne, hm]
        rw [forT, h1]
        have hb : found.length < 16777216 := by omega
        simp -dsimp [↓toT, ↓toG, ↓toF, ↓toL, bndT_some, bndT_none, guT_true, ite_and, ite_or, fin_nx, fin_ret, exSs, exS, evE, evs, evO, evT, evI, bl_some, optInt, asgT, asgTs, startE, wipeE, List.map_cons, List.map_nil, List.length_cons, List.length_nil, List.replicate, List.cons_append, List.nil_append, List.append_nil, eq_ii, ne_ii, eq_ss, ne_ss, eq_bb, ne_bb, lt_ii, le_ii, gt_ii, ge_ii, add_ii, sub_ii, isi_i, isi_b, isi_n, isi_s, isi_t, isi_l, sub_t, sub_l, at0, at1, at2, at3, len_t, slice_t, cut1, cut_02, zipT_tail, zipT_map, forT_nil, forT_cons, forK_nx, forK_brk, forK_ret, len_l, walk_t, walk_l, walk_o, walkC_l, walkC_d, seq_t, seq_l, seq_o, lst_o, lst_l, srcOf_o, isi_o, sub_o, subC_l, subC_d, min_s, tup_s, list_s, len_s, index_s, omap_some, obind_some, srcOf_t, srcOf_l, srcOk_nil, mk_f, mk_t, int_b, int_i, book_0, book_1, book_2, ↓book_t, book_q, book_i, sights_w, sights_s, sights_q, story_w, story_s, story_q, story_i, hff, appendD, hb, tupI]
      · exact pre_set _ (pre_app _ hp) hf
      · rw [List.getElem?_set_ne (by omega)]; simp
      · rw [List.getElem?_set_self (by simp; omega)]
theorem ev_law_lengths (G : Std Γ) (k n m : Nat) (N E : Int) (hN : N = n) (hE : E + 1 = m) (S : Sto) (rows : List (Int × Int)) (hn : 0 < n) (hn2 : n ≤ 1000) (hm : m ≤ 1000) (hr : ∀ r ∈ rows, 0 ≤ r.2 ∧ r.2 < (n : Int)) (s : List (List Int)) (hs : s.length = m) (hw : ∀ row ∈ s, row.length = n) :
    Turn (lengthsOf n m rows s) (fun found => ∃ S' f, callK Γ (k + 1) "_law_lengths" [bookD N E rows, storyD s] S = some (.obj f, S') ∧ S <+: S' ∧ S'[f]? = some (.lst (found.map tupI)))
      (∃ S', callK Γ (k + 1) "_law_lengths" [bookD N E rows, storyD s] S = some (.non, S') ∧ S <+: S') := by
  rw [call_step G.h__law_lengths]
  have hrun := for_run (fun i : Nat => D.int (i : Int)) (src := []) (asg := asgT (.name 4)) (body := fun env S => exSs (callK Γ k) b__law_lengths_L1 env S) (stepL rows s)
    (fun j st env S' => st.1.length = n ∧ st.2.length = j ∧ ∃ a v7 v8 v9, env = [some (bookD N E rows), some (storyD s), some (.obj a), some (.obj (S.length + 1)), v7, v8, v9, none, none] ∧ S <+: S' ∧ S'[a]? = some (.lst (st.1.map .int)) ∧ S'[S.length + 1]? = some (.lst (st.2.map tupI)))
    (fun d S' => d = .non ∧ S <+: S') (List.range m) (List.replicate n 0, [])
    [some (bookD N E rows), some (storyD s), some (.obj S.length), some (.obj (S.length + 1)), none, none, none, none, none] (S ++ [.lst (List.replicate n (.int 0)), .lst []])
    ⟨by simp, rfl, S.length, none, none, none, rfl, List.prefix_append .., by simp, by simp⟩
    (fun j x hx st env S' h => by
      have hj : j < m ∧ x = j := by
        have := List.getElem?_eq_some_iff.1 hx
        obtain ⟨h1, h2⟩ := this
        simp at h1 h2
        exact ⟨h1, h2.symm⟩
      obtain ⟨hj, rfl⟩ := hj
      exact ev_law_lengths_L1 G k n _ _ hn rows hr s (S.length + 1) S (by omega) x (by omega) (hw _ (by simp [List.getD, hs, hj])) (by omega) (by omega) _ rfl st env S' h)
  have hz : binD true .mul (.lst [.int 0]) (.int N) S = some (.obj S.length, S ++ [.lst (List.replicate n (.int 0))]) := by rw [hN]; exact mul_rep (.int 0) n S hn2
  have hrg : rng1 (.int (E + 1)) = some ((List.range m).map fun i : Nat => .int (i : Int)) := by rw [hE]; exact rng1_i m (by omega)
  clear hN hE
  rw [lengthsOf]
  cases hj : (List.range m).foldlM (stepL rows s) (List.replicate n 0, []) with
  | none =>
    rw [hj] at hrun
    obtain ⟨env', S', d, h1, rfl, h2⟩ := hrun
    refine ⟨S', ?_, h2⟩
    simp -dsimp [↓toT, ↓toG, ↓toF, ↓toL, bndT_some, bndT_none, guT_true, ite_and, ite_or, fin_nx, fin_ret, exSs, exS, evE, evs, evO, evT, evI, bl_some, optInt, asgT, asgTs, startE, wipeE, List.map_cons, List.map_nil, List.length_cons, List.length_nil, List.replicate, List.cons_append, List.nil_append, List.append_nil, eq_ii, ne_ii, eq_ss, ne_ss, eq_bb, ne_bb, lt_ii, le_ii, gt_ii, ge_ii, add_ii, sub_ii, isi_i, isi_b, isi_n, isi_s, isi_t, isi_l, sub_t, sub_l, at0, at1, at2, at3, len_t, slice_t, cut1, cut_02, zipT_tail, zipT_map, forT_nil, forT_cons, forK_nx, forK_brk, forK_ret, len_l, walk_t, walk_l, walk_o, walkC_l, walkC_d, seq_t, seq_l, seq_o, lst_o, lst_l, srcOf_o, isi_o, sub_o, subC_l, subC_d, min_s, tup_s, list_s, len_s, index_s, omap_some, obind_some, srcOf_t, srcOf_l, srcOk_nil, mk_f, mk_t, int_b, int_i, book_0, book_1, book_2, ↓book_t, book_q, book_i, sights_w, sights_s, sights_q, story_w, story_s, story_q, story_i, b__law_lengths, hz, hrg]
    rw [forT, h1]
    simp -dsimp [↓toT, ↓toG, ↓toF, ↓toL, bndT_some, bndT_none, guT_true, ite_and, ite_or, fin_nx, fin_ret, exSs, exS, evE, evs, evO, evT, evI, bl_some, optInt, asgT, asgTs, startE, wipeE, List.map_cons, List.map_nil, List.length_cons, List.length_nil, List.replicate, List.cons_append, List.nil_append, List.append_nil, eq_ii, ne_ii, eq_ss, ne_ss, eq_bb, ne_bb, lt_ii, le_ii, gt_ii, ge_ii, add_ii, sub_ii, isi_i, isi_b, isi_n, isi_s, isi_t, isi_l, sub_t, sub_l, at0, at1, at2, at3, len_t, slice_t, cut1, cut_02, zipT_tail, zipT_map, forT_nil, forT_cons, forK_nx, forK_brk, forK_ret, len_l, walk_t, walk_l, walk_o, walkC_l, walkC_d, seq_t, seq_l, seq_o, lst_o, lst_l, srcOf_o, isi_o, sub_o, subC_l, subC_d, min_s, tup_s, list_s, len_s, index_s, omap_some, obind_some, srcOf_t, srcOf_l, srcOk_nil, mk_f, mk_t, int_b, int_i, book_0, book_1, book_2, ↓book_t, book_q, book_i, sights_w, sights_s, sights_q, story_w, story_s, story_q, story_i]
  | some st =>
    rw [hj] at hrun
    obtain ⟨env', S', h1, hl, hl2, a, v7, v8, v9, rfl, h2, h3, h4⟩ := hrun
    refine ⟨S', S.length + 1, ?_, h2, h4⟩
    simp -dsimp [↓toT, ↓toG, ↓toF, ↓toL, bndT_some, bndT_none, guT_true, ite_and, ite_or, fin_nx, fin_ret, exSs, exS, evE, evs, evO, evT, evI, bl_some, optInt, asgT, asgTs, startE, wipeE, List.map_cons, List.map_nil, List.length_cons, List.length_nil, List.replicate, List.cons_append, List.nil_append, List.append_nil, eq_ii, ne_ii, eq_ss, ne_ss, eq_bb, ne_bb, lt_ii, le_ii, gt_ii, ge_ii, add_ii, sub_ii, isi_i, isi_b, isi_n, isi_s, isi_t, isi_l, sub_t, sub_l, at0, at1, at2, at3, len_t, slice_t, cut1, cut_02, zipT_tail, zipT_map, forT_nil, forT_cons, forK_nx, forK_brk, forK_ret, len_l, walk_t, walk_l, walk_o, walkC_l, walkC_d, seq_t, seq_l, seq_o, lst_o, lst_l, srcOf_o, isi_o, sub_o, subC_l, subC_d, min_s, tup_s, list_s, len_s, index_s, omap_some, obind_some, srcOf_t, srcOf_l, srcOk_nil, mk_f, mk_t, int_b, int_i, book_0, book_1, book_2, ↓book_t, book_q, book_i, sights_w, sights_s, sights_q, story_w, story_s, story_q, story_i, b__law_lengths, hz, hrg]
    rw [forT, h1]
    simp -dsimp [↓toT, ↓toG, ↓toF, ↓toL, bndT_some, bndT_none, guT_true, ite_and, ite_or, fin_nx, fin_ret, exSs, exS, evE, evs, evO, evT, evI, bl_some, optInt, asgT, asgTs, startE, wipeE, List.map_cons, List.map_nil, List.length_cons, List.length_nil, List.replicate, List.cons_append, List.nil_append, List.append_nil, eq_ii, ne_ii, eq_ss, ne_ss, eq_bb, ne_bb, lt_ii, le_ii, gt_ii, ge_ii, add_ii, sub_ii, isi_i, isi_b, isi_n, isi_s, isi_t, isi_l, sub_t, sub_l, at0, at1, at2, at3, len_t, slice_t, cut1, cut_02, zipT_tail, zipT_map, forT_nil, forT_cons, forK_nx, forK_brk, forK_ret, len_l, walk_t, walk_l, walk_o, walkC_l, walkC_d, seq_t, seq_l, seq_o, lst_o, lst_l, srcOf_o, isi_o, sub_o, subC_l, subC_d, min_s, tup_s, list_s, len_s, index_s, omap_some, obind_some, srcOf_t, srcOf_l, srcOk_nil, mk_f, mk_t, int_b, int_i, book_0, book_1, book_2, ↓book_t, book_q, book_i, sights_w, sights_s, sights_q, story_w, story_s, story_q, story_i]
end SL

/-! PG: the law's own judgement of stories. -/
namespace SL
open PySem
variable {Γ : Str → Option Fn}
theorem pysF_is : ∀ xs : List Int, pysF (xs.map .int) = some (xs.map .int)
  | [] => rfl
  | x :: xs => by simp [pysF, pyF, pysF_is xs]
theorem lay_ints : ∀ xs : List Int, PyData.canLayAll0 (xs.map .int) = true ∧ PyData.depthAll (xs.map .int) ≤ 1
  | [] => by simp [PyData.canLayAll0, PyData.depthAll]
  | x :: xs => by
    have := lay_ints xs
    simp [PyData.canLayAll0, PyData.depthAll, PyData.canLay0, PyData.depth, this]
theorem shaped_ints (xs : List Int) : SeqAt.shaped (.list (xs.map .int)) = true := by
  have := lay_ints xs
  simp [SeqAt.shaped, PyData.canLay0, PyData.depth, this]
  omega
theorem eq_nil (xs : List Int) (S : Sto) : cmpD .eq (.lst (xs.map .int)) (.lst []) S = some xs.isEmpty := by
  have h := shaped_ints xs
  have h2 := shaped_ints []
  have h3 := pysF_is xs
  simp only [List.map_nil] at h2
  simp only [cmpD, eqB, pyOf, pyF, h3, pysF, Option.map_some, h, h2, Bool.and_self, if_true]
  cases xs <;> simp [PyData.eqv, PyData.eqvAll]
theorem ne_nil0 (S : Sto) : cmpD .ne (.lst []) (.lst []) S = some false := by
  have := eq_nil [] S
  simp only [List.map_nil, cmpD] at this
  simp [cmpD, this]
theorem ev_law_in (G : Std Γ) (k : Nat) (i lo hi : Int) (S : Sto) : callK Γ (k + 1) "_law_in" [.int i, .int lo, .int hi] S = some (.bl (decide (lo ≤ i ∧ i ≤ hi)), S) := by
  rw [call_step G.h__law_in]
  simp -dsimp [↓toT, ↓toG, ↓toF, ↓toL, bndT_some, bndT_none, guT_true, ite_and, ite_or, fin_nx, fin_ret, exSs, exS, evE, evs, evO, evT, evI, bl_some, optInt, asgT, asgTs, startE, wipeE, List.map_cons, List.map_nil, List.length_cons, List.length_nil, List.replicate, List.cons_append, List.nil_append, List.append_nil, eq_ii, ne_ii, eq_ss, ne_ss, eq_bb, ne_bb, lt_ii, le_ii, gt_ii, ge_ii, add_ii, sub_ii, isi_i, isi_b, isi_n, isi_s, isi_t, isi_l, sub_t, sub_l, at0, at1, at2, at3, len_t, slice_t, cut1, cut_02, zipT_tail, zipT_map, forT_nil, forT_cons, forK_nx, forK_brk, forK_ret, len_l, walk_t, walk_l, walk_o, walkC_l, walkC_d, seq_t, seq_l, seq_o, lst_o, lst_l, srcOf_o, isi_o, sub_o, subC_l, subC_d, min_s, tup_s, list_s, len_s, index_s, omap_some, obind_some, srcOf_t, srcOf_l, srcOk_nil, mk_f, mk_t, int_b, int_i, b__law_in, tyIs]
theorem ev_law_is_story_L0 (G : Std Γ) (k n : Nat) (N E : Int) (hN : N = n) (rows : List (Int × Int)) (x y : D) (hn : n ≤ 1000) (S : Sto) (row : List Int) (hw : row.length = n) (hb : bits row)
    (Inv : Nat → Unit → En → Sto → Prop) (hI : Inv = fun _ _ env S' => S' = S ∧ ∃ v3, env = [some (bookD N E rows), some x, some y, v3, none, none, none, none, none]) (j : Nat) (env : En) (S' : Sto) (h : Inv j () env S') :
    ForTurn [] (asgT (.name 3)) (fun env S => exSs (callK Γ (k + 1)) b__law_is_story_L0 env S) (tupI row) env S' (some ()) (Inv (j + 1)) (fun _ _ => False) := by
  subst hI
  obtain ⟨rfl, v3, rfl⟩ := h
  have hl : ((row.length : Nat) : Int) = N := by omega
  clear hN
  refine ⟨_, _, _, rfl, ?_, rfl, rfl, some (tupI row), rfl⟩
  simp -dsimp [↓toT, ↓toG, ↓toF, ↓toL, bndT_some, bndT_none, guT_true, ite_and, ite_or, fin_nx, fin_ret, exSs, exS, evE, evs, evO, evT, evI, bl_some, optInt, asgT, asgTs, startE, wipeE, List.map_cons, List.map_nil, List.length_cons, List.length_nil, List.replicate, List.cons_append, List.nil_append, List.append_nil, eq_ii, ne_ii, eq_ss, ne_ss, eq_bb, ne_bb, lt_ii, le_ii, gt_ii, ge_ii, add_ii, sub_ii, isi_i, isi_b, isi_n, isi_s, isi_t, isi_l, sub_t, sub_l, at0, at1, at2, at3, len_t, slice_t, cut1, cut_02, zipT_tail, zipT_map, forT_nil, forT_cons, forK_nx, forK_brk, forK_ret, len_l, walk_t, walk_l, walk_o, walkC_l, walkC_d, seq_t, seq_l, seq_o, lst_o, lst_l, srcOf_o, isi_o, sub_o, subC_l, subC_d, min_s, tup_s, list_s, len_s, index_s, omap_some, obind_some, srcOf_t, srcOf_l, srcOk_nil, mk_f, mk_t, int_b, int_i, book_0, book_1, book_2, ↓book_t, book_q, book_i, sights_w, sights_s, sights_q, story_w, story_s, story_q, story_i, b__law_is_story_L0, tupI, tyIs, hl]
  rw [lcT_pure D.int (fun x => !decide (0 ≤ x ∧ x ≤ 1)) (fun x => .int x) row rfl (by simp; omega) (fun x hx => ⟨_, rfl, by simp -dsimp [↓toT, ↓toG, ↓toF, ↓toL, bndT_some, bndT_none, guT_true, ite_and, ite_or, fin_nx, fin_ret, exSs, exS, evE, evs, evO, evT, evI, bl_some, optInt, asgT, asgTs, startE, wipeE, List.map_cons, List.map_nil, List.length_cons, List.length_nil, List.replicate, List.cons_append, List.nil_append, List.append_nil, eq_ii, ne_ii, eq_ss, ne_ss, eq_bb, ne_bb, lt_ii, le_ii, gt_ii, ge_ii, add_ii, sub_ii, isi_i, isi_b, isi_n, isi_s, isi_t, isi_l, sub_t, sub_l, at0, at1, at2, at3, len_t, slice_t, cut1, cut_02, zipT_tail, zipT_map, forT_nil, forT_cons, forK_nx, forK_brk, forK_ret, len_l, walk_t, walk_l, walk_o, walkC_l, walkC_d, seq_t, seq_l, seq_o, lst_o, lst_l, srcOf_o, isi_o, sub_o, subC_l, subC_d, min_s, tup_s, list_s, len_s, index_s, omap_some, obind_some, srcOf_t, srcOf_l, srcOk_nil, mk_f, mk_t, int_b, int_i, book_0, book_1, book_2, ↓book_t, book_q, book_i, sights_w, sights_s, sights_q, story_w, story_s, story_q, story_i, b__law_is_story_T0, ev_law_in G], fun _ => by simp -dsimp [↓toT, ↓toG, ↓toF, ↓toL, bndT_some, bndT_none, guT_true, ite_and, ite_or, fin_nx, fin_ret, exSs, exS, evE, evs, evO, evT, evI, bl_some, optInt, asgT, asgTs, startE, wipeE, List.map_cons, List.map_nil, List.length_cons, List.length_nil, List.replicate, List.cons_append, List.nil_append, List.append_nil, eq_ii, ne_ii, eq_ss, ne_ss, eq_bb, ne_bb, lt_ii, le_ii, gt_ii, ge_ii, add_ii, sub_ii, isi_i, isi_b, isi_n, isi_s, isi_t, isi_l, sub_t, sub_l, at0, at1, at2, at3, len_t, slice_t, cut1, cut_02, zipT_tail, zipT_map, forT_nil, forT_cons, forK_nx, forK_brk, forK_ret, len_l, walk_t, walk_l, walk_o, walkC_l, walkC_d, seq_t, seq_l, seq_o, lst_o, lst_l, srcOf_o, isi_o, sub_o, subC_l, subC_d, min_s, tup_s, list_s, len_s, index_s, omap_some, obind_some, srcOf_t, srcOf_l, srcOk_nil, mk_f, mk_t, int_b, int_i, book_0, book_1, book_2, ↓book_t, book_q, book_i, sights_w, sights_s, sights_q, story_w, story_s, story_q, story_i, b__law_is_story_E0]⟩)]
  have he : (row.filter fun x => !decide (0 ≤ x ∧ x ≤ 1)) = [] := by
    rw [List.filter_eq_nil_iff]; intro x hx; simpa using hb x hx
  rw [he]
  simp -dsimp [↓toT, ↓toG, ↓toF, ↓toL, bndT_some, bndT_none, guT_true, ite_and, ite_or, fin_nx, fin_ret, exSs, exS, evE, evs, evO, evT, evI, bl_some, optInt, asgT, asgTs, startE, wipeE, List.map_cons, List.map_nil, List.length_cons, List.length_nil, List.replicate, List.cons_append, List.nil_append, List.append_nil, eq_ii, ne_ii, eq_ss, ne_ss, eq_bb, ne_bb, lt_ii, le_ii, gt_ii, ge_ii, add_ii, sub_ii, isi_i, isi_b, isi_n, isi_s, isi_t, isi_l, sub_t, sub_l, at0, at1, at2, at3, len_t, slice_t, cut1, cut_02, zipT_tail, zipT_map, forT_nil, forT_cons, forK_nx, forK_brk, forK_ret, len_l, walk_t, walk_l, walk_o, walkC_l, walkC_d, seq_t, seq_l, seq_o, lst_o, lst_l, srcOf_o, isi_o, sub_o, subC_l, subC_d, min_s, tup_s, list_s, len_s, index_s, omap_some, obind_some, srcOf_t, srcOf_l, srcOk_nil, mk_f, mk_t, int_b, int_i, book_0, book_1, book_2, ↓book_t, book_q, book_i, sights_w, sights_s, sights_q, story_w, story_s, story_q, story_i, ne_nil0]
theorem ev_law_is_story (G : Std Γ) (k n m : Nat) (N E : Int) (hN : N = n) (hE : E + 1 = m) (S : Sto) (rows : List (Int × Int)) (ss : List (Int × Int × Int)) (hB : BookOk N E rows) (hS : SightsOk N E ss) (s : List (List Int)) (hw : ∀ row ∈ s, row.length = n ∧ bits row) (hs1 : s.length ≤ 1000) :
    ∃ S', callK Γ (k + 3) "_law_is_story" [bookD N E rows, sightsD ss, storyD s] S = some (.bl (decide (s.length = m) && storyOk n m rows ss s), S') ∧ S <+: S' := by
  rw [call_step G.h__law_is_story]
  have hL1 := hB.L1
  have hL4 := hB.L4
  have hE0 := hB.E0
  have hE30 := hB.E30
  by_cases hl : s.length = m
  · have hl' : ((s.length : Nat) : Int) = E + 1 := by omega
    have hlen := ev_law_lengths G (k + 1) n m N E hN hE S rows (by omega) (by omega) (by omega) (fun r hr => by have := hB.row r hr; omega) s hl (fun r hr => (hw r hr).1)
    have hrun := for_run tupI (src := []) (asg := asgT (.name 3)) (body := fun env S => exSs (callK Γ (k + 2)) b__law_is_story_L0 env S) (fun _ _ => some ())
      (fun _ _ env S' => S' = S ∧ ∃ v3, env = [some (bookD N E rows), some (sightsD ss), some (storyD s), v3, none, none, none, none, none]) (fun _ _ => False) s () _ S ⟨rfl, none, rfl⟩
      (fun j row hj st env S' h => ev_law_is_story_L0 G (k + 1) n N E hN rows _ _ (by omega) S row (hw row (List.mem_of_getElem? hj)).1 (hw row (List.mem_of_getElem? hj)).2 _ rfl j env S' h)
    have hfo : s.foldlM (fun (_ : Unit) (_ : List Int) => some ()) () = some () := by
      clear hrun hlen hl hl' hw hs1
      induction s with
      | nil => rfl
      | cons x s ih => rw [List.foldlM_cons]; exact ih
    rw [hfo] at hrun
    obtain ⟨env', _, h5, rfl, v3, rfl⟩ := hrun
    have hsl : decide (s.length = m) = true := by simp [hl]
    rw [hsl, Bool.true_and, storyOk]
    cases hf : lengthsOf n m rows s with
    | none =>
      rw [hf] at hlen
      obtain ⟨S', h1, h2⟩ := hlen
      refine ⟨S', ?_, h2⟩
      generalize hM : E + 1 = M at *
      clear hN hE
      simp -dsimp [↓toT, ↓toG, ↓toF, ↓toL, bndT_some, bndT_none, guT_true, ite_and, ite_or, fin_nx, fin_ret, exSs, exS, evE, evs, evO, evT, evI, bl_some, optInt, asgT, asgTs, startE, wipeE, List.map_cons, List.map_nil, List.length_cons, List.length_nil, List.replicate, List.cons_append, List.nil_append, List.append_nil, eq_ii, ne_ii, eq_ss, ne_ss, eq_bb, ne_bb, lt_ii, le_ii, gt_ii, ge_ii, add_ii, sub_ii, isi_i, isi_b, isi_n, isi_s, isi_t, isi_l, sub_t, sub_l, at0, at1, at2, at3, len_t, slice_t, cut1, cut_02, zipT_tail, zipT_map, forT_nil, forT_cons, forK_nx, forK_brk, forK_ret, len_l, walk_t, walk_l, walk_o, walkC_l, walkC_d, seq_t, seq_l, seq_o, lst_o, lst_l, srcOf_o, isi_o, sub_o, subC_l, subC_d, min_s, tup_s, list_s, len_s, index_s, omap_some, obind_some, srcOf_t, srcOf_l, srcOk_nil, mk_f, mk_t, int_b, int_i, book_0, book_1, book_2, ↓book_t, book_q, book_i, sights_w, sights_s, sights_q, story_w, story_s, story_q, story_i, b__law_is_story, tyIs, hl', hM]
      rw [forT, h5]
      simp -dsimp [↓toT, ↓toG, ↓toF, ↓toL, bndT_some, bndT_none, guT_true, ite_and, ite_or, fin_nx, fin_ret, exSs, exS, evE, evs, evO, evT, evI, bl_some, optInt, asgT, asgTs, startE, wipeE, List.map_cons, List.map_nil, List.length_cons, List.length_nil, List.replicate, List.cons_append, List.nil_append, List.append_nil, eq_ii, ne_ii, eq_ss, ne_ss, eq_bb, ne_bb, lt_ii, le_ii, gt_ii, ge_ii, add_ii, sub_ii, isi_i, isi_b, isi_n, isi_s, isi_t, isi_l, sub_t, sub_l, at0, at1, at2, at3, len_t, slice_t, cut1, cut_02, zipT_tail, zipT_map, forT_nil, forT_cons, forK_nx, forK_brk, forK_ret, len_l, walk_t, walk_l, walk_o, walkC_l, walkC_d, seq_t, seq_l, seq_o, lst_o, lst_l, srcOf_o, isi_o, sub_o, subC_l, subC_d, min_s, tup_s, list_s, len_s, index_s, omap_some, obind_some, srcOf_t, srcOf_l, srcOk_nil, mk_f, mk_t, int_b, int_i, book_0, book_1, book_2, ↓book_t, book_q, book_i, sights_w, sights_s, sights_q, story_w, story_s, story_q, story_i, h1]
    | some found =>
      rw [hf] at hlen
      obtain ⟨S', f, h1, h2, h3⟩ := hlen
      obtain ⟨hfl, hfw⟩ := lengthsOf_len hl (fun r hr => (hw r hr).1) hf
      refine ⟨S', ?_, h2⟩
      have hsee : lcT [] (fun d => asgT (.tup [.name 5, .name 6, .name 7]) d (wipeE [some (bookD N E rows), some (sightsD ss), some (storyD s), v3, some (.obj f), none, none, none, none] [5, 6, 7])) (fun env S => evT (callK Γ (k + 2)) b__law_is_story_T1 env S) (fun env S => evE (callK Γ (k + 2)) b__law_is_story_E1 env S) .mk .mk .mk (ss.map sightD) S' [] = some (((ss.filter fun x => !decide ((found.getD x.1.toNat []).getD x.2.1.toNat 0 = x.2.2)).map fun _ => (1 : Int)).map .int, S') := by
        have := hS.few
        rw [lcT_pure sightD (fun x => !decide ((found.getD x.1.toNat []).getD x.2.1.toNat 0 = x.2.2)) (fun _ => .int 1) ss rfl (by simp; omega) (fun x hx => ⟨_, rfl, by
          have h4 := hS.one x hx
          obtain ⟨r, e1, e2⟩ := at_found hfl hfw (t := x.1) (l := x.2.1) (by omega) (by omega)
          simp -dsimp [↓toT, ↓toG, ↓toF, ↓toL, bndT_some, bndT_none, guT_true, ite_and, ite_or, fin_nx, fin_ret, exSs, exS, evE, evs, evO, evT, evI, bl_some, optInt, asgT, asgTs, startE, wipeE, List.map_cons, List.map_nil, List.length_cons, List.length_nil, List.replicate, List.cons_append, List.nil_append, List.append_nil, eq_ii, ne_ii, eq_ss, ne_ss, eq_bb, ne_bb, lt_ii, le_ii, gt_ii, ge_ii, add_ii, sub_ii, isi_i, isi_b, isi_n, isi_s, isi_t, isi_l, sub_t, sub_l, at0, at1, at2, at3, len_t, slice_t, cut1, cut_02, zipT_tail, zipT_map, forT_nil, forT_cons, forK_nx, forK_brk, forK_ret, len_l, walk_t, walk_l, walk_o, walkC_l, walkC_d, seq_t, seq_l, seq_o, lst_o, lst_l, srcOf_o, isi_o, sub_o, subC_l, subC_d, min_s, tup_s, list_s, len_s, index_s, omap_some, obind_some, srcOf_t, srcOf_l, srcOk_nil, mk_f, mk_t, int_b, int_i, book_0, book_1, book_2, ↓book_t, book_q, book_i, sights_w, sights_s, sights_q, story_w, story_s, story_q, story_i, b__law_is_story_T1, h3, e1, e2, sightD, tupI], fun _ => by simp -dsimp [↓toT, ↓toG, ↓toF, ↓toL, bndT_some, bndT_none, guT_true, ite_and, ite_or, fin_nx, fin_ret, exSs, exS, evE, evs, evO, evT, evI, bl_some, optInt, asgT, asgTs, startE, wipeE, List.map_cons, List.map_nil, List.length_cons, List.length_nil, List.replicate, List.cons_append, List.nil_append, List.append_nil, eq_ii, ne_ii, eq_ss, ne_ss, eq_bb, ne_bb, lt_ii, le_ii, gt_ii, ge_ii, add_ii, sub_ii, isi_i, isi_b, isi_n, isi_s, isi_t, isi_l, sub_t, sub_l, at0, at1, at2, at3, len_t, slice_t, cut1, cut_02, zipT_tail, zipT_map, forT_nil, forT_cons, forK_nx, forK_brk, forK_ret, len_l, walk_t, walk_l, walk_o, walkC_l, walkC_d, seq_t, seq_l, seq_o, lst_o, lst_l, srcOf_o, isi_o, sub_o, subC_l, subC_d, min_s, tup_s, list_s, len_s, index_s, omap_some, obind_some, srcOf_t, srcOf_l, srcOk_nil, mk_f, mk_t, int_b, int_i, book_0, book_1, book_2, ↓book_t, book_q, book_i, sights_w, sights_s, sights_q, story_w, story_s, story_q, story_i, b__law_is_story_E1]⟩)]
        simp
      have hend : (((ss.filter fun x => !decide ((found.getD x.1.toNat []).getD x.2.1.toNat 0 = x.2.2)).map fun _ => (1 : Int)).isEmpty) = seenOk found ss := by
        rw [Bool.eq_iff_iff]
        simp [seenOk, List.filter_eq_nil_iff]
      generalize hM : E + 1 = M at *
      clear hN hE
      simp -dsimp [↓toT, ↓toG, ↓toF, ↓toL, bndT_some, bndT_none, guT_true, ite_and, ite_or, fin_nx, fin_ret, exSs, exS, evE, evs, evO, evT, evI, bl_some, optInt, asgT, asgTs, startE, wipeE, List.map_cons, List.map_nil, List.length_cons, List.length_nil, List.replicate, List.cons_append, List.nil_append, List.append_nil, eq_ii, ne_ii, eq_ss, ne_ss, eq_bb, ne_bb, lt_ii, le_ii, gt_ii, ge_ii, add_ii, sub_ii, isi_i, isi_b, isi_n, isi_s, isi_t, isi_l, sub_t, sub_l, at0, at1, at2, at3, len_t, slice_t, cut1, cut_02, zipT_tail, zipT_map, forT_nil, forT_cons, forK_nx, forK_brk, forK_ret, len_l, walk_t, walk_l, walk_o, walkC_l, walkC_d, seq_t, seq_l, seq_o, lst_o, lst_l, srcOf_o, isi_o, sub_o, subC_l, subC_d, min_s, tup_s, list_s, len_s, index_s, omap_some, obind_some, srcOf_t, srcOf_l, srcOk_nil, mk_f, mk_t, int_b, int_i, book_0, book_1, book_2, ↓book_t, book_q, book_i, sights_w, sights_s, sights_q, story_w, story_s, story_q, story_i, b__law_is_story, tyIs, hl', hM]
      rw [forT, h5]
      simp -dsimp [↓toT, ↓toG, ↓toF, ↓toL, bndT_some, bndT_none, guT_true, ite_and, ite_or, fin_nx, fin_ret, exSs, exS, evE, evs, evO, evT, evI, bl_some, optInt, asgT, asgTs, startE, wipeE, List.map_cons, List.map_nil, List.length_cons, List.length_nil, List.replicate, List.cons_append, List.nil_append, List.append_nil, eq_ii, ne_ii, eq_ss, ne_ss, eq_bb, ne_bb, lt_ii, le_ii, gt_ii, ge_ii, add_ii, sub_ii, isi_i, isi_b, isi_n, isi_s, isi_t, isi_l, sub_t, sub_l, at0, at1, at2, at3, len_t, slice_t, cut1, cut_02, zipT_tail, zipT_map, forT_nil, forT_cons, forK_nx, forK_brk, forK_ret, len_l, walk_t, walk_l, walk_o, walkC_l, walkC_d, seq_t, seq_l, seq_o, lst_o, lst_l, srcOf_o, isi_o, sub_o, subC_l, subC_d, min_s, tup_s, list_s, len_s, index_s, omap_some, obind_some, srcOf_t, srcOf_l, srcOk_nil, mk_f, mk_t, int_b, int_i, book_0, book_1, book_2, ↓book_t, book_q, book_i, sights_w, sights_s, sights_q, story_w, story_s, story_q, story_i, h1]
      rw [hsee]
      simp -dsimp only [↓toT, ↓toG, ↓toF, ↓toL, bndT_some, bndT_none, guT_true, ite_and, ite_or, fin_nx, fin_ret, exSs, exS, evE, evs, evO, evT, evI, bl_some, optInt, asgT, asgTs, startE, wipeE, List.map_cons, List.map_nil, List.length_cons, List.length_nil, List.replicate, List.cons_append, List.nil_append, List.append_nil, eq_ii, ne_ii, eq_ss, ne_ss, eq_bb, ne_bb, lt_ii, le_ii, gt_ii, ge_ii, add_ii, sub_ii, isi_i, isi_b, isi_n, isi_s, isi_t, isi_l, sub_t, sub_l, at0, at1, at2, at3, len_t, slice_t, cut1, cut_02, zipT_tail, zipT_map, forT_nil, forT_cons, forK_nx, forK_brk, forK_ret, len_l, walk_t, walk_l, walk_o, walkC_l, walkC_d, seq_t, seq_l, seq_o, lst_o, lst_l, srcOf_o, isi_o, sub_o, subC_l, subC_d, min_s, tup_s, list_s, len_s, index_s, omap_some, obind_some, srcOf_t, srcOf_l, srcOk_nil, mk_f, mk_t, int_b, int_i, book_0, book_1, book_2, ↓book_t, book_q, book_i, sights_w, sights_s, sights_q, story_w, story_s, story_q, story_i, eq_nil, hend]
  · refine ⟨S, ?_, List.prefix_refl _⟩
    have hl' : ¬ ((s.length : Nat) : Int) = E + 1 := by omega
    have hsl : decide (s.length = m) = false := by simp [hl]
    rw [hsl, Bool.false_and]
    simp -dsimp [↓toT, ↓toG, ↓toF, ↓toL, bndT_some, bndT_none, guT_true, ite_and, ite_or, fin_nx, fin_ret, exSs, exS, evE, evs, evO, evT, evI, bl_some, optInt, asgT, asgTs, startE, wipeE, List.map_cons, List.map_nil, List.length_cons, List.length_nil, List.replicate, List.cons_append, List.nil_append, List.append_nil, eq_ii, ne_ii, eq_ss, ne_ss, eq_bb, ne_bb, lt_ii, le_ii, gt_ii, ge_ii, add_ii, sub_ii, isi_i, isi_b, isi_n, isi_s, isi_t, isi_l, sub_t, sub_l, at0, at1, at2, at3, len_t, slice_t, cut1, cut_02, zipT_tail, zipT_map, forT_nil, forT_cons, forK_nx, forK_brk, forK_ret, len_l, walk_t, walk_l, walk_o, walkC_l, walkC_d, seq_t, seq_l, seq_o, lst_o, lst_l, srcOf_o, isi_o, sub_o, subC_l, subC_d, min_s, tup_s, list_s, len_s, index_s, omap_some, obind_some, srcOf_t, srcOf_l, srcOk_nil, mk_f, mk_t, int_b, int_i, book_0, book_1, book_2, ↓book_t, book_q, book_i, sights_w, sights_s, sights_q, story_w, story_s, story_q, story_i, b__law_is_story, tyIs, hl']
end SL

/-! PH: draws. -/
namespace SL
open PySem
variable {Γ : Str → Option Fn}
abbrev Bag := Int × Int × Int
def bagC (b : Bag) : Cell := .lst [.int b.1, .int b.2.1, .int b.2.2]
def bagD (b : Bag) : D := .lst [.int b.1, .int b.2.1, .int b.2.2]
structure BagOk (m : Nat) (b : Bag) : Prop where
  b0 : 0 ≤ b.1
  b1 : 0 ≤ b.2.1
  b1' : b.2.1 < 2305843009213693951
  b2 : 0 ≤ b.2.2
  b2' : b.2.2 ≤ m
theorem mod_ii (al : Bool) (i j : Int) (S : Sto) : binD al .mod (.int i) (.int j) S = if 0 < j then some (.int (i % j), S) else none := rfl
theorem fdiv_ii (al : Bool) (i j : Int) (S : Sto) : binD al .fdiv (.int i) (.int j) S = if 0 < j ∧ j < 1073741824 then some (.int (i / j), S) else none := rfl
theorem mul_ii (al : Bool) (i j : Int) (S : Sto) : binD al .mul (.int i) (.int j) S = if i.natAbs < 2 ^ 64 ∨ j.natAbs < 2 ^ 64 then some (.int (i * j), S) else none := rfl
theorem pow_ii (al : Bool) (i j : Int) (S : Sto) : binD al .pow (.int i) (.int j) S = if 0 ≤ j ∧ j ≤ 1000000 ∧ i.natAbs < 2 ^ 64 then some (.int (i ^ j.toNat), S) else none := rfl
theorem mul_ok {al : Bool} {i j : Int} {S : Sto} (h : (-(2 ^ 64) < i ∧ i < 2 ^ 64) ∨ (-(2 ^ 64) < j ∧ j < 2 ^ 64)) : binD al .mul (.int i) (.int j) S = some (.int (i * j), S) := by rw [mul_ii, if_pos (by omega)]
theorem pow_ok {al : Bool} {i j : Int} {S : Sto} (h : 0 ≤ j ∧ j ≤ 1000000 ∧ i.natAbs < 2 ^ 64) : binD al .pow (.int i) (.int j) S = some (.int (i ^ j.toNat), S) := by rw [pow_ii, if_pos h]
theorem ev_take (G : Std Γ) (k m a : Nat) (b : Bag) (many : Int) (S : Sto) (hS : S[a]? = some (bagC b)) (hb : BagOk m b) (hm : m < 2 ^ 62) (h0 : 0 < many) (h1 : many < 1073741824) :
    ∃ r b', callK Γ (k + 1) "_law_take" [.obj a, .int many] S = some (.int r, S.set a (bagC b')) ∧ (0 ≤ r ∧ r < many) ∧ BagOk (m + 1) b' := by
  rw [call_step G.h__law_take]
  obtain ⟨b0, b1, b2⟩ := b
  have hlt := get_lt hS
  obtain ⟨p0, p1, p2, p3, p4⟩ := hb
  simp only at p0 p1 p2 p3 p4
  by_cases hz : 0 < b0
  · refine ⟨b0 % many, (b0 / many, b1, b2), ?_, ⟨Int.emod_nonneg _ (by omega), Int.emod_lt_of_pos _ h0⟩, ⟨Int.ediv_nonneg p0 (by omega), p1, p2, p3, by simp only; omega⟩⟩
    simp -dsimp [↓toT, ↓toG, ↓toF, ↓toL, bndT_some, bndT_none, guT_true, ite_and, ite_or, fin_nx, fin_ret, exSs, exS, evE, evs, evO, evT, evI, bl_some, optInt, asgT, asgTs, startE, wipeE, List.map_cons, List.map_nil, List.length_cons, List.length_nil, List.replicate, List.cons_append, List.nil_append, List.append_nil, eq_ii, ne_ii, eq_ss, ne_ss, eq_bb, ne_bb, lt_ii, le_ii, gt_ii, ge_ii, add_ii, sub_ii, isi_i, isi_b, isi_n, isi_s, isi_t, isi_l, sub_t, sub_l, at0, at1, at2, at3, len_t, slice_t, cut1, cut_02, zipT_tail, zipT_map, forT_nil, forT_cons, forK_nx, forK_brk, forK_ret, len_l, walk_t, walk_l, walk_o, walkC_l, walkC_d, seq_t, seq_l, seq_o, lst_o, lst_l, srcOf_o, isi_o, sub_o, subC_l, subC_d, min_s, tup_s, list_s, len_s, index_s, omap_some, obind_some, srcOf_t, srcOf_l, srcOk_nil, mk_f, mk_t, int_b, int_i, b__law_take, hS, bagC, hz, mod_ii, fdiv_ii, h0, h1, setSubD, L2.ixN]
  · obtain ⟨c, hc⟩ : ∃ c, c = b2 + 1 := ⟨_, rfl⟩
    obtain ⟨n1, hn1⟩ : ∃ n1, n1 = (b1 + 1000003 * c) % 2305843009213693951 := ⟨_, rfl⟩
    obtain ⟨n2, hn2⟩ : ∃ n2, n2 = (n1 * n1 + 7919 * c ^ 2 + 5) % 2305843009213693951 := ⟨_, rfl⟩
    have g1 : 0 ≤ n1 ∧ n1 < 2305843009213693951 := by omega
    have g2 : 0 ≤ n2 ∧ n2 < 2305843009213693951 := by
      rw [hn2]; exact ⟨Int.emod_nonneg _ (by omega), Int.emod_lt_of_pos _ (by omega)⟩
    refine ⟨n2 ^ 3 % 2305843009213693951 / 13 % many, (b0, b1, c), ?_, ⟨Int.emod_nonneg _ (by omega), Int.emod_lt_of_pos _ h0⟩, ⟨p0, p1, p2, by simp only; omega, by simp only; omega⟩⟩
    have e1 : (S.set a (.lst [.int b0, .int b1, .int c]))[a]? = some (.lst [.int b0, .int b1, .int c]) := by simp [hlt]
    have e2 : ∀ S', binD false .mul (.int 1000003) (.int c) S' = some (.int (1000003 * c), S') := fun S' => mul_ok (.inl ⟨by omega, by omega⟩)
    have e3 : ∀ S', binD false .mul (.int n1) (.int n1) S' = some (.int (n1 * n1), S') := fun S' => mul_ok (.inl ⟨by omega, by omega⟩)
    have e4 : ∀ S', binD false .mul (.int 7919) (.int (c ^ 2)) S' = some (.int (7919 * c ^ 2), S') := fun S' => mul_ok (.inl ⟨by omega, by omega⟩)
    have e5 : ∀ S', binD false .pow (.int c) (.int 2) S' = some (.int (c ^ 2), S') := fun S' => pow_ok (i := c) (j := 2) ⟨by omega, by omega, by omega⟩
    have e6 : ∀ S', binD false .pow (.int n2) (.int 3) S' = some (.int (n2 ^ 3), S') := fun S' => pow_ok (i := n2) (j := 3) ⟨by omega, by omega, by omega⟩
    simp -dsimp [↓toT, ↓toG, ↓toF, ↓toL, bndT_some, bndT_none, guT_true, ite_and, ite_or, fin_nx, fin_ret, exSs, exS, evE, evs, evO, evT, evI, bl_some, optInt, asgT, asgTs, startE, wipeE, List.map_cons, List.map_nil, List.length_cons, List.length_nil, List.replicate, List.cons_append, List.nil_append, List.append_nil, eq_ii, ne_ii, eq_ss, ne_ss, eq_bb, ne_bb, lt_ii, le_ii, gt_ii, ge_ii, add_ii, sub_ii, isi_i, isi_b, isi_n, isi_s, isi_t, isi_l, sub_t, sub_l, at0, at1, at2, at3, len_t, slice_t, cut1, cut_02, zipT_tail, zipT_map, forT_nil, forT_cons, forK_nx, forK_brk, forK_ret, len_l, walk_t, walk_l, walk_o, walkC_l, walkC_d, seq_t, seq_l, seq_o, lst_o, lst_l, srcOf_o, isi_o, sub_o, subC_l, subC_d, min_s, tup_s, list_s, len_s, index_s, omap_some, obind_some, srcOf_t, srcOf_l, srcOk_nil, mk_f, mk_t, int_b, int_i, b__law_take, hS, bagC, hz, setSubD, L2.ixN, e1, mod_ii, fdiv_ii, ← hc, ← hn1, ← hn2, e2, e3, e4, e5, e6, h0]
theorem ev_well (G : Std Γ) (k : Nat) (cell turn : Int) (S : Sto) (ht : 0 ≤ turn ∧ turn < 100000) : ∃ b, callK Γ (k + 1) "_law_well" [.int cell, .int turn] S = some (.obj S.length, S ++ [bagC b]) ∧ BagOk 100000 b := by
  rw [call_step G.h__law_well]
  have e5 : ∀ S', binD false .pow (.int 10) (.int 18) S' = some (.int 1000000000000000000, S') := fun S' => pow_ok (i := 10) (j := 18) ⟨by omega, by omega, by omega⟩
  by_cases h : 1000000000000000000 ≤ cell
  · refine ⟨(cell - 1000000000000000000, cell % 2305843009213693951, turn), ?_, ⟨?_, Int.emod_nonneg _ (by omega), Int.emod_lt_of_pos _ (by omega), ht.1, ?_⟩⟩
    · simp -dsimp [↓toT, ↓toG, ↓toF, ↓toL, bndT_some, bndT_none, guT_true, ite_and, ite_or, fin_nx, fin_ret, exSs, exS, evE, evs, evO, evT, evI, bl_some, optInt, asgT, asgTs, startE, wipeE, List.map_cons, List.map_nil, List.length_cons, List.length_nil, List.replicate, List.cons_append, List.nil_append, List.append_nil, eq_ii, ne_ii, eq_ss, ne_ss, eq_bb, ne_bb, lt_ii, le_ii, gt_ii, ge_ii, add_ii, sub_ii, isi_i, isi_b, isi_n, isi_s, isi_t, isi_l, sub_t, sub_l, at0, at1, at2, at3, len_t, slice_t, cut1, cut_02, zipT_tail, zipT_map, forT_nil, forT_cons, forK_nx, forK_brk, forK_ret, len_l, walk_t, walk_l, walk_o, walkC_l, walkC_d, seq_t, seq_l, seq_o, lst_o, lst_l, srcOf_o, isi_o, sub_o, subC_l, subC_d, min_s, tup_s, list_s, len_s, index_s, omap_some, obind_some, srcOf_t, srcOf_l, srcOk_nil, mk_f, mk_t, int_b, int_i, b__law_well, e5, h, mod_ii, bagC]
    · simp only; omega
    · simp only; omega
  · refine ⟨(0, cell % 2305843009213693951, turn), ?_, ⟨by simp, Int.emod_nonneg _ (by omega), Int.emod_lt_of_pos _ (by omega), ht.1, ?_⟩⟩
    · simp -dsimp [↓toT, ↓toG, ↓toF, ↓toL, bndT_some, bndT_none, guT_true, ite_and, ite_or, fin_nx, fin_ret, exSs, exS, evE, evs, evO, evT, evI, bl_some, optInt, asgT, asgTs, startE, wipeE, List.map_cons, List.map_nil, List.length_cons, List.length_nil, List.replicate, List.cons_append, List.nil_append, List.append_nil, eq_ii, ne_ii, eq_ss, ne_ss, eq_bb, ne_bb, lt_ii, le_ii, gt_ii, ge_ii, add_ii, sub_ii, isi_i, isi_b, isi_n, isi_s, isi_t, isi_l, sub_t, sub_l, at0, at1, at2, at3, len_t, slice_t, cut1, cut_02, zipT_tail, zipT_map, forT_nil, forT_cons, forK_nx, forK_brk, forK_ret, len_l, walk_t, walk_l, walk_o, walkC_l, walkC_d, seq_t, seq_l, seq_o, lst_o, lst_l, srcOf_o, isi_o, sub_o, subC_l, subC_d, min_s, tup_s, list_s, len_s, index_s, omap_some, obind_some, srcOf_t, srcOf_l, srcOk_nil, mk_f, mk_t, int_b, int_i, b__law_well, e5, h, mod_ii, bagC]
    · simp only; omega
end SL

/-! PI: a bag goes on; runs. -/
namespace SL
open PySem
variable {Γ : Str → Option Fn}
def At (a m : Nat) (S : Sto) : Prop := ∃ b, S[a]? = some (bagC b) ∧ BagOk m b
def Adv (a m : Nat) (S S' : Sto) : Prop := ∃ b, S.set a (bagC b) <+: S' ∧ BagOk m b
theorem At.adv {a m : Nat} {S : Sto} (h : At a m S) : Adv a m S S := by
  obtain ⟨b, h1, h2⟩ := h
  refine ⟨b, ?_, h2⟩
  rw [show S.set a (bagC b) = S by
    apply List.ext_getElem?
    intro i
    by_cases hi : a = i
    · subst hi; rw [List.getElem?_set_self (get_lt h1), h1]
    · rw [List.getElem?_set_ne hi]]
  exact List.prefix_refl _
theorem Adv.len {a m : Nat} {S S' : Sto} (h : Adv a m S S') : S.length ≤ S'.length := by
  obtain ⟨b, h1, _⟩ := h
  have := h1.length_le
  simpa using this
theorem Adv.at {a m : Nat} {S S' : Sto} (h : Adv a m S S') (ha : a < S.length) : At a m S' := by
  obtain ⟨b, h1, h2⟩ := h
  exact ⟨b, pre_get h1 (by simp [ha]), h2⟩
theorem Adv.trans {a m m' : Nat} {S S1 S2 : Sto} (h : Adv a m S S1) (h' : Adv a m' S1 S2) (ha : a < S.length) : Adv a m' S S2 := by
  obtain ⟨b, ⟨T, rfl⟩, h2⟩ := h
  obtain ⟨b', h1', h2'⟩ := h'
  refine ⟨b', ?_, h2'⟩
  rw [List.set_append_left _ _ (by simpa using ha), List.set_set] at h1'
  exact (List.prefix_append ..).trans h1'
theorem Adv.app {a m : Nat} {S S' : Sto} (h : Adv a m S S') (T : Sto) : Adv a m S (S' ++ T) := by
  obtain ⟨b, h1, h2⟩ := h
  exact ⟨b, pre_app T h1, h2⟩
theorem Adv.pre {a m : Nat} {S S' S2 : Sto} (h : Adv a m S S') (p : S' <+: S2) : Adv a m S S2 := by
  obtain ⟨T, rfl⟩ := p
  exact h.app T
theorem Adv.set {a m n : Nat} {S S' : Sto} (h : Adv a m S S') (hn : S.length ≤ n) (c : Cell) : Adv a m S (S'.set n c) := by
  obtain ⟨b, h1, h2⟩ := h
  exact ⟨b, pre_set c h1 (by simpa using hn), h2⟩
theorem Adv.get {a m n : Nat} {S S' : Sto} {c : Cell} (h : Adv a m S S') (hn : a ≠ n) (hc : S[n]? = some c) : S'[n]? = some c := by
  obtain ⟨b, h1, h2⟩ := h
  exact pre_get h1 (by rw [List.getElem?_set_ne hn, hc])
theorem BagOk.mono {m m' : Nat} {b : Bag} (h : BagOk m b) (hm : m ≤ m') : BagOk m' b := ⟨h.b0, h.b1, h.b1', h.b2, by have := h.b2'; omega⟩
theorem Adv.mono {a m m' : Nat} {S S' : Sto} (h : Adv a m S S') (hm : m ≤ m') : Adv a m' S S' := let ⟨b, x, y⟩ := h; ⟨b, x, y.mono hm⟩
theorem At.mono {a m m' : Nat} {S : Sto} (h : At a m S) (hm : m ≤ m') : At a m' S := let ⟨b, x, y⟩ := h; ⟨b, x, y.mono hm⟩
theorem At.lt {a m : Nat} {S : Sto} (h : At a m S) : a < S.length := let ⟨b, x, y⟩ := h; get_lt x
theorem take (G : Std Γ) (k : Nat) {m a : Nat} {S : Sto} (h : At a m S) (many : Int) (hm : m < 2 ^ 62) (h0 : 0 < many) (h1 : many < 1073741824) :
    ∃ r S', callK Γ (k + 1) "_law_take" [.obj a, .int many] S = some (.int r, S') ∧ (0 ≤ r ∧ r < many) ∧ Adv a (m + 1) S S' ∧ S'.length = S.length := by
  obtain ⟨b, h2, h3⟩ := h
  obtain ⟨r, b', e, h4, h5⟩ := ev_take G k m a b many S h2 h3 hm h0 h1
  exact ⟨r, _, e, h4, ⟨b', List.prefix_refl _, h5⟩, by simp⟩
theorem ev_bags_go (G : Std Γ) (k : Nat) (env : En) (hv : env.length = 4) : ∀ (xs : List Int) (i : Int) (acc : List D) (S : Sto), 0 ≤ i → i + xs.length ≤ 100 → acc.length + xs.length ≤ 1000 →
    ∃ bs : List Bag, bs.length = xs.length ∧ (∀ b ∈ bs, BagOk 100000 b) ∧
      lcGo [] (fun d => asgT (.tup [.name 2, .name 3]) d (wipeE env [2, 3])) (fun env S => evT (callK Γ (k + 1)) .no env S) (fun env S => evE (callK Γ (k + 1)) b__law_bags_E0 env S) (enumD i (xs.map .int)) S acc = some (acc ++ (List.range xs.length).map (fun j => .obj (S.length + j)), S ++ bs.map bagC)
  | [], i, acc, S, _, _, _ => ⟨[], rfl, by simp, by simp [enumD, lcGo]⟩
  | x :: xs, i, acc, S, h0, h1, h2 => by
    simp only [List.length_cons] at h1 h2
    obtain ⟨b, e, hb⟩ := ev_well G k x (977 * i) S (by omega)
    obtain ⟨bs, g1, g2, g3⟩ := ev_bags_go G k env hv xs (i + 1) (acc ++ [.obj S.length]) (S ++ [bagC b]) (by omega) (by omega) (by simp; omega)
    refine ⟨b :: bs, by simp [g1], List.forall_mem_cons.2 ⟨hb, g2⟩, ?_⟩
    have em : ∀ S', binD false .mul (.int 977) (.int i) S' = some (.int (977 * i), S') := fun S' => mul_ok (.inl ⟨by omega, by omega⟩)
    match env, hv with
    | [v0, v1, v2, v3], _ =>
      have e1 : lcGo [] (fun d => asgT (.tup [.name 2, .name 3]) d (wipeE [v0, v1, v2, v3] [2, 3])) (fun env S => evT (callK Γ (k + 1)) .no env S) (fun env S => evE (callK Γ (k + 1)) b__law_bags_E0 env S) (enumD i ((x :: xs).map .int)) S acc
        = lcGo [] (fun d => asgT (.tup [.name 2, .name 3]) d (wipeE [v0, v1, v2, v3] [2, 3])) (fun env S => evT (callK Γ (k + 1)) .no env S) (fun env S => evE (callK Γ (k + 1)) b__law_bags_E0 env S) (enumD (i + 1) (xs.map .int)) (S ++ [bagC b]) (acc ++ [.obj S.length]) := by
        have a1 : evE (callK Γ (k + 1)) b__law_bags_E0 [v0, v1, some (.int i), some (.int x)] S = some (.obj S.length, S ++ [bagC b]) := by
          simp -dsimp [↓toT, ↓toG, ↓toF, ↓toL, bndT_some, bndT_none, guT_true, ite_and, ite_or, fin_nx, fin_ret, exSs, exS, evE, evs, evO, evT, evI, bl_some, optInt, asgT, asgTs, startE, wipeE, List.map_cons, List.map_nil, List.length_cons, List.length_nil, List.replicate, List.cons_append, List.nil_append, List.append_nil, eq_ii, ne_ii, eq_ss, ne_ss, eq_bb, ne_bb, lt_ii, le_ii, gt_ii, ge_ii, add_ii, sub_ii, isi_i, isi_b, isi_n, isi_s, isi_t, isi_l, sub_t, sub_l, at0, at1, at2, at3, len_t, slice_t, cut1, cut_02, zipT_tail, zipT_map, forT_nil, forT_cons, forK_nx, forK_brk, forK_ret, len_l, walk_t, walk_l, walk_o, walkC_l, walkC_d, seq_t, seq_l, seq_o, lst_o, lst_l, srcOf_o, isi_o, sub_o, subC_l, subC_d, min_s, tup_s, list_s, len_s, index_s, omap_some, obind_some, srcOf_t, srcOf_l, srcOk_nil, mk_f, mk_t, int_b, int_i, b__law_bags_E0, em, e]
        exact lcGo_yes (S1 := S) rfl (by simp [evT]) a1 rfl (by omega)
      rw [e1, g3]
      congr 2
      · rw [List.length_cons, List.range_succ_eq_map, List.map_cons, List.map_map, List.append_assoc]
        simp [Function.comp_def, Nat.add_assoc, Nat.add_comm 1]
      · simp
theorem add_ll (a b : List D) (S : Sto) (h : a.length + b.length ≤ 1000) : binD false .add (.lst a) (.lst b) S = some (.lst (a ++ b), S) := by
  simp only [binD, lst_l]
  rw [if_pos (by omega), mk_f]
theorem ev_bags (G : Std Γ) (k mo : Nat) (hmo : mo ≤ 90) (ns : List Int) (S : Sto) : ∃ bs : List Bag, 0 < bs.length ∧ bs.length ≤ 100 ∧ (∀ b ∈ bs, BagOk 100000 b) ∧
    callK Γ (k + 2) "_law_bags" [.ro (ns.map .int), .int (mo : Int)] S = some (.lst ((List.range bs.length).map fun j => .obj (S.length + j)), S ++ bs.map bagC) := by
  rw [call_step G.h__law_bags]
  have hl : (ns.take mo).length ≤ mo := by simp; omega
  obtain ⟨xs, hx⟩ : ∃ xs, xs = ns.take mo ++ [0] := ⟨_, rfl⟩
  have hxl : xs.length ≤ 91 := by rw [hx]; simp only [List.length_append, List.length_singleton]; omega
  have hsl : sliceD false S (.ro (ns.map .int)) none (some (mo : Int)) = some (.lst ((ns.take mo).map .int), S) := by
    simp only [sliceD, cut0, mk_f, List.map_take]
  have hadd : binD false .add (.lst ((ns.take mo).map .int)) (.lst [.int 0]) S = some (.lst (xs.map .int), S) := by
    rw [add_ll _ _ _ (by simp only [List.length_map, List.length_singleton]; omega), hx]; simp
  obtain ⟨bs, h1, h2, h3⟩ := ev_bags_go G k [some (.ro (ns.map .int)), some (.int mo), none, none] rfl xs 0 [] S (by omega) (by omega) (by simp; omega)
  refine ⟨bs, by rw [h1, hx]; simp, by omega, h2, ?_⟩
  generalize (mo : Int) = M at *
  simp -dsimp [↓toT, ↓toG, ↓toF, ↓toL, bndT_some, bndT_none, guT_true, ite_and, ite_or, fin_nx, fin_ret, exSs, exS, evE, evs, evO, evT, evI, bl_some, optInt, asgT, asgTs, startE, wipeE, List.map_cons, List.map_nil, List.length_cons, List.length_nil, List.replicate, List.cons_append, List.nil_append, List.append_nil, eq_ii, ne_ii, eq_ss, ne_ss, eq_bb, ne_bb, lt_ii, le_ii, gt_ii, ge_ii, add_ii, sub_ii, isi_i, isi_b, isi_n, isi_s, isi_t, isi_l, sub_t, sub_l, at0, at1, at2, at3, len_t, slice_t, cut1, cut_02, zipT_tail, zipT_map, forT_nil, forT_cons, forK_nx, forK_brk, forK_ret, len_l, walk_t, walk_l, walk_o, walkC_l, walkC_d, seq_t, seq_l, seq_o, lst_o, lst_l, srcOf_o, isi_o, sub_o, subC_l, subC_d, min_s, tup_s, list_s, len_s, index_s, omap_some, obind_some, srcOf_t, srcOf_l, srcOk_nil, mk_f, mk_t, int_b, int_i, b__law_bags, hsl]
  rw [← List.map_take, hadd]
  simp -dsimp [↓toT, ↓toG, ↓toF, ↓toL, bndT_some, bndT_none, guT_true, ite_and, ite_or, fin_nx, fin_ret, exSs, exS, evE, evs, evO, evT, evI, bl_some, optInt, asgT, asgTs, startE, wipeE, List.map_cons, List.map_nil, List.length_cons, List.length_nil, List.replicate, List.cons_append, List.nil_append, List.append_nil, eq_ii, ne_ii, eq_ss, ne_ss, eq_bb, ne_bb, lt_ii, le_ii, gt_ii, ge_ii, add_ii, sub_ii, isi_i, isi_b, isi_n, isi_s, isi_t, isi_l, sub_t, sub_l, at0, at1, at2, at3, len_t, slice_t, cut1, cut_02, zipT_tail, zipT_map, forT_nil, forT_cons, forK_nx, forK_brk, forK_ret, len_l, walk_t, walk_l, walk_o, walkC_l, walkC_d, seq_t, seq_l, seq_o, lst_o, lst_l, srcOf_o, isi_o, sub_o, subC_l, subC_d, min_s, tup_s, list_s, len_s, index_s, omap_some, obind_some, srcOf_t, srcOf_l, srcOk_nil, mk_f, mk_t, int_b, int_i]
  rw [lcT, h3]
  simp -dsimp [↓toT, ↓toG, ↓toF, ↓toL, bndT_some, bndT_none, guT_true, ite_and, ite_or, fin_nx, fin_ret, exSs, exS, evE, evs, evO, evT, evI, bl_some, optInt, asgT, asgTs, startE, wipeE, List.map_cons, List.map_nil, List.length_cons, List.length_nil, List.replicate, List.cons_append, List.nil_append, List.append_nil, eq_ii, ne_ii, eq_ss, ne_ss, eq_bb, ne_bb, lt_ii, le_ii, gt_ii, ge_ii, add_ii, sub_ii, isi_i, isi_b, isi_n, isi_s, isi_t, isi_l, sub_t, sub_l, at0, at1, at2, at3, len_t, slice_t, cut1, cut_02, zipT_tail, zipT_map, forT_nil, forT_cons, forK_nx, forK_brk, forK_ret, len_l, walk_t, walk_l, walk_o, walkC_l, walkC_d, seq_t, seq_l, seq_o, lst_o, lst_l, srcOf_o, isi_o, sub_o, subC_l, subC_d, min_s, tup_s, list_s, len_s, index_s, omap_some, obind_some, srcOf_t, srcOf_l, srcOk_nil, mk_f, mk_t, int_b, int_i, h1]
end SL

/-! PJ: runs. -/
namespace SL
open PySem
variable {Γ : Str → Option Fn}
theorem for_all {α : Type} (toD : α → D) {src : Src} {asg : D → En → Option En} {body : En → Sto → RS} (Inv : Nat → En → Sto → Prop) (xs : List α) (env : En) (S : Sto) (h : Inv 0 env S)
    (hs : ∀ j x, xs[j]? = some x → ∀ env S, Inv j env S → ∃ env1 env2 S2, asg (toD x) env = some env1 ∧ body env1 S = some (.nx, env2, S2) ∧ srcOk src S2 = true ∧ Inv (j + 1) env2 S2) :
    ∃ env' S', forGo src asg body (xs.map toD) env S = some (.nx, env', S') ∧ Inv xs.length env' S' := by
  have := for_run toD (src := src) (asg := asg) (body := body) (fun (_ : Unit) _ => some ()) (fun j _ env S => Inv j env S) (fun _ _ => False) xs () env S h (fun j x hx st env S hI => hs j x hx env S hI)
  have hfo : xs.foldlM (fun (_ : Unit) (_ : α) => some ()) () = some () := by
    clear this hs
    induction xs with
    | nil => rfl
    | cons x s ih => rw [List.foldlM_cons]; exact ih
  rw [hfo] at this
  exact this
theorem range_at {m j x : Nat} (hx : (List.range m)[j]? = some x) : j < m ∧ x = j := by
  obtain ⟨h1, h2⟩ := List.getElem?_eq_some_iff.1 hx
  simp at h1 h2
  exact ⟨h1, h2.symm⟩
/-! ### the plain law of a run -/
def RunTo (n t : Nat) (now : List Int) (rows : List (Int × Int)) (story : List (List Int)) : Prop :=
  story.length = t ∧ now.length = n ∧ (∀ r ∈ rows, 0 ≤ r.1 ∧ r.1 < (t : Int) ∧ 0 ≤ r.2 ∧ r.2 < (n : Int)) ∧ (∀ x ∈ now, 0 ≤ x) ∧ (∀ r ∈ story, r.length = n ∧ bits r) ∧ upT rows = true ∧
  ∀ rows' story', (∀ r ∈ rows', (t : Int) ≤ r.1) → ∃ found, (List.range t).foldlM (stepL (rows ++ rows') (story ++ story')) (List.replicate n 0, []) = some (now, found)
theorem joinTo_skip (t : Int) : ∀ (rs : List (Int × Int)) (now : List Int), (∀ r ∈ rs, r.1 ≠ t) → joinTo t rs now = some now
  | [], now, _ => rfl
  | r :: rs, now, h => by
    have h1 := h r (.head _)
    rw [joinTo, List.foldlM_cons, join1, if_neg h1]
    exact joinTo_skip t rs now fun x hx => h x (.tail _ hx)
theorem joinTo_append (t : Int) (a b : List (Int × Int)) (now : List Int) : joinTo t (a ++ b) now = (joinTo t a now).bind (joinTo t b) := by
  simp only [joinTo, List.foldlM_append]; rfl
theorem upT_append {a b : List (Int × Int)} (ha : upT a = true) (hb : upT b = true) (h : ∀ x ∈ a, ∀ y ∈ b, x.1 ≤ y.1) : upT (a ++ b) = true := by
  induction a with
  | nil => simpa using hb
  | cons x a ih =>
    cases a with
    | nil =>
      cases b with
      | nil => rfl
      | cons y b =>
        have h1 := h x (.head _) y (.head _)
        simp only [upT, List.cons_append, List.nil_append, List.tail_cons, List.zip_cons_cons, List.all_cons, Bool.and_eq_true, decide_eq_true_eq] at hb ⊢
        exact ⟨h1, hb⟩
    | cons x2 a =>
      have h2 := ih (by simp only [upT, List.tail_cons, List.zip_cons_cons, List.all_cons, Bool.and_eq_true] at ha ⊢; exact ha.2) (fun u hu y hy => h u (.tail _ hu) y hy)
      simp only [upT, List.cons_append, List.tail_cons, List.zip_cons_cons, List.all_cons, Bool.and_eq_true, decide_eq_true_eq] at ha h2 ⊢
      exact ⟨ha.1, h2⟩
theorem upT_same (t : Int) : ∀ a : List (Int × Int), (∀ r ∈ a, r.1 = t) → upT a = true
  | [], _ => rfl
  | [x], _ => rfl
  | x :: y :: a, h => by
    have := upT_same t (y :: a) fun r hr => h r (.tail _ hr)
    have h1 := h x (.head _)
    have h2 := h y (.tail _ (.head _))
    simp only [upT, List.tail_cons, List.zip_cons_cons, List.all_cons, Bool.and_eq_true, decide_eq_true_eq] at this ⊢
    exact ⟨by omega, this⟩
theorem RunTo.step {n t : Nat} {now : List Int} {rows js : List (Int × Int)} {story : List (List Int)} {sv now2 : List Int} (h : RunTo n t now rows story) (hn : 0 < n)
    (hsv : sv.length = n) (hb : bits sv) (hge : ∀ p ∈ now.zip sv, 0 ≤ p.1 - p.2) (hjs : ∀ r ∈ js, r.1 = (t : Int) ∧ 0 ≤ r.2 ∧ r.2 < (n : Int)) (hj : joinTo t js (subI now sv) = some now2) (h2 : ∀ x ∈ now2, 0 ≤ x) :
    RunTo n (t + 1) now2 (rows ++ js) (story ++ [sv]) := by
  obtain ⟨a1, a2, a3, a4, a5, a6, a7⟩ := h
  have hsl : (subI now sv).length = n := by simp [subI, a2, hsv]
  refine ⟨by simp [a1], by rw [joinTo_len _ _ _ _ hj, hsl], ?_, h2, ?_, ?_, ?_⟩
  · intro r hr
    rcases List.mem_append.1 hr with hr | hr
    · have := a3 r hr; omega
    · have := hjs r hr; omega
  · intro r hr
    rcases List.mem_append.1 hr with hr | hr
    · exact a5 r hr
    · rw [List.mem_singleton] at hr; subst hr; exact ⟨hsv, hb⟩
  · exact upT_append a6 (upT_same t js fun r hr => (hjs r hr).1) fun x hx y hy => by have := a3 x hx; have := hjs y hy; omega
  · intro rows' story' hr'
    obtain ⟨found, hf⟩ := a7 (js ++ rows') (sv :: story') (by
      intro r hr
      rcases List.mem_append.1 hr with hr | hr
      · have := hjs r hr; omega
      · have := hr' r hr; omega)
    refine ⟨found ++ [now2], ?_⟩
    rw [List.append_assoc, List.append_assoc, List.singleton_append, List.range_succ, List.foldlM_append, hf]
    have hg : (story ++ sv :: story').getD t [] = sv := by simp [List.getD, ← a1]
    have hne : subI now sv ≠ [] := by intro e; rw [e] at hsl; simp at hsl; omega
    have hmin : ¬ minI (subI now sv) < 0 := by
      have := (minI_mem hne).1
      obtain ⟨p, hp, e⟩ := List.mem_map.1 this
      have := hge p hp
      omega
    have hstep : stepT (rows ++ (js ++ rows')) t sv now = some now2 := by
      rw [stepT, if_neg hmin, joinTo_append, joinTo_skip _ _ _ (fun r hr => by have := a3 r hr; omega), Option.bind_some, joinTo_append, hj, Option.bind_some, joinTo_skip _ _ _ (fun r hr => by have := hr' r hr; omega)]
    simp only [Option.bind_eq_bind, Option.bind_some, List.foldlM_cons, stepL, hg, hstep, Option.map_some, List.foldlM_nil]
    rfl
theorem RunTo.start (n : Nat) : RunTo n 0 (List.replicate n 0) [] [] := by
  refine ⟨rfl, by simp, by simp, by intro x hx; have := List.eq_of_mem_replicate hx; omega, by simp, rfl, fun _ _ _ => ⟨[], rfl⟩⟩
theorem RunTo.done {n m : Nat} {now : List Int} {rows : List (Int × Int)} {story : List (List Int)} (h : RunTo n m now rows story) : ∃ found, lengthsOf n m rows story = some found := by
  obtain ⟨found, hf⟩ := h.2.2.2.2.2.2 [] [] (by simp)
  rw [List.append_nil, List.append_nil] at hf
  exact ⟨found, by rw [lengthsOf, hf]; rfl⟩
end SL

/-! PK: runs walked. -/
namespace SL
open PySem
variable {Γ : Str → Option Fn}
theorem shortest_lt {now : List Int} (h : now ≠ []) : shortest now < (now.length : Int) := by
  have := List.idxOf_lt_length_iff.2 (minI_mem h).1
  unfold shortest; omega
theorem run_served (G : Std Γ) (k a c n : Nat) (N E mo eager t : Int) (f s : Nat) (v9 v10 v11 : Option D) (cell : Cell) (hac : a ≠ c) : ∀ (xs : List Int) (m : Nat) (acc : List D) (S : Sto), At a m S → S[c]? = some cell → m + xs.length < 2 ^ 61 → acc.length + xs.length ≤ 1000 → (∀ x ∈ xs, 0 ≤ x) →
    ∃ sv S', lcGo [(c, cell)] (fun d => asgT (.name 12) d (wipeE [some (.obj a), some (.int N), some (.int E), some (.int mo), some (.obj c), some (.obj f), some (.obj s), some (.int eager), some (.int t), v9, v10, v11, none, none] [12])) (fun env S => evT (callK Γ (k + 1)) .no env S) (fun env S => evE (callK Γ (k + 1)) b__law_run_E0 env S) (xs.map .int) S acc = some (acc ++ sv.map .int, S') ∧ sv.length = xs.length ∧ bits sv ∧ (∀ p ∈ xs.zip sv, 0 ≤ p.1 - p.2) ∧ Adv a (m + xs.length) S S' ∧ S'.length = S.length
  | [], m, acc, S, h, hc, hm, hl, hx => ⟨[], S, by simp [lcGo], rfl, by simp [bits], by simp, h.adv, rfl⟩
  | x :: xs, m, acc, S, h, hc, hm, hl, hx => by
    simp only [List.length_cons] at hm hl
    have hx0 := hx x (.head _)
    have hxs : ∀ y ∈ xs, 0 ≤ y := fun y hy => hx y (.tail _ hy)
    by_cases hp : 0 < x
    · obtain ⟨r, S1, e, hr, hA, hSl⟩ := take G k h 4 (by omega) (by omega) (by omega)
      have hc1 := hA.get hac hc
      obtain ⟨sv, S', g1, g2, g3, g4, g5, g6⟩ := run_served G k a c n N E mo eager t f s v9 v10 v11 cell hac xs (m + 1) (acc ++ [.int (if decide (r ≤ eager) then 1 else 0)]) S1 (hA.at h.lt) hc1 (by omega) (by simp; omega) hxs
      refine ⟨(if decide (r ≤ eager) then 1 else 0) :: sv, S', ?_, by simp [g2], ?_, ?_, ?_, by rw [g6, hSl]⟩
      · rw [List.map_cons, lcGo_yes (S1 := S) (S2 := S1) (x := .int (if decide (r ≤ eager) then 1 else 0)) rfl (by simp [evT]) _ _ (by omega), g1]
        · simp
        · simp -dsimp [↓toT, ↓toG, ↓toF, ↓toL, bndT_some, bndT_none, guT_true, ite_and, ite_or, fin_nx, fin_ret, exSs, exS, evE, evs, evO, evT, evI, bl_some, optInt, asgT, asgTs, startE, wipeE, List.map_cons, List.map_nil, List.length_cons, List.length_nil, List.replicate, List.cons_append, List.nil_append, List.append_nil, eq_ii, ne_ii, eq_ss, ne_ss, eq_bb, ne_bb, lt_ii, le_ii, gt_ii, ge_ii, add_ii, sub_ii, isi_i, isi_b, isi_n, isi_s, isi_t, isi_l, sub_t, sub_l, at0, at1, at2, at3, len_t, slice_t, cut1, cut_02, zipT_tail, zipT_map, forT_nil, forT_cons, forK_nx, forK_brk, forK_ret, len_l, walk_t, walk_l, walk_o, walkC_l, walkC_d, seq_t, seq_l, seq_o, lst_o, lst_l, srcOf_o, isi_o, sub_o, subC_l, subC_d, min_s, tup_s, list_s, len_s, index_s, omap_some, obind_some, srcOf_t, srcOf_l, srcOk_nil, mk_f, mk_t, int_b, int_i, b__law_run_E0, hp, e]
        · simp [srcOk, hc1]
      · intro y hy
        rcases List.mem_cons.1 hy with rfl | hy
        · split <;> omega
        · exact g3 y hy
      · intro p hy
        rcases List.mem_cons.1 hy with rfl | hy
        · simp only; split <;> omega
        · exact g4 p hy
      · rw [List.length_cons, show m + (xs.length + 1) = m + 1 + xs.length by omega]
        exact hA.trans g5 h.lt
    · obtain ⟨sv, S', g1, g2, g3, g4, g5, g6⟩ := run_served G k a c n N E mo eager t f s v9 v10 v11 cell hac xs m (acc ++ [.int 0]) S h hc (by omega) (by simp; omega) hxs
      refine ⟨0 :: sv, S', ?_, by simp [g2], ?_, ?_, g5.mono (by simp), g6⟩
      · rw [List.map_cons, lcGo_yes (S1 := S) (S2 := S) (x := .int 0) rfl (by simp [evT]) _ _ (by omega), g1]
        · simp
        · simp -dsimp [↓toT, ↓toG, ↓toF, ↓toL, bndT_some, bndT_none, guT_true, ite_and, ite_or, fin_nx, fin_ret, exSs, exS, evE, evs, evO, evT, evI, bl_some, optInt, asgT, asgTs, startE, wipeE, List.map_cons, List.map_nil, List.length_cons, List.length_nil, List.replicate, List.cons_append, List.nil_append, List.append_nil, eq_ii, ne_ii, eq_ss, ne_ss, eq_bb, ne_bb, lt_ii, le_ii, gt_ii, ge_ii, add_ii, sub_ii, isi_i, isi_b, isi_n, isi_s, isi_t, isi_l, sub_t, sub_l, at0, at1, at2, at3, len_t, slice_t, cut1, cut_02, zipT_tail, zipT_map, forT_nil, forT_cons, forK_nx, forK_brk, forK_ret, len_l, walk_t, walk_l, walk_o, walkC_l, walkC_d, seq_t, seq_l, seq_o, lst_o, lst_l, srcOf_o, isi_o, sub_o, subC_l, subC_d, min_s, tup_s, list_s, len_s, index_s, omap_some, obind_some, srcOf_t, srcOf_l, srcOk_nil, mk_f, mk_t, int_b, int_i, b__law_run_E0, hp]
        · simp [srcOk, hc]
      · intro y hy
        rcases List.mem_cons.1 hy with rfl | hy
        · omega
        · exact g3 y hy
      · intro p hy
        rcases List.mem_cons.1 hy with rfl | hy
        · simp only; omega
        · exact g4 p hy
theorem comers (r : Int) (h : 0 ≤ r ∧ r < 5) : ∃ (v : Nat) (V : Int), v ≤ 4 ∧ L2.atI [D.int 0, D.int 1, D.int 1, D.int 2, D.int 4] r = some (.int V) ∧ rng1 (.int V) = some ((List.range v).map fun i : Nat => .int (i : Int)) := by
  have hc : r = 0 ∨ r = 1 ∨ r = 2 ∨ r = 3 ∨ r = 4 := by omega
  rcases hc with rfl | rfl | rfl | rfl | rfl
  · exact ⟨0, 0, by omega, rfl, rng1_i 0 (by omega)⟩
  · exact ⟨1, 1, by omega, rfl, rng1_i 1 (by omega)⟩
  · exact ⟨1, 1, by omega, rfl, rng1_i 1 (by omega)⟩
  · exact ⟨2, 2, by omega, rfl, rng1_i 2 (by omega)⟩
  · exact ⟨4, 4, by omega, rfl, rng1_i 4 (by omega)⟩
def rowsC (rows : List (Int × Int)) : Cell := .lst (rows.map rowD)
theorem ev_run_L0 (G : Std Γ) (k n mo : Nat) (MO : Int) (hMO : MO = mo) (hmo : mo ≤ 1000) (bd N E eg sd : D) (t : Int) (c f s : Nat) (hcf : c ≠ f) (hn : 0 < n) (hnl : n ≤ 1000) (now1 : List Int) (rows : List (Int × Int)) (sv : D) (a m : Nat) (S0 : Sto) (hc0 : S0.length ≤ c) (hf0 : S0.length ≤ f) (stc : Cell) (hcs : c ≠ s) (hfs : f ≠ s)
    (Inv : Nat → En → Sto → Prop) (hI : Inv = fun _ env S => ∃ nw js v10 v11, joinTo t js now1 = some nw ∧ (∀ r ∈ js, r.1 = t ∧ 0 ≤ r.2 ∧ r.2 < (n : Int)) ∧ (∀ x ∈ nw, 0 ≤ x) ∧ nw.length = n ∧ (rows ++ js).length ≤ mo ∧
      env = [some bd, some N, some E, some (.int MO), some (.obj c), some (.obj f), some sd, some eg, some (.int t), some sv, v10, v11, none, none] ∧ S[c]? = some (.lst (nw.map .int)) ∧ S[f]? = some (.lst ((rows ++ js).map rowD)) ∧ S[s]? = some stc ∧ Adv a m S0 S)
    (j : Nat) (x : D) (env : En) (S : Sto) (h : Inv j env S) :
    ∃ env1 env2 S2, asgT (.name 10) x env = some env1 ∧ exSs (callK Γ (k + 1)) b__law_run_L0 env1 S = some (.nx, env2, S2) ∧ srcOk [] S2 = true ∧ Inv (j + 1) env2 S2 := by
  subst hI
  obtain ⟨nw, js, v10, v11, h1, h2, h3, h4, h5, rfl, h6, h7, h8, h9⟩ := h
  have hne : nw ≠ [] := by rintro rfl; simp at h4; omega
  have hsh := shortest_lt hne
  have hsn := shortest_nonneg nw
  by_cases hlt : (rows ++ js).length < mo
  · have hlt' : (((rows ++ js).length : Nat) : Int) < MO := by omega
    have hmm := (minI_mem hne).1
    have hix : L2.ixN nw.length (shortest nw) = some (shortest nw).toNat := ixN_int hsn hsh
    have hat : L2.atI (nw.map D.int) (shortest nw) = some (.int (nw.getD (shortest nw).toNat 0)) := by
      have : (shortest nw).toNat < nw.length := by omega
      simp [L2.atI, hix, List.getD, this]
    have hcl := get_lt h6
    have hfl := get_lt h7
    have hff : ∀ cc, (S.set c cc)[f]? = some (.lst ((rows ++ js).map rowD)) := by intro cc; rw [List.getElem?_set_ne hcf, h7]
    refine ⟨_, _, (S.set c (.lst ((nw.set (shortest nw).toNat (nw.getD (shortest nw).toNat 0 + 1)).map .int))).set f (.lst ((rows ++ (js ++ [(t, shortest nw)])).map rowD)), rfl, ?_, rfl, nw.set (shortest nw).toNat (nw.getD (shortest nw).toNat 0 + 1), js ++ [(t, shortest nw)], some x, some (.int (shortest nw)), ?_, ?_, ?_, by simpa using h4, by simp at hlt ⊢; omega, rfl, ?_, ?_, ?_, ?_⟩
    · have hb : rows.length + js.length < 16777216 := by simp at h5; omega
      clear hMO
      rw [List.length_append] at hlt'
      have hshe : ((nw.idxOf (minI nw) : Nat) : Int) = shortest nw := rfl
      generalize hlr : (((rows.length + js.length) : Nat) : Int) = lr at *
      simp only [Int.natCast_add] at hlr
      generalize shortest nw = sh at *
      simp -dsimp [↓toT, ↓toG, ↓toF, ↓toL, bndT_some, bndT_none, guT_true, ite_and, ite_or, fin_nx, fin_ret, exSs, exS, evE, evs, evO, evT, evI, bl_some, optInt, asgT, asgTs, startE, wipeE, List.map_cons, List.map_nil, List.length_cons, List.length_nil, List.replicate, List.cons_append, List.nil_append, List.append_nil, eq_ii, ne_ii, eq_ss, ne_ss, eq_bb, ne_bb, lt_ii, le_ii, gt_ii, ge_ii, add_ii, sub_ii, isi_i, isi_b, isi_n, isi_s, isi_t, isi_l, sub_t, sub_l, at0, at1, at2, at3, len_t, slice_t, cut1, cut_02, zipT_tail, zipT_map, forT_nil, forT_cons, forK_nx, forK_brk, forK_ret, len_l, walk_t, walk_l, walk_o, walkC_l, walkC_d, seq_t, seq_l, seq_o, lst_o, lst_l, srcOf_o, isi_o, sub_o, subC_l, subC_d, min_s, tup_s, list_s, len_s, index_s, omap_some, obind_some, srcOf_t, srcOf_l, srcOk_nil, mk_f, mk_t, int_b, int_i, b__law_run_L0, h6, h7, intsOf_map, minL_eq hne, hmm, hshe, hix, hat, setSubD, hff, appendD, hb, hlr, hlt', rowD, List.map_set]
    · rw [joinTo_append, h1, Option.bind_some]
      simp [joinTo, join1]
    · intro r hr
      rcases List.mem_append.1 hr with hr | hr
      · exact h2 r hr
      · rw [List.mem_singleton] at hr; subst hr; exact ⟨rfl, hsn, by omega⟩
    · intro y hy
      rcases List.mem_or_eq_of_mem_set hy with hy | rfl
      · exact h3 y hy
      · have : (shortest nw).toNat < nw.length := by omega
        have := h3 _ (List.getElem_mem this)
        simp only [List.getD, List.getElem?_eq_getElem ‹(shortest nw).toNat < nw.length›, Option.getD_some]
        omega
    · rw [List.getElem?_set_ne (Ne.symm hcf), List.getElem?_set_self hcl]
    · rw [List.getElem?_set_self (by simpa using hfl)]
    · rw [List.getElem?_set_ne hfs, List.getElem?_set_ne hcs, h8]
    · exact (h9.set hc0 _).set hf0 _
  · have hlt' : ¬ (((rows ++ js).length : Nat) : Int) < MO := by omega
    refine ⟨_, _, S, rfl, ?_, rfl, nw, js, some x, v11, h1, h2, h3, h4, h5, rfl, h6, h7, h8, h9⟩
    rw [List.length_append] at hlt'
    simp only [Int.natCast_add] at hlt'
    simp -dsimp [↓toT, ↓toG, ↓toF, ↓toL, bndT_some, bndT_none, guT_true, ite_and, ite_or, fin_nx, fin_ret, exSs, exS, evE, evs, evO, evT, evI, bl_some, optInt, asgT, asgTs, startE, wipeE, List.map_cons, List.map_nil, List.length_cons, List.length_nil, List.replicate, List.cons_append, List.nil_append, List.append_nil, eq_ii, ne_ii, eq_ss, ne_ss, eq_bb, ne_bb, lt_ii, le_ii, gt_ii, ge_ii, add_ii, sub_ii, isi_i, isi_b, isi_n, isi_s, isi_t, isi_l, sub_t, sub_l, at0, at1, at2, at3, len_t, slice_t, cut1, cut_02, zipT_tail, zipT_map, forT_nil, forT_cons, forK_nx, forK_brk, forK_ret, len_l, walk_t, walk_l, walk_o, walkC_l, walkC_d, seq_t, seq_l, seq_o, lst_o, lst_l, srcOf_o, isi_o, sub_o, subC_l, subC_d, min_s, tup_s, list_s, len_s, index_s, omap_some, obind_some, srcOf_t, srcOf_l, srcOk_nil, mk_f, mk_t, int_b, int_i, b__law_run_L0, h7, hlt']
theorem getD_le (b : Bool) : True := trivial
theorem ev_run_L1 (G : Std Γ) (k n mo a m0 : Nat) (N E MO eager : Int) (hn : 0 < n) (hn2 : n ≤ 1000) (hMO : MO = mo) (hmo : mo ≤ 1000) (hm0 : m0 < 2 ^ 60) (f s : Nat) (hfs : f ≠ s) (S0 : Sto) (ha : a < S0.length) (hf0 : S0.length ≤ f) (hs0 : S0.length ≤ s)
    (Inv : Nat → En → Sto → Prop) (hI : Inv = fun j env S => ∃ nw rows story c v8 v9 v10 v11, RunTo n j nw rows story ∧ rows.length ≤ mo ∧ env = [some (.obj a), some (.int N), some (.int E), some (.int MO), some (.obj c), some (.obj f), some (.obj s), some (.int eager), v8, v9, v10, v11, none, none] ∧
      S[c]? = some (.lst (nw.map .int)) ∧ S[f]? = some (.lst (rows.map rowD)) ∧ S[s]? = some (.lst (story.map tupI)) ∧ a ≠ c ∧ Adv a (m0 + j * (n + 1)) S0 S)
    (j : Nat) (hj : j < 10000) (env : En) (S : Sto) (h : Inv j env S) :
    ∃ env1 env2 S2, asgT (.name 8) (.int (j : Int)) env = some env1 ∧ exSs (callK Γ (k + 1)) b__law_run_L1 env1 S = some (.nx, env2, S2) ∧ srcOk [] S2 = true ∧ Inv (j + 1) env2 S2 := by
  subst hI
  obtain ⟨nw, rows, story, c, v8, v9, v10, v11, hR, hro, rfl, hc, hf, hs, hac, hA⟩ := h
  have hmj : m0 + j * (n + 1) < 2 ^ 60 + 10000 * 1001 := by
    have : j * (n + 1) ≤ 10000 * 1001 := Nat.mul_le_mul (by omega) (by omega)
    omega
  obtain ⟨sv, S1, g1, g2, g3, g4, g5, g6⟩ := run_served G k a c n N E MO eager j f s v9 v10 v11 (.lst (nw.map .int)) hac nw (m0 + j * (n + 1)) [] S (hA.at ha) hc (by rw [hR.2.1]; omega) (by simp [hR.2.1]; omega) hR.2.2.2.1
  rw [hR.2.1] at g2 g5
  have haS : a < S.length := by have := hA.len; omega
  have hc1 := g5.get hac hc
  have hf1 := g5.get (by omega) hf
  have hs1 := g5.get (by omega) hs
  have hA1 : Adv a (m0 + j * (n + 1) + n) S0 S1 := hA.trans g5 ha
  have hsub : (subI nw sv).length = n := by simp [subI, g2, hR.2.1]
  have hlc2 : lcT [(c, Cell.lst (nw.map .int))] (fun d => asgT (.tup [.name 12, .name 13]) d (wipeE [some (.obj a), some (.int N), some (.int E), some (.int MO), some (.obj c), some (.obj f), some (.obj s), some (.int eager), some (.int j), some (.lst (sv.map .int)), v10, v11, none, none] [12, 13])) (fun env S => evT (callK Γ (k + 1)) .no env S) (fun env S => evE (callK Γ (k + 1)) b__law_run_E1 env S) .mk .mk .mk ((nw.zip sv).map fun p => D.tup [.int p.1, .int p.2]) S1 [] = some ((subI nw sv).map .int, S1) := by
    rw [lcT_all (fun p : Int × Int => .tup [.int p.1, .int p.2]) (fun p => .int (p.1 - p.2)) _ (by simp [srcOk, hc1]) (by simp [hR.2.1, g2]; omega) (fun r hr => ⟨_, rfl, rfl, by simp -dsimp [↓toT, ↓toG, ↓toF, ↓toL, bndT_some, bndT_none, guT_true, ite_and, ite_or, fin_nx, fin_ret, exSs, exS, evE, evs, evO, evT, evI, bl_some, optInt, asgT, asgTs, startE, wipeE, List.map_cons, List.map_nil, List.length_cons, List.length_nil, List.replicate, List.cons_append, List.nil_append, List.append_nil, eq_ii, ne_ii, eq_ss, ne_ss, eq_bb, ne_bb, lt_ii, le_ii, gt_ii, ge_ii, add_ii, sub_ii, isi_i, isi_b, isi_n, isi_s, isi_t, isi_l, sub_t, sub_l, at0, at1, at2, at3, len_t, slice_t, cut1, cut_02, zipT_tail, zipT_map, forT_nil, forT_cons, forK_nx, forK_brk, forK_ret, len_l, walk_t, walk_l, walk_o, walkC_l, walkC_d, seq_t, seq_l, seq_o, lst_o, lst_l, srcOf_o, isi_o, sub_o, subC_l, subC_d, min_s, tup_s, list_s, len_s, index_s, omap_some, obind_some, srcOf_t, srcOf_l, srcOk_nil, mk_f, mk_t, int_b, int_i, b__law_run_E1]⟩)]
    simp [subI]
  -- the new cell, the story's cell
  obtain ⟨S2, hS2⟩ : ∃ S2, S2 = (S1 ++ [Cell.lst ((subI nw sv).map .int)]).set s (.lst ((story ++ [sv]).map tupI)) := ⟨_, rfl⟩
  have hsl := get_lt hs1
  have hfl := get_lt hf1
  have hA2 : Adv a (m0 + j * (n + 1) + n) S0 S2 := by rw [hS2]; exact (hA1.app _).set hs0 _
  have hc2 : S2[S1.length]? = some (.lst ((subI nw sv).map .int)) := by rw [hS2, List.getElem?_set_ne (by omega)]; simp
  have hf2 : S2[f]? = some (.lst (rows.map rowD)) := by rw [hS2, List.getElem?_set_ne (Ne.symm hfs)]; exact get_app _ hf1
  have hs2 : S2[s]? = some (.lst ((story ++ [sv]).map tupI)) := by rw [hS2, List.getElem?_set_self (by simp; omega)]
  obtain ⟨r, S3, e3, hr, hA3, hl3⟩ := take G k (hA2.at ha) 5 (by omega) (by omega) (by omega)
  have hl2 : S2.length = S1.length + 1 := by rw [hS2]; simp
  have h0S : S0.length ≤ S1.length := hA1.len
  have hc3 := hA3.get (by omega) hc2
  have hf3 := hA3.get (by omega) hf2
  have hs3 := hA3.get (by omega) hs2
  have hA4 : Adv a (m0 + (j + 1) * (n + 1)) S0 S3 := by
    have := hA2.trans hA3 ha
    rw [show m0 + j * (n + 1) + n + 1 = m0 + (j + 1) * (n + 1) by rw [Nat.add_mul]; omega] at this
    exact this
  obtain ⟨v, V, hv, hat, hrg⟩ := comers r hr
  obtain ⟨env', S', hgo, nw2, js, v10', v11', q1, q2, q3, q4, q5, rfl, q6, q7, q8, q9⟩ := for_all (fun i : Nat => D.int (i : Int)) (src := []) (asg := asgT (.name 10)) (body := fun env S => exSs (callK Γ (k + 1)) b__law_run_L0 env S)
    (fun _ env S => ∃ nw' js v10 v11, joinTo j js (subI nw sv) = some nw' ∧ (∀ r ∈ js, r.1 = j ∧ 0 ≤ r.2 ∧ r.2 < (n : Int)) ∧ (∀ x ∈ nw', 0 ≤ x) ∧ nw'.length = n ∧ (rows ++ js).length ≤ mo ∧
      env = [some (.obj a), some (.int N), some (.int E), some (.int MO), some (.obj S1.length), some (.obj f), some (.obj s), some (.int eager), some (.int j), some (.lst (sv.map .int)), v10, v11, none, none] ∧ S[S1.length]? = some (.lst (nw'.map .int)) ∧ S[f]? = some (.lst ((rows ++ js).map rowD)) ∧ S[s]? = some (.lst ((story ++ [sv]).map tupI)) ∧ Adv a (m0 + (j + 1) * (n + 1)) S0 S)
    (List.range v) [some (.obj a), some (.int N), some (.int E), some (.int MO), some (.obj S1.length), some (.obj f), some (.obj s), some (.int eager), some (.int j), some (.lst (sv.map .int)), v10, v11, none, none] S3
    ⟨subI nw sv, [], v10, v11, rfl, by simp, by
      intro x hx
      obtain ⟨p, hp, e⟩ := List.mem_map.1 hx
      have := g4 p hp
      omega, hsub, by simpa using hro, rfl, hc3, by simpa using hf3, hs3, hA4⟩
    (fun i x hx env S h => ev_run_L0 G k n mo MO hMO hmo _ _ _ _ _ j S1.length f s (by omega) hn hn2 (subI nw sv) rows _ a _ S0 h0S hf0 _ (by omega) hfs _ rfl i _ env S h)
  refine ⟨_, _, S', rfl, ?_, rfl, nw2, rows ++ js, story ++ [sv], S1.length, some (.int j), some (.lst (sv.map .int)), v10', v11', hR.step hn g2 g3 g4 q2 q1 q3, q5, rfl, q6, q7, q8, by omega, q9⟩
  have hbs : story.length < 16777216 := by rw [hR.1]; omega
  have hsx : ∀ cc, (S1 ++ [cc])[s]? = some (.lst (story.map tupI)) := fun cc => get_app _ hs1
  have e3' : callK Γ (k + 1) "_law_take" [.obj a, .int 5] ((S1 ++ [Cell.lst ((subI nw sv).map .int)]).set s (.lst (story.map tupI ++ [.tup (sv.map .int)]))) = some (.int r, S3) := by
    rw [← e3, hS2]; simp [tupI]
  clear hMO
  generalize hjj : (j : Int) = J at *
  rw [toL] at g1
  simp -dsimp [↓toT, ↓toG, ↓toF, ↓toL, bndT_some, bndT_none, guT_true, ite_and, ite_or, fin_nx, fin_ret, exSs, exS, evE, evs, evO, evT, evI, bl_some, optInt, asgT, asgTs, startE, wipeE, List.map_cons, List.map_nil, List.length_cons, List.length_nil, List.replicate, List.cons_append, List.nil_append, List.append_nil, eq_ii, ne_ii, eq_ss, ne_ss, eq_bb, ne_bb, lt_ii, le_ii, gt_ii, ge_ii, add_ii, sub_ii, isi_i, isi_b, isi_n, isi_s, isi_t, isi_l, sub_t, sub_l, at0, at1, at2, at3, len_t, slice_t, cut1, cut_02, zipT_tail, zipT_map, forT_nil, forT_cons, forK_nx, forK_brk, forK_ret, len_l, walk_t, walk_l, walk_o, walkC_l, walkC_d, seq_t, seq_l, seq_o, lst_o, lst_l, srcOf_o, isi_o, sub_o, subC_l, subC_d, min_s, tup_s, list_s, len_s, index_s, omap_some, obind_some, srcOf_t, srcOf_l, srcOk_nil, mk_f, mk_t, int_b, int_i, b__law_run_L1, hc, g1, hc1, hlc2, hs1, hsx, appendD, hbs, e3', hat, hrg]
  rw [forT, hgo]
  simp -dsimp [↓toT, ↓toG, ↓toF, ↓toL, bndT_some, bndT_none, guT_true, ite_and, ite_or, fin_nx, fin_ret, exSs, exS, evE, evs, evO, evT, evI, bl_some, optInt, asgT, asgTs, startE, wipeE, List.map_cons, List.map_nil, List.length_cons, List.length_nil, List.replicate, List.cons_append, List.nil_append, List.append_nil, eq_ii, ne_ii, eq_ss, ne_ss, eq_bb, ne_bb, lt_ii, le_ii, gt_ii, ge_ii, add_ii, sub_ii, isi_i, isi_b, isi_n, isi_s, isi_t, isi_l, sub_t, sub_l, at0, at1, at2, at3, len_t, slice_t, cut1, cut_02, zipT_tail, zipT_map, forT_nil, forT_cons, forK_nx, forK_brk, forK_ret, len_l, walk_t, walk_l, walk_o, walkC_l, walkC_d, seq_t, seq_l, seq_o, lst_o, lst_l, srcOf_o, isi_o, sub_o, subC_l, subC_d, min_s, tup_s, list_s, len_s, index_s, omap_some, obind_some, srcOf_t, srcOf_l, srcOk_nil, mk_f, mk_t, int_b, int_i]
theorem ev_run (G : Std Γ) (k n m mo a m0 : Nat) (N E MO : Int) (hN : N = n) (hE : E + 1 = m) (hMO : MO = mo) (hn : 0 < n) (hn2 : n ≤ 1000) (hm : m ≤ 1000) (hmo : mo ≤ 1000) (hm0 : m0 < 2 ^ 59) (S : Sto) (h : At a m0 S) :
    ∃ rows story nw S', callK Γ (k + 2) "_law_run" [.obj a, .int N, .int E, .int MO] S = some (.tup [bookD N E rows, storyD story], S') ∧ RunTo n m nw rows story ∧ rows.length ≤ mo ∧ Adv a (m0 + 1 + m * (n + 1)) S S' := by
  rw [call_step G.h__law_run]
  have ha := h.lt
  have hz : binD true .mul (.lst [.int 0]) (.int N) S = some (.obj S.length, S ++ [.lst (List.replicate n (.int 0))]) := by rw [hN]; exact mul_rep (.int 0) n S hn2
  have hrg : rng1 (.int (E + 1)) = some ((List.range m).map fun i : Nat => .int (i : Int)) := by rw [hE]; exact rng1_i m (by omega)
  obtain ⟨S0, hS0⟩ : ∃ S0, S0 = S ++ [Cell.lst (List.replicate n (.int 0)), .lst [], .lst []] := ⟨_, rfl⟩
  have hA0 : Adv a m0 S S0 := by rw [hS0]; exact h.adv.app _
  obtain ⟨eager, S1, e1, hr, hA1, hl1⟩ := take G k (hA0.at ha) 4 (by omega) (by omega) (by omega)
  have hA2 : Adv a (m0 + 1) S S1 := hA0.trans hA1 ha
  have ha0 : a < S0.length := by have := hA0.len; omega
  have c1 : S1[S.length]? = some (.lst ((List.replicate n (0 : Int)).map .int)) := hA1.get (by omega) (by rw [hS0]; simp)
  have c2 : S1[S.length + 1]? = some (.lst (([] : List (Int × Int)).map rowD)) := hA1.get (by omega) (by rw [hS0]; simp)
  have c3 : S1[S.length + 2]? = some (.lst (([] : List (List Int)).map tupI)) := hA1.get (by omega) (by rw [hS0]; simp)
  obtain ⟨env', S', hgo, nw, rows, story, c, v8, v9, v10, v11, q1, q2, rfl, q3, q4, q5, q6, q7⟩ := for_all (fun i : Nat => D.int (i : Int)) (src := []) (asg := asgT (.name 8)) (body := fun env S => exSs (callK Γ (k + 1)) b__law_run_L1 env S)
    (fun j env S' => ∃ nw rows story c v8 v9 v10 v11, RunTo n j nw rows story ∧ rows.length ≤ mo ∧ env = [some (.obj a), some (.int N), some (.int E), some (.int MO), some (.obj c), some (.obj (S.length + 1)), some (.obj (S.length + 2)), some (.int eager), v8, v9, v10, v11, none, none] ∧
      S'[c]? = some (.lst (nw.map .int)) ∧ S'[S.length + 1]? = some (.lst (rows.map rowD)) ∧ S'[S.length + 2]? = some (.lst (story.map tupI)) ∧ a ≠ c ∧ Adv a (m0 + 1 + j * (n + 1)) S S')
    (List.range m) [some (.obj a), some (.int N), some (.int E), some (.int MO), some (.obj S.length), some (.obj (S.length + 1)), some (.obj (S.length + 2)), some (.int eager), none, none, none, none, none, none] S1
    ⟨_, [], [], S.length, none, none, none, none, RunTo.start n, by simp, rfl, c1, c2, c3, by omega, by simpa using hA2⟩
    (fun j x hx env S' h => by
      obtain ⟨hj, rfl⟩ := range_at hx
      exact ev_run_L1 G k n mo a (m0 + 1) N E MO eager hn hn2 hMO hmo (by omega) _ _ (by omega) S ha (by omega) (by omega) _ rfl x (by omega) env S' h)
  rw [List.length_range] at q1 q7
  refine ⟨rows, story, nw, S', ?_, q1, q2, q7⟩
  have e1' : callK Γ (k + 1) "_law_take" [.obj a, .int 4] (S ++ [Cell.lst (List.replicate n (.int 0)), .lst [], .lst []]) = some (.int eager, S1) := by rw [← hS0]; exact e1
  clear hN hE hMO
  simp -dsimp [↓toT, ↓toG, ↓toF, ↓toL, bndT_some, bndT_none, guT_true, ite_and, ite_or, fin_nx, fin_ret, exSs, exS, evE, evs, evO, evT, evI, bl_some, optInt, asgT, asgTs, startE, wipeE, List.map_cons, List.map_nil, List.length_cons, List.length_nil, List.replicate, List.cons_append, List.nil_append, List.append_nil, eq_ii, ne_ii, eq_ss, ne_ss, eq_bb, ne_bb, lt_ii, le_ii, gt_ii, ge_ii, add_ii, sub_ii, isi_i, isi_b, isi_n, isi_s, isi_t, isi_l, sub_t, sub_l, at0, at1, at2, at3, len_t, slice_t, cut1, cut_02, zipT_tail, zipT_map, forT_nil, forT_cons, forK_nx, forK_brk, forK_ret, len_l, walk_t, walk_l, walk_o, walkC_l, walkC_d, seq_t, seq_l, seq_o, lst_o, lst_l, srcOf_o, isi_o, sub_o, subC_l, subC_d, min_s, tup_s, list_s, len_s, index_s, omap_some, obind_some, srcOf_t, srcOf_l, srcOk_nil, mk_f, mk_t, int_b, int_i, b__law_run, hz, e1', hrg]
  rw [forT, hgo]
  simp -dsimp [↓toT, ↓toG, ↓toF, ↓toL, bndT_some, bndT_none, guT_true, ite_and, ite_or, fin_nx, fin_ret, exSs, exS, evE, evs, evO, evT, evI, bl_some, optInt, asgT, asgTs, startE, wipeE, List.map_cons, List.map_nil, List.length_cons, List.length_nil, List.replicate, List.cons_append, List.nil_append, List.append_nil, eq_ii, ne_ii, eq_ss, ne_ss, eq_bb, ne_bb, lt_ii, le_ii, gt_ii, ge_ii, add_ii, sub_ii, isi_i, isi_b, isi_n, isi_s, isi_t, isi_l, sub_t, sub_l, at0, at1, at2, at3, len_t, slice_t, cut1, cut_02, zipT_tail, zipT_map, forT_nil, forT_cons, forK_nx, forK_brk, forK_ret, len_l, walk_t, walk_l, walk_o, walkC_l, walkC_d, seq_t, seq_l, seq_o, lst_o, lst_l, srcOf_o, isi_o, sub_o, subC_l, subC_d, min_s, tup_s, list_s, len_s, index_s, omap_some, obind_some, srcOf_t, srcOf_l, srcOk_nil, mk_f, mk_t, int_b, int_i, q4, q5, bookD, storyD]
end SL

/-! PL: facts. -/
namespace SL
open PySem
variable {Γ : Str → Option Fn}
abbrev Node := Option (Int × Int)
def nodeD : Node → D
  | none => .non
  | some p => .tup [.int p.1, .int p.2]
def nd (l t : Int) : Node := if t < 0 then none else some (l, t)
inductive Fact where
  | one (l t : Int) | back (l t : Int) | there (l t : Int) | joined (at_ : Nat) (l : Int) | least (i : Nat) | most (i : Nat)
def factD : Fact → D
  | .one l t => .tup [.str "one", .int l, .int t]
  | .back l t => .tup [.str "back", .int l, .int t]
  | .there l t => .tup [.str "there", .int l, .int t]
  | .joined i l => .tup [.str "joined", .int i, .int l]
  | .least i => .tup [.str "least", .int i]
  | .most i => .tup [.str "most", .int i]
abbrev Step := Node × Node × Int
def stepD (s : Step) : D := .tup [nodeD s.1, nodeD s.2.1, .int s.2.2]
def rowAt (rows : List (Int × Int)) (i : Nat) : Int × Int := rows.getD i (0, 0)
def sightAt (ss : List (Int × Int × Int)) (i : Nat) : Int × Int × Int := ss.getD i (0, 0, 0)
def factOf (rows : List (Int × Int)) (ss : List (Int × Int × Int)) : Fact → Step
  | .one l t => (nd l t, nd l (t - 1), 1)
  | .back l t => (nd l (t - 1), nd l t, 0)
  | .there l t => (nd l t, none, joinedBy rows l (t - 1))
  | .joined i l => (nd l (rowAt rows i).1, nd (rowAt rows i).2 (rowAt rows i).1, joinedAhead rows i l - joinedAhead rows i (rowAt rows i).2 - (if l < (rowAt rows i).2 then 1 else 0))
  | .least i => (none, nd (sightAt ss i).2.1 (sightAt ss i).1, 0 - (joinedBy rows (sightAt ss i).2.1 (sightAt ss i).1 - (sightAt ss i).2.2))
  | .most i => (nd (sightAt ss i).2.1 (sightAt ss i).1, none, joinedBy rows (sightAt ss i).2.1 (sightAt ss i).1 - (sightAt ss i).2.2)
def FactOk (rows : List (Int × Int)) (ss : List (Int × Int × Int)) : Fact → Prop
  | .joined i _ => i < rows.length
  | .least i => i < ss.length
  | .most i => i < ss.length
  | _ => True
theorem ev_node (G : Std Γ) (k : Nat) (l t : Int) (S : Sto) : callK Γ (k + 1) "node" [.int l, .int t] S = some (nodeD (nd l t), S) := by
  rw [call_step G.h_node]
  by_cases h : t < 0 <;> simp -dsimp [↓toT, ↓toG, ↓toF, ↓toL, bndT_some, bndT_none, guT_true, ite_and, ite_or, fin_nx, fin_ret, exSs, exS, evE, evs, evO, evT, evI, bl_some, optInt, asgT, asgTs, startE, wipeE, List.map_cons, List.map_nil, List.length_cons, List.length_nil, List.replicate, List.cons_append, List.nil_append, List.append_nil, eq_ii, ne_ii, eq_ss, ne_ss, eq_bb, ne_bb, lt_ii, le_ii, gt_ii, ge_ii, add_ii, sub_ii, isi_i, isi_b, isi_n, isi_s, isi_t, isi_l, sub_t, sub_l, at0, at1, at2, at3, len_t, slice_t, cut1, cut_02, zipT_tail, zipT_map, forT_nil, forT_cons, forK_nx, forK_brk, forK_ret, len_l, walk_t, walk_l, walk_o, walkC_l, walkC_d, seq_t, seq_l, seq_o, lst_o, lst_l, srcOf_o, isi_o, sub_o, subC_l, subC_d, min_s, tup_s, list_s, len_s, index_s, omap_some, obind_some, srcOf_t, srcOf_l, srcOk_nil, mk_f, mk_t, int_b, int_i, b_node, nd, h, nodeD]
theorem in_t (x : D) (ds : List D) (S : Sto) : cmpD .in_ x (.tup ds) S = inFlat x ds := rfl
theorem w_one : inFlat (.str "one") [.str "one", .str "back", .str "there"] = some true := by decide +kernel
theorem w_back : inFlat (.str "back") [.str "one", .str "back", .str "there"] = some true := by decide +kernel
theorem w_there : inFlat (.str "there") [.str "one", .str "back", .str "there"] = some true := by decide +kernel
theorem w_joined : inFlat (.str "joined") [.str "one", .str "back", .str "there"] = some false := by decide +kernel
theorem w_least : inFlat (.str "least") [.str "one", .str "back", .str "there"] = some false := by decide +kernel
theorem w_most : inFlat (.str "most") [.str "one", .str "back", .str "there"] = some false := by decide +kernel
theorem n1 : (("back" : Str) = "one") = False := by simpa using (by decide +kernel : ¬ ("back" : Str) = "one")
theorem n2 : (("there" : Str) = "one") = False := by simpa using (by decide +kernel : ¬ ("there" : Str) = "one")
theorem n3 : (("there" : Str) = "back") = False := by simpa using (by decide +kernel : ¬ ("there" : Str) = "back")
theorem n4 : (("least" : Str) = "joined") = False := by simpa using (by decide +kernel : ¬ ("least" : Str) = "joined")
theorem n5 : (("most" : Str) = "joined") = False := by simpa using (by decide +kernel : ¬ ("most" : Str) = "joined")
theorem n6 : (("most" : Str) = "least") = False := by simpa using (by decide +kernel : ¬ ("most" : Str) = "least")
theorem sights_at (S : Sto) (ss : List (Int × Int × Int)) (i : Int) : subD S (sightsD ss) (.int i) = L2.atI (ss.map sightD) i := rfl
theorem ev_fact_of (G : Std Γ) (k : Nat) (L E : Int) (rows : List (Int × Int)) (ss : List (Int × Int × Int)) (hr : rows.length ≤ 10000) (f : Fact) (hf : FactOk rows ss f) (S : Sto) :
    callK Γ (k + 2) "fact_of" [bookD L E rows, sightsD ss, factD f] S = some (stepD (factOf rows ss f), S) := by
  rw [call_step G.h_fact_of]
  have hjb := fun l t => ev_joined_by G k S L E rows hr l t
  have hja := fun i l => ev_joined_ahead G k S L E rows hr i l
  have hnd := fun l t => ev_node G k l t S
  cases f with
  | one l t => simp -dsimp [↓toT, ↓toG, ↓toF, ↓toL, bndT_some, bndT_none, guT_true, ite_and, ite_or, fin_nx, fin_ret, exSs, exS, evE, evs, evO, evT, evI, bl_some, optInt, asgT, asgTs, startE, wipeE, List.map_cons, List.map_nil, List.length_cons, List.length_nil, List.replicate, List.cons_append, List.nil_append, List.append_nil, eq_ii, ne_ii, eq_ss, ne_ss, eq_bb, ne_bb, lt_ii, le_ii, gt_ii, ge_ii, add_ii, sub_ii, isi_i, isi_b, isi_n, isi_s, isi_t, isi_l, sub_t, sub_l, at0, at1, at2, at3, len_t, slice_t, cut1, cut_02, zipT_tail, zipT_map, forT_nil, forT_cons, forK_nx, forK_brk, forK_ret, len_l, walk_t, walk_l, walk_o, walkC_l, walkC_d, seq_t, seq_l, seq_o, lst_o, lst_l, srcOf_o, isi_o, sub_o, subC_l, subC_d, min_s, tup_s, list_s, len_s, index_s, omap_some, obind_some, srcOf_t, srcOf_l, srcOk_nil, mk_f, mk_t, int_b, int_i, book_0, book_1, book_2, ↓book_t, book_q, book_i, sights_w, sights_s, sights_q, story_w, story_s, story_q, story_i, b_fact_of, factD, in_t, w_one, ok_one, hnd, factOf, stepD]
  | back l t => simp -dsimp [↓toT, ↓toG, ↓toF, ↓toL, bndT_some, bndT_none, guT_true, ite_and, ite_or, fin_nx, fin_ret, exSs, exS, evE, evs, evO, evT, evI, bl_some, optInt, asgT, asgTs, startE, wipeE, List.map_cons, List.map_nil, List.length_cons, List.length_nil, List.replicate, List.cons_append, List.nil_append, List.append_nil, eq_ii, ne_ii, eq_ss, ne_ss, eq_bb, ne_bb, lt_ii, le_ii, gt_ii, ge_ii, add_ii, sub_ii, isi_i, isi_b, isi_n, isi_s, isi_t, isi_l, sub_t, sub_l, at0, at1, at2, at3, len_t, slice_t, cut1, cut_02, zipT_tail, zipT_map, forT_nil, forT_cons, forK_nx, forK_brk, forK_ret, len_l, walk_t, walk_l, walk_o, walkC_l, walkC_d, seq_t, seq_l, seq_o, lst_o, lst_l, srcOf_o, isi_o, sub_o, subC_l, subC_d, min_s, tup_s, list_s, len_s, index_s, omap_some, obind_some, srcOf_t, srcOf_l, srcOk_nil, mk_f, mk_t, int_b, int_i, book_0, book_1, book_2, ↓book_t, book_q, book_i, sights_w, sights_s, sights_q, story_w, story_s, story_q, story_i, b_fact_of, factD, in_t, w_back, ok_one, ok_back, n1, hnd, factOf, stepD]
  | there l t => simp -dsimp [↓toT, ↓toG, ↓toF, ↓toL, bndT_some, bndT_none, guT_true, ite_and, ite_or, fin_nx, fin_ret, exSs, exS, evE, evs, evO, evT, evI, bl_some, optInt, asgT, asgTs, startE, wipeE, List.map_cons, List.map_nil, List.length_cons, List.length_nil, List.replicate, List.cons_append, List.nil_append, List.append_nil, eq_ii, ne_ii, eq_ss, ne_ss, eq_bb, ne_bb, lt_ii, le_ii, gt_ii, ge_ii, add_ii, sub_ii, isi_i, isi_b, isi_n, isi_s, isi_t, isi_l, sub_t, sub_l, at0, at1, at2, at3, len_t, slice_t, cut1, cut_02, zipT_tail, zipT_map, forT_nil, forT_cons, forK_nx, forK_brk, forK_ret, len_l, walk_t, walk_l, walk_o, walkC_l, walkC_d, seq_t, seq_l, seq_o, lst_o, lst_l, srcOf_o, isi_o, sub_o, subC_l, subC_d, min_s, tup_s, list_s, len_s, index_s, omap_some, obind_some, srcOf_t, srcOf_l, srcOk_nil, mk_f, mk_t, int_b, int_i, book_0, book_1, book_2, ↓book_t, book_q, book_i, sights_w, sights_s, sights_q, story_w, story_s, story_q, story_i, b_fact_of, factD, in_t, w_there, ok_one, ok_back, ok_there, n2, n3, hnd, hjb, factOf, stepD, nodeD]
  | joined i l =>
    have h1 : L2.atI (rows.map rowD) (i : Int) = some (.tup [.int (rowAt rows i).1, .int (rowAt rows i).2]) := by
      have : i < rows.length := hf
      simp [atI_nat, rowAt, List.getD, this, rowD]
    have hja' := hja i
    simp only [factD, factOf]
    generalize (i : Int) = I at *
    simp -dsimp [↓toT, ↓toG, ↓toF, ↓toL, bndT_some, bndT_none, guT_true, ite_and, ite_or, fin_nx, fin_ret, exSs, exS, evE, evs, evO, evT, evI, bl_some, optInt, asgT, asgTs, startE, wipeE, List.map_cons, List.map_nil, List.length_cons, List.length_nil, List.replicate, List.cons_append, List.nil_append, List.append_nil, eq_ii, ne_ii, eq_ss, ne_ss, eq_bb, ne_bb, lt_ii, le_ii, gt_ii, ge_ii, add_ii, sub_ii, isi_i, isi_b, isi_n, isi_s, isi_t, isi_l, sub_t, sub_l, at0, at1, at2, at3, len_t, slice_t, cut1, cut_02, zipT_tail, zipT_map, forT_nil, forT_cons, forK_nx, forK_brk, forK_ret, len_l, walk_t, walk_l, walk_o, walkC_l, walkC_d, seq_t, seq_l, seq_o, lst_o, lst_l, srcOf_o, isi_o, sub_o, subC_l, subC_d, min_s, tup_s, list_s, len_s, index_s, omap_some, obind_some, srcOf_t, srcOf_l, srcOk_nil, mk_f, mk_t, int_b, int_i, book_0, book_1, book_2, ↓book_t, book_q, book_i, sights_w, sights_s, sights_q, story_w, story_s, story_q, story_i, b_fact_of, in_t, w_joined, ok_joined, hnd, hja', h1, stepD]
  | least i =>
    have h1 : L2.atI (ss.map sightD) (i : Int) = some (.tup [.int (sightAt ss i).1, .int (sightAt ss i).2.1, .int (sightAt ss i).2.2]) := by
      have : i < ss.length := hf
      simp [atI_nat, sightAt, List.getD, this, sightD]
    simp only [factD, factOf]
    generalize (i : Int) = I at *
    simp -dsimp [↓toT, ↓toG, ↓toF, ↓toL, bndT_some, bndT_none, guT_true, ite_and, ite_or, fin_nx, fin_ret, exSs, exS, evE, evs, evO, evT, evI, bl_some, optInt, asgT, asgTs, startE, wipeE, List.map_cons, List.map_nil, List.length_cons, List.length_nil, List.replicate, List.cons_append, List.nil_append, List.append_nil, eq_ii, ne_ii, eq_ss, ne_ss, eq_bb, ne_bb, lt_ii, le_ii, gt_ii, ge_ii, add_ii, sub_ii, isi_i, isi_b, isi_n, isi_s, isi_t, isi_l, sub_t, sub_l, at0, at1, at2, at3, len_t, slice_t, cut1, cut_02, zipT_tail, zipT_map, forT_nil, forT_cons, forK_nx, forK_brk, forK_ret, len_l, walk_t, walk_l, walk_o, walkC_l, walkC_d, seq_t, seq_l, seq_o, lst_o, lst_l, srcOf_o, isi_o, sub_o, subC_l, subC_d, min_s, tup_s, list_s, len_s, index_s, omap_some, obind_some, srcOf_t, srcOf_l, srcOk_nil, mk_f, mk_t, int_b, int_i, book_0, book_1, book_2, ↓book_t, book_q, book_i, sights_w, sights_s, sights_q, story_w, story_s, story_q, story_i, b_fact_of, in_t, w_least, ok_joined, ok_least, n4, hnd, hjb, h1, stepD, nodeD, sights_at]
  | most i =>
    have h1 : L2.atI (ss.map sightD) (i : Int) = some (.tup [.int (sightAt ss i).1, .int (sightAt ss i).2.1, .int (sightAt ss i).2.2]) := by
      have : i < ss.length := hf
      simp [atI_nat, sightAt, List.getD, this, sightD]
    simp only [factD, factOf]
    generalize (i : Int) = I at *
    simp -dsimp [↓toT, ↓toG, ↓toF, ↓toL, bndT_some, bndT_none, guT_true, ite_and, ite_or, fin_nx, fin_ret, exSs, exS, evE, evs, evO, evT, evI, bl_some, optInt, asgT, asgTs, startE, wipeE, List.map_cons, List.map_nil, List.length_cons, List.length_nil, List.replicate, List.cons_append, List.nil_append, List.append_nil, eq_ii, ne_ii, eq_ss, ne_ss, eq_bb, ne_bb, lt_ii, le_ii, gt_ii, ge_ii, add_ii, sub_ii, isi_i, isi_b, isi_n, isi_s, isi_t, isi_l, sub_t, sub_l, at0, at1, at2, at3, len_t, slice_t, cut1, cut_02, zipT_tail, zipT_map, forT_nil, forT_cons, forK_nx, forK_brk, forK_ret, len_l, walk_t, walk_l, walk_o, walkC_l, walkC_d, seq_t, seq_l, seq_o, lst_o, lst_l, srcOf_o, isi_o, sub_o, subC_l, subC_d, min_s, tup_s, list_s, len_s, index_s, omap_some, obind_some, srcOf_t, srcOf_l, srcOk_nil, mk_f, mk_t, int_b, int_i, book_0, book_1, book_2, ↓book_t, book_q, book_i, sights_w, sights_s, sights_q, story_w, story_s, story_q, story_i, b_fact_of, in_t, w_most, ok_joined, ok_least, ok_most, n5, n6, hnd, hjb, h1, stepD, nodeD, sights_at]
end SL

/-! PM: all facts. -/
namespace SL
open PySem
variable {Γ : Str → Option Fn}
def facts0 (n m : Nat) : List Fact := (List.range n).flatMap fun l : Nat => (List.range m).flatMap fun t : Nat => [.one l t, .back l t, .there l t]
def facts1 (n : Nat) (p : (Int × Int) × Nat) : List Fact := ((List.range n).filter fun l : Nat => !decide ((l : Int) = p.1.2)).map fun l : Nat => .joined p.2 l
def facts2 (i : Nat) : List Fact := [.least i, .most i]
def allFacts (n m : Nat) (rows : List (Int × Int)) (ss : List (Int × Int × Int)) : List Fact := facts0 n m ++ rows.zipIdx.flatMap (facts1 n) ++ (List.range ss.length).flatMap facts2
def fsC (fs : List Fact) : Cell := .lst (fs.map factD)
theorem extend_ok (S : Sto) (fs gs : List Fact) (h : fs.length + gs.length ≤ 10000) : extendD (.obj S.length) (.lst (gs.map factD)) (S ++ [fsC fs]) = some (S ++ [fsC (fs ++ gs)]) := by
  have h1 : (fs.map factD).length + (gs.map factD).length ≤ 16777216 ∧ D.lst (gs.map factD) ≠ .obj S.length := by
    refine ⟨?_, by intro e; cases e⟩
    simp only [List.length_map]; omega
  simp only [extendD, fsC, List.getElem?_concat_length, lst_l]
  rw [decide_eq_true h1, guardB_true]
  simp
theorem for_ext {α : Type} (toD : α → D) {asg : D → En → Option En} {body : En → Sto → RS} (P : En → Prop) (g : α → List Fact) (S : Sto) (K : Nat) : ∀ (xs : List α) (fs : List Fact) (env : En), P env →
    (∀ x ∈ xs, ∀ env fs', P env → fs'.length + (g x).length ≤ K → ∃ env1 env2, asg (toD x) env = some env1 ∧ body env1 (S ++ [fsC fs']) = some (.nx, env2, S ++ [fsC (fs' ++ g x)]) ∧ P env2) →
    fs.length + (xs.flatMap g).length ≤ K →
    ∃ env', forGo [] asg body (xs.map toD) env (S ++ [fsC fs]) = some (.nx, env', S ++ [fsC (fs ++ xs.flatMap g)]) ∧ P env'
  | [], fs, env, hP, _, _ => ⟨env, by simp [forGo], hP⟩
  | x :: xs, fs, env, hP, hs, hK => by
    rw [List.flatMap_cons, List.length_append] at hK
    obtain ⟨env1, env2, h1, h2, h3⟩ := hs x (.head _) env fs hP (by omega)
    obtain ⟨env', h4, h5⟩ := for_ext toD P g S K xs (fs ++ g x) env2 h3 (fun y hy => hs y (.tail _ hy)) (by rw [List.length_append]; omega)
    refine ⟨env', ?_, h5⟩
    rw [List.map_cons, forGo_cons, h1, bnd_some, h2, bnd_some, forK_nx, srcOk_nil, guardB_true, h4, List.flatMap_cons, List.append_assoc]
theorem enumD_map {α : Type} (f : α → D) : ∀ (xs : List α) (i : Nat), enumD (i : Int) (xs.map f) = (xs.zipIdx i).map fun p => .tup [.int (p.2 : Int), f p.1]
  | [], _ => rfl
  | x :: xs, i => by
    rw [List.map_cons, enumD, List.zipIdx_cons, List.map_cons, ← enumD_map f xs (i + 1)]; rfl
theorem isSome_some {α : Type} (a : α) : (some a).isSome = true := rfl
theorem fs_get (S : Sto) (fs : List Fact) : (S ++ [fsC fs])[S.length]? = some (.lst (fs.map factD)) := by simp [fsC]
theorem ev_all_L0 (C : Orc) (b sD L E rw_ : D) (l t : Int) (S : Sto) (fs : List Fact) (v7 v8 v9 : Option D) (hK : fs.length + 3 ≤ 10000) :
    exSs C b_all_facts_L0 [some b, some sD, some L, some E, some rw_, some (.obj S.length), some (.int l), some (.int t), v8, v9, none] (S ++ [fsC fs]) = some (.nx, [some b, some sD, some L, some E, some rw_, some (.obj S.length), some (.int l), some (.int t), v8, v9, none], S ++ [fsC (fs ++ [.one l t, .back l t, .there l t])]) := by
  have he := extend_ok S fs [.one l t, .back l t, .there l t] (by simpa using hK)
  simp only [List.map_cons, List.map_nil, factD] at he
  have hlc : lcT [] (fun d => asgT (.name 10) d (wipeE [some b, some sD, some L, some E, some rw_, some (.obj S.length), some (.int l), some (.int t), v8, v9, none] [10])) (fun env S => evT C .no env S) (fun env S => evE C b_all_facts_E0 env S) .mk .mk .mk [.str "one", .str "back", .str "there"] (S ++ [fsC fs]) [] = some ([.tup [.str "one", .int l, .int t], .tup [.str "back", .int l, .int t], .tup [.str "there", .int l, .int t]], S ++ [fsC fs]) := by
    have := lcT_all (src := []) (asg := fun d => asgT (.name 10) d (wipeE [some b, some sD, some L, some E, some rw_, some (.obj S.length), some (.int l), some (.int t), v8, v9, none] [10])) (tst := fun env S => evT C .no env S) (el := fun env S => evE C b_all_facts_E0 env S) D.str (fun x => .tup [.str x, .int l, .int t]) ["one", "back", "there"] (S := S ++ [fsC fs]) (acc := []) rfl (by simp) (fun x hx => ⟨_, rfl, rfl, by simp -dsimp [↓toT, ↓toG, ↓toF, ↓toL, bndT_some, bndT_none, guT_true, ite_and, ite_or, fin_nx, fin_ret, exSs, exS, evE, evs, evO, evT, evI, bl_some, optInt, asgT, asgTs, startE, wipeE, List.map_cons, List.map_nil, List.length_cons, List.length_nil, List.replicate, List.cons_append, List.nil_append, List.append_nil, eq_ii, ne_ii, eq_ss, ne_ss, eq_bb, ne_bb, lt_ii, le_ii, gt_ii, ge_ii, add_ii, sub_ii, isi_i, isi_b, isi_n, isi_s, isi_t, isi_l, sub_t, sub_l, at0, at1, at2, at3, len_t, slice_t, cut1, cut_02, zipT_tail, zipT_map, forT_nil, forT_cons, forK_nx, forK_brk, forK_ret, len_l, walk_t, walk_l, walk_o, walkC_l, walkC_d, seq_t, seq_l, seq_o, lst_o, lst_l, srcOf_o, isi_o, sub_o, subC_l, subC_d, min_s, tup_s, list_s, len_s, index_s, omap_some, obind_some, srcOf_t, srcOf_l, srcOk_nil, mk_f, mk_t, int_b, int_i, b_all_facts_E0]⟩)
    simpa using this
  simp only [fsC, List.map_append] at he hlc ⊢
  simp -dsimp [↓toT, ↓toG, ↓toF, ↓toL, bndT_some, bndT_none, guT_true, ite_and, ite_or, fin_nx, fin_ret, exSs, exS, evE, evs, evO, evT, evI, bl_some, optInt, asgT, asgTs, startE, wipeE, List.map_cons, List.map_nil, List.length_cons, List.length_nil, List.replicate, List.cons_append, List.nil_append, List.append_nil, eq_ii, ne_ii, eq_ss, ne_ss, eq_bb, ne_bb, lt_ii, le_ii, gt_ii, ge_ii, add_ii, sub_ii, isi_i, isi_b, isi_n, isi_s, isi_t, isi_l, sub_t, sub_l, at0, at1, at2, at3, len_t, slice_t, cut1, cut_02, zipT_tail, zipT_map, forT_nil, forT_cons, forK_nx, forK_brk, forK_ret, len_l, walk_t, walk_l, walk_o, walkC_l, walkC_d, seq_t, seq_l, seq_o, lst_o, lst_l, srcOf_o, isi_o, sub_o, subC_l, subC_d, min_s, tup_s, list_s, len_s, index_s, omap_some, obind_some, srcOf_t, srcOf_l, srcOk_nil, mk_f, mk_t, int_b, int_i, b_all_facts_L0, isSome_some, hlc, he, factD]
theorem ev_all_L2 (C : Orc) (b sD E rw_ : D) (n i : Nat) (N : Int) (hN : N = n) (hn : n ≤ 1000) (r : Int × Int) (S : Sto) (fs : List Fact) (v6 v7 : Option D) (hK : fs.length + (facts1 n (r, i)).length ≤ 10000) :
    exSs C b_all_facts_L2 [some b, some sD, some (.int N), some E, some rw_, some (.obj S.length), v6, v7, some (.int i), some (rowD r), none] (S ++ [fsC fs]) = some (.nx, [some b, some sD, some (.int N), some E, some rw_, some (.obj S.length), v6, v7, some (.int i), some (rowD r), none], S ++ [fsC (fs ++ facts1 n (r, i))]) := by
  have he := extend_ok S fs (facts1 n (r, i)) hK
  have hrg : rng1 (.int N) = some ((List.range n).map fun i : Nat => .int (i : Int)) := by rw [hN]; exact rng1_i n (by omega)
  have hlc : lcT [] (fun d => asgT (.name 6) d (wipeE [some b, some sD, some (.int N), some E, some rw_, some (.obj S.length), v6, v7, some (.int i), some (rowD r), none] [6])) (fun env S => evT C b_all_facts_T0 env S) (fun env S => evE C b_all_facts_E1 env S) .mk .mk .mk ((List.range n).map fun i : Nat => .int (i : Int)) (S ++ [fsC fs]) [] = some ((facts1 n (r, i)).map factD, S ++ [fsC fs]) := by
    rw [lcT_pure (fun l : Nat => D.int (l : Int)) (fun l => !decide ((l : Int) = r.2)) (fun l => factD (.joined i l)) (List.range n) rfl (by simp; omega) (fun l hl => ⟨_, rfl, by
      generalize (l : Int) = L
      simp -dsimp [↓toT, ↓toG, ↓toF, ↓toL, bndT_some, bndT_none, guT_true, ite_and, ite_or, fin_nx, fin_ret, exSs, exS, evE, evs, evO, evT, evI, bl_some, optInt, asgT, asgTs, startE, wipeE, List.map_cons, List.map_nil, List.length_cons, List.length_nil, List.replicate, List.cons_append, List.nil_append, List.append_nil, eq_ii, ne_ii, eq_ss, ne_ss, eq_bb, ne_bb, lt_ii, le_ii, gt_ii, ge_ii, add_ii, sub_ii, isi_i, isi_b, isi_n, isi_s, isi_t, isi_l, sub_t, sub_l, at0, at1, at2, at3, len_t, slice_t, cut1, cut_02, zipT_tail, zipT_map, forT_nil, forT_cons, forK_nx, forK_brk, forK_ret, len_l, walk_t, walk_l, walk_o, walkC_l, walkC_d, seq_t, seq_l, seq_o, lst_o, lst_l, srcOf_o, isi_o, sub_o, subC_l, subC_d, min_s, tup_s, list_s, len_s, index_s, omap_some, obind_some, srcOf_t, srcOf_l, srcOk_nil, mk_f, mk_t, int_b, int_i, b_all_facts_T0, rowD], fun _ => by
      simp only [factD]
      generalize (l : Int) = L
      simp -dsimp [↓toT, ↓toG, ↓toF, ↓toL, bndT_some, bndT_none, guT_true, ite_and, ite_or, fin_nx, fin_ret, exSs, exS, evE, evs, evO, evT, evI, bl_some, optInt, asgT, asgTs, startE, wipeE, List.map_cons, List.map_nil, List.length_cons, List.length_nil, List.replicate, List.cons_append, List.nil_append, List.append_nil, eq_ii, ne_ii, eq_ss, ne_ss, eq_bb, ne_bb, lt_ii, le_ii, gt_ii, ge_ii, add_ii, sub_ii, isi_i, isi_b, isi_n, isi_s, isi_t, isi_l, sub_t, sub_l, at0, at1, at2, at3, len_t, slice_t, cut1, cut_02, zipT_tail, zipT_map, forT_nil, forT_cons, forK_nx, forK_brk, forK_ret, len_l, walk_t, walk_l, walk_o, walkC_l, walkC_d, seq_t, seq_l, seq_o, lst_o, lst_l, srcOf_o, isi_o, sub_o, subC_l, subC_d, min_s, tup_s, list_s, len_s, index_s, omap_some, obind_some, srcOf_t, srcOf_l, srcOk_nil, mk_f, mk_t, int_b, int_i, b_all_facts_E1]⟩)]
    simp [facts1, Function.comp_def]
  clear hN
  simp only [fsC, List.map_append] at he hlc ⊢
  generalize (i : Int) = I at *
  simp -dsimp [↓toT, ↓toG, ↓toF, ↓toL, bndT_some, bndT_none, guT_true, ite_and, ite_or, fin_nx, fin_ret, exSs, exS, evE, evs, evO, evT, evI, bl_some, optInt, asgT, asgTs, startE, wipeE, List.map_cons, List.map_nil, List.length_cons, List.length_nil, List.replicate, List.cons_append, List.nil_append, List.append_nil, eq_ii, ne_ii, eq_ss, ne_ss, eq_bb, ne_bb, lt_ii, le_ii, gt_ii, ge_ii, add_ii, sub_ii, isi_i, isi_b, isi_n, isi_s, isi_t, isi_l, sub_t, sub_l, at0, at1, at2, at3, len_t, slice_t, cut1, cut_02, zipT_tail, zipT_map, forT_nil, forT_cons, forK_nx, forK_brk, forK_ret, len_l, walk_t, walk_l, walk_o, walkC_l, walkC_d, seq_t, seq_l, seq_o, lst_o, lst_l, srcOf_o, isi_o, sub_o, subC_l, subC_d, min_s, tup_s, list_s, len_s, index_s, omap_some, obind_some, srcOf_t, srcOf_l, srcOk_nil, mk_f, mk_t, int_b, int_i, b_all_facts_L2, isSome_some, hrg, hlc, he]
theorem ev_all_L3 (C : Orc) (b sD L E rw_ : D) (i : Nat) (S : Sto) (fs : List Fact) (v6 v7 v9 : Option D) (hK : fs.length + 2 ≤ 10000) :
    exSs C b_all_facts_L3 [some b, some sD, some L, some E, some rw_, some (.obj S.length), v6, v7, some (.int i), v9, none] (S ++ [fsC fs]) = some (.nx, [some b, some sD, some L, some E, some rw_, some (.obj S.length), v6, v7, some (.int i), v9, none], S ++ [fsC (fs ++ facts2 i)]) := by
  have he := extend_ok S fs (facts2 i) (by simpa [facts2] using hK)
  simp only [fsC, List.map_append, facts2, List.map_cons, List.map_nil, factD] at he ⊢
  generalize (i : Int) = I at *
  simp -dsimp [↓toT, ↓toG, ↓toF, ↓toL, bndT_some, bndT_none, guT_true, ite_and, ite_or, fin_nx, fin_ret, exSs, exS, evE, evs, evO, evT, evI, bl_some, optInt, asgT, asgTs, startE, wipeE, List.map_cons, List.map_nil, List.length_cons, List.length_nil, List.replicate, List.cons_append, List.nil_append, List.append_nil, eq_ii, ne_ii, eq_ss, ne_ss, eq_bb, ne_bb, lt_ii, le_ii, gt_ii, ge_ii, add_ii, sub_ii, isi_i, isi_b, isi_n, isi_s, isi_t, isi_l, sub_t, sub_l, at0, at1, at2, at3, len_t, slice_t, cut1, cut_02, zipT_tail, zipT_map, forT_nil, forT_cons, forK_nx, forK_brk, forK_ret, len_l, walk_t, walk_l, walk_o, walkC_l, walkC_d, seq_t, seq_l, seq_o, lst_o, lst_l, srcOf_o, isi_o, sub_o, subC_l, subC_d, min_s, tup_s, list_s, len_s, index_s, omap_some, obind_some, srcOf_t, srcOf_l, srcOk_nil, mk_f, mk_t, int_b, int_i, b_all_facts_L3, isSome_some, he]
theorem flatMap_len {α β : Type} (g : α → List β) (c : Nat) : ∀ xs : List α, (∀ x ∈ xs, (g x).length ≤ c) → (xs.flatMap g).length ≤ xs.length * c
  | [], _ => by simp
  | x :: xs, h => by
    have h1 := h x (.head _)
    have h2 := flatMap_len g c xs fun y hy => h y (.tail _ hy)
    rw [List.flatMap_cons, List.length_append, List.length_cons, Nat.add_mul]; omega
theorem facts1_len (n : Nat) (p : (Int × Int) × Nat) : (facts1 n p).length ≤ n := by
  have := List.length_filter_le (fun l : Nat => !decide ((l : Int) = p.1.2)) (List.range n)
  simp only [facts1, List.length_map]; simpa using this
theorem ev_all_L1 (k m : Nat) (N E : Int) (hrm : rng1 (.int (E + 1)) = some ((List.range m).map fun i : Nat => .int (i : Int))) (rows : List (Int × Int)) (ss : List (Int × Int × Int)) (S : Sto) (l : Int) (fs : List Fact) (v6 v7 : Option D) (hK : fs.length + ((List.range m).flatMap fun t : Nat => [Fact.one l t, .back l t, .there l t]).length ≤ 10000) :
    ∃ v7', exSs (callK Γ k) b_all_facts_L1 [some (bookD N E rows), some (sightsD ss), some (.int N), some (.int E), some (.tup (rows.map rowD)), some (.obj S.length), some (.int l), v7, none, none, none] (S ++ [fsC fs]) = some (.nx, [some (bookD N E rows), some (sightsD ss), some (.int N), some (.int E), some (.tup (rows.map rowD)), some (.obj S.length), some (.int l), v7', none, none, none], S ++ [fsC (fs ++ (List.range m).flatMap fun t : Nat => [Fact.one l t, .back l t, .there l t])]) := by
  obtain ⟨env2, h2, v7', rfl⟩ := for_ext (fun i : Nat => D.int (i : Int)) (asg := asgT (.name 7)) (body := fun env S => exSs (callK Γ k) b_all_facts_L0 env S)
    (fun env => ∃ v7, env = [some (bookD N E rows), some (sightsD ss), some (.int N), some (.int E), some (.tup (rows.map rowD)), some (.obj S.length), some (.int l), v7, none, none, none])
    (fun t : Nat => [Fact.one l t, .back l t, .there l t]) S 10000 (List.range m) fs _ ⟨v7, rfl⟩
    (fun t ht env fs hP hK => by
      obtain ⟨v7, rfl⟩ := hP
      exact ⟨_, _, rfl, ev_all_L0 (callK Γ k) _ _ _ _ _ l t S fs none none none hK, _, rfl⟩) hK
  refine ⟨v7', ?_⟩
  rw [toF] at h2
  simp -dsimp [↓toT, ↓toG, ↓toF, ↓toL, bndT_some, bndT_none, guT_true, ite_and, ite_or, fin_nx, fin_ret, exSs, exS, evE, evs, evO, evT, evI, bl_some, optInt, asgT, asgTs, startE, wipeE, List.map_cons, List.map_nil, List.length_cons, List.length_nil, List.replicate, List.cons_append, List.nil_append, List.append_nil, eq_ii, ne_ii, eq_ss, ne_ss, eq_bb, ne_bb, lt_ii, le_ii, gt_ii, ge_ii, add_ii, sub_ii, isi_i, isi_b, isi_n, isi_s, isi_t, isi_l, sub_t, sub_l, at0, at1, at2, at3, len_t, slice_t, cut1, cut_02, zipT_tail, zipT_map, forT_nil, forT_cons, forK_nx, forK_brk, forK_ret, len_l, walk_t, walk_l, walk_o, walkC_l, walkC_d, seq_t, seq_l, seq_o, lst_o, lst_l, srcOf_o, isi_o, sub_o, subC_l, subC_d, min_s, tup_s, list_s, len_s, index_s, omap_some, obind_some, srcOf_t, srcOf_l, srcOk_nil, mk_f, mk_t, int_b, int_i, book_0, book_1, book_2, ↓book_t, book_q, book_i, sights_w, sights_s, sights_q, story_w, story_s, story_q, story_i, b_all_facts_L1, hrm, h2]
end SL

/-! PN: all_facts. -/
namespace SL
open PySem
variable {Γ : Str → Option Fn}
theorem ev_all_facts (G : Std Γ) (k n m : Nat) (N E : Int) (hN : N = n) (hE : E + 1 = m) (hn : n ≤ 10) (hm : m ≤ 100) (rows : List (Int × Int)) (ss : List (Int × Int × Int)) (hr : rows.length ≤ 100) (hs : ss.length ≤ 100) (S : Sto) :
    callK Γ (k + 1) "all_facts" [bookD N E rows, sightsD ss] S = some (.obj S.length, S ++ [fsC (allFacts n m rows ss)]) := by
  rw [call_step G.h_all_facts]
  have hrn : rng1 (.int N) = some ((List.range n).map fun i : Nat => .int (i : Int)) := by rw [hN]; exact rng1_i n (by omega)
  have hrm : rng1 (.int (E + 1)) = some ((List.range m).map fun i : Nat => .int (i : Int)) := by rw [hE]; exact rng1_i m (by omega)
  obtain ⟨sl, hsl⟩ : ∃ sl : Int, sl = ss.length := ⟨_, rfl⟩
  have hlen : ∀ S, biD false .len [sightsD ss] S = some (.int sl, S) := by intro S; rw [hsl]; simp [len_s, sights_q]
  have hrs : rng1 (.int sl) = some ((List.range ss.length).map fun i : Nat => .int (i : Int)) := by rw [hsl]; exact rng1_i _ (by omega)
  have len0 : ∀ l : Nat, ((List.range m).flatMap fun t : Nat => [Fact.one l t, .back l t, .there l t]).length ≤ 300 := by
    intro l
    have := flatMap_len (fun t : Nat => [Fact.one l t, .back l t, .there l t]) 3 (List.range m) (by simp)
    rw [List.length_range] at this
    omega
  have L0 : (facts0 n m).length ≤ 3000 := by
    have := flatMap_len (fun l : Nat => (List.range m).flatMap fun t : Nat => [Fact.one l t, .back l t, .there l t]) 300 (List.range n) (fun l _ => len0 l)
    rw [List.length_range] at this
    unfold facts0
    omega
  have L1 : (rows.zipIdx.flatMap (facts1 n)).length ≤ 1000 := by
    have := flatMap_len (facts1 n) 10 rows.zipIdx (fun p _ => by have := facts1_len n p; omega)
    rw [List.length_zipIdx] at this
    omega
  have L2 : ((List.range ss.length).flatMap facts2).length ≤ 200 := by
    have := flatMap_len facts2 2 (List.range ss.length) (by simp [facts2])
    rw [List.length_range] at this
    omega
  obtain ⟨env1, h1, v6, v7, rfl⟩ := for_ext (fun i : Nat => D.int (i : Int)) (asg := asgT (.name 6)) (body := fun env S => exSs (callK Γ k) b_all_facts_L1 env S)
    (fun env => ∃ v6 v7, env = [some (bookD N E rows), some (sightsD ss), some (.int N), some (.int E), some (.tup (rows.map rowD)), some (.obj S.length), v6, v7, none, none, none])
    (fun l : Nat => (List.range m).flatMap fun t : Nat => [Fact.one l t, .back l t, .there l t]) S 10000 (List.range n) [] _ ⟨none, none, rfl⟩
    (fun l hl env fs hP hK => by
      obtain ⟨v6, v7, rfl⟩ := hP
      obtain ⟨v7', h2⟩ := ev_all_L1 k m N E hrm rows ss S l fs v6 v7 hK
      exact ⟨_, _, rfl, h2, some (.int (l : Int)), v7', rfl⟩) (by
        have := L0
        unfold facts0 at this
        simp only [List.length_nil]; omega)
  obtain ⟨env2, h2, v8, v9, rfl⟩ := for_ext (fun p : (Int × Int) × Nat => .tup [.int (p.2 : Int), rowD p.1]) (asg := asgT (.tup [.name 8, .name 9])) (body := fun env S => exSs (callK Γ k) b_all_facts_L2 env S)
    (fun env => ∃ v8 v9, env = [some (bookD N E rows), some (sightsD ss), some (.int N), some (.int E), some (.tup (rows.map rowD)), some (.obj S.length), v6, v7, v8, v9, none])
    (facts1 n) S 10000 rows.zipIdx (facts0 n m) _ ⟨none, none, rfl⟩
    (fun p hp env fs hP hK => by
      obtain ⟨v8, v9, rfl⟩ := hP
      exact ⟨_, _, rfl, ev_all_L2 (callK Γ k) _ _ _ _ n p.2 N hN (by omega) p.1 S fs v6 v7 hK, _, _, rfl⟩) (by omega)
  obtain ⟨env3, h3, v8', rfl⟩ := for_ext (fun i : Nat => D.int (i : Int)) (asg := asgT (.name 8)) (body := fun env S => exSs (callK Γ k) b_all_facts_L3 env S)
    (fun env => ∃ v8, env = [some (bookD N E rows), some (sightsD ss), some (.int N), some (.int E), some (.tup (rows.map rowD)), some (.obj S.length), v6, v7, v8, v9, none])
    facts2 S 10000 (List.range ss.length) (facts0 n m ++ rows.zipIdx.flatMap (facts1 n)) _ ⟨v8, rfl⟩
    (fun i hi env fs hP hK => by
      obtain ⟨v8, rfl⟩ := hP
      exact ⟨_, _, rfl, ev_all_L3 (callK Γ k) _ _ _ _ _ i S fs v6 v7 v9 hK, _, rfl⟩) (by rw [List.length_append]; omega)
  have hen : enumD 0 (rows.map rowD) = rows.zipIdx.map fun p => .tup [.int (p.2 : Int), rowD p.1] := enumD_map rowD rows 0
  clear hN hE hsl
  simp only [List.nil_append] at h1
  rw [toF] at h1 h2 h3
  simp only [facts0, fsC, List.map_append, List.map_nil] at h1 h2 h3
  generalize sightsD ss = sD at *
  simp -dsimp [↓toT, ↓toG, ↓toF, ↓toL, bndT_some, bndT_none, guT_true, ite_and, ite_or, fin_nx, fin_ret, exSs, exS, evE, evs, evO, evT, evI, bl_some, optInt, asgT, asgTs, startE, wipeE, List.map_cons, List.map_nil, List.length_cons, List.length_nil, List.replicate, List.cons_append, List.nil_append, List.append_nil, eq_ii, ne_ii, eq_ss, ne_ss, eq_bb, ne_bb, lt_ii, le_ii, gt_ii, ge_ii, add_ii, sub_ii, isi_i, isi_b, isi_n, isi_s, isi_t, isi_l, sub_t, sub_l, at0, at1, at2, at3, len_t, slice_t, cut1, cut_02, zipT_tail, zipT_map, forT_nil, forT_cons, forK_nx, forK_brk, forK_ret, len_l, walk_t, walk_l, walk_o, walkC_l, walkC_d, seq_t, seq_l, seq_o, lst_o, lst_l, srcOf_o, isi_o, sub_o, subC_l, subC_d, min_s, tup_s, list_s, len_s, index_s, omap_some, obind_some, srcOf_t, srcOf_l, srcOk_nil, mk_f, mk_t, int_b, int_i, book_0, book_1, book_2, ↓book_t, book_q, book_i, sights_w, sights_s, sights_q, story_w, story_s, story_q, story_i, b_all_facts, hrn, h1, hen, h2, hlen, hrs, h3, allFacts, facts0, fsC]
end SL

/-! PO: bounds: the tables, one step. -/
namespace SL
open PySem
variable {Γ : Str → Option Fn}
def nodeK : Node → NestedKey
  | none => .none
  | some p => .tup [.num p.1, .num p.2]
theorem nodeK_inj {a b : Node} (h : nodeK a = nodeK b) : a = b := by
  rcases a with _ | ⟨x, y⟩ <;> rcases b with _ | ⟨u, v⟩ <;> simp [nodeK] at h ⊢
  exact h
theorem key_node (n : Node) : goodKey (nodeD n) = some (nodeK n) := by
  rcases n with _ | ⟨x, y⟩ <;> simp [goodKey, nodeD, nodeK, keyOf, keysOf, NestedKey.depth, NestedKey.depthAll]
def aget {β : Type} : List (Node × β) → Node → Option β
  | [], _ => none
  | (k, v) :: r, x => if k = x then some v else aget r x
def aput {β : Type} : List (Node × β) → Node → β → List (Node × β)
  | [], x, v => [(x, v)]
  | (k, u) :: r, x, v => if k = x then (k, v) :: r else (k, u) :: aput r x v
def tabK {β : Type} (f : β → D) (M : List (Node × β)) : List (NestedKey × D) := M.map fun p => (nodeK p.1, f p.2)
theorem atK_tab {β : Type} (f : β → D) (x : Node) : ∀ M : List (Node × β), atK (tabK f M) (nodeK x) = (aget M x).map f
  | [] => rfl
  | (k, v) :: r => by
    have ih := atK_tab f x r
    simp only [tabK] at ih
    by_cases h : k = x
    · subst h; simp [tabK, atK, aget]
    · have : nodeK k ≠ nodeK x := fun e => h (nodeK_inj e)
      simp [tabK, atK, aget, h, this, ih]
theorem putK_tab {β : Type} (f : β → D) (x : Node) (v : β) : ∀ M : List (Node × β), putK (tabK f M) (nodeK x) (f v) = tabK f (aput M x v)
  | [] => rfl
  | (k, u) :: r => by
    have ih := putK_tab f x v r
    simp only [tabK] at ih
    by_cases h : k = x
    · subst h; simp [tabK, putK, aput]
    · have : nodeK k ≠ nodeK x := fun e => h (nodeK_inj e)
      simp [tabK, putK, aput, h, this, ih]
theorem aget_put {β : Type} (x y : Node) (v : β) : ∀ M : List (Node × β), aget (aput M x v) y = if x = y then some v else aget M y
  | [] => by simp [aput, aget]
  | (k, u) :: r => by
    have ih := aget_put x y v r
    by_cases h : k = x
    · subst h; by_cases h2 : k = y <;> simp [aput, aget, h2]
    · by_cases h2 : k = y
      · subst h2; simp [aput, aget, h, Ne.symm h]
      · simp [aput, aget, h, h2, ih]
theorem aput_len {β : Type} (x : Node) (v : β) : ∀ M : List (Node × β), (aput M x v).length ≤ M.length + 1
  | [] => by simp [aput]
  | (k, u) :: r => by
    have ih := aput_len x v r
    by_cases h : k = x <;> simp [aput, h] <;> omega
end SL

/-! PP: tighten walked. -/
namespace SL
open PySem
variable {Γ : Str → Option Fn}
abbrev Edge := Step × Fact
def edgeD (e : Edge) : D := .tup [nodeD e.1.1, nodeD e.1.2.1, .int e.1.2.2, factD e.2]
abbrev Tb := List (Node × Int) × List (Node × Edge)
def tight (T : Tb) (e : Edge) : Bool × Tb := match aget T.1 e.1.2.1 with
  | none => (false, T)
  | some x => match aget T.1 e.1.1 with
    | some y => if y ≤ x + e.1.2.2 then (false, T) else (true, aput T.1 e.1.1 (x + e.1.2.2), aput T.2 e.1.1 e)
    | none => (true, aput T.1 e.1.1 (x + e.1.2.2), aput T.2 e.1.1 e)
def inC : Option Cell → D → Option Bool
  | some (.lst ds), x => inSeq x ds
  | some (.dct _ kvs), x => inDict kvs x
  | _, _ => none
theorem in_o (x : D) (n : Nat) (S : Sto) : cmpD .in_ x (.obj n) S = inC S[n]? x := by
  simp only [cmpD, inD]
  cases S[n]? with
  | none => rfl
  | some c => cases c <;> rfl
theorem nin_o (x : D) (n : Nat) (S : Sto) : cmpD .nin x (.obj n) S = (inC S[n]? x).map (!·) := by
  simp only [cmpD, inD]
  cases S[n]? with
  | none => rfl
  | some c => cases c <;> rfl
theorem inC_d {β : Type} (f : β → D) (ep : Nat) (M : List (Node × β)) (x : Node) : inC (some (.dct ep (tabK f M))) (nodeD x) = some (aget M x).isSome := by
  simp [inC, inDict, key_node, atK_tab]
theorem subC_t {β : Type} (f : β → D) (ep : Nat) (M : List (Node × β)) (x : Node) : subC (some (.dct ep (tabK f M))) (nodeD x) = (aget M x).map f := by
  simp [subC, key_node, atK_tab]
structure Bnd (o dm db : Nat) (T : Tb) (S : Sto) : Prop where
  ins : ∃ fs, S[o]? = some (.ins "Bounds" fs) ∧ fs.lookup ("most" : Str) = some (D.obj dm) ∧ fs.lookup ("by" : Str) = some (D.obj db)
  most : ∃ ep, S[dm]? = some (.dct ep (tabK .int T.1))
  by_ : ∃ ep, S[db]? = some (.dct ep (tabK edgeD T.2))
  d1 : o ≠ dm
  d2 : o ≠ db
  d3 : dm ≠ db
theorem setC_t {β : Type} (f : β → D) {n : Nat} {S : Sto} {ep : Nat} {M : List (Node × β)} (h : S[n]? = some (.dct ep (tabK f M))) (hl : M.length < 100000) (x : Node) (v : β) : ∃ ep', setSubD (.obj n) (nodeD x) (f v) S = some (S.set n (.dct ep' (tabK f (aput M x v)))) := by
  have hl' : decide ((tabK f M).length < 16777216) = true := by simp only [tabK, List.length_map, decide_eq_true_eq]; omega
  refine ⟨if (atK (tabK f M) (nodeK x)).isSome then ep else ep + 1, ?_⟩
  simp only [setSubD, h, key_node, bnd_some]
  rw [hl', guardB_true, putK_tab]
theorem fld_o (S : Sto) (n : Nat) (f : Str) : fldD S (.obj n) f = (match S[n]? with
    | some (.ins _ fs) => fs.lookup f
    | _ => none) := rfl
theorem ev_tighten (G : Std Γ) (k o dm db : Nat) (T : Tb) (e : Edge) (S : Sto) (h : Bnd o dm db T S) (hl1 : T.1.length < 100000) (hl2 : T.2.length < 100000) :
    ∃ S', callK Γ (k + 1) "tighten" [.obj o, edgeD e] S = some (.bl (tight T e).1, S') ∧ Bnd o dm db (tight T e).2 S' ∧ S'.length = S.length ∧ ∀ n, n ≠ dm → n ≠ db → S'[n]? = S[n]? := by
  rw [call_step G.h_tighten]
  obtain ⟨⟨fs, a1, a2, a3⟩, ⟨ep, b1⟩, ⟨ep2, c1⟩, d1, d2, d3⟩ := h
  obtain ⟨⟨one, other, many⟩, f⟩ := e
  have hsame : Bnd o dm db T S := ⟨⟨fs, a1, a2, a3⟩, ⟨ep, b1⟩, ⟨ep2, c1⟩, d1, d2, d3⟩
  have hput : ∀ x : Int, ∃ S1 S2, setSubD (.obj dm) (nodeD one) (.int x) S = some S1 ∧ setSubD (.obj db) (nodeD one) (edgeD ((one, other, many), f)) S1 = some S2 ∧ (S1[o]? = some (.ins "Bounds" fs)) ∧ Bnd o dm db (aput T.1 one x, aput T.2 one ((one, other, many), f)) S2 ∧ S2.length = S.length ∧ ∀ n, n ≠ dm → n ≠ db → S2[n]? = S[n]? := by
    intro x
    obtain ⟨ep', e1⟩ := setC_t .int b1 hl1 one x
    have c1' : (S.set dm (.dct ep' (tabK .int (aput T.1 one x))))[db]? = some (.dct ep2 (tabK edgeD T.2)) := by rw [List.getElem?_set_ne d3, c1]
    obtain ⟨ep2', e2⟩ := setC_t edgeD c1' hl2 one ((one, other, many), f)
    refine ⟨_, _, e1, e2, by rw [List.getElem?_set_ne (Ne.symm d1), a1], ⟨⟨fs, ?_, a2, a3⟩, ⟨ep', ?_⟩, ⟨ep2', ?_⟩, d1, d2, d3⟩, by simp, ?_⟩
    · rw [List.getElem?_set_ne (Ne.symm d2), List.getElem?_set_ne (Ne.symm d1), a1]
    · rw [List.getElem?_set_ne (Ne.symm d3), List.getElem?_set_self (get_lt b1)]
    · rw [List.getElem?_set_self (get_lt c1')]
    · intro n h1 h2
      rw [List.getElem?_set_ne (Ne.symm h2), List.getElem?_set_ne (Ne.symm h1)]
  cases ho : aget T.1 other with
  | none =>
    refine ⟨S, ?_, by simp only [tight, ho]; exact hsame, rfl, fun _ _ _ => rfl⟩
    simp -dsimp [↓toT, ↓toG, ↓toF, ↓toL, bndT_some, bndT_none, guT_true, ite_and, ite_or, fin_nx, fin_ret, exSs, exS, evE, evs, evO, evT, evI, bl_some, optInt, asgT, asgTs, startE, wipeE, List.map_cons, List.map_nil, List.length_cons, List.length_nil, List.replicate, List.cons_append, List.nil_append, List.append_nil, eq_ii, ne_ii, eq_ss, ne_ss, eq_bb, ne_bb, lt_ii, le_ii, gt_ii, ge_ii, add_ii, sub_ii, isi_i, isi_b, isi_n, isi_s, isi_t, isi_l, sub_t, sub_l, at0, at1, at2, at3, len_t, slice_t, cut1, cut_02, zipT_tail, zipT_map, forT_nil, forT_cons, forK_nx, forK_brk, forK_ret, len_l, walk_t, walk_l, walk_o, walkC_l, walkC_d, seq_t, seq_l, seq_o, lst_o, lst_l, srcOf_o, isi_o, sub_o, subC_l, subC_d, min_s, tup_s, list_s, len_s, index_s, omap_some, obind_some, srcOf_t, srcOf_l, srcOk_nil, mk_f, mk_t, int_b, int_i, b_tighten, edgeD, fld_o, a1, a2, nin_o, b1, inC_d, ho, tight]
  | some x =>
    obtain ⟨S1, S2, e1, e2, e3, e4, e5, e6⟩ := hput (x + many)
    simp only [edgeD] at e2
    cases hn : aget T.1 one with
    | none =>
      refine ⟨S2, ?_, by simp only [tight, ho, hn]; exact e4, e5, e6⟩
      simp -dsimp [↓toT, ↓toG, ↓toF, ↓toL, bndT_some, bndT_none, guT_true, ite_and, ite_or, fin_nx, fin_ret, exSs, exS, evE, evs, evO, evT, evI, bl_some, optInt, asgT, asgTs, startE, wipeE, List.map_cons, List.map_nil, List.length_cons, List.length_nil, List.replicate, List.cons_append, List.nil_append, List.append_nil, eq_ii, ne_ii, eq_ss, ne_ss, eq_bb, ne_bb, lt_ii, le_ii, gt_ii, ge_ii, add_ii, sub_ii, isi_i, isi_b, isi_n, isi_s, isi_t, isi_l, sub_t, sub_l, at0, at1, at2, at3, len_t, slice_t, cut1, cut_02, zipT_tail, zipT_map, forT_nil, forT_cons, forK_nx, forK_brk, forK_ret, len_l, walk_t, walk_l, walk_o, walkC_l, walkC_d, seq_t, seq_l, seq_o, lst_o, lst_l, srcOf_o, isi_o, sub_o, subC_l, subC_d, min_s, tup_s, list_s, len_s, index_s, omap_some, obind_some, srcOf_t, srcOf_l, srcOk_nil, mk_f, mk_t, int_b, int_i, b_tighten, edgeD, fld_o, a1, a2, a3, nin_o, in_o, b1, inC_d, key_node, atK_tab, ho, hn, tight, e1, e2, e3]
    | some y =>
      by_cases hy : y ≤ x + many
      · refine ⟨S, ?_, by simp only [tight, ho, hn, hy, if_true]; exact hsame, rfl, fun _ _ _ => rfl⟩
        simp -dsimp [↓toT, ↓toG, ↓toF, ↓toL, bndT_some, bndT_none, guT_true, ite_and, ite_or, fin_nx, fin_ret, exSs, exS, evE, evs, evO, evT, evI, bl_some, optInt, asgT, asgTs, startE, wipeE, List.map_cons, List.map_nil, List.length_cons, List.length_nil, List.replicate, List.cons_append, List.nil_append, List.append_nil, eq_ii, ne_ii, eq_ss, ne_ss, eq_bb, ne_bb, lt_ii, le_ii, gt_ii, ge_ii, add_ii, sub_ii, isi_i, isi_b, isi_n, isi_s, isi_t, isi_l, sub_t, sub_l, at0, at1, at2, at3, len_t, slice_t, cut1, cut_02, zipT_tail, zipT_map, forT_nil, forT_cons, forK_nx, forK_brk, forK_ret, len_l, walk_t, walk_l, walk_o, walkC_l, walkC_d, seq_t, seq_l, seq_o, lst_o, lst_l, srcOf_o, isi_o, sub_o, subC_l, subC_d, min_s, tup_s, list_s, len_s, index_s, omap_some, obind_some, srcOf_t, srcOf_l, srcOk_nil, mk_f, mk_t, int_b, int_i, b_tighten, edgeD, fld_o, a1, a2, a3, nin_o, in_o, b1, inC_d, key_node, atK_tab, ho, hn, hy, tight, e1, e2, e3]
      · refine ⟨S2, ?_, by simp only [tight, ho, hn, hy, if_false]; exact e4, e5, e6⟩
        simp -dsimp [↓toT, ↓toG, ↓toF, ↓toL, bndT_some, bndT_none, guT_true, ite_and, ite_or, fin_nx, fin_ret, exSs, exS, evE, evs, evO, evT, evI, bl_some, optInt, asgT, asgTs, startE, wipeE, List.map_cons, List.map_nil, List.length_cons, List.length_nil, List.replicate, List.cons_append, List.nil_append, List.append_nil, eq_ii, ne_ii, eq_ss, ne_ss, eq_bb, ne_bb, lt_ii, le_ii, gt_ii, ge_ii, add_ii, sub_ii, isi_i, isi_b, isi_n, isi_s, isi_t, isi_l, sub_t, sub_l, at0, at1, at2, at3, len_t, slice_t, cut1, cut_02, zipT_tail, zipT_map, forT_nil, forT_cons, forK_nx, forK_brk, forK_ret, len_l, walk_t, walk_l, walk_o, walkC_l, walkC_d, seq_t, seq_l, seq_o, lst_o, lst_l, srcOf_o, isi_o, sub_o, subC_l, subC_d, min_s, tup_s, list_s, len_s, index_s, omap_some, obind_some, srcOf_t, srcOf_l, srcOk_nil, mk_f, mk_t, int_b, int_i, b_tighten, edgeD, fld_o, a1, a2, a3, nin_o, in_o, b1, inC_d, key_node, atK_tab, ho, hn, hy, tight, e1, e2, e3]
end SL

/-! GA: rounds over a graph. -/
namespace SL
open PySem
def passT (st : Tb × Option Node) (e : Edge) : Tb × Option Node := ((tight st.1 e).2, if (tight st.1 e).1 then some e.1.1 else st.2)
def pass (es : List Edge) (T : Tb) : Tb × Option Node := es.foldl passT (T, none)
def rounds (es : List Edge) : Nat → Tb → Option Node → Tb × Option Node
  | 0, T, ch => (T, ch)
  | n + 1, T, _ => match (pass es T).2 with
    | none => ((pass es T).1, none)
    | some c => rounds es n (pass es T).1 (some c)
def T0 : Tb := ([(none, 0)], [])
def Sol (es : List Edge) (s : Node → Int) : Prop := s none = 0 ∧ ∀ e ∈ es, s e.1.1 ≤ s e.1.2.1 + e.1.2.2
/-- an edge holds in a table -/
def Sat (T : Tb) (e : Edge) : Prop := ∀ y, aget T.1 e.1.2.1 = some y → ∃ x, aget T.1 e.1.1 = some x ∧ x ≤ y + e.1.2.2
theorem tight_cases (T : Tb) (e : Edge) : (tight T e = (false, T) ∧ Sat T e) ∨ ∃ y, tight T e = (true, aput T.1 e.1.1 (y + e.1.2.2), aput T.2 e.1.1 e) ∧ aget T.1 e.1.2.1 = some y ∧ ∀ x, aget T.1 e.1.1 = some x → y + e.1.2.2 < x := by
  unfold tight Sat
  cases h1 : aget T.1 e.1.2.1 with
  | none => left; exact ⟨rfl, fun y h => by cases h⟩
  | some y =>
    cases h2 : aget T.1 e.1.1 with
    | none => right; exact ⟨y, rfl, rfl, fun x h => by cases h⟩
    | some x =>
      by_cases h : x ≤ y + e.1.2.2
      · left; exact ⟨by simp only [h, if_true], fun y' h' => by cases h'; exact ⟨x, rfl, h⟩⟩
      · right; exact ⟨y, by simp only [h, if_false], rfl, fun x' h' => by cases h'; omega⟩
structure GI (es : List Edge) (T : Tb) (lc tau : Node → Nat) (ck r : Nat) (done : List Edge) : Prop where
  root : ∃ x, aget T.1 none = some x ∧ x ≤ 0
  zero : aget T.2 none = none → aget T.1 none = some 0
  by1 : ∀ v e, aget T.2 v = some e → e ∈ es ∧ e.1.1 = v ∧ ∃ x y, aget T.1 v = some x ∧ aget T.1 e.1.2.1 = some y ∧ y + e.1.2.2 ≤ x ∧ (x = y + e.1.2.2 → tau e.1.2.1 < tau v) ∧ lc v ≤ lc e.1.2.1 + 1
  by0 : ∀ v, aget T.2 v = none → lc v = 0
  key : ∀ v x, aget T.1 v = some x → v = none ∨ ∃ e, aget T.2 v = some e
  clk : ∀ v, tau v < ck
  weak : ∀ e ∈ es, Sat T e ∨ r ≤ lc e.1.2.1 + 1
  strong : ∀ e ∈ done, Sat T e ∨ r ≤ lc e.1.2.1
  top : ∀ v, lc v ≤ r
theorem sat_put {T : Tb} {v : Node} {z : Int} {B : List (Node × Edge)} (hz : ∀ x, aget T.1 v = some x → z < x) {e : Edge} (h : Sat T e) (hv : e.1.2.1 ≠ v) : Sat (aput T.1 v z, B) e := by
  intro y hy
  rw [aget_put, if_neg (fun h => hv h.symm)] at hy
  obtain ⟨x, h1, h2⟩ := h y hy
  by_cases h3 : v = e.1.1
  · subst h3
    exact ⟨z, by rw [aget_put, if_pos rfl], by have := hz x h1; omega⟩
  · exact ⟨x, by rw [aget_put, if_neg h3, h1], h2⟩
theorem GI.step {es : List Edge} {T : Tb} {lc tau : Node → Nat} {ck r : Nat} {done : List Edge} (h : GI es T lc tau ck r done) (e : Edge) (he : e ∈ es) :
    ∃ lc' tau', GI es (tight T e).2 lc' tau' (ck + 1) r (e :: done) ∧ ((tight T e).1 = true → lc' e.1.1 = r) ∧ ∀ v, lc v = r → lc' v = r := by
  rcases tight_cases T e with ⟨ht, hs⟩ | ⟨y, ht, hy, hx⟩
  · rw [ht]
    refine ⟨lc, tau, ⟨h.root, h.zero, h.by1, h.by0, h.key, fun v => by have := h.clk v; omega, h.weak, ?_, h.top⟩, fun h => by simp at h, fun v h => h⟩
    intro e' he'
    rcases List.mem_cons.1 he' with rfl | he'
    · exact .inl hs
    · exact h.strong e' he'
  · rw [ht]
    refine ⟨fun v => if v = e.1.1 then r else lc v, fun v => if v = e.1.1 then ck else tau v, ⟨?_, ?_, ?_, ?_, ?_, ?_, ?_, ?_, ?_⟩, fun _ => by simp, fun v hv => by simp [hv]⟩
    · obtain ⟨x, h1, h2⟩ := h.root
      by_cases h3 : e.1.1 = none
      · exact ⟨y + e.1.2.2, by rw [aget_put, if_pos h3], by rw [h3] at hx; have := hx x h1; omega⟩
      · exact ⟨x, by rw [aget_put, if_neg h3, h1], h2⟩
    · intro hh
      by_cases h3 : e.1.1 = none
      · rw [aget_put, if_pos h3] at hh; cases hh
      · rw [aget_put, if_neg h3] at hh ⊢; exact h.zero hh
    · intro v e' hv
      simp only [aget_put] at hv
      by_cases h3 : e.1.1 = v
      · rw [if_pos h3] at hv
        cases hv
        refine ⟨he, h3, y + e.1.2.2, ?_⟩
        subst h3
        by_cases h4 : e.1.2.1 = e.1.1
        · have := hx y (by rw [← h4, hy])
          refine ⟨y + e.1.2.2, by rw [aget_put, if_pos rfl], by rw [aget_put, if_pos h4.symm], by omega, fun h => by omega, by simp [h4]⟩
        · have h5 := h.clk e.1.2.1
          refine ⟨y, by rw [aget_put, if_pos rfl], by rw [aget_put, if_neg (fun h => h4 h.symm), hy], by omega, fun _ => by simp [h4, h5], ?_⟩
          rcases h.weak e he with hs | hs
          · obtain ⟨x, h6, h7⟩ := hs y hy
            have := hx x h6
            omega
          · simp [h4, hs]
      · rw [if_neg h3] at hv
        obtain ⟨a1, a2, x, y', b1, b2, b3, b4, b5⟩ := h.by1 v e' hv
        have h3' : ¬ v = e.1.1 := fun h => h3 h.symm
        refine ⟨a1, a2, x, ?_⟩
        by_cases h4 : e'.1.2.1 = e.1.1
        · have := hx y' (by rw [← h4, b2])
          refine ⟨y + e.1.2.2, by rw [aget_put, if_neg h3, b1], by rw [aget_put, if_pos h4.symm], by omega, fun h => by omega, ?_⟩
          have := h.top v
          simp only [h4, h3', if_true, if_false]
          omega
        · refine ⟨y', by rw [aget_put, if_neg h3, b1], by rw [aget_put, if_neg (fun h => h4 h.symm), b2], b3, fun h => by simp [h4, h3', b4 h], by simp [h4, h3', b5]⟩
    · intro v hv
      simp only [aget_put] at hv
      by_cases h3 : e.1.1 = v
      · rw [if_pos h3] at hv; cases hv
      · rw [if_neg h3] at hv
        have h3' : ¬ v = e.1.1 := fun h => h3 h.symm
        simp [h3', h.by0 v hv]
    · intro v x hv
      simp only [aget_put] at hv ⊢
      by_cases h3 : e.1.1 = v
      · right; exact ⟨e, by rw [if_pos h3]⟩
      · rw [if_neg h3] at hv ⊢
        exact h.key v x hv
    · intro v
      have := h.clk v
      by_cases h3 : v = e.1.1
      · simp [h3]
      · simp only [h3, if_false]; omega
    · intro e' he'
      by_cases h4 : e'.1.2.1 = e.1.1
      · right; simp [h4]
      · rcases h.weak e' he' with hs | hs
        · exact .inl (sat_put hx hs h4)
        · right; simp [h4, hs]
    · intro e' he'
      by_cases h4 : e'.1.2.1 = e.1.1
      · right; simp [h4]
      · rcases List.mem_cons.1 he' with rfl | he'
        · left
          intro y' hy'
          rw [aget_put, if_neg (fun h => h4 h.symm), hy] at hy'
          cases hy'
          exact ⟨_, by rw [aget_put, if_pos rfl], by omega⟩
        · rcases h.strong e' he' with hs | hs
          · exact .inl (sat_put hx hs h4)
          · right; simp [h4, hs]
    · intro v
      have := h.top v
      by_cases h3 : v = e.1.1
      · simp [h3]
      · simp only [h3, if_false]; omega
theorem GI.fold {es : List Edge} {r : Nat} : ∀ (rest : List Edge) (T : Tb) (ch : Option Node) (lc tau : Node → Nat) (ck : Nat) (done : List Edge), (∀ e ∈ rest, e ∈ es) → GI es T lc tau ck r done → (∀ c, ch = some c → lc c = r) →
    ∃ lc' tau' ck', GI es (rest.foldl passT (T, ch)).1 lc' tau' ck' r (rest.reverse ++ done) ∧ ∀ c, (rest.foldl passT (T, ch)).2 = some c → lc' c = r
  | [], T, ch, lc, tau, ck, done, _, h, hc => ⟨lc, tau, ck, h, hc⟩
  | e :: rest, T, ch, lc, tau, ck, done, hr, h, hc => by
    obtain ⟨lc1, tau1, h1, h2, h3⟩ := h.step e (hr e (.head _))
    have := GI.fold rest (tight T e).2 (if (tight T e).1 then some e.1.1 else ch) lc1 tau1 (ck + 1) (e :: done) (fun x hx => hr x (.tail _ hx)) h1 (fun c hc' => by
      by_cases h4 : (tight T e).1 = true
      · rw [if_pos h4] at hc'; cases hc'; exact h2 h4
      · rw [if_neg h4] at hc'; exact h3 c (hc c hc'))
    rw [List.foldl_cons, List.reverse_cons, List.append_assoc]
    exact this
theorem GI.next {es : List Edge} {T : Tb} {lc tau : Node → Nat} {ck r : Nat} {done : List Edge} (h : GI es T lc tau ck r done) (hd : ∀ e ∈ es, e ∈ done) : GI es T lc tau ck (r + 1) [] := by
  refine ⟨h.root, h.zero, h.by1, h.by0, h.key, h.clk, ?_, by simp, fun v => by have := h.top v; omega⟩
  intro e he
  rcases h.strong e (hd e he) with hs | hs
  · exact .inl hs
  · right; omega
theorem passT_some (es : List Edge) : ∀ (T : Tb) (c : Node), ∃ c', (es.foldl passT (T, some c)).2 = some c' := by
  induction es with
  | nil => intro T c; exact ⟨c, rfl⟩
  | cons e es ih =>
    intro T c
    rw [List.foldl_cons]
    by_cases h : (tight T e).1 = true
    · simp only [passT, h, if_true]; exact ih _ _
    · simp only [passT, h]; exact ih _ _
theorem pass_none : ∀ (es : List Edge) (T : Tb), (es.foldl passT (T, none)).2 = none → (es.foldl passT (T, none)).1 = T ∧ ∀ e ∈ es, Sat T e
  | [], T, _ => ⟨rfl, by simp⟩
  | e :: es, T, h => by
    rw [List.foldl_cons] at h ⊢
    rcases tight_cases T e with ⟨ht, hs⟩ | ⟨y, ht, hy, hx⟩
    · have e1 : passT (T, none) e = (T, none) := by simp [passT, ht]
      rw [e1] at h ⊢
      obtain ⟨a, b⟩ := pass_none es T h
      refine ⟨a, ?_⟩
      intro x hx
      rcases List.mem_cons.1 hx with rfl | hx
      · exact hs
      · exact b x hx
    · exfalso
      obtain ⟨c', hc⟩ := passT_some es (tight T e).2 e.1.1
      have e1 : passT (T, none) e = ((tight T e).2, some e.1.1) := by simp [passT, ht]
      rw [e1, hc] at h
      cases h
theorem GI.rounds {es : List Edge} : ∀ (n r : Nat) (T : Tb) (ch : Option Node) (lc tau : Node → Nat) (ck : Nat), GI es T lc tau ck (r + 1) [] → 0 < n →
    (∀ c, (rounds es n T ch).2 = some c → ∃ lc' tau' ck', GI es (rounds es n T ch).1 lc' tau' ck' (r + n) es.reverse ∧ lc' c = r + n) ∧
    ((rounds es n T ch).2 = none → (∀ e ∈ es, Sat (rounds es n T ch).1 e) ∧ ∃ lc' tau' ck' r', GI es (rounds es n T ch).1 lc' tau' ck' r' es.reverse)
  | 0, _, _, _, _, _, _, _, h => absurd h (by omega)
  | n + 1, r, T, ch, lc, tau, ck, h, _ => by
    obtain ⟨lc1, tau1, ck1, h1, h2⟩ := GI.fold es T none lc tau ck [] (fun e he => he) h (by simp)
    rw [List.append_nil] at h1
    unfold SL.rounds
    change GI es (pass es T).1 lc1 tau1 ck1 (r + 1) es.reverse at h1
    change ∀ c, (pass es T).2 = some c → lc1 c = r + 1 at h2
    cases hp : (pass es T).2 with
    | none =>
      obtain ⟨a, b⟩ := pass_none es T hp
      refine ⟨fun c hc => by simp at hc, fun _ => ⟨?_, lc1, tau1, ck1, r + 1, h1⟩⟩
      intro e he
      have : (pass es T).1 = T := a
      simp only [this]
      exact b e he
    | some c0 =>
      simp only
      cases n with
      | zero =>
        refine ⟨fun c hc => ?_, fun hc => by simp [SL.rounds] at hc⟩
        simp only [SL.rounds] at hc ⊢
        have e : c0 = c := Option.some.inj hc
        rw [← e]
        exact ⟨lc1, tau1, ck1, h1, h2 c0 hp⟩
      | succ n =>
        have ih := GI.rounds (n + 1) (r + 1) (pass es T).1 (some c0) lc1 tau1 ck1 (h1.next (fun e he => List.mem_reverse.2 he)) (by omega)
        rw [show r + (n + 1 + 1) = r + 1 + (n + 1) by omega]
        exact ih
theorem GI.init (es : List Edge) : GI es T0 (fun _ => 0) (fun _ => 0) 1 1 [] := by
  refine ⟨⟨0, rfl, by omega⟩, fun _ => rfl, fun v e h => by simp [T0, aget] at h, fun _ _ => rfl, ?_, fun _ => by omega, fun e he => .inr (by omega), by simp, fun _ => by omega⟩
  intro v x h
  left
  simp only [T0, aget] at h
  by_cases h2 : (none : Node) = v
  · exact h2.symm
  · rw [if_neg h2] at h; cases h
def phi (T : Tb) (s : Node → Int) (v : Node) : Int := (aget T.1 v).getD 0 - s v
theorem GI.chain {es : List Edge} {T : Tb} {lc tau : Node → Nat} {ck r : Nat} {done : List Edge} (h : GI es T lc tau ck r done) {s : Node → Int} (hs : Sol es s) :
    ∀ (j : Nat) (v : Node) (x : Int), aget T.1 v = some x → j ≤ lc v → ∃ l : List Node, l.length = j + 1 ∧ l.Nodup ∧ (∀ u ∈ l, ∃ y, aget T.1 u = some y) ∧ ∀ u ∈ l, u = v ∨ phi T s u < phi T s v ∨ (phi T s u = phi T s v ∧ tau u < tau v)
  | 0, v, x, hv, _ => ⟨[v], rfl, by simp, by simpa using ⟨x, hv⟩, by simp⟩
  | j + 1, v, x, hv, hj => by
    cases hb : aget T.2 v with
    | none => have := h.by0 v hb; omega
    | some e =>
      obtain ⟨a1, a2, x', y, b1, b2, b3, b4, b5⟩ := h.by1 v e hb
      obtain ⟨l, c1, c2, c3, c4⟩ := GI.chain h hs j e.1.2.1 y b2 (by omega)
      have hse := hs.2 e a1
      rw [a2] at hse
      have hlt : phi T s e.1.2.1 < phi T s v ∨ (phi T s e.1.2.1 = phi T s v ∧ tau e.1.2.1 < tau v) := by
        simp only [phi, b1, b2, Option.getD_some]
        by_cases h5 : x' = y + e.1.2.2
        · have := b4 h5; omega
        · omega
      have hall : ∀ u ∈ l, phi T s u < phi T s v ∨ (phi T s u = phi T s v ∧ tau u < tau v) := by
        intro u hu
        rcases c4 u hu with rfl | h6 | h6
        · exact hlt
        · omega
        · omega
      refine ⟨v :: l, by simp [c1], ?_, ?_, ?_⟩
      · rw [List.nodup_cons]
        refine ⟨fun hm => ?_, c2⟩
        have := hall v hm
        omega
      · intro u hu
        rcases List.mem_cons.1 hu with rfl | hu
        · exact ⟨x, hv⟩
        · exact c3 u hu
      · intro u hu
        rcases List.mem_cons.1 hu with rfl | hu
        · exact .inl rfl
        · exact .inr (hall u hu)
theorem nodup_le {α : Type} [DecidableEq α] : ∀ (l K : List α), l.Nodup → (∀ x ∈ l, x ∈ K) → l.length ≤ K.length
  | [], _, _, _ => by simp
  | x :: l, K, h, hK => by
    rw [List.nodup_cons] at h
    have := nodup_le l (K.erase x) h.2 (fun y hy => by
      have hne : y ≠ x := fun e => h.1 (e ▸ hy)
      exact (List.mem_erase_of_ne hne).2 (hK y (.tail _ hy)))
    have hx := hK x (.head _)
    have h2 := List.length_erase_of_mem hx
    have h3 := List.length_pos_of_mem hx
    simp only [List.length_cons]
    omega
theorem GI.inK {es : List Edge} {T : Tb} {lc tau : Node → Nat} {ck r : Nat} {done : List Edge} (h : GI es T lc tau ck r done) {K : List Node} (h0 : none ∈ K) (hK : ∀ e ∈ es, e.1.1 ∈ K) {v : Node} {x : Int} (hv : aget T.1 v = some x) : v ∈ K := by
  rcases h.key v x hv with rfl | ⟨e, he⟩
  · exact h0
  · obtain ⟨a1, a2, _⟩ := h.by1 v e he
    rw [← a2]; exact hK e a1
/-- with a solution the rounds come to rest -/
theorem rounds_rest {es : List Edge} {s : Node → Int} (hs : Sol es s) {K : List Node} (h0 : none ∈ K) (hK : ∀ e ∈ es, e.1.1 ∈ K) {R : Nat} (hR : K.length ≤ R) : (rounds es R T0 none).2 = none := by
  have hpos := List.length_pos_of_mem h0
  cases hc : (rounds es R T0 none).2 with
  | none => rfl
  | some c =>
    exfalso
    obtain ⟨lc, tau, ck, h1, h2⟩ := (GI.rounds R 0 T0 none _ _ 1 (GI.init es) (by omega)).1 c hc
    rw [Nat.zero_add] at h1 h2
    obtain ⟨x, hx⟩ : ∃ x, aget (rounds es R T0 none).1.1 c = some x := by
      cases hb : aget (rounds es R T0 none).1.2 c with
      | none => have := h1.by0 c hb; omega
      | some e => obtain ⟨_, _, x, _, b1, _⟩ := h1.by1 c e hb; exact ⟨x, b1⟩
    obtain ⟨l, c1, c2, c3, _⟩ := h1.chain hs R c x hx (by omega)
    have := nodup_le l K c2 (fun u hu => by obtain ⟨y, hy⟩ := c3 u hu; exact h1.inK h0 hK hy)
    omega
end SL

/-! GB: a story's walk, told by sums. -/
namespace SL
open PySem
def vec (n : Nat) (f : Nat → Int) : List Int := (List.range n).map f
def srv (s : List (List Int)) (l : Nat) : Nat → Int
  | 0 => 0
  | t + 1 => srv s l t + (s.getD t []).getD l 0
def isMin (n : Nat) (f : Nat → Int) (r : Int) : Prop := 0 ≤ r ∧ r < n ∧ ∀ j : Nat, j < n → f r.toNat + (if (j : Int) < r then 1 else 0) ≤ f j
theorem vec_len (n : Nat) (f : Nat → Int) : (vec n f).length = n := by simp [vec]
theorem vec_get {n : Nat} (f : Nat → Int) {i : Nat} (h : i < n) : (vec n f)[i]? = some (f i) := by simp [vec, h]
theorem vec_getD {n : Nat} (f : Nat → Int) {i : Nat} (h : i < n) : (vec n f).getD i 0 = f i := by simp [List.getD, vec_get f h]
theorem vec_ne {n : Nat} (hn : 0 < n) (f : Nat → Int) : vec n f ≠ [] := by
  intro h; have := congrArg List.length h; rw [vec_len] at this; simp at this; omega
theorem vec_mem {n : Nat} {f : Nat → Int} {x : Int} (h : x ∈ vec n f) : ∃ i, i < n ∧ f i = x := by
  simp only [vec, List.mem_map, List.mem_range] at h; exact h
theorem vec_congr {n : Nat} {f g : Nat → Int} (h : ∀ i, i < n → f i = g i) : vec n f = vec n g := by
  simp only [vec]
  exact List.map_congr_left fun i hi => h i (List.mem_range.1 hi)
theorem vec_of {n : Nat} (row : List Int) (h : row.length = n) : row = vec n fun i => row.getD i 0 := by
  apply List.ext_getElem?
  intro i
  by_cases hi : i < n
  · rw [vec_get _ hi]
    simp [List.getD, h, hi]
  · rw [List.getElem?_eq_none (by omega), List.getElem?_eq_none (by rw [vec_len]; omega)]
theorem minI_nonneg {n : Nat} (hn : 0 < n) (f : Nat → Int) : ¬ minI (vec n f) < 0 ↔ ∀ i, i < n → 0 ≤ f i := by
  obtain ⟨h1, h2⟩ := minI_mem (vec_ne hn f)
  constructor
  · intro h i hi
    have := h2 (f i) (List.mem_of_getElem? (vec_get f hi))
    omega
  · intro h
    obtain ⟨i, hi, e⟩ := vec_mem h1
    have := h i hi
    omega
theorem shortest_min {n : Nat} (hn : 0 < n) (f : Nat → Int) : isMin n f (shortest (vec n f)) := by
  obtain ⟨h1, h2⟩ := minI_mem (vec_ne hn f)
  unfold shortest
  have h3 := List.idxOf_lt_length_iff.2 h1
  have h4 := List.getElem_idxOf h3
  rw [vec_len] at h3
  have h5 : (vec n f)[(vec n f).idxOf (minI (vec n f))]? = some (minI (vec n f)) := by
    rw [List.getElem?_eq_getElem (by rw [vec_len]; exact h3), h4]
  rw [vec_get f h3] at h5
  have h6 : f ((vec n f).idxOf (minI (vec n f))) = minI (vec n f) := by injection h5
  refine ⟨by omega, by omega, ?_⟩
  intro j hj
  rw [Int.toNat_natCast, h6]
  have h7 := h2 (f j) (List.mem_of_getElem? (vec_get f hj))
  split
  · next hlt =>
    have hlt' : j < (vec n f).idxOf (minI (vec n f)) := by omega
    have h8 := List.not_of_lt_findIdx (p := fun x => x == minI (vec n f)) (xs := vec n f) (i := j) hlt'
    have h9 : (vec n f)[j]'(by rw [vec_len]; exact hj) = f j := by
      have := vec_get f hj
      rw [List.getElem?_eq_getElem (by rw [vec_len]; exact hj)] at this
      injection this
    simp only [h9] at h8
    have : f j ≠ minI (vec n f) := by simpa using h8
    omega
  · omega
theorem isMin_unique {n : Nat} {f : Nat → Int} {a b : Int} (ha : isMin n f a) (hb : isMin n f b) : a = b := by
  obtain ⟨a1, a2, a3⟩ := ha
  obtain ⟨b1, b2, b3⟩ := hb
  have h1 := a3 b.toNat (by omega)
  have h2 := b3 a.toNat (by omega)
  split at h1
  · split at h2 <;> omega
  · split at h2 <;> omega
theorem shortest_iff {n : Nat} (hn : 0 < n) (f : Nat → Int) (r : Int) : shortest (vec n f) = r ↔ isMin n f r :=
  ⟨fun h => h ▸ shortest_min hn f, fun h => isMin_unique (shortest_min hn f) h⟩
def cnt (t : Int) (rs : List (Int × Int)) (l : Int) : Int := (rs.filter fun r => decide (r.1 = t) && decide (r.2 = l)).length
theorem cnt_nil (t l : Int) : cnt t [] l = 0 := rfl
theorem cnt_cons (t : Int) (r : Int × Int) (rs : List (Int × Int)) (l : Int) : cnt t (r :: rs) l = (if r.1 = t ∧ r.2 = l then 1 else 0) + cnt t rs l := by
  by_cases h1 : r.1 = t <;> by_cases h2 : r.2 = l <;> simp [cnt, List.filter_cons, h1, h2]
  omega
def GoodTo (n : Nat) (t : Int) (rs : List (Int × Int)) (f : Nat → Int) : Prop := ∀ i r, rs[i]? = some r → r.1 = t → isMin n (fun l => f l + cnt t (rs.take i) l) r.2
theorem isMin_congr {n : Nat} {f g : Nat → Int} (h : ∀ i, i < n → f i = g i) {r : Int} (hm : isMin n f r) : isMin n g r := by
  obtain ⟨a1, a2, a3⟩ := hm
  refine ⟨a1, a2, fun j hj => ?_⟩
  rw [← h j hj, ← h r.toNat (by omega)]
  exact a3 j hj
theorem vec_set {n : Nat} (f : Nat → Int) (l : Nat) (hl : l < n) : (vec n f).set l (f l + 1) = vec n fun j => f j + if (j : Int) = (l : Int) then 1 else 0 := by
  apply List.ext_getElem?
  intro i
  by_cases hi : i < n
  · rw [vec_get _ hi, List.getElem?_set]
    by_cases h : l = i
    · subst h; simp [vec_len, hl]
    · rw [if_neg h, vec_get f hi, if_neg (by omega)]; simp
  · rw [List.getElem?_eq_none (by rw [List.length_set, vec_len]; omega), List.getElem?_eq_none (by rw [vec_len]; omega)]
theorem joinTo_vec {n : Nat} (hn : 0 < n) (t : Int) : ∀ (rs : List (Int × Int)) (f : Nat → Int),
    (GoodTo n t rs f → joinTo t rs (vec n f) = some (vec n fun l => f l + cnt t rs l)) ∧ (∀ now, joinTo t rs (vec n f) = some now → GoodTo n t rs f)
  | [], f => by
    refine ⟨fun _ => ?_, fun now _ => fun i r h => by simp at h⟩
    show some _ = some _
    congr 1
    exact vec_congr fun i _ => by simp [cnt_nil]
  | r :: rs, f => by
    rw [joinTo, List.foldlM_cons]
    by_cases h1 : r.1 = t
    · by_cases h2 : isMin n f r.2
      · have h3 := (shortest_iff hn f r.2).2 h2
        obtain ⟨l, hl⟩ : ∃ l : Nat, r.2 = l := ⟨r.2.toNat, by have := h2.1; omega⟩
        have hln : l < n := by have := h2.2.1; omega
        have hj : join1 t (vec n f) r = some (vec n fun j => f j + if (j : Int) = r.2 then 1 else 0) := by
          rw [join1, if_pos h1, if_pos h3, hl, Int.toNat_natCast, vec_getD f hln, vec_set f l hln]
        rw [hj]
        obtain ⟨ih1, ih2⟩ := joinTo_vec hn t rs fun j => f j + if (j : Int) = r.2 then 1 else 0
        have hst : ∀ i : Nat, ∀ l : Nat, (f l + if (l : Int) = r.2 then 1 else 0) + cnt t (rs.take i) l = f l + cnt t ((r :: rs).take (i + 1)) l := by
          intro i l
          rw [List.take_succ_cons, cnt_cons]
          by_cases h4 : r.2 = (l : Int)
          · simp only [h1, h4, and_self, if_true]; omega
          · have h5 : ¬ (l : Int) = r.2 := fun h => h4 h.symm
            simp only [h1, h4, h5, and_false, if_false]; omega
        refine ⟨fun hg => ?_, fun now hnow => ?_⟩
        · have := ih1 (fun i x hx hx1 => by
            have := hg (i + 1) x (by simpa using hx) hx1
            simp only [← hst i] at this
            exact this)
          refine this.trans ?_
          congr 1
          refine vec_congr fun i _ => ?_
          have := hst rs.length i
          rw [List.take_of_length_le (Nat.le_refl _), List.take_of_length_le (by simp)] at this
          exact this
        · have := ih2 now hnow
          intro i x hx hx1
          cases i with
          | zero =>
            simp only [List.getElem?_cons_zero, Option.some.injEq] at hx
            subst hx
            simp only [List.take_zero, cnt_nil, Int.add_zero]
            exact h2
          | succ i =>
            have := this i x (by simpa using hx) hx1
            simp only [hst i] at this
            exact this
      · have h3 : ¬ shortest (vec n f) = r.2 := fun h => h2 ((shortest_iff hn f r.2).1 h)
        have hj : join1 t (vec n f) r = none := by rw [join1, if_pos h1, if_neg h3]
        rw [hj]
        refine ⟨fun hg => ?_, fun now hnow => by cases hnow⟩
        have := hg 0 r rfl h1
        simp only [List.take_zero, cnt_nil, Int.add_zero] at this
        exact absurd this h2
    · have hj : join1 t (vec n f) r = some (vec n f) := by rw [join1, if_neg h1]
      rw [hj]
      obtain ⟨ih1, ih2⟩ := joinTo_vec hn t rs f
      have hst : ∀ i : Nat, ∀ l : Nat, f l + cnt t (rs.take i) l = f l + cnt t ((r :: rs).take (i + 1)) l := by
        intro i l
        rw [List.take_succ_cons, cnt_cons]
        simp only [h1, false_and, if_false]; omega
      refine ⟨fun hg => ?_, fun now hnow => ?_⟩
      · have := ih1 (fun i x hx hx1 => by
          have := hg (i + 1) x (by simpa using hx) hx1
          simp only [← hst i] at this
          exact this)
        refine this.trans ?_
        congr 1
        refine vec_congr fun i _ => ?_
        have := hst rs.length i
        rw [List.take_of_length_le (Nat.le_refl _), List.take_of_length_le (by simp)] at this
        exact this
      · have := ih2 now hnow
        intro i x hx hx1
        cases i with
        | zero =>
          simp only [List.getElem?_cons_zero, Option.some.injEq] at hx
          subst hx
          exact absurd hx1 h1
        | succ i =>
          have := this i x (by simpa using hx) hx1
          simp only [hst i] at this
          exact this
/-! ### counts -/
theorem jb_cons (r : Int × Int) (rs : List (Int × Int)) (l t : Int) : joinedBy (r :: rs) l t = (if r.2 = l ∧ r.1 ≤ t then 1 else 0) + joinedBy rs l t := by
  by_cases h1 : r.2 = l <;> by_cases h2 : r.1 ≤ t <;> simp [joinedBy, List.filter_cons, h1, h2]
  omega
theorem jb_next (l t : Int) : ∀ rs : List (Int × Int), joinedBy rs l (t - 1) + cnt t rs l = joinedBy rs l t
  | [] => rfl
  | r :: rs => by
    have ih := jb_next l t rs
    rw [jb_cons, jb_cons, cnt_cons]
    by_cases h1 : r.2 = l
    · by_cases h2 : r.1 = t
      · have h3 : ¬ r.1 ≤ t - 1 := by omega
        have h4 : r.1 ≤ t := by omega
        simp only [h1, h2, h3, h4, true_and, and_true, and_self, if_true, if_false]
        rw [if_neg (by omega), if_pos (by omega)]; omega
      · by_cases h3 : r.1 ≤ t
        · have h4 : r.1 ≤ t - 1 := by omega
          simp only [h1, h2, h3, h4, true_and, false_and, and_self, if_true, if_false]; omega
        · have h4 : ¬ r.1 ≤ t - 1 := by omega
          simp only [h1, h2, h3, h4, true_and, false_and, and_false, if_true, if_false]; omega
    · simp only [h1, false_and, and_false, if_false]; omega
theorem up_head : ∀ (x : Int × Int) (rs : List (Int × Int)), upT (x :: rs) = true → upT rs = true ∧ ∀ y ∈ rs, x.1 ≤ y.1
  | x, [], _ => ⟨rfl, by simp⟩
  | x, y :: rs, h => by
    have h1 : x.1 ≤ y.1 ∧ upT (y :: rs) = true := by
      simp only [upT, List.tail_cons, List.zip_cons_cons, List.all_cons, Bool.and_eq_true, decide_eq_true_eq] at h ⊢
      exact h
    obtain ⟨a, b⟩ := up_head y rs h1.2
    refine ⟨h1.2, fun z hz => ?_⟩
    rcases List.mem_cons.1 hz with rfl | hz
    · exact h1.1
    · have := b z hz; omega
theorem jb_late (l t : Int) : ∀ rs : List (Int × Int), (∀ r ∈ rs, t ≤ r.1) → joinedBy rs l (t - 1) = 0
  | [], _ => rfl
  | r :: rs, h => by
    have h1 := h r (.head _)
    rw [jb_cons, jb_late l t rs fun x hx => h x (.tail _ hx), if_neg (by omega)]; rfl
theorem ja_zero (rs : List (Int × Int)) (l : Int) : joinedAhead rs 0 l = 0 := rfl
theorem ja_succ (r : Int × Int) (rs : List (Int × Int)) (i : Nat) (l : Int) : joinedAhead (r :: rs) (i + 1) l = (if r.2 = l then 1 else 0) + joinedAhead rs i l := by
  by_cases h1 : r.2 = l <;> simp [joinedAhead, List.filter_cons, h1]
  omega
theorem ja_eq (l : Int) : ∀ (rs : List (Int × Int)) (i : Nat) (r : Int × Int), upT rs = true → rs[i]? = some r → joinedBy rs l (r.1 - 1) + cnt r.1 (rs.take i) l = joinedAhead rs i l
  | [], i, r, _, h => by simp at h
  | x :: rs, 0, r, hu, h => by
    simp only [List.getElem?_cons_zero, Option.some.injEq] at h
    subst h
    obtain ⟨a, b⟩ := up_head x rs hu
    rw [jb_late l x.1 (x :: rs) (fun y hy => by
      rcases List.mem_cons.1 hy with rfl | hy
      · omega
      · exact b y hy)]
    rfl
  | x :: rs, i + 1, r, hu, h => by
    obtain ⟨a, b⟩ := up_head x rs hu
    have h1 : rs[i]? = some r := by simpa using h
    have ih := ja_eq l rs i r a h1
    have h2 := b r (List.mem_of_getElem? h1)
    rw [jb_cons, List.take_succ_cons, cnt_cons, ja_succ, ← ih]
    by_cases h3 : x.2 = l
    · by_cases h4 : x.1 = r.1
      · rw [if_neg (by omega), if_pos ⟨h4, h3⟩, if_pos h3]; omega
      · rw [if_pos ⟨h3, by omega⟩, if_neg (fun h => h4 h.1), if_pos h3]; omega
    · rw [if_neg (fun h => h3 h.1), if_neg (fun h => h3 h.2), if_neg h3]; omega
/-! ### the walk -/
def lenF (rows : List (Int × Int)) (s : List (List Int)) (t : Nat) : Nat → Int := fun l => joinedBy rows l ((t : Int) - 1) - srv s l t
structure TickOk (n : Nat) (rows : List (Int × Int)) (s : List (List Int)) (t : Nat) : Prop where
  pos : ∀ l : Nat, l < n → 0 ≤ joinedBy rows l ((t : Int) - 1) - srv s l (t + 1)
  min : ∀ (i : Nat) (r : Int × Int), rows[i]? = some r → r.1 = (t : Int) → isMin n (fun l => joinedAhead rows i l - srv s l (t + 1)) r.2
theorem stepT_vec {n : Nat} (hn : 0 < n) (rows : List (Int × Int)) (hu : upT rows = true) (s : List (List Int)) (t : Nat) (hrow : (s.getD t []).length = n) :
    (TickOk n rows s t → stepT rows t (s.getD t []) (vec n (lenF rows s t)) = some (vec n (lenF rows s (t + 1)))) ∧ (∀ now, stepT rows t (s.getD t []) (vec n (lenF rows s t)) = some now → TickOk n rows s t) := by
  have hsub : subI (vec n (lenF rows s t)) (s.getD t []) = vec n fun l => joinedBy rows l ((t : Int) - 1) - srv s l (t + 1) := by
    conv => lhs; rw [vec_of _ hrow]
    simp only [subI, vec, List.zip_map', List.map_map]
    apply List.map_congr_left
    intro l hl
    simp only [Function.comp, lenF, srv]
    omega
  have hg : GoodTo n (t : Int) rows (fun l => joinedBy rows l ((t : Int) - 1) - srv s l (t + 1)) ↔ ∀ (i : Nat) (r : Int × Int), rows[i]? = some r → r.1 = (t : Int) → isMin n (fun l => joinedAhead rows i l - srv s l (t + 1)) r.2 := by
    have key : ∀ (i : Nat) (r : Int × Int), rows[i]? = some r → r.1 = (t : Int) → ∀ l : Nat, joinedBy rows l ((t : Int) - 1) - srv s l (t + 1) + cnt t (rows.take i) l = joinedAhead rows i l - srv s l (t + 1) := by
      intro i r h1 h2 l
      have := ja_eq l rows i r hu h1
      rw [h2] at this
      omega
    constructor
    · intro h i r h1 h2
      exact isMin_congr (fun l _ => key i r h1 h2 l) (h i r h1 h2)
    · intro h i r h1 h2
      exact isMin_congr (fun l _ => (key i r h1 h2 l).symm) (h i r h1 h2)
  obtain ⟨j1, j2⟩ := joinTo_vec hn (t : Int) rows fun l => joinedBy rows l ((t : Int) - 1) - srv s l (t + 1)
  rw [stepT, hsub]
  constructor
  · intro h
    rw [if_neg ((minI_nonneg hn _).2 h.pos), j1 (hg.2 h.min)]
    congr 1
    refine vec_congr fun l _ => ?_
    have := jb_next l t rows
    simp only [lenF]
    rw [show ((t + 1 : Nat) : Int) - 1 = (t : Int) by omega]
    omega
  · intro now h
    split at h
    · cases h
    · next hm => exact ⟨(minI_nonneg hn _).1 hm, hg.1 (j2 now h)⟩
def foundF (n : Nat) (rows : List (Int × Int)) (s : List (List Int)) (t : Nat) : List (List Int) := (List.range t).map fun i => vec n (lenF rows s (i + 1))
theorem fold_vec {n : Nat} (hn : 0 < n) (rows : List (Int × Int)) (hu : upT rows = true) (s : List (List Int)) (h0 : ∀ r ∈ rows, 0 ≤ r.1) : ∀ t : Nat, (∀ i, i < t → (s.getD i []).length = n) →
    ((∀ i, i < t → TickOk n rows s i) → (List.range t).foldlM (stepL rows s) (List.replicate n 0, []) = some (vec n (lenF rows s t), foundF n rows s t)) ∧
    (∀ st, (List.range t).foldlM (stepL rows s) (List.replicate n 0, []) = some st → ∀ i, i < t → TickOk n rows s i)
  | 0, _ => by
    refine ⟨fun _ => ?_, fun _ _ i hi => absurd hi (by omega)⟩
    have : List.replicate n (0 : Int) = vec n (lenF rows s 0) := by
      rw [vec_of (n := n) (List.replicate n 0) (by simp)]
      refine vec_congr fun l hl => ?_
      have := jb_late l 0 rows h0
      simp only [lenF, srv]
      rw [show ((0 : Nat) : Int) - 1 = 0 - 1 by omega, this]
      simp [List.getD, hl]
    rw [this]; rfl
  | t + 1, hw => by
    obtain ⟨ih1, ih2⟩ := fold_vec hn rows hu s h0 t fun i hi => hw i (by omega)
    obtain ⟨s1, s2⟩ := stepT_vec hn rows hu s t (hw t (by omega))
    rw [List.range_succ, List.foldlM_append]
    constructor
    · intro h
      rw [ih1 fun i hi => h i (by omega)]
      simp only [Option.bind_eq_bind, Option.bind_some, List.foldlM_cons, List.foldlM_nil, stepL, s1 (h t (by omega)), Option.map_some]
      show some _ = some _
      simp [foundF, List.range_succ]
    · intro st h
      cases hf : (List.range t).foldlM (stepL rows s) (List.replicate n 0, []) with
      | none => rw [hf] at h; cases h
      | some st1 =>
        have h1 := ih2 st1 hf
        rw [ih1 h1] at hf
        cases hf
        rw [ih1 h1] at h
        simp only [Option.bind_eq_bind, Option.bind_some, List.foldlM_cons, List.foldlM_nil, stepL] at h
        cases hs : stepT rows t (s.getD t []) (vec n (lenF rows s t)) with
        | none => rw [hs] at h; cases h
        | some now =>
          have h2 := s2 now hs
          intro i hi
          by_cases h3 : i < t
          · exact h1 i h3
          · rw [show i = t by omega]; exact h2
theorem lengths_iff {n m : Nat} (hn : 0 < n) {rows : List (Int × Int)} (hu : upT rows = true) (h0 : ∀ r ∈ rows, 0 ≤ r.1) {s : List (List Int)} (hs : s.length = m) (hw : ∀ row ∈ s, row.length = n) :
    ((∀ i, i < m → TickOk n rows s i) → lengthsOf n m rows s = some (foundF n rows s m)) ∧ (∀ found, lengthsOf n m rows s = some found → ∀ i, i < m → TickOk n rows s i) := by
  obtain ⟨a, b⟩ := fold_vec hn rows hu s h0 m fun i hi => hw _ (by simp [List.getD, hs, hi])
  unfold lengthsOf
  constructor
  · intro h; rw [a h]; rfl
  · intro found h
    cases hf : (List.range m).foldlM (stepL rows s) (List.replicate n 0, []) with
    | none => rw [hf] at h; cases h
    | some st => exact b st hf
end SL

/-! GC: a story is a solution of all facts. -/
namespace SL
open PySem
def sol (s : List (List Int)) : Node → Int
  | none => 0
  | some p => srv s p.1.toNat (p.2 + 1).toNat
theorem sol_none (s : List (List Int)) : sol s none = 0 := rfl
theorem sol_nd (s : List (List Int)) (l t : Int) : sol s (nd l t) = srv s l.toNat (t + 1).toNat := by
  unfold nd
  split
  · rw [show (t + 1).toNat = 0 by omega]; rfl
  · rfl
def edges (n m : Nat) (rows : List (Int × Int)) (ss : List (Int × Int × Int)) : List Edge := (allFacts n m rows ss).map fun f => (factOf rows ss f, f)
theorem allFacts_mem {n m : Nat} {rows : List (Int × Int)} {ss : List (Int × Int × Int)} {f : Fact} : f ∈ allFacts n m rows ss ↔
    (∃ l t : Nat, l < n ∧ t < m ∧ (f = .one l t ∨ f = .back l t ∨ f = .there l t)) ∨ (∃ (i : Nat) (r : Int × Int) (l : Nat), rows[i]? = some r ∧ l < n ∧ (l : Int) ≠ r.2 ∧ f = .joined i l) ∨ ∃ i, i < ss.length ∧ (f = .least i ∨ f = .most i) := by
  unfold allFacts facts0
  rw [List.mem_append, List.mem_append, or_assoc]
  refine or_congr ?_ (or_congr ?_ ?_)
  · simp only [List.mem_flatMap, List.mem_range, List.mem_cons, List.not_mem_nil, or_false]
    constructor
    · rintro ⟨l, hl, t, ht, h⟩; exact ⟨l, t, hl, ht, h⟩
    · rintro ⟨l, t, hl, ht, h⟩; exact ⟨l, hl, t, ht, h⟩
  · rw [List.mem_flatMap]
    constructor
    · rintro ⟨⟨r, i⟩, hp, h⟩
      rw [List.mem_zipIdx_iff_getElem?] at hp
      simp only [facts1, List.mem_map, List.mem_filter, List.mem_range] at h
      obtain ⟨l, ⟨hl, hl2⟩, rfl⟩ := h
      exact ⟨i, r, l, hp, hl, by simpa using hl2, rfl⟩
    · rintro ⟨i, r, l, hr, hl, hl2, rfl⟩
      refine ⟨(r, i), by rw [List.mem_zipIdx_iff_getElem?]; exact hr, ?_⟩
      simp only [facts1, List.mem_map, List.mem_filter, List.mem_range]
      exact ⟨l, ⟨hl, by simpa using hl2⟩, rfl⟩
  · simp only [List.mem_flatMap, List.mem_range, facts2, List.mem_cons, List.not_mem_nil, or_false]
structure RowsOk (n m : Nat) (rows : List (Int × Int)) : Prop where
  row : ∀ r ∈ rows, 0 ≤ r.1 ∧ r.1 < (m : Int) ∧ 0 ≤ r.2 ∧ r.2 < (n : Int)
  up : upT rows = true
structure SeenIn (n m : Nat) (ss : List (Int × Int × Int)) : Prop where
  one : ∀ x ∈ ss, 0 ≤ x.1 ∧ x.1 < (m : Int) ∧ 0 ≤ x.2.1 ∧ x.2.1 < (n : Int)
theorem srv_step {n m : Nat} {s : List (List Int)} (hs : s.length = m) (hw : ∀ row ∈ s, row.length = n ∧ bits row) (l t : Nat) (hl : l < n) (ht : t < m) : srv s l t ≤ srv s l (t + 1) ∧ srv s l (t + 1) ≤ srv s l t + 1 := by
  have h1 : s.getD t [] ∈ s := by simp [List.getD, hs, ht]
  obtain ⟨h2, h3⟩ := hw _ h1
  have h4 : (s.getD t []).getD l 0 ∈ s.getD t [] := by
    generalize s.getD t [] = row at *
    simp [List.getD, h2, hl]
  have := h3 _ h4
  simp only [srv]
  omega
theorem found_get (n m : Nat) (rows : List (Int × Int)) (s : List (List Int)) {t l : Int} (ht : 0 ≤ t ∧ t < m) (hl : 0 ≤ l ∧ l < n) : ((foundF n rows s m).getD t.toNat []).getD l.toNat 0 = joinedBy rows l t - srv s l.toNat (t + 1).toNat := by
  obtain ⟨t, rfl⟩ : ∃ i : Nat, t = i := ⟨t.toNat, by omega⟩
  obtain ⟨l, rfl⟩ : ∃ i : Nat, l = i := ⟨l.toNat, by omega⟩
  have h1 : t < m := by omega
  have h2 : l < n := by omega
  have e : (foundF n rows s m).getD t [] = vec n (lenF rows s (t + 1)) := by simp [foundF, List.getD, h1]
  have e2 : ((t : Int) + 1).toNat = t + 1 := by omega
  rw [Int.toNat_natCast, Int.toNat_natCast, e, vec_getD _ h2, e2]
  simp only [lenF]
  rw [show ((t + 1 : Nat) : Int) - 1 = (t : Int) by omega]
theorem edge_mem {n m : Nat} {rows : List (Int × Int)} {ss : List (Int × Int × Int)} {e : Edge} (h : e ∈ edges n m rows ss) : ∃ f, f ∈ allFacts n m rows ss ∧ e = (factOf rows ss f, f) := by
  unfold edges at h
  rw [List.mem_map] at h
  obtain ⟨f, h1, h2⟩ := h
  exact ⟨f, h1, h2.symm⟩
theorem story_sol {n m : Nat} (hn : 0 < n) {rows : List (Int × Int)} (hr : RowsOk n m rows) {ss : List (Int × Int × Int)} (hss : SeenIn n m ss) {s : List (List Int)} (hs : s.length = m) (hw : ∀ row ∈ s, row.length = n ∧ bits row) (h : storyOk n m rows ss s = true) : Sol (edges n m rows ss) (sol s) := by
  refine ⟨rfl, ?_⟩
  intro e he
  obtain ⟨f, hf, rfl⟩ := edge_mem he
  unfold storyOk at h
  cases hl : lengthsOf n m rows s with
  | none => rw [hl] at h; cases h
  | some found =>
    rw [hl] at h
    obtain ⟨a, b⟩ := lengths_iff hn hr.up (fun r hx => (hr.row r hx).1) hs (fun r hx => (hw r hx).1)
    have hT := b found hl
    rw [a hT] at hl
    cases hl
    have hseen : ∀ x ∈ ss, joinedBy rows x.2.1 x.1 - srv s x.2.1.toNat (x.1 + 1).toNat = x.2.2 := by
      intro x hx
      have h2 := hss.one x hx
      simp only [seenOk, List.all_eq_true, decide_eq_true_eq] at h
      have := h x hx
      rw [found_get n m rows s ⟨h2.1, h2.2.1⟩ h2.2.2] at this
      exact this
    rcases allFacts_mem.1 hf with ⟨l, t, h1, h2, h3⟩ | ⟨i, r, l, h1, h2, h3, rfl⟩ | ⟨i, h1, h3⟩
    · have hst := srv_step hs hw l t h1 h2
      have e1 : ((t : Int) + 1).toNat = t + 1 := by omega
      have e2 : ((t : Int) - 1 + 1).toNat = t := by omega
      rcases h3 with rfl | rfl | rfl
      · simp only [factOf, sol_nd, Int.toNat_natCast, e1, e2]; omega
      · simp only [factOf, sol_nd, Int.toNat_natCast, e1, e2]; omega
      · have := (hT t h2).pos l h1
        simp only [factOf, sol_nd, Int.toNat_natCast, e1, sol_none]; omega
    · have h4 := hr.row r (List.mem_of_getElem? h1)
      have e0 : rowAt rows i = r := by simp [rowAt, List.getD, h1]
      obtain ⟨t, ht⟩ : ∃ t : Nat, r.1 = t := ⟨r.1.toNat, by omega⟩
      obtain ⟨c, hc⟩ : ∃ c : Nat, r.2 = c := ⟨r.2.toNat, by omega⟩
      have h5 := ((hT t (by omega)).min i r h1 ht).2.2 l h2
      have e1 : ((t : Int) + 1).toNat = t + 1 := by omega
      simp only [hc, Int.toNat_natCast] at h5
      simp only [factOf, sol_nd, Int.toNat_natCast, e0, ht, hc, e1]
      omega
    · have e0 : ss[i]? = some ss[i] := List.getElem?_eq_getElem h1
      have e1 : sightAt ss i = ss[i] := by simp [sightAt, List.getD, e0]
      have h2 := hseen _ (List.mem_of_getElem? e0)
      rcases h3 with rfl | rfl
      · simp only [factOf, sol_nd, e1, sol_none]; omega
      · simp only [factOf, sol_nd, e1, sol_none]; omega
def grid (n m : Nat) : List Node := none :: (List.range n).flatMap fun l : Nat => (List.range m).map fun t : Nat => some ((l : Int), (t : Int))
theorem grid_len (n m : Nat) : (grid n m).length ≤ 2 + n * m := by
  have := flatMap_len (fun l : Nat => (List.range m).map fun t : Nat => (some ((l : Int), (t : Int)) : Node)) m (List.range n) (by simp)
  rw [List.length_range] at this
  simp only [grid, List.length_cons]
  omega
theorem nd_grid {n m : Nat} {l t : Int} (hl : 0 ≤ l ∧ l < n) (ht : t < m) : nd l t ∈ grid n m := by
  unfold nd grid
  split
  · exact List.mem_cons_self
  · refine List.mem_cons_of_mem _ ?_
    simp only [List.mem_flatMap, List.mem_map, List.mem_range]
    refine ⟨l.toNat, by omega, t.toNat, by omega, ?_⟩
    rw [show ((l.toNat : Nat) : Int) = l by omega, show ((t.toNat : Nat) : Int) = t by omega]
theorem edge_grid {n m : Nat} {rows : List (Int × Int)} (hr : RowsOk n m rows) {ss : List (Int × Int × Int)} (hss : SeenIn n m ss) : ∀ e ∈ edges n m rows ss, e.1.1 ∈ grid n m := by
  intro e he
  obtain ⟨f, hf, rfl⟩ := edge_mem he
  rcases allFacts_mem.1 hf with ⟨l, t, h1, h2, h3⟩ | ⟨i, r, l, h1, h2, h3, rfl⟩ | ⟨i, h1, h3⟩
  · rcases h3 with rfl | rfl | rfl
    · exact nd_grid (l := (l : Int)) (t := (t : Int)) (by omega) (by omega)
    · exact nd_grid (l := (l : Int)) (t := (t : Int) - 1) (by omega) (by omega)
    · exact nd_grid (l := (l : Int)) (t := (t : Int)) (by omega) (by omega)
  · have h4 := hr.row r (List.mem_of_getElem? h1)
    have e0 : rowAt rows i = r := by simp [rowAt, List.getD, h1]
    simp only [factOf, e0]
    exact nd_grid (by omega) (by omega)
  · have e0 : ss[i]? = some ss[i] := List.getElem?_eq_getElem h1
    have e1 : sightAt ss i = ss[i] := by simp [sightAt, List.getD, e0]
    have h2 := hss.one _ (List.mem_of_getElem? e0)
    rcases h3 with rfl | rfl
    · exact .head _
    · simp only [factOf, e1]
      exact nd_grid (by omega) (by omega)
/-- with a story the rounds come to rest -/
theorem story_rest {n m : Nat} (hn : 0 < n) {rows : List (Int × Int)} (hr : RowsOk n m rows) {ss : List (Int × Int × Int)} (hss : SeenIn n m ss) {s : List (List Int)} (hs : s.length = m) (hw : ∀ row ∈ s, row.length = n ∧ bits row) (h : storyOk n m rows ss s = true) : (rounds (edges n m rows ss) (2 + n * m) T0 none).2 = none :=
  rounds_rest (story_sol hn hr hss hs hw h) (.head _) (edge_grid hr hss) (grid_len n m)
end SL

/-! PQ: rounds walked. -/
namespace SL
open PySem
variable {Γ : Str → Option Fn}
def chD : Option Node → D
  | none => .non
  | some n => .tup [nodeD n]
theorem get_lt' {α : Type} {l : List α} {j : Nat} {x : α} (h : l[j]? = some x) : j < l.length := (List.getElem?_eq_some_iff.1 h).1
theorem tight_len (T : Tb) (e : Edge) : (tight T e).2.1.length ≤ T.1.length + 1 ∧ (tight T e).2.2.length ≤ T.2.length + 1 := by
  unfold tight
  cases aget T.1 e.1.2.1 with
  | none => simp
  | some x =>
    have h1 := aput_len e.1.1 (x + e.1.2.2) T.1
    have h2 := aput_len e.1.1 e T.2
    cases aget T.1 e.1.1 with
    | none => exact ⟨h1, h2⟩
    | some y =>
      by_cases h : y ≤ x + e.1.2.2
      · simp [h]
      · simp only [h, if_false]; exact ⟨h1, h2⟩
def fldsB (es : List Edge) (dm db : Nat) : List (Str × D) := [("steps", .lst (es.map edgeD)), ("most", .obj dm), ("by", .obj db)]
theorem fb_steps (es : List Edge) (dm db : Nat) : (fldsB es dm db).lookup ("steps" : Str) = some (.lst (es.map edgeD)) := by
  unfold fldsB; rw [List.lookup_cons]; simp
theorem fb_most (es : List Edge) (dm db : Nat) : (fldsB es dm db).lookup ("most" : Str) = some (.obj dm) := by
  have : (("most" : Str) == "steps") = false := by decide +kernel
  unfold fldsB; rw [List.lookup_cons, this]; simp
theorem fb_by (es : List Edge) (dm db : Nat) : (fldsB es dm db).lookup ("by" : Str) = some (.obj db) := by
  have h1 : (("by" : Str) == "steps") = false := by decide +kernel
  have h2 : (("by" : Str) == "most") = false := by decide +kernel
  unfold fldsB; rw [List.lookup_cons, h1, List.lookup_cons, h2]; simp
theorem fb_no (es : List Edge) (dm db : Nat) (m : Str) (h1 : (m == "steps") = false) (h2 : (m == "most") = false) (h3 : (m == "by") = false) : (fldsB es dm db).lookup m = none := by
  unfold fldsB; rw [List.lookup_cons, h1, List.lookup_cons, h2, List.lookup_cons, h3]; rfl
/-- an instance at work -/
structure Wrk (es : List Edge) (o dm db : Nat) (T : Tb) (S : Sto) : Prop where
  ins : S[o]? = some (.ins "Bounds" (fldsB es dm db))
  most : ∃ ep, S[dm]? = some (.dct ep (tabK .int T.1))
  by_ : ∃ ep, S[db]? = some (.dct ep (tabK edgeD T.2))
  d1 : o ≠ dm
  d2 : o ≠ db
  d3 : dm ≠ db
theorem Wrk.bnd {es : List Edge} {o dm db : Nat} {T : Tb} {S : Sto} (h : Wrk es o dm db T S) : Bnd o dm db T S := ⟨⟨_, h.ins, fb_most .., fb_by ..⟩, h.most, h.by_, h.d1, h.d2, h.d3⟩
theorem cls_o (S : Sto) (n : Nat) : clsD S (.obj n) = (match S[n]? with
    | some (.ins c _) => some c
    | _ => none) := rfl
theorem ev_pass_L (G : Std Γ) (k : Nat) (b sD : D) (v4 : Option D) (es : List Edge) (o dm db K : Nat) (S0 : Sto) (e : Edge)
    (Inv : Nat → Tb × Option Node → En → Sto → Prop) (hI : Inv = fun j st env S => Wrk es o dm db st.1 S ∧ st.1.1.length ≤ K + j ∧ st.1.2.length ≤ K + j ∧ (∃ v5, env = [some (.obj o), some b, some sD, some (chD st.2), v4, v5, none]) ∧ S.length = S0.length ∧ ∀ n, n ≠ dm → n ≠ db → S[n]? = S0[n]?)
    (j : Nat) (hK : K + j < 100000) (st : Tb × Option Node) (env : En) (S : Sto) (h : Inv j st env S) :
    ForTurn [] (asgT (.name 5)) (fun env S => exSs (callK Γ (k + 1)) b_Bounds_L0 env S) (edgeD e) env S (some (passT st e)) (Inv (j + 1)) (fun _ _ => False) := by
  subst hI
  obtain ⟨h1, h2, h3, ⟨v5, rfl⟩, h5, h6⟩ := h
  obtain ⟨T, ch⟩ := st
  obtain ⟨S', e1, e2, e3, e4⟩ := ev_tighten G k o dm db T e S h1.bnd (by simp only at h2; omega) (by simp only at h3; omega)
  have hW : Wrk es o dm db (tight T e).2 S' := ⟨by rw [e4 o h1.d1 h1.d2, h1.ins], e2.most, e2.by_, h1.d1, h1.d2, h1.d3⟩
  have hl := tight_len T e
  simp only at h2 h3
  have hno : (fldsB es dm db).lookup ("tighten" : Str) = none := fb_no es dm db _ (by decide +kernel) (by decide +kernel) (by decide +kernel)
  refine ⟨_, [some (.obj o), some b, some sD, some (chD (passT (T, ch) e).2), v4, some (edgeD e), none], S', rfl, ?_, rfl, hW, by simp only [passT]; omega, by simp only [passT]; omega, ⟨_, rfl⟩, by rw [e3, h5], fun n a1 a2 => by rw [e4 n a1 a2, h6 n a1 a2]⟩
  have hins := h1.ins
  obtain ⟨⟨one, other, many⟩, f⟩ := e
  simp only [edgeD] at e1
  cases ht : (tight T ((one, other, many), f)).1 with
  | true =>
    rw [ht] at e1
    simp -dsimp [↓toT, ↓toG, ↓toF, ↓toL, bndT_some, bndT_none, guT_true, ite_and, ite_or, fin_nx, fin_ret, exSs, exS, evE, evs, evO, evT, evI, bl_some, optInt, asgT, asgTs, startE, wipeE, List.map_cons, List.map_nil, List.length_cons, List.length_nil, List.replicate, List.cons_append, List.nil_append, List.append_nil, eq_ii, ne_ii, eq_ss, ne_ss, eq_bb, ne_bb, lt_ii, le_ii, gt_ii, ge_ii, add_ii, sub_ii, isi_i, isi_b, isi_n, isi_s, isi_t, isi_l, sub_t, sub_l, at0, at1, at2, at3, len_t, slice_t, cut1, cut_02, zipT_tail, zipT_map, forT_nil, forT_cons, forK_nx, forK_brk, forK_ret, len_l, walk_t, walk_l, walk_o, walkC_l, walkC_d, seq_t, seq_l, seq_o, lst_o, lst_l, srcOf_o, isi_o, sub_o, subC_l, subC_d, min_s, tup_s, list_s, len_s, index_s, omap_some, obind_some, srcOf_t, srcOf_l, srcOk_nil, mk_f, mk_t, int_b, int_i, b_Bounds_L0, edgeD, cls_o, fld_o, hins, hno, e1, passT, ht, chD]
  | false =>
    rw [ht] at e1
    simp -dsimp [↓toT, ↓toG, ↓toF, ↓toL, bndT_some, bndT_none, guT_true, ite_and, ite_or, fin_nx, fin_ret, exSs, exS, evE, evs, evO, evT, evI, bl_some, optInt, asgT, asgTs, startE, wipeE, List.map_cons, List.map_nil, List.length_cons, List.length_nil, List.replicate, List.cons_append, List.nil_append, List.append_nil, eq_ii, ne_ii, eq_ss, ne_ss, eq_bb, ne_bb, lt_ii, le_ii, gt_ii, ge_ii, add_ii, sub_ii, isi_i, isi_b, isi_n, isi_s, isi_t, isi_l, sub_t, sub_l, at0, at1, at2, at3, len_t, slice_t, cut1, cut_02, zipT_tail, zipT_map, forT_nil, forT_cons, forK_nx, forK_brk, forK_ret, len_l, walk_t, walk_l, walk_o, walkC_l, walkC_d, seq_t, seq_l, seq_o, lst_o, lst_l, srcOf_o, isi_o, sub_o, subC_l, subC_d, min_s, tup_s, list_s, len_s, index_s, omap_some, obind_some, srcOf_t, srcOf_l, srcOk_nil, mk_f, mk_t, int_b, int_i, b_Bounds_L0, edgeD, cls_o, fld_o, hins, hno, e1, passT, ht]
theorem foldlM_pass (es : List Edge) : ∀ st : Tb × Option Node, es.foldlM (fun st e => some (passT st e)) st = some (es.foldl passT st) := by
  induction es with
  | nil => intro st; rfl
  | cons e es ih => intro st; rw [List.foldlM_cons, List.foldl_cons, ← ih (passT st e)]; rfl
theorem ev_pass (G : Std Γ) (k : Nat) (b sD : D) (v4 v5 : Option D) (es : List Edge) (o dm db K : Nat) (S : Sto) (T : Tb) (hK : K + es.length < 100000) (h : Wrk es o dm db T S) (h1 : T.1.length ≤ K) (h2 : T.2.length ≤ K) :
    ∃ v5' S', forGo [] (asgT (.name 5)) (fun env S => exSs (callK Γ (k + 1)) b_Bounds_L0 env S) (es.map edgeD) [some (.obj o), some b, some sD, some .non, v4, v5, none] S = some (.nx, [some (.obj o), some b, some sD, some (chD (pass es T).2), v4, v5', none], S') ∧
      Wrk es o dm db (pass es T).1 S' ∧ (pass es T).1.1.length ≤ K + es.length ∧ (pass es T).1.2.length ≤ K + es.length ∧ S'.length = S.length ∧ ∀ n, n ≠ dm → n ≠ db → S'[n]? = S[n]? := by
  have hrun := for_run edgeD (src := []) (asg := asgT (.name 5)) (body := fun env S => exSs (callK Γ (k + 1)) b_Bounds_L0 env S) (fun st e => some (passT st e))
    (fun j st env S' => Wrk es o dm db st.1 S' ∧ st.1.1.length ≤ K + j ∧ st.1.2.length ≤ K + j ∧ (∃ v5, env = [some (.obj o), some b, some sD, some (chD st.2), v4, v5, none]) ∧ S'.length = S.length ∧ ∀ n, n ≠ dm → n ≠ db → S'[n]? = S[n]?)
    (fun _ _ => False) es (T, none) [some (.obj o), some b, some sD, some .non, v4, v5, none] S ⟨h, h1, h2, ⟨v5, rfl⟩, rfl, fun _ _ _ => rfl⟩
    (fun j e hj st env S' hI => by
      have := get_lt' hj
      exact ev_pass_L G k b sD v4 es o dm db K S e _ rfl j (by omega) st env S' hI)
  rw [foldlM_pass] at hrun
  obtain ⟨env', S', g1, g2, g3, g4, ⟨v5', rfl⟩, g5, g6⟩ := hrun
  exact ⟨v5', S', g1, g2, g3, g4, g5, g6⟩
theorem ev_round (G : Std Γ) (k : Nat) (b sD x3 i : D) (v5 : Option D) (es : List Edge) (o dm db K : Nat) (S : Sto) (T : Tb) (hK : K + es.length < 100000) (h : Wrk es o dm db T S) (h1 : T.1.length ≤ K) (h2 : T.2.length ≤ K) :
    ∃ v5' S', exSs (callK Γ (k + 1)) b_Bounds_L1 [some (.obj o), some b, some sD, some x3, some i, v5, none] S = some (if (pass es T).2.isNone then .brk else .nx, [some (.obj o), some b, some sD, some (chD (pass es T).2), some i, v5', none], S') ∧
      Wrk es o dm db (pass es T).1 S' ∧ (pass es T).1.1.length ≤ K + es.length ∧ (pass es T).1.2.length ≤ K + es.length ∧ S'.length = S.length ∧ ∀ n, n ≠ dm → n ≠ db → S'[n]? = S[n]? := by
  obtain ⟨v5', S', g1, g2⟩ := ev_pass G k b sD (some i) v5 es o dm db K S T hK h h1 h2
  refine ⟨v5', S', ?_, g2⟩
  have hins := h.ins
  have hst := fb_steps es dm db
  rw [toF] at g1
  cases hp : (pass es T).2 with
  | none => rw [hp] at g1; simp -dsimp [↓toT, ↓toG, ↓toF, ↓toL, bndT_some, bndT_none, guT_true, ite_and, ite_or, fin_nx, fin_ret, exSs, exS, evE, evs, evO, evT, evI, bl_some, optInt, asgT, asgTs, startE, wipeE, List.map_cons, List.map_nil, List.length_cons, List.length_nil, List.replicate, List.cons_append, List.nil_append, List.append_nil, eq_ii, ne_ii, eq_ss, ne_ss, eq_bb, ne_bb, lt_ii, le_ii, gt_ii, ge_ii, add_ii, sub_ii, isi_i, isi_b, isi_n, isi_s, isi_t, isi_l, sub_t, sub_l, at0, at1, at2, at3, len_t, slice_t, cut1, cut_02, zipT_tail, zipT_map, forT_nil, forT_cons, forK_nx, forK_brk, forK_ret, len_l, walk_t, walk_l, walk_o, walkC_l, walkC_d, seq_t, seq_l, seq_o, lst_o, lst_l, srcOf_o, isi_o, sub_o, subC_l, subC_d, min_s, tup_s, list_s, len_s, index_s, omap_some, obind_some, srcOf_t, srcOf_l, srcOk_nil, mk_f, mk_t, int_b, int_i, b_Bounds_L1, fld_o, hins, hst, g1, chD]
  | some c => rw [hp] at g1; simp -dsimp [↓toT, ↓toG, ↓toF, ↓toL, bndT_some, bndT_none, guT_true, ite_and, ite_or, fin_nx, fin_ret, exSs, exS, evE, evs, evO, evT, evI, bl_some, optInt, asgT, asgTs, startE, wipeE, List.map_cons, List.map_nil, List.length_cons, List.length_nil, List.replicate, List.cons_append, List.nil_append, List.append_nil, eq_ii, ne_ii, eq_ss, ne_ss, eq_bb, ne_bb, lt_ii, le_ii, gt_ii, ge_ii, add_ii, sub_ii, isi_i, isi_b, isi_n, isi_s, isi_t, isi_l, sub_t, sub_l, at0, at1, at2, at3, len_t, slice_t, cut1, cut_02, zipT_tail, zipT_map, forT_nil, forT_cons, forK_nx, forK_brk, forK_ret, len_l, walk_t, walk_l, walk_o, walkC_l, walkC_d, seq_t, seq_l, seq_o, lst_o, lst_l, srcOf_o, isi_o, sub_o, subC_l, subC_d, min_s, tup_s, list_s, len_s, index_s, omap_some, obind_some, srcOf_t, srcOf_l, srcOk_nil, mk_f, mk_t, int_b, int_i, b_Bounds_L1, fld_o, hins, hst, g1, chD]
theorem ev_rounds (G : Std Γ) (k : Nat) (b sD : D) {α : Type} (toD : α → D) (es : List Edge) (o dm db : Nat) : ∀ (xs : List α) (x3 : D) (v4 v5 : Option D) (K : Nat) (S : Sto) (T : Tb) (ch : Option Node), x3 = chD ch → K + xs.length * es.length < 100000 → Wrk es o dm db T S → T.1.length ≤ K → T.2.length ≤ K →
    ∃ v4' v5' S', forGo [] (asgT (.name 4)) (fun env S => exSs (callK Γ (k + 1)) b_Bounds_L1 env S) (xs.map toD) [some (.obj o), some b, some sD, some x3, v4, v5, none] S = some (.nx, [some (.obj o), some b, some sD, some (chD (rounds es xs.length T ch).2), v4', v5', none], S') ∧
      Wrk es o dm db (rounds es xs.length T ch).1 S' ∧ S'.length = S.length ∧ ∀ n, n ≠ dm → n ≠ db → S'[n]? = S[n]?
  | [], x3, v4, v5, K, S, T, ch, hx, hK, h, h1, h2 => ⟨v4, v5, S, by rw [hx]; rfl, h, rfl, fun _ _ _ => rfl⟩
  | x :: xs, x3, v4, v5, K, S, T, ch, hx, hK, h, h1, h2 => by
    have hK2 : K + es.length + xs.length * es.length < 100000 := by
      rw [List.length_cons, Nat.add_mul] at hK; omega
    obtain ⟨v5', S', g1, g2, g3, g4, g5, g6⟩ := ev_round G k b sD x3 (toD x) v5 es o dm db K S T (by omega) h h1 h2
    have ha : asgT (.name 4) (toD x) [some (.obj o), some b, some sD, some x3, v4, v5, none] = some [some (.obj o), some b, some sD, some x3, some (toD x), v5, none] := rfl
    rw [List.length_cons, rounds]
    cases hp : (pass es T).2 with
    | none =>
      rw [hp] at g1
      refine ⟨some (toD x), v5', S', ?_, g2, g5, g6⟩
      rw [List.map_cons, forGo_cons, ha, bnd_some, g1, bnd_some]
      rfl
    | some c =>
      rw [hp] at g1
      obtain ⟨v4', v5'', S'', e1, e2, e3, e4⟩ := ev_rounds G k b sD toD es o dm db xs (chD (some c)) (some (toD x)) v5' (K + es.length) S' (pass es T).1 (some c) rfl hK2 g2 g3 g4
      refine ⟨v4', v5'', S'', ?_, e2, by rw [e3, g5], fun n a1 a2 => by rw [e4 n a1 a2, g6 n a1 a2]⟩
      rw [List.map_cons, forGo_cons, ha, bnd_some, g1, bnd_some]
      exact e1
end SL

/-! PR: Bounds made. -/
namespace SL
open PySem
variable {Γ : Str → Option Fn}
theorem exSs_nx {C : Orc} {s : SS} {ss : SSs} {env env1 : En} {S S1 : Sto} (h : exS C s env S = some (.nx, env1, S1)) : exSs C (.cons s ss) env S = exSs C ss env1 S1 := by
  simp only [exSs, h, bnd_some]
theorem exSs_ret {C : Orc} {s : SS} {ss : SSs} {env env1 : En} {S S1 : Sto} {d : D} (h : exS C s env S = some (.ret d, env1, S1)) : exSs C (.cons s ss) env S = some (.ret d, env1, S1) := by
  simp only [exSs, h, bnd_some]
theorem allFacts_len {n m : Nat} (hn : n ≤ 4) (hm : m ≤ 31) {rows : List (Int × Int)} {ss : List (Int × Int × Int)} (hr : rows.length ≤ 20) (hs : ss.length ≤ 20) : (allFacts n m rows ss).length ≤ 500 := by
  have len0 : ∀ l : Nat, ((List.range m).flatMap fun t : Nat => [Fact.one l t, .back l t, .there l t]).length ≤ 93 := by
    intro l
    have := flatMap_len (fun t : Nat => [Fact.one l t, .back l t, .there l t]) 3 (List.range m) (by simp)
    rw [List.length_range] at this
    omega
  have L0 : (facts0 n m).length ≤ 372 := by
    have := flatMap_len (fun l : Nat => (List.range m).flatMap fun t : Nat => [Fact.one l t, .back l t, .there l t]) 93 (List.range n) (fun l _ => len0 l)
    rw [List.length_range] at this
    unfold facts0
    omega
  have L1 : (rows.zipIdx.flatMap (facts1 n)).length ≤ 80 := by
    have := flatMap_len (facts1 n) 4 rows.zipIdx (fun p _ => by have := facts1_len n p; omega)
    rw [List.length_zipIdx] at this
    omega
  have L2 : ((List.range ss.length).flatMap facts2).length ≤ 40 := by
    have := flatMap_len facts2 2 (List.range ss.length) (by simp [facts2])
    rw [List.length_range] at this
    omega
  unfold allFacts
  rw [List.length_append, List.length_append]
  omega
theorem fact_ok {n m : Nat} {rows : List (Int × Int)} {ss : List (Int × Int × Int)} {f : Fact} (h : f ∈ allFacts n m rows ss) : FactOk rows ss f := by
  rcases allFacts_mem.1 h with ⟨l, t, h1, h2, h3⟩ | ⟨i, r, l, h1, h2, h3, rfl⟩ | ⟨i, h1, h3⟩
  · rcases h3 with rfl | rfl | rfl <;> trivial
  · exact (List.getElem?_eq_some_iff.1 h1).1
  · rcases h3 with rfl | rfl <;> exact h1
theorem add_tt (al : Bool) (a b : List D) (S : Sto) : binD al .add (.tup a) (.tup b) S = if a.length + b.length ≤ 16777216 then some (.tup (a ++ b), S) else none := rfl
theorem setFld_o {S : Sto} {n : Nat} {c : Str} {fs : List (Str × D)} (h : S[n]? = some (.ins c fs)) (hl : fs.length < 900) (f : Str) (v : D) : setFldD (.obj n) f v S = some (S.set n (.ins c (putFD f v fs))) := by
  simp only [setFldD, h, decide_eq_true hl, guardB_true]
theorem put_steps (v : D) : putFD ("steps" : Str) v [] = [(("steps" : Str), v)] := rfl
theorem put_most (v w : D) : putFD ("most" : Str) w [(("steps" : Str), v)] = [(("steps" : Str), v), ("most", w)] := by
  have : ¬ ("steps" : Str) = "most" := by decide +kernel
  simp [putFD, this]
theorem put_by (u v w : D) : putFD ("by" : Str) w [(("steps" : Str), v), ("most", u)] = [(("steps" : Str), v), ("most", u), ("by", w)] := by
  have h1 : ¬ ("steps" : Str) = "by" := by decide +kernel
  have h2 : ¬ ("most" : Str) = "by" := by decide +kernel
  simp [putFD, h1, h2]
def fldsR (es : List Edge) (dm db : Nat) (w : D) : List (Str × D) := [("steps", .lst (es.map edgeD)), ("most", .obj dm), ("by", .obj db), ("ring", w)]
theorem fr_ring (es : List Edge) (dm db : Nat) (w : D) : (fldsR es dm db w).lookup ("ring" : Str) = some w := by
  have h1 : (("ring" : Str) == "steps") = false := by decide +kernel
  have h2 : (("ring" : Str) == "most") = false := by decide +kernel
  have h3 : (("ring" : Str) == "by") = false := by decide +kernel
  unfold fldsR; rw [List.lookup_cons, h1, List.lookup_cons, h2, List.lookup_cons, h3]; simp
theorem fr_most (es : List Edge) (dm db : Nat) (w : D) : (fldsR es dm db w).lookup ("most" : Str) = some (.obj dm) := by
  have h1 : (("most" : Str) == "steps") = false := by decide +kernel
  unfold fldsR; rw [List.lookup_cons, h1]; simp
theorem put_ring (es : List Edge) (dm db : Nat) (w : D) : putFD ("ring" : Str) w (fldsB es dm db) = fldsR es dm db w := by
  have h1 : ¬ ("steps" : Str) = "ring" := by decide +kernel
  have h2 : ¬ ("most" : Str) = "ring" := by decide +kernel
  have h3 : ¬ ("by" : Str) = "ring" := by decide +kernel
  simp [putFD, fldsB, fldsR, h1, h2, h3]
def b_init_1 : SS := .setFld (.var 0) "steps" (.lc false [6] (.of (.call "all_facts" (.cons (.var 1) (.cons (.var 2) .nil)))) (.name 6) .no b_Bounds_E0)
def b_init_2 : SS := .setFld (.var 0) "most" (.dct (.cons (.con .non) .nil) (.cons (.con (.int 0)) .nil))
def b_init_3 : SS := .setFld (.var 0) "by" (.dct .nil .nil)
def b_far : Ex := .bin false .add (.con (.int 2)) (.bin false .mul (.sub (.var 1) (.con (.int 0))) (.bin false .add (.sub (.var 1) (.con (.int 1))) (.con (.int 1))))
def b_init_5 : SS := .for_ (.name 4) (.range1 b_far) b_Bounds_L1
def b_init_6 : SS := .setFld (.var 0) "ring" (.ite (.isN false (.var 3)) (.con .non) (.meth (.var 0) "Bounds" "ring_from" (.cons (.sub (.var 3) (.con (.int 0))) (.cons b_far .nil))))
theorem b_init_eq : b_Bounds = .cons b_init_1 (.cons b_init_2 (.cons b_init_3 (.cons (.asg (.name 3) (.con .non)) (.cons b_init_5 (.cons b_init_6 .nil))))) := rfl
theorem ev_init_1 (G : Std Γ) (k n m : Nat) (N E : Int) (hN : N = n) (hE : E + 1 = m) (hn : n ≤ 4) (hm : m ≤ 31) (rows : List (Int × Int)) (ss : List (Int × Int × Int)) (hr : rows.length ≤ 20) (hs : ss.length ≤ 20) (S : Sto) (v3 v4 v5 v6 : Option D) :
    exS (callK Γ (k + 2)) b_init_1 [some (.obj S.length), some (bookD N E rows), some (sightsD ss), v3, v4, v5, v6] (S ++ [.ins "Bounds" []]) = some (.nx, [some (.obj S.length), some (bookD N E rows), some (sightsD ss), v3, v4, v5, v6], S ++ [.ins "Bounds" [(("steps" : Str), .lst ((edges n m rows ss).map edgeD))], fsC (allFacts n m rows ss)]) := by
  have hal := ev_all_facts G (k + 1) n m N E hN hE (by omega) (by omega) rows ss (by omega) (by omega) (S ++ [.ins "Bounds" []])
  have hlen := allFacts_len hn hm hr hs
  have hlc : lcT [(S.length + 1, fsC (allFacts n m rows ss))] (fun d => asgT (.name 6) d (wipeE [some (.obj S.length), some (bookD N E rows), some (sightsD ss), v3, v4, v5, v6] [6])) (fun env S => evT (callK Γ (k + 2)) .no env S) (fun env S => evE (callK Γ (k + 2)) b_Bounds_E0 env S) .mk .mk .mk ((allFacts n m rows ss).map factD) (S ++ [.ins "Bounds" [], fsC (allFacts n m rows ss)]) [] = some ((edges n m rows ss).map edgeD, S ++ [.ins "Bounds" [], fsC (allFacts n m rows ss)]) := by
    rw [lcT_all factD (fun f => edgeD (factOf rows ss f, f)) (allFacts n m rows ss) (by simp [srcOk]) (by simp; omega) (fun f hf => ⟨_, rfl, rfl, by
      have h1 := ev_fact_of G k N E rows ss (by omega) f (fact_ok hf)
      simp -dsimp [↓toT, ↓toG, ↓toF, ↓toL, bndT_some, bndT_none, guT_true, ite_and, ite_or, fin_nx, fin_ret, exSs, exS, evE, evs, evO, evT, evI, bl_some, optInt, asgT, asgTs, startE, wipeE, List.map_cons, List.map_nil, List.length_cons, List.length_nil, List.replicate, List.cons_append, List.nil_append, List.append_nil, eq_ii, ne_ii, eq_ss, ne_ss, eq_bb, ne_bb, lt_ii, le_ii, gt_ii, ge_ii, add_ii, sub_ii, isi_i, isi_b, isi_n, isi_s, isi_t, isi_l, sub_t, sub_l, at0, at1, at2, at3, len_t, slice_t, cut1, cut_02, zipT_tail, zipT_map, forT_nil, forT_cons, forK_nx, forK_brk, forK_ret, len_l, walk_t, walk_l, walk_o, walkC_l, walkC_d, seq_t, seq_l, seq_o, lst_o, lst_l, srcOf_o, isi_o, sub_o, subC_l, subC_d, min_s, tup_s, list_s, len_s, index_s, omap_some, obind_some, srcOf_t, srcOf_l, srcOk_nil, mk_f, mk_t, int_b, int_i, book_0, book_1, book_2, ↓book_t, book_q, book_i, sights_w, sights_s, sights_q, story_w, story_s, story_q, story_i, b_Bounds_E0, h1, stepD, add_tt, edgeD]⟩)]
    simp [edges]
  have e1 : (S ++ [Cell.ins "Bounds" [], fsC (allFacts n m rows ss)])[S.length + 1]? = some (.lst ((allFacts n m rows ss).map factD)) := by simp [fsC]
  have e2 : (S ++ [Cell.ins "Bounds" [], fsC (allFacts n m rows ss)])[S.length]? = some (.ins "Bounds" []) := by simp
  have e3 := setFld_o e2 (by simp) "steps" (.lst ((edges n m rows ss).map edgeD))
  rw [put_steps] at e3
  simp only [List.append_assoc, List.singleton_append, List.length_append, List.length_cons, List.length_nil] at hal
  rw [fsC] at hlc hal e1 e2 e3
  simp -dsimp [↓toT, ↓toG, ↓toF, ↓toL, bndT_some, bndT_none, guT_true, ite_and, ite_or, fin_nx, fin_ret, exSs, exS, evE, evs, evO, evT, evI, bl_some, optInt, asgT, asgTs, startE, wipeE, List.map_cons, List.map_nil, List.length_cons, List.length_nil, List.replicate, List.cons_append, List.nil_append, List.append_nil, eq_ii, ne_ii, eq_ss, ne_ss, eq_bb, ne_bb, lt_ii, le_ii, gt_ii, ge_ii, add_ii, sub_ii, isi_i, isi_b, isi_n, isi_s, isi_t, isi_l, sub_t, sub_l, at0, at1, at2, at3, len_t, slice_t, cut1, cut_02, zipT_tail, zipT_map, forT_nil, forT_cons, forK_nx, forK_brk, forK_ret, len_l, walk_t, walk_l, walk_o, walkC_l, walkC_d, seq_t, seq_l, seq_o, lst_o, lst_l, srcOf_o, isi_o, sub_o, subC_l, subC_d, min_s, tup_s, list_s, len_s, index_s, omap_some, obind_some, srcOf_t, srcOf_l, srcOk_nil, mk_f, mk_t, int_b, int_i, book_0, book_1, book_2, ↓book_t, book_q, book_i, sights_w, sights_s, sights_q, story_w, story_s, story_q, story_i, b_init_1, hal, e1, fsC, hlc, e3]
theorem ev_init_2 (C : Orc) (S : Sto) (b sD st : D) (c : Cell) (v3 v4 v5 v6 : Option D) : exS C b_init_2 [some (.obj S.length), some b, some sD, v3, v4, v5, v6] (S ++ [.ins "Bounds" [(("steps" : Str), st)], c]) =
    some (.nx, [some (.obj S.length), some b, some sD, v3, v4, v5, v6], S ++ [.ins "Bounds" [(("steps" : Str), st), ("most", .obj (S.length + 2))], c, .dct 1 (tabK .int T0.1)]) := by
  have e2 : (S ++ [Cell.ins "Bounds" [(("steps" : Str), st)], c, .dct 1 (tabK .int T0.1)])[S.length]? = some (.ins "Bounds" [(("steps" : Str), st)]) := by simp
  have e3 := setFld_o e2 (by simp) "most" (.obj (S.length + 2))
  have e4 : dctOf [.non] [.int 0] = some (tabK .int T0.1) := rfl
  have e5 : (tabK D.int T0.1).length = 1 := rfl
  rw [put_most] at e3
  simp -dsimp [↓toT, ↓toG, ↓toF, ↓toL, bndT_some, bndT_none, guT_true, ite_and, ite_or, fin_nx, fin_ret, exSs, exS, evE, evs, evO, evT, evI, bl_some, optInt, asgT, asgTs, startE, wipeE, List.map_cons, List.map_nil, List.length_cons, List.length_nil, List.replicate, List.cons_append, List.nil_append, List.append_nil, eq_ii, ne_ii, eq_ss, ne_ss, eq_bb, ne_bb, lt_ii, le_ii, gt_ii, ge_ii, add_ii, sub_ii, isi_i, isi_b, isi_n, isi_s, isi_t, isi_l, sub_t, sub_l, at0, at1, at2, at3, len_t, slice_t, cut1, cut_02, zipT_tail, zipT_map, forT_nil, forT_cons, forK_nx, forK_brk, forK_ret, len_l, walk_t, walk_l, walk_o, walkC_l, walkC_d, seq_t, seq_l, seq_o, lst_o, lst_l, srcOf_o, isi_o, sub_o, subC_l, subC_d, min_s, tup_s, list_s, len_s, index_s, omap_some, obind_some, srcOf_t, srcOf_l, srcOk_nil, mk_f, mk_t, int_b, int_i, b_init_2, e4, e5, e3]
theorem ev_init_3 (C : Orc) (S : Sto) (b sD st : D) (c d : Cell) (v3 v4 v5 v6 : Option D) : exS C b_init_3 [some (.obj S.length), some b, some sD, v3, v4, v5, v6] (S ++ [.ins "Bounds" [(("steps" : Str), st), ("most", .obj (S.length + 2))], c, d]) =
    some (.nx, [some (.obj S.length), some b, some sD, v3, v4, v5, v6], S ++ [.ins "Bounds" [(("steps" : Str), st), ("most", .obj (S.length + 2)), ("by", .obj (S.length + 3))], c, d, .dct 0 []]) := by
  have e2 : (S ++ [Cell.ins "Bounds" [(("steps" : Str), st), ("most", .obj (S.length + 2))], c, d, .dct 0 []])[S.length]? = some (.ins "Bounds" [(("steps" : Str), st), ("most", .obj (S.length + 2))]) := by simp
  have e3 := setFld_o e2 (by simp) "by" (.obj (S.length + 3))
  have e4 : dctOf [] [] = some [] := rfl
  rw [put_by] at e3
  simp -dsimp [↓toT, ↓toG, ↓toF, ↓toL, bndT_some, bndT_none, guT_true, ite_and, ite_or, fin_nx, fin_ret, exSs, exS, evE, evs, evO, evT, evI, bl_some, optInt, asgT, asgTs, startE, wipeE, List.map_cons, List.map_nil, List.length_cons, List.length_nil, List.replicate, List.cons_append, List.nil_append, List.append_nil, eq_ii, ne_ii, eq_ss, ne_ss, eq_bb, ne_bb, lt_ii, le_ii, gt_ii, ge_ii, add_ii, sub_ii, isi_i, isi_b, isi_n, isi_s, isi_t, isi_l, sub_t, sub_l, at0, at1, at2, at3, len_t, slice_t, cut1, cut_02, zipT_tail, zipT_map, forT_nil, forT_cons, forK_nx, forK_brk, forK_ret, len_l, walk_t, walk_l, walk_o, walkC_l, walkC_d, seq_t, seq_l, seq_o, lst_o, lst_l, srcOf_o, isi_o, sub_o, subC_l, subC_d, min_s, tup_s, list_s, len_s, index_s, omap_some, obind_some, srcOf_t, srcOf_l, srcOk_nil, mk_f, mk_t, int_b, int_i, b_init_3, e4, e3]
theorem ev_far (C : Orc) (n m : Nat) (N E : Int) (hN : N = n) (hE : E + 1 = m) (hn : n ≤ 4) (rows : List (Int × Int)) (x0 : Option D) (r : List (Option D)) (S : Sto) : evE C b_far (x0 :: some (bookD N E rows) :: r) S = some (.int ((2 + n * m : Nat) : Int), S) := by
  have h1 : ∀ S', binD false .mul (.int N) (.int (E + 1)) S' = some (.int (N * (E + 1)), S') := fun S' => mul_ok (.inl ⟨by omega, by omega⟩)
  have h2 : (2 : Int) + N * (E + 1) = ((2 + n * m : Nat) : Int) := by rw [hN, hE]; simp
  rw [← h2]
  simp -dsimp [↓toT, ↓toG, ↓toF, ↓toL, bndT_some, bndT_none, guT_true, ite_and, ite_or, fin_nx, fin_ret, exSs, exS, evE, evs, evO, evT, evI, bl_some, optInt, asgT, asgTs, startE, wipeE, List.map_cons, List.map_nil, List.length_cons, List.length_nil, List.replicate, List.cons_append, List.nil_append, List.append_nil, eq_ii, ne_ii, eq_ss, ne_ss, eq_bb, ne_bb, lt_ii, le_ii, gt_ii, ge_ii, add_ii, sub_ii, isi_i, isi_b, isi_n, isi_s, isi_t, isi_l, sub_t, sub_l, at0, at1, at2, at3, len_t, slice_t, cut1, cut_02, zipT_tail, zipT_map, forT_nil, forT_cons, forK_nx, forK_brk, forK_ret, len_l, walk_t, walk_l, walk_o, walkC_l, walkC_d, seq_t, seq_l, seq_o, lst_o, lst_l, srcOf_o, isi_o, sub_o, subC_l, subC_d, min_s, tup_s, list_s, len_s, index_s, omap_some, obind_some, srcOf_t, srcOf_l, srcOk_nil, mk_f, mk_t, int_b, int_i, book_0, book_1, book_2, ↓book_t, book_q, book_i, sights_w, sights_s, sights_q, story_w, story_s, story_q, story_i, b_far, h1]
theorem ev_init_5 (G : Std Γ) (k n m : Nat) (N E : Int) (hN : N = n) (hE : E + 1 = m) (hn : n ≤ 4) (hm : m ≤ 31) (rows : List (Int × Int)) (sD : D) (es : List Edge) (hes : es.length ≤ 500) (S : Sto) (c : Cell) (v6 : Option D) :
    ∃ v4 v5 S', exS (callK Γ (k + 1)) b_init_5 [some (.obj S.length), some (bookD N E rows), some sD, some .non, none, none, none] (S ++ [.ins "Bounds" (fldsB es (S.length + 2) (S.length + 3)), c, .dct 1 (tabK .int T0.1), .dct 0 []]) =
      some (.nx, [some (.obj S.length), some (bookD N E rows), some sD, some (chD (rounds es (2 + n * m) T0 none).2), v4, v5, none], S') ∧ Wrk es S.length (S.length + 2) (S.length + 3) (rounds es (2 + n * m) T0 none).1 S' ∧ S <+: S' ∧ S'.length = S.length + 4 := by
  have hnm : n * m ≤ 124 := Nat.mul_le_mul hn hm
  have hR : (2 + n * m) * es.length ≤ 126 * 500 := Nat.mul_le_mul (by omega) hes
  have hW : Wrk es S.length (S.length + 2) (S.length + 3) T0 (S ++ [.ins "Bounds" (fldsB es (S.length + 2) (S.length + 3)), c, .dct 1 (tabK .int T0.1), .dct 0 []]) :=
    ⟨by simp, ⟨1, by simp⟩, ⟨0, by simp [T0, tabK]⟩, by omega, by omega, by omega⟩
  obtain ⟨v4, v5, S', h1, h2, h3, h4⟩ := ev_rounds G k (bookD N E rows) sD (fun i : Nat => D.int (i : Int)) es S.length (S.length + 2) (S.length + 3) (List.range (2 + n * m)) .non none none 1 _ T0 none rfl (by rw [List.length_range]; omega) hW (by simp [T0]) (by simp [T0])
  rw [List.length_range] at h1 h2
  refine ⟨v4, v5, S', ?_, h2, ?_, by rw [h3]; simp⟩
  · have hf := ev_far (callK Γ (k + 1)) n m N E hN hE hn rows (some (.obj S.length)) [some sD, some .non, none, none, none]
    have hg := rng1_i (2 + n * m) (by omega)
    rw [toF] at h1
    generalize (2 + n * m) = R at *
    clear hN hE hR hnm
    generalize hRi : ((R : Nat) : Int) = Ri at hf hg
    simp -dsimp [↓toT, ↓toG, ↓toF, ↓toL, bndT_some, bndT_none, guT_true, ite_and, ite_or, fin_nx, fin_ret, exSs, exS, evE, evs, evO, evT, evI, bl_some, optInt, asgT, asgTs, startE, wipeE, List.map_cons, List.map_nil, List.length_cons, List.length_nil, List.replicate, List.cons_append, List.nil_append, List.append_nil, eq_ii, ne_ii, eq_ss, ne_ss, eq_bb, ne_bb, lt_ii, le_ii, gt_ii, ge_ii, add_ii, sub_ii, isi_i, isi_b, isi_n, isi_s, isi_t, isi_l, sub_t, sub_l, at0, at1, at2, at3, len_t, slice_t, cut1, cut_02, zipT_tail, zipT_map, forT_nil, forT_cons, forK_nx, forK_brk, forK_ret, len_l, walk_t, walk_l, walk_o, walkC_l, walkC_d, seq_t, seq_l, seq_o, lst_o, lst_l, srcOf_o, isi_o, sub_o, subC_l, subC_d, min_s, tup_s, list_s, len_s, index_s, omap_some, obind_some, srcOf_t, srcOf_l, srcOk_nil, mk_f, mk_t, int_b, int_i, book_0, book_1, book_2, ↓book_t, book_q, book_i, sights_w, sights_s, sights_q, story_w, story_s, story_q, story_i, b_init_5, hf, hg, h1]
  · rw [List.prefix_iff_eq_take]
    apply List.ext_getElem?
    intro i
    by_cases hi : i < S.length
    · rw [List.getElem?_take_of_lt hi, h4 i (by omega) (by omega), List.getElem?_append_left hi]
    · rw [List.getElem?_eq_none (by omega), List.getElem?_eq_none (by rw [List.length_take]; omega)]
theorem ev_init_6 (C : Orc) (b sD : D) (es : List Edge) (o dm db : Nat) (T : Tb) (S : Sto) (h : Wrk es o dm db T S) (v4 v5 v6 : Option D) :
    exS C b_init_6 [some (.obj o), some b, some sD, some .non, v4, v5, v6] S = some (.nx, [some (.obj o), some b, some sD, some .non, v4, v5, v6], S.set o (.ins "Bounds" (fldsR es dm db .non))) := by
  have e3 := setFld_o h.ins (by simp [fldsB]) "ring" .non
  rw [put_ring] at e3
  simp -dsimp [↓toT, ↓toG, ↓toF, ↓toL, bndT_some, bndT_none, guT_true, ite_and, ite_or, fin_nx, fin_ret, exSs, exS, evE, evs, evO, evT, evI, bl_some, optInt, asgT, asgTs, startE, wipeE, List.map_cons, List.map_nil, List.length_cons, List.length_nil, List.replicate, List.cons_append, List.nil_append, List.append_nil, eq_ii, ne_ii, eq_ss, ne_ss, eq_bb, ne_bb, lt_ii, le_ii, gt_ii, ge_ii, add_ii, sub_ii, isi_i, isi_b, isi_n, isi_s, isi_t, isi_l, sub_t, sub_l, at0, at1, at2, at3, len_t, slice_t, cut1, cut_02, zipT_tail, zipT_map, forT_nil, forT_cons, forK_nx, forK_brk, forK_ret, len_l, walk_t, walk_l, walk_o, walkC_l, walkC_d, seq_t, seq_l, seq_o, lst_o, lst_l, srcOf_o, isi_o, sub_o, subC_l, subC_d, min_s, tup_s, list_s, len_s, index_s, omap_some, obind_some, srcOf_t, srcOf_l, srcOk_nil, mk_f, mk_t, int_b, int_i, b_init_6, e3]
theorem ev_init (G : Std Γ) (k n m : Nat) (N E : Int) (hN : N = n) (hE : E + 1 = m) (hn : n ≤ 4) (hm : m ≤ 31) (rows : List (Int × Int)) (ss : List (Int × Int × Int)) (hr : rows.length ≤ 20) (hs : ss.length ≤ 20) (S : Sto) (hrest : (rounds (edges n m rows ss) (2 + n * m) T0 none).2 = none) :
    ∃ S' ep, callK Γ (k + 3) "Bounds" [.obj S.length, bookD N E rows, sightsD ss] (S ++ [.ins "Bounds" []]) = some (.non, S') ∧ S <+: S' ∧ S'[S.length]? = some (.ins "Bounds" (fldsR (edges n m rows ss) (S.length + 2) (S.length + 3) .non)) ∧
      S'[S.length + 2]? = some (.dct ep (tabK .int (rounds (edges n m rows ss) (2 + n * m) T0 none).1.1)) := by
  have hlen : (edges n m rows ss).length ≤ 500 := by rw [edges, List.length_map]; exact allFacts_len hn hm hr hs
  obtain ⟨v4, v5, S', h1, h2, h3, h4⟩ := ev_init_5 G (k + 1) n m N E hN hE hn hm rows (sightsD ss) (edges n m rows ss) hlen S (fsC (allFacts n m rows ss)) none
  obtain ⟨ep, h5⟩ := h2.most
  refine ⟨S'.set S.length (.ins "Bounds" (fldsR (edges n m rows ss) (S.length + 2) (S.length + 3) .non)), ep, ?_, pre_set _ h3 (by omega), ?_, ?_⟩
  · rw [hrest] at h1
    have ea : exS (callK Γ (k + 2)) (.asg (.name 3) (.con .non)) [some (.obj S.length), some (bookD N E rows), some (sightsD ss), none, none, none, none] (S ++ [.ins "Bounds" (fldsB (edges n m rows ss) (S.length + 2) (S.length + 3)), fsC (allFacts n m rows ss), .dct 1 (tabK .int T0.1), .dct 0 []]) = some (.nx, [some (.obj S.length), some (bookD N E rows), some (sightsD ss), some .non, none, none, none], S ++ [.ins "Bounds" (fldsB (edges n m rows ss) (S.length + 2) (S.length + 3)), fsC (allFacts n m rows ss), .dct 1 (tabK .int T0.1), .dct 0 []]) := rfl
    have e6 := ev_init_6 (callK Γ (k + 2)) (bookD N E rows) (sightsD ss) _ _ _ _ _ S' h2 v4 v5 none
    have es := ev_init_1 G k n m N E hN hE hn hm rows ss hr hs S none none none none
    have et := ev_init_2 (callK Γ (k + 2)) S (bookD N E rows) (sightsD ss) (.lst ((edges n m rows ss).map edgeD)) (fsC (allFacts n m rows ss)) none none none none
    have eu := ev_init_3 (callK Γ (k + 2)) S (bookD N E rows) (sightsD ss) (.lst ((edges n m rows ss).map edgeD)) (fsC (allFacts n m rows ss)) (.dct 1 (tabK .int T0.1)) none none none none
    have est : startE 7 [.obj S.length, bookD N E rows, sightsD ss] = [some (.obj S.length), some (bookD N E rows), some (sightsD ss), none, none, none, none] := rfl
    rw [call_step G.h_Bounds, b_init_eq, est]
    change exS (callK Γ (k + 2)) b_init_3 _ _ = some (.nx, _, S ++ [.ins "Bounds" (fldsB (edges n m rows ss) (S.length + 2) (S.length + 3)), _, _, _]) at eu
    rw [exSs_nx es, exSs_nx et, exSs_nx eu, exSs_nx ea, exSs_nx h1]
    change exS (callK Γ (k + 2)) b_init_6 [some (.obj S.length), some (bookD N E rows), some (sightsD ss), some (chD none), v4, v5, none] S' = _ at e6
    rw [exSs_nx e6]
    rfl
  · rw [List.getElem?_set_self (by omega)]
  · rw [List.getElem?_set_ne (by omega), h5]
end SL

/-! PS: can_be; what is the same; things of any kind. -/
namespace SL
open PySem
variable {Γ : Str → Option Fn}
theorem ev_can_be (G : Std Γ) (k n m : Nat) (N E : Int) (hN : N = n) (hE : E + 1 = m) (rows : List (Int × Int)) (ss : List (Int × Int × Int)) (hB : BookOk N E rows) (hS : SightsOk N E ss) (S : Sto) (hrest : (rounds (edges n m rows ss) (2 + n * m) T0 none).2 = none) :
    ∃ S', callK Γ (k + 7) "can_be" [bookD N E rows, sightsD ss] S = some (.bl true, S') ∧ S <+: S' := by
  have h1 := hB.L4
  have h2 := hB.E30
  have h3 := hB.few
  have h4 := hS.few
  obtain ⟨S', ep, e1, e2, e3, e4⟩ := ev_init G (k + 3) n m N E hN hE (by omega) (by omega) rows ss (by omega) (by omega) S hrest
  have hlk := ev_look_at G k S hB hS
  have hr := fr_ring (edges n m rows ss) (S.length + 2) (S.length + 3) .non
  refine ⟨S', ?_, e2⟩
  rw [call_step G.h_can_be]
  clear hN hE
  simp -dsimp [↓toT, ↓toG, ↓toF, ↓toL, bndT_some, bndT_none, guT_true, ite_and, ite_or, fin_nx, fin_ret, exSs, exS, evE, evs, evO, evT, evI, bl_some, optInt, asgT, asgTs, startE, wipeE, List.map_cons, List.map_nil, List.length_cons, List.length_nil, List.replicate, List.cons_append, List.nil_append, List.append_nil, eq_ii, ne_ii, eq_ss, ne_ss, eq_bb, ne_bb, lt_ii, le_ii, gt_ii, ge_ii, add_ii, sub_ii, isi_i, isi_b, isi_n, isi_s, isi_t, isi_l, sub_t, sub_l, at0, at1, at2, at3, len_t, slice_t, cut1, cut_02, zipT_tail, zipT_map, forT_nil, forT_cons, forK_nx, forK_brk, forK_ret, len_l, walk_t, walk_l, walk_o, walkC_l, walkC_d, seq_t, seq_l, seq_o, lst_o, lst_l, srcOf_o, isi_o, sub_o, subC_l, subC_d, min_s, tup_s, list_s, len_s, index_s, omap_some, obind_some, srcOf_t, srcOf_l, srcOk_nil, mk_f, mk_t, int_b, int_i, book_0, book_1, book_2, ↓book_t, book_q, book_i, sights_w, sights_s, sights_q, story_w, story_s, story_q, story_i, b_can_be, hlk, e1, fld_o, e3, hr]
theorem ev_same_b (G : Std Γ) (k : Nat) (a b : Bool) (S : Sto) : callK Γ (k + 1) "_law_same" [.bl a, .bl b] S = some (.bl (decide (a = b)), S) := by
  rw [call_step G.h__law_same]
  simp -dsimp [↓toT, ↓toG, ↓toF, ↓toL, bndT_some, bndT_none, guT_true, ite_and, ite_or, fin_nx, fin_ret, exSs, exS, evE, evs, evO, evT, evI, bl_some, optInt, asgT, asgTs, startE, wipeE, List.map_cons, List.map_nil, List.length_cons, List.length_nil, List.replicate, List.cons_append, List.nil_append, List.append_nil, eq_ii, ne_ii, eq_ss, ne_ss, eq_bb, ne_bb, lt_ii, le_ii, gt_ii, ge_ii, add_ii, sub_ii, isi_i, isi_b, isi_n, isi_s, isi_t, isi_l, sub_t, sub_l, at0, at1, at2, at3, len_t, slice_t, cut1, cut_02, zipT_tail, zipT_map, forT_nil, forT_cons, forK_nx, forK_brk, forK_ret, len_l, walk_t, walk_l, walk_o, walkC_l, walkC_d, seq_t, seq_l, seq_o, lst_o, lst_l, srcOf_o, isi_o, sub_o, subC_l, subC_d, min_s, tup_s, list_s, len_s, index_s, omap_some, obind_some, srcOf_t, srcOf_l, srcOk_nil, mk_f, mk_t, int_b, int_i, b__law_same, tyIs]
/-- what is no tuple, or a story -/
inductive Thing (n : Nat) : D → Prop
  | story (s : List (List Int)) (h : ∀ row ∈ s, row.length = n ∧ bits row) (hl : s.length ≤ 1000) : Thing n (storyD s)
  | non : Thing n .non
  | int (i : Int) : Thing n (.int i)
  | lst (ds : List D) : Thing n (.lst ds)
theorem no_story (G : Std Γ) (k : Nat) (N E : Int) (rows : List (Int × Int)) (ss : List (Int × Int × Int)) (hB : BookOk N E rows) (hS : SightsOk N E ss) (S : Sto) (x : D) (h : isiD S x [.tuple] = some false) :
    callK Γ (k + 7) "is_story" [bookD N E rows, sightsD ss, x] S = some (.bl false, S) ∧ callK Γ (k + 3) "_law_is_story" [bookD N E rows, sightsD ss, x] S = some (.bl false, S) := by
  constructor
  · rw [call_step G.h_is_story]
    have hlk := ev_look_at G k S hB hS
    simp -dsimp [↓toT, ↓toG, ↓toF, ↓toL, bndT_some, bndT_none, guT_true, ite_and, ite_or, fin_nx, fin_ret, exSs, exS, evE, evs, evO, evT, evI, bl_some, optInt, asgT, asgTs, startE, wipeE, List.map_cons, List.map_nil, List.length_cons, List.length_nil, List.replicate, List.cons_append, List.nil_append, List.append_nil, eq_ii, ne_ii, eq_ss, ne_ss, eq_bb, ne_bb, lt_ii, le_ii, gt_ii, ge_ii, add_ii, sub_ii, isi_i, isi_b, isi_n, isi_s, isi_t, isi_l, sub_t, sub_l, at0, at1, at2, at3, len_t, slice_t, cut1, cut_02, zipT_tail, zipT_map, forT_nil, forT_cons, forK_nx, forK_brk, forK_ret, len_l, walk_t, walk_l, walk_o, walkC_l, walkC_d, seq_t, seq_l, seq_o, lst_o, lst_l, srcOf_o, isi_o, sub_o, subC_l, subC_d, min_s, tup_s, list_s, len_s, index_s, omap_some, obind_some, srcOf_t, srcOf_l, srcOk_nil, mk_f, mk_t, int_b, int_i, book_0, book_1, book_2, ↓book_t, book_q, book_i, sights_w, sights_s, sights_q, story_w, story_s, story_q, story_i, b_is_story, hlk, h]
  · rw [call_step G.h__law_is_story]
    simp -dsimp [↓toT, ↓toG, ↓toF, ↓toL, bndT_some, bndT_none, guT_true, ite_and, ite_or, fin_nx, fin_ret, exSs, exS, evE, evs, evO, evT, evI, bl_some, optInt, asgT, asgTs, startE, wipeE, List.map_cons, List.map_nil, List.length_cons, List.length_nil, List.replicate, List.cons_append, List.nil_append, List.append_nil, eq_ii, ne_ii, eq_ss, ne_ss, eq_bb, ne_bb, lt_ii, le_ii, gt_ii, ge_ii, add_ii, sub_ii, isi_i, isi_b, isi_n, isi_s, isi_t, isi_l, sub_t, sub_l, at0, at1, at2, at3, len_t, slice_t, cut1, cut_02, zipT_tail, zipT_map, forT_nil, forT_cons, forK_nx, forK_brk, forK_ret, len_l, walk_t, walk_l, walk_o, walkC_l, walkC_d, seq_t, seq_l, seq_o, lst_o, lst_l, srcOf_o, isi_o, sub_o, subC_l, subC_d, min_s, tup_s, list_s, len_s, index_s, omap_some, obind_some, srcOf_t, srcOf_l, srcOk_nil, mk_f, mk_t, int_b, int_i, book_0, book_1, book_2, ↓book_t, book_q, book_i, sights_w, sights_s, sights_q, story_w, story_s, story_q, story_i, b__law_is_story, h]
theorem both_story (G : Std Γ) (k n m : Nat) (N E : Int) (hN : N = n) (hE : E + 1 = m) (rows : List (Int × Int)) (ss : List (Int × Int × Int)) (hB : BookOk N E rows) (hS : SightsOk N E ss) (S : Sto) (x : D) (h : Thing n x) :
    ∃ b S' S'', callK Γ (k + 7) "is_story" [bookD N E rows, sightsD ss, x] S = some (.bl b, S') ∧ callK Γ (k + 7) "_law_is_story" [bookD N E rows, sightsD ss, x] S' = some (.bl b, S'') ∧ S <+: S'' := by
  cases h with
  | story s hw hl =>
    obtain ⟨S', e1, e2⟩ := ev_is_story G k n m N E hN hE S rows ss hB hS s hw hl
    obtain ⟨S'', e3, e4⟩ := ev_law_is_story G (k + 4) n m N E hN hE S' rows ss hB hS s hw hl
    exact ⟨_, S', S'', e1, e3, e2.trans e4⟩
  | non => exact ⟨false, S, S, (no_story G k N E rows ss hB hS S _ rfl).1, (no_story G (k + 4) N E rows ss hB hS S _ rfl).2, List.prefix_refl _⟩
  | int i => exact ⟨false, S, S, (no_story G k N E rows ss hB hS S _ rfl).1, (no_story G (k + 4) N E rows ss hB hS S _ rfl).2, List.prefix_refl _⟩
  | lst ds => exact ⟨false, S, S, (no_story G k N E rows ss hB hS S _ rfl).1, (no_story G (k + 4) N E rows ss hB hS S _ rfl).2, List.prefix_refl _⟩
end SL

/-! PT: drawn sights. -/
namespace SL
open PySem
variable {Γ : Str → Option Fn}
abbrev Tr := Int × Int × Int
def trL (x : Tr) : List Int := [x.1, x.2.1, x.2.2]
def sKey (x : Tr) : NestedKey := .tup [.num x.1, .num x.2.1, .num x.2.2]
theorem sKey_inj {a b : Tr} (h : sKey a = sKey b) : a = b := by
  obtain ⟨a1, a2, a3⟩ := a
  obtain ⟨b1, b2, b3⟩ := b
  simpa [sKey] using h
theorem key_s (t l v : Int) : goodKey (.tup [.int t, .int l, .int v]) = some (sKey (t, l, v)) := by
  simp [goodKey, sKey, keyOf, keysOf, NestedKey.depth, NestedKey.depthAll]
def tabS (keys : List Tr) : List (NestedKey × D) := keys.map fun x => (sKey x, .bl true)
def insS (keys : List Tr) (x : Tr) : List Tr := if x ∈ keys then keys else keys ++ [x]
theorem putS (x : Tr) : ∀ keys : List Tr, putK (tabS keys) (sKey x) (.bl true) = tabS (insS keys x)
  | [] => rfl
  | y :: keys => by
    have ih := putS x keys
    simp only [tabS] at ih
    by_cases h : y = x
    · subst h; simp [tabS, putK, insS]
    · have h1 : ¬ sKey y = sKey x := fun e => h (sKey_inj e)
      have h2 : ¬ x = y := fun e => h e.symm
      simp only [tabS, List.map_cons, putK, h1, if_false, ih]
      by_cases h3 : x ∈ keys
      · simp [insS, h3]
      · simp [insS, h3, h2]
theorem insS_len (keys : List Tr) (x : Tr) : (insS keys x).length ≤ keys.length + 1 := by
  unfold insS; split <;> simp
theorem insS_nodup {keys : List Tr} (h : keys.Nodup) (x : Tr) : (insS keys x).Nodup := by
  unfold insS
  split
  · exact h
  · next hx => rw [List.nodup_append]; exact ⟨h, by simp, fun a ha b hb => by rw [List.mem_singleton] at hb; subst hb; exact fun e => hx (e ▸ ha)⟩
theorem insS_mem {keys : List Tr} {x y : Tr} (h : y ∈ insS keys x) : y = x ∨ y ∈ keys := by
  unfold insS at h
  split at h
  · exact .inr h
  · rcases List.mem_append.1 h with h | h
    · exact .inr h
    · exact .inl (by simpa using h)
theorem setS {d : Nat} {S : Sto} {ep : Nat} {keys : List Tr} (h : S[d]? = some (.dct ep (tabS keys))) (hl : keys.length < 100000) (t l v : Int) : ∃ ep', setSubD (.obj d) (.tup [.int t, .int l, .int v]) (.bl true) S = some (S.set d (.dct ep' (tabS (insS keys (t, l, v))))) := by
  have hl' : decide ((tabS keys).length < 16777216) = true := by simp only [tabS, List.length_map, decide_eq_true_eq]; omega
  refine ⟨if (atK (tabS keys) (sKey (t, l, v))).isSome then ep else ep + 1, ?_⟩
  simp only [setSubD, h, key_s, bnd_some]
  rw [hl', guardB_true, putS]
/-! ### in order -/
theorem lexLe_trans (a b c : List Int) (h1 : lexLe a b = true) (h2 : lexLe b c = true) : lexLe a c = true := by
  simp only [lexLe, Bool.not_eq_true', decide_eq_false_iff_not] at *
  exact List.le_trans (l₁ := a) (l₂ := b) (l₃ := c) h1 h2
theorem lexLe_total (a b : List Int) : (lexLe a b || lexLe b a) = true := by
  simp only [lexLe, Bool.or_eq_true, Bool.not_eq_true', decide_eq_false_iff_not]
  exact List.le_total a b
theorem lex_lt {x y : Tr} (h : lexLe (trL x) (trL y) = true) (hne : x ≠ y) : HT.lexLt (trL x) (trL y) = true := by
  obtain ⟨a, b, c⟩ := x
  obtain ⟨d, e, f⟩ := y
  simp only [lexLe, trL, Bool.not_eq_true', decide_eq_false_iff_not, List.cons_lt_cons_iff, List.not_lt_nil, and_false, or_false] at h
  simp only [trL, HT.lexLt]
  by_cases h1 : a = d
  · subst h1
    by_cases h2 : b = e
    · subst h2
      by_cases h3 : c = f
      · subst h3; exact absurd rfl hne
      · simp only [if_true, h3, if_false, decide_eq_true_eq]; omega
    · simp only [if_true, h2, if_false, decide_eq_true_eq]; omega
  · simp only [h1, if_false, decide_eq_true_eq]; omega
theorem pair_zip {α : Type} {R : α → α → Prop} : ∀ {l : List α}, l.Pairwise R → ∀ p ∈ l.zip l.tail, R p.1 p.2
  | [], _, p, h => by simp at h
  | [x], _, p, h => by simp at h
  | x :: y :: l, hp, p, h => by
    rw [List.tail_cons, List.zip_cons_cons] at h
    rcases List.mem_cons.1 h with rfl | h
    · exact (List.pairwise_cons.1 hp).1 y (.head _)
    · exact pair_zip (List.pairwise_cons.1 hp).2 p h
def trOf : List Int → Tr
  | [a, b, c] => (a, b, c)
  | _ => (0, 0, 0)
theorem trOf_L (x : Tr) : trOf (trL x) = x := rfl
theorem tupInts_map : ∀ keys : List Tr, tupInts (keys.map sightD) = some (keys.map trL)
  | [] => rfl
  | x :: keys => by simp [tupInts, sightD, intsOf, tupInts_map keys, trL]
theorem oneLen_map (keys : List Tr) : oneLen (keys.map trL) = true := by
  cases keys with
  | nil => rfl
  | cons x keys => simp [oneLen, trL]
theorem key_back (keys : List Tr) : (tabS keys).map (fun q => ofKey q.1) = keys.map sightD := by
  simp [tabS, sKey, sightD, ofKey, ofKeys]
theorem sort_keys (keys : List Tr) (hn : keys.Nodup) : ∃ ss : List Tr, sortTD (keys.map sightD) = some (ss.map sightD) ∧ (∀ x ∈ ss, x ∈ keys) ∧ ss.length = keys.length ∧ ((ss.zip ss.tail).all fun p => HT.lexLt [p.1.1, p.1.2.1, p.1.2.2] [p.2.1, p.2.2.1, p.2.2.2]) = true := by
  have hp := List.mergeSort_perm (keys.map trL) lexLe
  have hs := List.pairwise_mergeSort (le := lexLe) lexLe_trans lexLe_total (keys.map trL)
  have hmem : ∀ z ∈ (keys.map trL).mergeSort lexLe, ∃ x ∈ keys, trL x = z := by
    intro z hz
    have := hp.mem_iff.1 hz
    simpa using this
  have hback : ((((keys.map trL).mergeSort lexLe).map trOf).map trL) = (keys.map trL).mergeSort lexLe := by
    rw [List.map_map]
    conv => rhs; rw [← List.map_id ((keys.map trL).mergeSort lexLe)]
    refine List.map_congr_left fun z hz => ?_
    obtain ⟨x, _, rfl⟩ := hmem z hz
    simp [trOf_L]
  have hnd : (((keys.map trL).mergeSort lexLe).map trOf).Nodup := by
    have h1 := (hp.map trOf).nodup_iff
    rw [h1, List.map_map]
    have : (trOf ∘ trL) = id := by funext x; rfl
    rw [this, List.map_id]; exact hn
  refine ⟨((keys.map trL).mergeSort lexLe).map trOf, ?_, ?_, by simp, ?_⟩
  · simp only [sortTD, tupInts_map, oneLen_map, if_true, sortT]
    rw [← hback]
    simp only [List.map_map]
    congr 1
  · intro x hx
    obtain ⟨z, hz, rfl⟩ := List.mem_map.1 hx
    obtain ⟨y, hy, rfl⟩ := hmem z hz
    rw [trOf_L]; exact hy
  · rw [List.all_eq_true]
    intro p hp2
    have h1 : (((keys.map trL).mergeSort lexLe).map trOf).Pairwise (fun a b => lexLe (trL a) (trL b) = true) := by
      rw [← hback] at hs
      rw [List.pairwise_map] at hs
      exact hs
    have h2 := pair_zip (h1.and hnd) p hp2
    exact lex_lt h2.1 h2.2
end SL

/-! PU: drawn sights walked. -/
namespace SL
open PySem
variable {Γ : Str → Option Fn}
def Keep (a : Nat) (S S' : Sto) : Prop := ∀ i c, a ≠ i → S[i]? = some c → S'[i]? = some c
theorem Adv.keep {a m : Nat} {S S' : Sto} (h : Adv a m S S') : Keep a S S' := fun i c hi hc => h.get hi hc
theorem Keep.trans {a : Nat} {S S1 S2 : Sto} (h : Keep a S S1) (h' : Keep a S1 S2) : Keep a S S2 := fun i c hi hc => h' i c hi (h i c hi hc)
/-- lengths from which sights are drawn -/
def LensOk (a : Nat) (N E : Int) (lv : D) (S : Sto) : Prop := ∃ bl, ∀ S', Keep a S S' → cmpD .ne lv (.lst []) S' = some bl ∧ (bl = true → ∀ t l : Int, 0 ≤ t ∧ t < E + 1 → 0 ≤ l ∧ l < N → ∃ (r : List Int) (v : Int), subD S' lv (.int t) = some (.tup (r.map .int)) ∧ L2.atI (r.map D.int) l = some (.int v) ∧ 0 ≤ v ∧ v ≤ 16)
theorem LensOk.keep {a : Nat} {N E : Int} {lv : D} {S S1 : Sto} (h : LensOk a N E lv S) (k : Keep a S S1) : LensOk a N E lv S1 := let ⟨bl, h⟩ := h; ⟨bl, fun S' h' => h S' (k.trans h')⟩
def b_long : Ex := .ite (.and_ (.cmp .ne (.var 3) (.lst false .nil)) (.cmp .gt (.call "_law_take" (.cons (.var 0) (.cons (.con (.int 9)) .nil))) (.con (.int 0)))) (.sub (.sub (.var 3) (.var 6)) (.var 7)) (.call "_law_take" (.cons (.var 0) (.cons (.con (.int 4)) .nil)))
theorem ev_long (G : Std Γ) (k a m : Nat) (hm : m < 2 ^ 61) (N E t l : Int) (lv b mo : D) (v4 v5 v8 : Option D) (S : Sto) (h : At a m S) (hL : LensOk a N E lv S) (ht : 0 ≤ t ∧ t < E + 1) (hl : 0 ≤ l ∧ l < N) :
    ∃ v S', evE (callK Γ (k + 1)) b_long [some (.obj a), some b, some mo, some lv, v4, v5, some (.int t), some (.int l), v8] S = some (.int v, S') ∧ (0 ≤ v ∧ v ≤ 16) ∧ Adv a (m + 2) S S' := by
  obtain ⟨bl, hb⟩ := hL
  obtain ⟨h1, h2⟩ := hb S (fun _ _ _ h => h)
  cases bl with
  | false =>
    obtain ⟨r, S1, e, hr, hA, hl1⟩ := take G k h 4 (by omega) (by omega) (by omega)
    refine ⟨r, S1, ?_, by omega, hA.mono (by omega)⟩
    simp -dsimp [↓toT, ↓toG, ↓toF, ↓toL, bndT_some, bndT_none, guT_true, ite_and, ite_or, fin_nx, fin_ret, exSs, exS, evE, evs, evO, evT, evI, bl_some, optInt, asgT, asgTs, startE, wipeE, List.map_cons, List.map_nil, List.length_cons, List.length_nil, List.replicate, List.cons_append, List.nil_append, List.append_nil, eq_ii, ne_ii, eq_ss, ne_ss, eq_bb, ne_bb, lt_ii, le_ii, gt_ii, ge_ii, add_ii, sub_ii, isi_i, isi_b, isi_n, isi_s, isi_t, isi_l, sub_t, sub_l, at0, at1, at2, at3, len_t, slice_t, cut1, cut_02, zipT_tail, zipT_map, forT_nil, forT_cons, forK_nx, forK_brk, forK_ret, len_l, walk_t, walk_l, walk_o, walkC_l, walkC_d, seq_t, seq_l, seq_o, lst_o, lst_l, srcOf_o, isi_o, sub_o, subC_l, subC_d, min_s, tup_s, list_s, len_s, index_s, omap_some, obind_some, srcOf_t, srcOf_l, srcOk_nil, mk_f, mk_t, int_b, int_i, b_long, h1, e]
  | true =>
    obtain ⟨r, S1, e, hr, hA, hl1⟩ := take G k h 9 (by omega) (by omega) (by omega)
    by_cases h0 : 0 < r
    · obtain ⟨rr, v, g1, g2, g3⟩ := (hb S1 hA.keep).2 rfl t l ht hl
      refine ⟨v, S1, ?_, g3, hA.mono (by omega)⟩
      simp -dsimp [↓toT, ↓toG, ↓toF, ↓toL, bndT_some, bndT_none, guT_true, ite_and, ite_or, fin_nx, fin_ret, exSs, exS, evE, evs, evO, evT, evI, bl_some, optInt, asgT, asgTs, startE, wipeE, List.map_cons, List.map_nil, List.length_cons, List.length_nil, List.replicate, List.cons_append, List.nil_append, List.append_nil, eq_ii, ne_ii, eq_ss, ne_ss, eq_bb, ne_bb, lt_ii, le_ii, gt_ii, ge_ii, add_ii, sub_ii, isi_i, isi_b, isi_n, isi_s, isi_t, isi_l, sub_t, sub_l, at0, at1, at2, at3, len_t, slice_t, cut1, cut_02, zipT_tail, zipT_map, forT_nil, forT_cons, forK_nx, forK_brk, forK_ret, len_l, walk_t, walk_l, walk_o, walkC_l, walkC_d, seq_t, seq_l, seq_o, lst_o, lst_l, srcOf_o, isi_o, sub_o, subC_l, subC_d, min_s, tup_s, list_s, len_s, index_s, omap_some, obind_some, srcOf_t, srcOf_l, srcOk_nil, mk_f, mk_t, int_b, int_i, b_long, h1, e, h0, g1, g2]
    · obtain ⟨r2, S2, e2, hr2, hA2, hl2⟩ := take G k (hA.at h.lt) 4 (by omega) (by omega) (by omega)
      refine ⟨r2, S2, ?_, by omega, hA.trans hA2 h.lt⟩
      simp -dsimp [↓toT, ↓toG, ↓toF, ↓toL, bndT_some, bndT_none, guT_true, ite_and, ite_or, fin_nx, fin_ret, exSs, exS, evE, evs, evO, evT, evI, bl_some, optInt, asgT, asgTs, startE, wipeE, List.map_cons, List.map_nil, List.length_cons, List.length_nil, List.replicate, List.cons_append, List.nil_append, List.append_nil, eq_ii, ne_ii, eq_ss, ne_ss, eq_bb, ne_bb, lt_ii, le_ii, gt_ii, ge_ii, add_ii, sub_ii, isi_i, isi_b, isi_n, isi_s, isi_t, isi_l, sub_t, sub_l, at0, at1, at2, at3, len_t, slice_t, cut1, cut_02, zipT_tail, zipT_map, forT_nil, forT_cons, forK_nx, forK_brk, forK_ret, len_l, walk_t, walk_l, walk_o, walkC_l, walkC_d, seq_t, seq_l, seq_o, lst_o, lst_l, srcOf_o, isi_o, sub_o, subC_l, subC_d, min_s, tup_s, list_s, len_s, index_s, omap_some, obind_some, srcOf_t, srcOf_l, srcOk_nil, mk_f, mk_t, int_b, int_i, b_long, h1, e, h0, e2]
def Tr.In (N E : Int) (x : Tr) : Prop := (0 ≤ x.1 ∧ x.1 ≤ E) ∧ (0 ≤ x.2.1 ∧ x.2.1 ≤ N - 1) ∧ 0 ≤ x.2.2 ∧ x.2.2 ≤ 16
theorem ev_sights_L0 (G : Std Γ) (k a m0 : Nat) (hm0 : m0 < 2 ^ 60) (N E : Int) (hN : 0 < N ∧ N < 1000) (hE : 0 ≤ E ∧ E < 1000) (rows : List (Int × Int)) (lv mo : D) (d : Nat) (S0 : Sto) (ha : a < S0.length) (hL : LensOk a N E lv S0) (hd : S0.length ≤ d)
    (Inv : Nat → En → Sto → Prop) (hI : Inv = fun j env S => ∃ keys ep v5 v6 v7 v8, keys.Nodup ∧ keys.length ≤ j ∧ (∀ x ∈ keys, Tr.In N E x) ∧ env = [some (.obj a), some (bookD N E rows), some mo, some lv, some (.obj d), v5, v6, v7, v8] ∧ S[d]? = some (.dct ep (tabS keys)) ∧ Adv a (m0 + 4 * j) S0 S)
    (j : Nat) (hj : j < 1000) (i : Nat) (env : En) (S : Sto) (h : Inv j env S) :
    ∃ env1 env2 S2, asgT (.name 5) (.int (i : Int)) env = some env1 ∧ exSs (callK Γ (k + 1)) b__law_sights_L0 env1 S = some (.nx, env2, S2) ∧ srcOk [] S2 = true ∧ Inv (j + 1) env2 S2 := by
  subst hI
  obtain ⟨keys, ep, v5, v6, v7, v8, h1, h2, h3, rfl, h4, h5⟩ := h
  have hA := h5.at ha
  obtain ⟨t, S1, e1, hr1, hA1, hl1⟩ := take G k hA (E + 1) (by omega) (by omega) (by omega)
  obtain ⟨l, S2, e2, hr2, hA2, hl2⟩ := take G k (hA1.at hA.lt) N (by omega) (by omega) (by omega)
  have hA12 := hA1.trans hA2 hA.lt
  obtain ⟨v, S3, e3, hv, hA3⟩ := ev_long G k a (m0 + 4 * j + 1 + 1) (by omega) N E t l lv (bookD N E rows) mo (some (.obj d)) (some (.int (i : Int))) v8 S2 (hA12.at hA.lt) (hL.keep (h5.keep.trans hA12.keep)) hr1 hr2
  have hA13 : Adv a (m0 + 4 * j + 4) S S3 := (hA12.trans hA3 hA.lt).mono (by omega)
  have hd3 : S3[d]? = some (.dct ep (tabS keys)) := hA13.get (by omega) h4
  obtain ⟨ep', e4⟩ := setS hd3 (by omega) t l v
  refine ⟨_, [some (.obj a), some (bookD N E rows), some mo, some lv, some (.obj d), some (.int (i : Int)), some (.int t), some (.int l), some (.int v)], S3.set d (.dct ep' (tabS (insS keys (t, l, v)))), rfl, ?_, rfl, insS keys (t, l, v), ep', some (.int (i : Int)), some (.int t), some (.int l), some (.int v), insS_nodup h1 _, by have := insS_len keys (t, l, v); omega, ?_, rfl, ?_, ?_⟩
  · have es : b__law_sights_L0 = .cons (.asg (.tup [(.name 6), (.name 7)]) (.tup (.cons (.call "_law_take" (.cons (.var 0) (.cons (.bin false .add (.sub (.var 1) (.con (.int 1))) (.con (.int 1))) .nil))) (.cons (.call "_law_take" (.cons (.var 0) (.cons (.sub (.var 1) (.con (.int 0))) .nil))) .nil)))) (.cons (.asg (.name 8) b_long) (.cons (.setSub (.var 4) (.tup (.cons (.var 6) (.cons (.var 7) (.cons (.var 8) .nil)))) (.con (.bl true))) .nil)) := rfl
    rw [es]
    generalize hlg : b_long = lg at *
    generalize (i : Int) = I at *
    simp -dsimp [↓toT, ↓toG, ↓toF, ↓toL, bndT_some, bndT_none, guT_true, ite_and, ite_or, fin_nx, fin_ret, exSs, exS, evE, evs, evO, evT, evI, bl_some, optInt, asgT, asgTs, startE, wipeE, List.map_cons, List.map_nil, List.length_cons, List.length_nil, List.replicate, List.cons_append, List.nil_append, List.append_nil, eq_ii, ne_ii, eq_ss, ne_ss, eq_bb, ne_bb, lt_ii, le_ii, gt_ii, ge_ii, add_ii, sub_ii, isi_i, isi_b, isi_n, isi_s, isi_t, isi_l, sub_t, sub_l, at0, at1, at2, at3, len_t, slice_t, cut1, cut_02, zipT_tail, zipT_map, forT_nil, forT_cons, forK_nx, forK_brk, forK_ret, len_l, walk_t, walk_l, walk_o, walkC_l, walkC_d, seq_t, seq_l, seq_o, lst_o, lst_l, srcOf_o, isi_o, sub_o, subC_l, subC_d, min_s, tup_s, list_s, len_s, index_s, omap_some, obind_some, srcOf_t, srcOf_l, srcOk_nil, mk_f, mk_t, int_b, int_i, book_0, book_1, book_2, ↓book_t, book_q, book_i, sights_w, sights_s, sights_q, story_w, story_s, story_q, story_i, e1, e2, e3, e4]
  · intro x hx
    rcases insS_mem hx with rfl | hx
    · exact ⟨by simp only; omega, by simp only; omega, by simp only; omega⟩
    · exact h3 x hx
  · rw [List.getElem?_set_self (get_lt hd3)]
  · rw [show m0 + 4 * (j + 1) = m0 + 4 * j + 4 by omega]
    exact (h5.trans hA13 ha).set hd _
theorem sorted_s (S : Sto) (x : D) : biD false .sorted [x] S = (sortSrc S x).map fun ds => mk false ds S := rfl
theorem ev_sights (G : Std Γ) (k a m0 : Nat) (hm0 : m0 < 2 ^ 59) (N E : Int) (hN : 0 < N ∧ N < 1000) (hE : 0 ≤ E ∧ E < 1000) (rows : List (Int × Int)) (lv : D) (mo : Nat) (MO : Int) (hMO : MO = mo) (hmo : mo ≤ 6) (S : Sto) (h : At a m0 S) (hL : LensOk a N E lv S) :
    ∃ ss S', callK Γ (k + 2) "_law_sights" [.obj a, bookD N E rows, .int MO, lv] S = some (sightsD ss, S') ∧ SightsOk N E ss ∧ ss.length ≤ mo ∧ Adv a (m0 + 1 + 4 * mo) S S' := by
  rw [call_step G.h__law_sights]
  have ha := h.lt
  have hA0 : Adv a m0 S (S ++ [.dct 0 (tabS [])]) := h.adv.app _
  obtain ⟨r, S1, e1, hr, hA1, hl1⟩ := take G k (hA0.at ha) (MO + 1) (by omega) (by omega) (by omega)
  obtain ⟨n, hn⟩ : ∃ n : Nat, r = n := ⟨r.toNat, by omega⟩
  have hrg : rng1 (.int r) = some ((List.range n).map fun i : Nat => .int (i : Int)) := by rw [hn]; exact rng1_i n (by omega)
  have hA2 : Adv a (m0 + 1) S S1 := hA0.trans hA1 ha
  obtain ⟨env', S', hgo, keys, ep, v5, v6, v7, v8, g1, g2, g3, rfl, g4, g5⟩ := for_all (fun i : Nat => D.int (i : Int)) (src := []) (asg := asgT (.name 5)) (body := fun env S => exSs (callK Γ (k + 1)) b__law_sights_L0 env S)
    (fun j env S' => ∃ keys ep v5 v6 v7 v8, keys.Nodup ∧ keys.length ≤ j ∧ (∀ x ∈ keys, Tr.In N E x) ∧ env = [some (.obj a), some (bookD N E rows), some (.int MO), some lv, some (.obj S.length), v5, v6, v7, v8] ∧ S'[S.length]? = some (.dct ep (tabS keys)) ∧ Adv a (m0 + 1 + 4 * j) S S')
    (List.range n) [some (.obj a), some (bookD N E rows), some (.int MO), some lv, some (.obj S.length), none, none, none, none] S1
    ⟨[], 0, none, none, none, none, by simp, by simp, by simp, rfl, hA1.get (by omega) (by simp), by simpa using hA2⟩
    (fun j x hx env S' h => by
      obtain ⟨hj, rfl⟩ := range_at hx
      exact ev_sights_L0 G k a (m0 + 1) (by omega) N E hN hE rows lv _ S.length S ha hL (by omega) _ rfl x (by omega) x env S' h)
  rw [List.length_range] at g2 g5
  obtain ⟨ss, q1, q2, q3, q4⟩ := sort_keys keys g1
  have hso : sortSrc S' (.obj S.length) = some (ss.map sightD) := by
    simp only [sortSrc, lstOf, g4, dictAt, key_back, q1]
  refine ⟨ss, S', ?_, ⟨by omega, fun x hx => g3 x (q2 x hx), q4⟩, by omega, g5.mono (by omega)⟩
  have hd : dctOf [] [] = some (tabS []) := rfl
  have hd0 : (tabS []).length = 0 := rfl
  clear hMO hn
  rw [toF] at hgo
  simp -dsimp [↓toT, ↓toG, ↓toF, ↓toL, bndT_some, bndT_none, guT_true, ite_and, ite_or, fin_nx, fin_ret, exSs, exS, evE, evs, evO, evT, evI, bl_some, optInt, asgT, asgTs, startE, wipeE, List.map_cons, List.map_nil, List.length_cons, List.length_nil, List.replicate, List.cons_append, List.nil_append, List.append_nil, eq_ii, ne_ii, eq_ss, ne_ss, eq_bb, ne_bb, lt_ii, le_ii, gt_ii, ge_ii, add_ii, sub_ii, isi_i, isi_b, isi_n, isi_s, isi_t, isi_l, sub_t, sub_l, at0, at1, at2, at3, len_t, slice_t, cut1, cut_02, zipT_tail, zipT_map, forT_nil, forT_cons, forK_nx, forK_brk, forK_ret, len_l, walk_t, walk_l, walk_o, walkC_l, walkC_d, seq_t, seq_l, seq_o, lst_o, lst_l, srcOf_o, isi_o, sub_o, subC_l, subC_d, min_s, tup_s, list_s, len_s, index_s, omap_some, obind_some, srcOf_t, srcOf_l, srcOk_nil, mk_f, mk_t, int_b, int_i, book_0, book_1, book_2, ↓book_t, book_q, book_i, sights_w, sights_s, sights_q, story_w, story_s, story_q, story_i, b__law_sights, hd, hd0, e1, hrg, hgo, sorted_s, hso, sightsD]
end SL

/-! PV: a story bent. -/
namespace SL
open PySem
variable {Γ : Str → Option Fn}
def rowC (r : List Int) : Cell := .lst (r.map .int)
theorem bent_rows (C : Orc) (env : En) (v0 v1 v2 v3 v4 v5 v6 v8 : Option D) (henv : env = [v0, v1, v2, v3, v4, v5, v6, none, v8]) : ∀ (xs : List (List Int)) (acc : List D) (S : Sto), acc.length + xs.length ≤ 1000 →
    lcGo [] (fun d => asgT (.name 7) d (wipeE env [7])) (fun env S => evT C .no env S) (fun env S => evE C b__law_bent_k02_E0 env S) (xs.map tupI) S acc = some (acc ++ (List.range xs.length).map (fun j => .obj (S.length + j)), S ++ xs.map rowC)
  | [], acc, S, _ => by simp [lcGo]
  | x :: xs, acc, S, h => by
    simp only [List.length_cons] at h
    subst henv
    have ih := bent_rows C _ v0 v1 v2 v3 v4 v5 v6 v8 rfl xs (acc ++ [.obj S.length]) (S ++ [rowC x]) (by simp; omega)
    have a1 : evE C b__law_bent_k02_E0 [v0, v1, v2, v3, v4, v5, v6, some (tupI x), v8] S = some (.obj S.length, S ++ [rowC x]) := by
      simp -dsimp [↓toT, ↓toG, ↓toF, ↓toL, bndT_some, bndT_none, guT_true, ite_and, ite_or, fin_nx, fin_ret, exSs, exS, evE, evs, evO, evT, evI, bl_some, optInt, asgT, asgTs, startE, wipeE, List.map_cons, List.map_nil, List.length_cons, List.length_nil, List.replicate, List.cons_append, List.nil_append, List.append_nil, eq_ii, ne_ii, eq_ss, ne_ss, eq_bb, ne_bb, lt_ii, le_ii, gt_ii, ge_ii, add_ii, sub_ii, isi_i, isi_b, isi_n, isi_s, isi_t, isi_l, sub_t, sub_l, at0, at1, at2, at3, len_t, slice_t, cut1, cut_02, zipT_tail, zipT_map, forT_nil, forT_cons, forK_nx, forK_brk, forK_ret, len_l, walk_t, walk_l, walk_o, walkC_l, walkC_d, seq_t, seq_l, seq_o, lst_o, lst_l, srcOf_o, isi_o, sub_o, subC_l, subC_d, min_s, tup_s, list_s, len_s, index_s, omap_some, obind_some, srcOf_t, srcOf_l, srcOk_nil, mk_f, mk_t, int_b, int_i, b__law_bent_k02_E0, tupI, rowC]
    rw [List.map_cons, lcGo_yes (S1 := S) rfl (by simp [evT]) a1 rfl (by omega), ih]
    congr 2
    · rw [List.length_cons, List.range_succ_eq_map, List.map_cons, List.map_map, List.append_assoc]
      simp [Function.comp_def, Nat.add_assoc, Nat.add_comm 1]
    · simp
def addrs (b m : Nat) : List D := (List.range m).map fun j => .obj (b + j)
theorem addrs_at (b m : Nat) (t : Int) (ht : 0 ≤ t ∧ t < m) : L2.atI (addrs b m) t = some (.obj (b + t.toNat)) := by
  obtain ⟨i, rfl⟩ : ∃ i : Nat, t = i := ⟨t.toNat, by omega⟩
  have h : i < m := by omega
  rw [atI_nat]; simp [addrs, h]
theorem ev_bent_L0 (G : Std Γ) (k a m0 n m b : Nat) (hm0 : m0 < 2 ^ 60) (N : Int) (hN : N = n) (hn : 0 < n ∧ n < 1000) (hm : 0 < m ∧ m < 1000) (st : D) (S0 : Sto) (ha : a < S0.length) (hb : S0.length ≤ b)
    (Inv : Nat → En → Sto → Prop) (hI : Inv = fun j env S => ∃ (rows : List (List Int)) (v4 v5 v6 : Option D), rows.length = m ∧ (∀ r ∈ rows, r.length = n ∧ bits r) ∧ env = [some (.obj a), some st, some (.int N), some (.lst (addrs b m)), v4, v5, v6, none, none] ∧ (∀ i r, rows[i]? = some r → S[b + i]? = some (rowC r)) ∧ Adv a (m0 + 2 * j) S0 S)
    (j : Nat) (hj : j < 1000) (i : Nat) (env : En) (S : Sto) (h : Inv j env S) :
    ∃ env1 env2 S2, asgT (.name 4) (.int (i : Int)) env = some env1 ∧ exSs (callK Γ (k + 1)) b__law_bent_k02_L0 env1 S = some (.nx, env2, S2) ∧ srcOk [] S2 = true ∧ Inv (j + 1) env2 S2 := by
  subst hI
  obtain ⟨rows, v4, v5, v6, h1, h2, rfl, h3, h4⟩ := h
  have hA := h4.at ha
  obtain ⟨M, hM⟩ : ∃ M : Int, M = m := ⟨_, rfl⟩
  have hlen : ∀ S', biD false .len [.lst (addrs b m)] S' = some (.int M, S') := by intro S'; rw [hM]; simp [len_s, seq_l, addrs]
  obtain ⟨t, S1, e1, hr1, hA1, hl1⟩ := take G k hA M (by omega) (by omega) (by omega)
  obtain ⟨l, S2, e2, hr2, hA2, hl2⟩ := take G k (hA1.at hA.lt) N (by omega) (by omega) (by omega)
  have hA12 : Adv a (m0 + 2 * j + 2) S S2 := hA1.trans hA2 hA.lt
  have hat := addrs_at b m t (by omega)
  obtain ⟨row, hrow⟩ : ∃ row, rows[t.toNat]? = some row := ⟨_, List.getElem?_eq_getElem (by omega)⟩
  have hc := hA12.get (by omega) (h3 _ _ hrow)
  obtain ⟨g1, g2⟩ := h2 row (List.mem_of_getElem? hrow)
  have hix : L2.ixN row.length l = some l.toNat := ixN_int hr2.1 (by omega)
  have hal : L2.atI (row.map D.int) l = some (.int (row.getD l.toNat 0)) := by
    have : l.toNat < row.length := by omega
    simp [L2.atI, hix, List.getD, this]
  refine ⟨_, [some (.obj a), some st, some (.int N), some (.lst (addrs b m)), some (.int (i : Int)), some (.int t), some (.int l), none, none], S2.set (b + t.toNat) (rowC (row.set l.toNat (1 - row.getD l.toNat 0))), rfl, ?_, rfl, rows.set t.toNat (row.set l.toNat (1 - row.getD l.toNat 0)), some (.int (i : Int)), some (.int t), some (.int l), by simpa using h1, ?_, rfl, ?_, ?_⟩
  · clear hN hM
    rw [rowC] at hc
    generalize addrs b m = ad at *
    generalize (i : Int) = I at *
    simp -dsimp [↓toT, ↓toG, ↓toF, ↓toL, bndT_some, bndT_none, guT_true, ite_and, ite_or, fin_nx, fin_ret, exSs, exS, evE, evs, evO, evT, evI, bl_some, optInt, asgT, asgTs, startE, wipeE, List.map_cons, List.map_nil, List.length_cons, List.length_nil, List.replicate, List.cons_append, List.nil_append, List.append_nil, eq_ii, ne_ii, eq_ss, ne_ss, eq_bb, ne_bb, lt_ii, le_ii, gt_ii, ge_ii, add_ii, sub_ii, isi_i, isi_b, isi_n, isi_s, isi_t, isi_l, sub_t, sub_l, at0, at1, at2, at3, len_t, slice_t, cut1, cut_02, zipT_tail, zipT_map, forT_nil, forT_cons, forK_nx, forK_brk, forK_ret, len_l, walk_t, walk_l, walk_o, walkC_l, walkC_d, seq_t, seq_l, seq_o, lst_o, lst_l, srcOf_o, isi_o, sub_o, subC_l, subC_d, min_s, tup_s, list_s, len_s, index_s, omap_some, obind_some, srcOf_t, srcOf_l, srcOk_nil, mk_f, mk_t, int_b, int_i, book_0, book_1, book_2, ↓book_t, book_q, book_i, sights_w, sights_s, sights_q, story_w, story_s, story_q, story_i, b__law_bent_k02_L0, hlen, e1, e2, hat, hc, hal, setSubD, hix, rowC, List.map_set]
  · intro r hr
    rcases List.mem_or_eq_of_mem_set hr with hr | rfl
    · exact h2 r hr
    · refine ⟨by simpa using g1, ?_⟩
      intro x hx
      rcases List.mem_or_eq_of_mem_set hx with hx | rfl
      · exact g2 x hx
      · have h5 : row.getD l.toNat 0 ∈ row := by
          have : l.toNat < row.length := by omega
          simp [List.getD, this]
        have := g2 _ h5
        omega
  · intro i' r hr
    rw [List.getElem?_set] at hr
    by_cases hi : t.toNat = i'
    · subst hi
      rw [if_pos rfl, if_pos (by omega)] at hr
      cases hr
      rw [List.getElem?_set_self (get_lt hc)]
    · rw [if_neg hi] at hr
      rw [List.getElem?_set_ne (by omega)]
      exact hA12.get (by omega) (h3 _ _ hr)
  · rw [show m0 + 2 * (j + 1) = m0 + 2 * j + 2 by omega]
    exact (h4.trans hA12 ha).set (by omega) _
theorem ev_bent (hbent : Γ "_law_bent" = some ⟨3, 9, b__law_bent_k02⟩) (G : Std Γ) (k a m0 n m : Nat) (hm0 : m0 < 2 ^ 59) (N : Int) (hN : N = n) (hn : 0 < n ∧ n < 1000) (hm : 0 < m ∧ m < 1000) (s : List (List Int)) (hs : s.length = m) (hw : ∀ r ∈ s, r.length = n ∧ bits r) (S : Sto) (h : At a m0 S) :
    ∃ s' S', callK Γ (k + 2) "_law_bent" [.obj a, storyD s, .int N] S = some (storyD s', S') ∧ s'.length = m ∧ (∀ r ∈ s', r.length = n ∧ bits r) ∧ Adv a (m0 + 5) S S' := by
  rw [call_step hbent]
  have ha := h.lt
  have hlc := bent_rows (callK Γ (k + 1)) _ (some (.obj a)) (some (storyD s)) (some (.int N)) none none none none none rfl s [] S (by simp; omega)
  rw [hs, List.nil_append] at hlc
  have hA0 : Adv a m0 S (S ++ s.map rowC) := h.adv.app _
  obtain ⟨r, S1, e1, hr, hA1, hl1⟩ := take G k (hA0.at ha) 2 (by omega) (by omega) (by omega)
  obtain ⟨c, hc⟩ : ∃ c : Nat, 1 + r = c := ⟨(1 + r).toNat, by omega⟩
  have hrg : rng1 (.int (1 + r)) = some ((List.range c).map fun i : Nat => .int (i : Int)) := by rw [hc]; exact rng1_i c (by omega)
  have hA2 : Adv a (m0 + 1) S S1 := hA0.trans hA1 ha
  obtain ⟨env', S', hgo, rows, v4, v5, v6, g1, g2, rfl, g3, g4⟩ := for_all (fun i : Nat => D.int (i : Int)) (src := []) (asg := asgT (.name 4)) (body := fun env S => exSs (callK Γ (k + 1)) b__law_bent_k02_L0 env S)
    (fun j env S' => ∃ (rows : List (List Int)) (v4 v5 v6 : Option D), rows.length = m ∧ (∀ r ∈ rows, r.length = n ∧ bits r) ∧ env = [some (.obj a), some (storyD s), some (.int N), some (.lst (addrs S.length m)), v4, v5, v6, none, none] ∧ (∀ i r, rows[i]? = some r → S'[S.length + i]? = some (rowC r)) ∧ Adv a (m0 + 1 + 2 * j) S S')
    (List.range c) [some (.obj a), some (storyD s), some (.int N), some (.lst (addrs S.length m)), none, none, none, none, none] S1
    ⟨s, none, none, none, hs, hw, rfl, fun i r hr => hA1.get (by omega) (by rw [List.getElem?_append_right (by omega), show S.length + i - S.length = i by omega]; simp [hr]), by simpa using hA2⟩
    (fun j x hx env S' h => by
      obtain ⟨hj, rfl⟩ := range_at hx
      exact ev_bent_L0 G k a (m0 + 1) n m S.length (by omega) N hN hn hm _ S ha (by omega) _ rfl x (by omega) x env S' h)
  rw [List.length_range] at g4
  have hend : lcT [] (fun d => asgT (.name 8) d (wipeE [some (.obj a), some (storyD s), some (.int N), some (.lst (addrs S.length m)), v4, v5, v6, none, none] [8])) (fun env S => evT (callK Γ (k + 1)) .no env S) (fun env S => evE (callK Γ (k + 1)) b__law_bent_k02_E1 env S) .mk .mk .mk (addrs S.length m) S' [] = some (rows.map tupI, S') := by
    unfold addrs
    rw [lcT_all (fun j => D.obj (S.length + j)) (fun j => tupI (rows.getD j [])) (List.range m) rfl (by simp; omega) (fun j hj => ⟨_, rfl, rfl, by
      have hj' : j < rows.length := by rw [g1]; exact List.mem_range.1 hj
      have hrj : rows[j]? = some (rows.getD j []) := by simp [List.getD, hj']
      have hcj := g3 j _ hrj
      rw [rowC] at hcj
      simp -dsimp [↓toT, ↓toG, ↓toF, ↓toL, bndT_some, bndT_none, guT_true, ite_and, ite_or, fin_nx, fin_ret, exSs, exS, evE, evs, evO, evT, evI, bl_some, optInt, asgT, asgTs, startE, wipeE, List.map_cons, List.map_nil, List.length_cons, List.length_nil, List.replicate, List.cons_append, List.nil_append, List.append_nil, eq_ii, ne_ii, eq_ss, ne_ss, eq_bb, ne_bb, lt_ii, le_ii, gt_ii, ge_ii, add_ii, sub_ii, isi_i, isi_b, isi_n, isi_s, isi_t, isi_l, sub_t, sub_l, at0, at1, at2, at3, len_t, slice_t, cut1, cut_02, zipT_tail, zipT_map, forT_nil, forT_cons, forK_nx, forK_brk, forK_ret, len_l, walk_t, walk_l, walk_o, walkC_l, walkC_d, seq_t, seq_l, seq_o, lst_o, lst_l, srcOf_o, isi_o, sub_o, subC_l, subC_d, min_s, tup_s, list_s, len_s, index_s, omap_some, obind_some, srcOf_t, srcOf_l, srcOk_nil, mk_f, mk_t, int_b, int_i, b__law_bent_k02_E1, hcj, tupI]⟩)]
    rw [List.nil_append]
    congr 2
    apply List.ext_getElem?
    intro i
    by_cases hi : i < m
    · have hi' : i < rows.length := by omega
      simp [hi, List.getD, hi']
    · rw [List.getElem?_eq_none (by simp; omega), List.getElem?_eq_none (by simp; omega)]
  refine ⟨rows, S', ?_, g1, g2, g4.mono (by omega)⟩
  clear hN hc
  change _ = some (addrs S.length m, _) at hlc
  rw [toL] at hlc
  rw [toF] at hgo
  simp -dsimp [↓toT, ↓toG, ↓toF, ↓toL, bndT_some, bndT_none, guT_true, ite_and, ite_or, fin_nx, fin_ret, exSs, exS, evE, evs, evO, evT, evI, bl_some, optInt, asgT, asgTs, startE, wipeE, List.map_cons, List.map_nil, List.length_cons, List.length_nil, List.replicate, List.cons_append, List.nil_append, List.append_nil, eq_ii, ne_ii, eq_ss, ne_ss, eq_bb, ne_bb, lt_ii, le_ii, gt_ii, ge_ii, add_ii, sub_ii, isi_i, isi_b, isi_n, isi_s, isi_t, isi_l, sub_t, sub_l, at0, at1, at2, at3, len_t, slice_t, cut1, cut_02, zipT_tail, zipT_map, forT_nil, forT_cons, forK_nx, forK_brk, forK_ret, len_l, walk_t, walk_l, walk_o, walkC_l, walkC_d, seq_t, seq_l, seq_o, lst_o, lst_l, srcOf_o, isi_o, sub_o, subC_l, subC_d, min_s, tup_s, list_s, len_s, index_s, omap_some, obind_some, srcOf_t, srcOf_l, srcOk_nil, mk_f, mk_t, int_b, int_i, book_0, book_1, book_2, ↓book_t, book_q, book_i, sights_w, sights_s, sights_q, story_w, story_s, story_q, story_i, b__law_bent_k02, hlc, e1, hrg, hgo]
  generalize hAd : addrs S.length m = ad at *
  simp -dsimp [↓toT, ↓toG, ↓toF, ↓toL, bndT_some, bndT_none, guT_true, ite_and, ite_or, fin_nx, fin_ret, exSs, exS, evE, evs, evO, evT, evI, bl_some, optInt, asgT, asgTs, startE, wipeE, List.map_cons, List.map_nil, List.length_cons, List.length_nil, List.replicate, List.cons_append, List.nil_append, List.append_nil, eq_ii, ne_ii, eq_ss, ne_ss, eq_bb, ne_bb, lt_ii, le_ii, gt_ii, ge_ii, add_ii, sub_ii, isi_i, isi_b, isi_n, isi_s, isi_t, isi_l, sub_t, sub_l, at0, at1, at2, at3, len_t, slice_t, cut1, cut_02, zipT_tail, zipT_map, forT_nil, forT_cons, forK_nx, forK_brk, forK_ret, len_l, walk_t, walk_l, walk_o, walkC_l, walkC_d, seq_t, seq_l, seq_o, lst_o, lst_l, srcOf_o, isi_o, sub_o, subC_l, subC_d, min_s, tup_s, list_s, len_s, index_s, omap_some, obind_some, srcOf_t, srcOf_l, srcOk_nil, mk_f, mk_t, int_b, int_i, book_0, book_1, book_2, ↓book_t, book_q, book_i, sights_w, sights_s, sights_q, story_w, story_s, story_q, story_i, hend, storyD]
end SL

/-! PW: stories judged: the inner loops of law k02. -/
namespace SL
open PySem
variable {Γ : Str → Option Fn}
theorem ev_k02_L0 (G : Std Γ) (k n m : Nat) (N E : Int) (hN : N = n) (hE : E + 1 = m) (rows : List (Int × Int)) (hB : BookOk N E rows) (ss : List Tr) (hS : SightsOk N E ss) (x : D) (hx : Thing n x) (v0 v1 v2 v4 v5 v6 v7 v10 : Option D) (S : Sto) :
    ∃ S', exSs (callK Γ (k + 7)) b_law_k02_L0 [v0, v1, v2, some (bookD N E rows), v4, v5, v6, v7, some x, some (sightsD ss), v10] S = some (.nx, [v0, v1, v2, some (bookD N E rows), v4, v5, v6, v7, some x, some (sightsD ss), v10], S') ∧ S <+: S' := by
  obtain ⟨b, S', S'', e1, e2, e3⟩ := both_story G k n m N E hN hE rows ss hB hS S x hx
  refine ⟨S'', ?_, e3⟩
  have e4 := ev_same_b G (k + 6) b b S''
  clear hN hE
  simp -dsimp [↓toT, ↓toG, ↓toF, ↓toL, bndT_some, bndT_none, guT_true, ite_and, ite_or, fin_nx, fin_ret, exSs, exS, evE, evs, evO, evT, evI, bl_some, optInt, asgT, asgTs, startE, wipeE, List.map_cons, List.map_nil, List.length_cons, List.length_nil, List.replicate, List.cons_append, List.nil_append, List.append_nil, eq_ii, ne_ii, eq_ss, ne_ss, eq_bb, ne_bb, lt_ii, le_ii, gt_ii, ge_ii, add_ii, sub_ii, isi_i, isi_b, isi_n, isi_s, isi_t, isi_l, sub_t, sub_l, at0, at1, at2, at3, len_t, slice_t, cut1, cut_02, zipT_tail, zipT_map, forT_nil, forT_cons, forK_nx, forK_brk, forK_ret, len_l, walk_t, walk_l, walk_o, walkC_l, walkC_d, seq_t, seq_l, seq_o, lst_o, lst_l, srcOf_o, isi_o, sub_o, subC_l, subC_d, min_s, tup_s, list_s, len_s, index_s, omap_some, obind_some, srcOf_t, srcOf_l, srcOk_nil, mk_f, mk_t, int_b, int_i, book_0, book_1, book_2, ↓book_t, book_q, book_i, sights_w, sights_s, sights_q, story_w, story_s, story_q, story_i, b_law_k02_L0, e1, e2, e4]
theorem ev_k02_L1 (G : Std Γ) (k n m : Nat) (N E : Int) (hN : N = n) (hE : E + 1 = m) (rows : List (Int × Int)) (hB : BookOk N E rows) (ss : List Tr) (hS : SightsOk N E ss) (x : D) (hx : Thing n x) (v0 v1 v2 v4 v5 v7 v9 v10 : Option D) (S : Sto) :
    ∃ S' v9', exSs (callK Γ (k + 7)) b_law_k02_L1 [v0, v1, v2, some (bookD N E rows), v4, v5, some (sightsD ss), v7, some x, v9, v10] S = some (.nx, [v0, v1, v2, some (bookD N E rows), v4, v5, some (sightsD ss), v7, some x, v9', v10], S') ∧ S <+: S' := by
  have h0 : SightsOk N E [] := ⟨by simp, by simp, rfl⟩
  obtain ⟨S1, e1, p1⟩ := ev_k02_L0 G k n m N E hN hE rows hB [] h0 x hx v0 v1 v2 v4 v5 (some (sightsD ss)) v7 v10 S
  obtain ⟨S2, e2, p2⟩ := ev_k02_L0 G k n m N E hN hE rows hB ss hS x hx v0 v1 v2 v4 v5 (some (sightsD ss)) v7 v10 S1
  refine ⟨S2, some (sightsD ss), ?_, p1.trans p2⟩
  have h00 : sightsD [] = .tup [] := rfl
  rw [h00] at e1
  clear hN hE
  generalize hbb : b_law_k02_L0 = bb at *
  simp -dsimp [↓toT, ↓toG, ↓toF, ↓toL, bndT_some, bndT_none, guT_true, ite_and, ite_or, fin_nx, fin_ret, exSs, exS, evE, evs, evO, evT, evI, bl_some, optInt, asgT, asgTs, startE, wipeE, List.map_cons, List.map_nil, List.length_cons, List.length_nil, List.replicate, List.cons_append, List.nil_append, List.append_nil, eq_ii, ne_ii, eq_ss, ne_ss, eq_bb, ne_bb, lt_ii, le_ii, gt_ii, ge_ii, add_ii, sub_ii, isi_i, isi_b, isi_n, isi_s, isi_t, isi_l, sub_t, sub_l, at0, at1, at2, at3, len_t, slice_t, cut1, cut_02, zipT_tail, zipT_map, forT_nil, forT_cons, forK_nx, forK_brk, forK_ret, len_l, walk_t, walk_l, walk_o, walkC_l, walkC_d, seq_t, seq_l, seq_o, lst_o, lst_l, srcOf_o, isi_o, sub_o, subC_l, subC_d, min_s, tup_s, list_s, len_s, index_s, omap_some, obind_some, srcOf_t, srcOf_l, srcOk_nil, mk_f, mk_t, int_b, int_i, book_0, book_1, book_2, ↓book_t, book_q, book_i, sights_w, sights_s, sights_q, story_w, story_s, story_q, story_i, b_law_k02_L1, hbb, e1, e2]
/-- twelve bent ones -/
theorem bents_go (hbent : Γ "_law_bent" = some ⟨3, 9, b__law_bent_k02⟩) (G : Std Γ) (k a n m : Nat) (N : Int) (hN : N = n) (hn : 0 < n ∧ n < 1000) (hm : 0 < m ∧ m < 1000) (s : List (List Int)) (hs : s.length = m) (hw : ∀ r ∈ s, r.length = n ∧ bits r)
    (env : En) (v0 v3 v5 v6 v7 v8 v9 : Option D) (henv : env = [v0, some (.obj a), some (.int N), v3, some (storyD s), v5, v6, v7, v8, v9, none]) : ∀ (xs : List Nat) (m0 : Nat) (acc : List D) (S : Sto), m0 + 5 * xs.length < 2 ^ 58 → At a m0 S → acc.length + xs.length ≤ 1000 →
    ∃ ys S', lcGo [] (fun d => asgT (.name 10) d (wipeE env [10])) (fun env S => evT (callK Γ (k + 2)) .no env S) (fun env S => evE (callK Γ (k + 2)) b_law_k02_E0 env S) (xs.map fun i : Nat => .int (i : Int)) S acc = some (acc ++ ys, S') ∧ ys.length = xs.length ∧ (∀ y ∈ ys, Thing n y) ∧ Adv a (m0 + 5 * xs.length) S S'
  | [], m0, acc, S, _, h, _ => ⟨[], S, by simp [lcGo], rfl, by simp, h.adv⟩
  | x :: xs, m0, acc, S, hm0, h, hl => by
    simp only [List.length_cons] at hm0 hl
    obtain ⟨s', S1, e1, g1, g2, g3⟩ := ev_bent hbent G k a m0 n m (by omega) N hN hn hm s hs hw S h
    obtain ⟨ys, S', e2, q1, q2, q3⟩ := bents_go hbent G k a n m N hN hn hm s hs hw env v0 v3 v5 v6 v7 v8 v9 henv xs (m0 + 5) (acc ++ [storyD s']) S1 (by omega) (g3.at h.lt) (by simp; omega)
    refine ⟨storyD s' :: ys, S', ?_, by simp [q1], ?_, ?_⟩
    · subst henv
      have a1 : ∀ i : Nat, evE (callK Γ (k + 2)) b_law_k02_E0 [v0, some (.obj a), some (.int N), v3, some (storyD s), v5, v6, v7, v8, v9, some (.int (i : Int))] S = some (storyD s', S1) := by
        intro i
        clear hN
        simp -dsimp [↓toT, ↓toG, ↓toF, ↓toL, bndT_some, bndT_none, guT_true, ite_and, ite_or, fin_nx, fin_ret, exSs, exS, evE, evs, evO, evT, evI, bl_some, optInt, asgT, asgTs, startE, wipeE, List.map_cons, List.map_nil, List.length_cons, List.length_nil, List.replicate, List.cons_append, List.nil_append, List.append_nil, eq_ii, ne_ii, eq_ss, ne_ss, eq_bb, ne_bb, lt_ii, le_ii, gt_ii, ge_ii, add_ii, sub_ii, isi_i, isi_b, isi_n, isi_s, isi_t, isi_l, sub_t, sub_l, at0, at1, at2, at3, len_t, slice_t, cut1, cut_02, zipT_tail, zipT_map, forT_nil, forT_cons, forK_nx, forK_brk, forK_ret, len_l, walk_t, walk_l, walk_o, walkC_l, walkC_d, seq_t, seq_l, seq_o, lst_o, lst_l, srcOf_o, isi_o, sub_o, subC_l, subC_d, min_s, tup_s, list_s, len_s, index_s, omap_some, obind_some, srcOf_t, srcOf_l, srcOk_nil, mk_f, mk_t, int_b, int_i, book_0, book_1, book_2, ↓book_t, book_q, book_i, sights_w, sights_s, sights_q, story_w, story_s, story_q, story_i, b_law_k02_E0, e1]
      rw [List.map_cons, lcGo_yes (S1 := S) rfl (by simp [evT]) (a1 x) rfl (by omega), e2]
      simp
    · intro y hy
      rcases List.mem_cons.1 hy with rfl | hy
      · exact .story s' g2 (by omega)
      · exact q2 y hy
    · rw [List.length_cons, show m0 + 5 * (xs.length + 1) = m0 + 5 + 5 * xs.length by omega]
      exact g3.trans q3 h.lt
/-! ### lengths as data -/
theorem pysF_tups : ∀ xs : List (List Int), pysF (xs.map tupI) = some (xs.map fun r => .tuple (r.map .int))
  | [] => rfl
  | x :: xs => by simp [pysF, pyF, tupI, pysF_is, pysF_tups xs]
theorem lay_tups : ∀ xs : List (List Int), PyData.canLayAll0 (xs.map fun r => .tuple (r.map .int)) = true ∧ PyData.depthAll (xs.map fun r => .tuple (r.map .int)) ≤ 2
  | [] => by simp [PyData.canLayAll0, PyData.depthAll]
  | x :: xs => by
    have h1 := lay_tups xs
    have h2 := lay_ints x
    simp [PyData.canLayAll0, PyData.depthAll, PyData.canLay0, PyData.depth, h1, h2]
    omega
theorem shaped_tups (xs : List (List Int)) : SeqAt.shaped (.list (xs.map fun r => .tuple (r.map .int))) = true := by
  have := lay_tups xs
  simp [SeqAt.shaped, PyData.canLay0, PyData.depth, this]
  omega
theorem ne_nil_cell (f : Nat) (xs : List (List Int)) (S : Sto) (h : S[f]? = some (.lst (xs.map tupI))) (hne : xs ≠ []) : cmpD .ne (.obj f) (.lst []) S = some true := by
  have h1 := shaped_tups xs
  have h2 := shaped_ints []
  have h3 := pysF_tups xs
  simp only [List.map_nil] at h2
  simp only [cmpD, eqB, pyOf, pyF, h, h3, pysF, Option.map_some, h1, h2, Bool.and_self, if_true]
  cases xs with
  | nil => exact absurd rfl hne
  | cons x xs => simp [PyData.eqv, PyData.eqvAll]
theorem srv_nonneg {n m : Nat} {s : List (List Int)} (hs : s.length = m) (hw : ∀ row ∈ s, row.length = n ∧ bits row) (l : Nat) (hl : l < n) : ∀ t, t ≤ m → 0 ≤ srv s l t
  | 0, _ => by simp [srv]
  | t + 1, h => by
    have h1 := srv_step hs hw l t hl (by omega)
    have h2 := srv_nonneg hs hw l hl t (by omega)
    omega
theorem jb_le (rows : List (Int × Int)) (l t : Int) : joinedBy rows l t ≤ rows.length := by
  have := List.length_filter_le (fun r : Int × Int => decide (r.2 = l) && decide (r.1 ≤ t)) rows
  unfold joinedBy; omega
theorem jb_mono (l : Int) {t t' : Int} (h : t ≤ t') : ∀ rows : List (Int × Int), joinedBy rows l t ≤ joinedBy rows l t'
  | [] => by simp [joinedBy]
  | r :: rs => by
    have ih := jb_mono l h rs
    rw [jb_cons, jb_cons]
    by_cases h1 : r.2 = l ∧ r.1 ≤ t
    · rw [if_pos h1, if_pos ⟨h1.1, by omega⟩]; omega
    · rw [if_neg h1]; split <;> omega
theorem found_ok {n m : Nat} (hn : 0 < n) {rows : List (Int × Int)} (hr : RowsOk n m rows) (hlen : rows.length ≤ 16) {s : List (List Int)} (hs : s.length = m) (hw : ∀ row ∈ s, row.length = n ∧ bits row) {found : List (List Int)} (h : lengthsOf n m rows s = some found) {t l : Int} (ht : 0 ≤ t ∧ t < m) (hl : 0 ≤ l ∧ l < n) :
    0 ≤ (found.getD t.toNat []).getD l.toNat 0 ∧ (found.getD t.toNat []).getD l.toNat 0 ≤ 16 := by
  obtain ⟨a, b⟩ := lengths_iff hn hr.up (fun r hx => (hr.row r hx).1) hs (fun r hx => (hw r hx).1)
  have hT := b found h
  rw [a hT] at h
  cases h
  rw [found_get n m rows s ht hl]
  have h1 := (hT t.toNat (by omega)).pos l.toNat (by omega)
  have h2 := srv_nonneg hs hw l.toNat (by omega) (t + 1).toNat (by omega)
  have h3 := jb_le rows l t
  have h4 := jb_mono l (show t - 1 ≤ t by omega) rows
  rw [show ((t.toNat : Nat) : Int) = t by omega, show ((l.toNat : Nat) : Int) = l by omega, show t.toNat + 1 = (t + 1).toNat by omega] at h1
  omega
theorem lens_ok {n m a f : Nat} (N E : Int) (hN : N = n) (hE : E + 1 = m) (hn : 0 < n) (hm : 0 < m) {rows : List (Int × Int)} (hr : RowsOk n m rows) (hlen : rows.length ≤ 16) {s : List (List Int)} (hs : s.length = m) (hw : ∀ row ∈ s, row.length = n ∧ bits row) {found : List (List Int)} (h : lengthsOf n m rows s = some found)
    {S : Sto} (hf : S[f]? = some (.lst (found.map tupI))) (haf : a ≠ f) : LensOk a N E (.obj f) S := by
  obtain ⟨q1, q2⟩ := lengthsOf_len hs (fun r hx => (hw r hx).1) h
  refine ⟨true, fun S' hk => ⟨ne_nil_cell f found S' (hk f _ haf hf) ?_, fun _ t l ht hl => ?_⟩⟩
  · rintro rfl; simp at q1; omega
  · obtain ⟨r, e1, e2⟩ := at_found q1 q2 (t := t) (l := l) (by omega) (by omega)
    refine ⟨r, _, ?_, e2, found_ok hn hr hlen hs hw h (by omega) (by omega)⟩
    rw [sub_o, hk f _ haf hf, subC_l, e1]; rfl
end SL

/-! PX: law k02. -/
namespace SL
open PySem
variable {Γ : Str → Option Fn}
def b_k02_s1 : SS := (.asg (.name 2) (.bin false .add (.con (.int 1)) (.call "_law_take" (.cons (.var 1) (.cons (.con (.int 4)) .nil)))))
def b_k02_s2 : SS := (.asg (.tup [(.name 3), (.name 4)]) (.call "_law_run" (.cons (.var 1) (.cons (.var 2) (.cons (.call "_law_take" (.cons (.var 1) (.cons (.sub (.lst false (.cons (.con (.int 31)) (.cons (.con (.int 6)) .nil))) (.call "_law_take" (.cons (.var 1) (.cons (.con (.int 2)) .nil)))) .nil))) (.cons (.con (.int 16)) .nil))))))
def b_k02_s3 : SS := (.asg (.name 5) (.call "_law_lengths" (.cons (.var 3) (.cons (.var 4) .nil))))
def b_k02_s4 : SS := (.asg (.name 6) (.call "_law_sights" (.cons (.var 1) (.cons (.var 3) (.cons (.con (.int 6)) (.cons (.var 5) .nil))))))
def b_k02_s5 : SS := (.ifs (.or_ (.isB true true (.call "can_be" (.cons (.var 3) (.cons (.tup .nil) .nil)))) (.isB true true (.call "is_story" (.cons (.var 3) (.cons (.tup .nil) (.cons (.var 4) .nil)))))) (.cons (.ret (.con (.bl false))) .nil) .nil)
def b_k02_s6 : SS := (.asg (.name 7) (.lst false (.cons (.var 4) (.cons (.slice false (.var 4) .no (.so (.neg (.con (.int 1))))) (.cons (.bin false .add (.var 4) (.slice false (.var 4) .no (.so (.con (.int 1))))) (.cons (.bi false .list (.cons (.var 4) .nil)) (.cons (.rev false (.var 4)) (.cons (.con .non) (.cons (.tup .nil) (.cons (.con (.int 7)) .nil))))))))))
def b_k02_s7 : SS := (.for_ (.name 8) (.of (.bin false .add (.var 7) (.lc false [10] (.range1 (.con (.int 12))) (.name 10) .no b_law_k02_E0))) b_law_k02_L1)
theorem b_k02_eq : b_law_k02_L2 = (.cons b_k02_s1 (.cons b_k02_s2 (.cons b_k02_s3 (.cons b_k02_s4 (.cons b_k02_s5 (.cons b_k02_s6 (.cons b_k02_s7 .nil))))))) := rfl
def b_k02m_s1 : SS := (.ifs (.not_ (.call "_law_written" .nil)) (.cons (.ret (.con (.bl false))) .nil) .nil)
def b_k02m_s2 : SS := (.for_ (.name 1) (.of (.call "_law_bags" (.cons (.var 0) (.cons (.con (.int 8)) .nil)))) b_law_k02_L2)
def b_k02m_s3 : SS := (.ret (.con (.bl true)))
theorem b_k02m_eq : b_law_k02 = (.cons b_k02m_s1 (.cons b_k02m_s2 (.cons b_k02m_s3 .nil))) := rfl
theorem story_slice (al : Bool) (S : Sto) (s : List (List Int)) (lo hi : Option Int) : sliceD al S (storyD s) lo hi = some (.tup (cutD (s.map tupI) lo hi), S) := rfl
theorem story_rev (al : Bool) (S : Sto) (s : List (List Int)) : revD al S (storyD s) = some (.tup (s.map tupI).reverse, S) := rfl
theorem story_add (al : Bool) (S : Sto) (s : List (List Int)) (b : List D) : binD al .add (storyD s) (.tup b) S = if (s.map tupI).length + b.length ≤ 16777216 then some (.tup (s.map tupI ++ b), S) else none := rfl
theorem cut_map (s : List (List Int)) (lo hi : Option Int) : ∃ s' : List (List Int), cutD (s.map tupI) lo hi = s'.map tupI ∧ s'.length ≤ s.length ∧ ∀ r ∈ s', r ∈ s := by
  refine ⟨(s.drop (HT.sIx (s.map tupI).length 0 lo)).take (HT.sIx (s.map tupI).length (s.map tupI).length hi - HT.sIx (s.map tupI).length 0 lo), ?_, ?_, ?_⟩
  · simp only [cutD, List.map_take, List.map_drop]
  · rw [List.length_take, List.length_drop]; omega
  · intro r hr
    exact List.mem_of_mem_drop (List.mem_of_mem_take hr)
theorem run_ok {n m : Nat} {N E : Int} (hN : N = n) (hE : E + 1 = m) (hn : 0 < n ∧ n ≤ 4) (hm : 0 < m ∧ m ≤ 31) {nw : List Int} {rows : List (Int × Int)} {story : List (List Int)} (h : RunTo n m nw rows story) (hl : rows.length ≤ 16) : BookOk N E rows ∧ RowsOk n m rows := by
  obtain ⟨a1, a2, a3, a4, a5, a6, a7⟩ := h
  refine ⟨⟨by omega, by omega, by omega, by omega, hl, fun r hr => ?_, a6⟩, ⟨fun r hr => ?_, a6⟩⟩
  · have := a3 r hr; omega
  · have := a3 r hr; omega
theorem ends (r : Int) (h : 0 ≤ r ∧ r < 2) : ∃ Q : Int, L2.atI [D.int 31, D.int 6] r = some (.int Q) ∧ 0 < Q ∧ Q ≤ 31 := by
  have hc : r = 0 ∨ r = 1 := by omega
  rcases hc with rfl | rfl
  · exact ⟨31, rfl, by omega, by omega⟩
  · exact ⟨6, rfl, by omega, by omega⟩
theorem ev_k02_turn (hbent : Γ "_law_bent" = some ⟨3, 9, b__law_bent_k02⟩) (G : Std Γ) (k a : Nat) (scr : D) (v2 v3 v4 v5 v6 v7 v8 v9 : Option D) (S : Sto) (h : At a 100000 S) :
    ∃ w2 w3 w4 w5 w6 w7 w8 w9 M S', exSs (callK Γ (k + 7)) b_law_k02_L2 [some scr, some (.obj a), v2, v3, v4, v5, v6, v7, v8, v9, none] S = some (.nx, [some scr, some (.obj a), w2, w3, w4, w5, w6, w7, w8, w9, none], S') ∧ Adv a M S S' := by
  have ha := h.lt
  -- the number of lines
  obtain ⟨r, S1, e1, hr, hA1, _⟩ := take G (k + 6) h 4 (by omega) (by omega) (by omega)
  obtain ⟨N, hNr⟩ : ∃ N, 1 + r = N := ⟨_, rfl⟩
  obtain ⟨n, hN⟩ : ∃ n : Nat, N = n := ⟨N.toNat, by omega⟩
  have es1 : exS (callK Γ (k + 7)) b_k02_s1 [some scr, some (.obj a), v2, v3, v4, v5, v6, v7, v8, v9, none] S = some (.nx, [some scr, some (.obj a), some (.int N), v3, v4, v5, v6, v7, v8, v9, none], S1) := by
    rw [← hNr]
    clear hNr hN
    simp -dsimp [↓toT, ↓toG, ↓toF, ↓toL, bndT_some, bndT_none, guT_true, ite_and, ite_or, fin_nx, fin_ret, exSs, exS, evE, evs, evO, evT, evI, bl_some, optInt, asgT, asgTs, startE, wipeE, List.map_cons, List.map_nil, List.length_cons, List.length_nil, List.replicate, List.cons_append, List.nil_append, List.append_nil, eq_ii, ne_ii, eq_ss, ne_ss, eq_bb, ne_bb, lt_ii, le_ii, gt_ii, ge_ii, add_ii, sub_ii, isi_i, isi_b, isi_n, isi_s, isi_t, isi_l, sub_t, sub_l, at0, at1, at2, at3, len_t, slice_t, cut1, cut_02, zipT_tail, zipT_map, forT_nil, forT_cons, forK_nx, forK_brk, forK_ret, len_l, walk_t, walk_l, walk_o, walkC_l, walkC_d, seq_t, seq_l, seq_o, lst_o, lst_l, srcOf_o, isi_o, sub_o, subC_l, subC_d, min_s, tup_s, list_s, len_s, index_s, omap_some, obind_some, srcOf_t, srcOf_l, srcOk_nil, mk_f, mk_t, int_b, int_i, b_k02_s1, e1]
  -- the end; the run
  obtain ⟨r2, S2, e2, hr2, hA2, _⟩ := take G (k + 6) (hA1.at ha) 2 (by omega) (by omega) (by omega)
  obtain ⟨Q, hQ, hQ0, hQ1⟩ := ends r2 hr2
  have hA12 := hA1.trans hA2 ha
  obtain ⟨E, S3, e3, hE0, hA3, _⟩ := take G (k + 6) (hA12.at ha) Q (by omega) (by omega) (by omega)
  have hA13 := hA12.trans hA3 ha
  obtain ⟨m, hE⟩ : ∃ m : Nat, E + 1 = m := ⟨(E + 1).toNat, by omega⟩
  have hn : 0 < n ∧ n ≤ 4 := by omega
  have hm : 0 < m ∧ m ≤ 31 := by omega
  obtain ⟨rows, story, nw, S4, e4, hR, hl, hA4⟩ := ev_run G (k + 5) n m 16 a (100000 + 1 + 1 + 1) N E 16 hN hE rfl hn.1 (by omega) (by omega) (by omega) (by omega) S3 (hA13.at ha)
  have hA14 := hA13.trans hA4 ha
  have es2 : exS (callK Γ (k + 7)) b_k02_s2 [some scr, some (.obj a), some (.int N), v3, v4, v5, v6, v7, v8, v9, none] S1 = some (.nx, [some scr, some (.obj a), some (.int N), some (bookD N E rows), some (storyD story), v5, v6, v7, v8, v9, none], S4) := by
    clear hN hE hNr
    simp -dsimp [↓toT, ↓toG, ↓toF, ↓toL, bndT_some, bndT_none, guT_true, ite_and, ite_or, fin_nx, fin_ret, exSs, exS, evE, evs, evO, evT, evI, bl_some, optInt, asgT, asgTs, startE, wipeE, List.map_cons, List.map_nil, List.length_cons, List.length_nil, List.replicate, List.cons_append, List.nil_append, List.append_nil, eq_ii, ne_ii, eq_ss, ne_ss, eq_bb, ne_bb, lt_ii, le_ii, gt_ii, ge_ii, add_ii, sub_ii, isi_i, isi_b, isi_n, isi_s, isi_t, isi_l, sub_t, sub_l, at0, at1, at2, at3, len_t, slice_t, cut1, cut_02, zipT_tail, zipT_map, forT_nil, forT_cons, forK_nx, forK_brk, forK_ret, len_l, walk_t, walk_l, walk_o, walkC_l, walkC_d, seq_t, seq_l, seq_o, lst_o, lst_l, srcOf_o, isi_o, sub_o, subC_l, subC_d, min_s, tup_s, list_s, len_s, index_s, omap_some, obind_some, srcOf_t, srcOf_l, srcOk_nil, mk_f, mk_t, int_b, int_i, book_0, book_1, book_2, ↓book_t, book_q, book_i, sights_w, sights_s, sights_q, story_w, story_s, story_q, story_i, b_k02_s2, e2, hQ, e3, e4]
  obtain ⟨hB, hRo⟩ := run_ok hN hE hn hm hR hl
  obtain ⟨found, hf⟩ := hR.done
  have hs : story.length = m := hR.1
  have hw : ∀ r ∈ story, r.length = n ∧ bits r := hR.2.2.2.2.1
  -- its lengths
  have hlen := ev_law_lengths G (k + 6) n m N E hN hE S4 rows hn.1 (by omega) (by omega) (fun r hr => by have := hRo.row r hr; omega) story hs (fun r hr => (hw r hr).1)
  rw [hf] at hlen
  obtain ⟨S5, f, e5, p5, c5⟩ := hlen
  have es3 : exS (callK Γ (k + 7)) b_k02_s3 [some scr, some (.obj a), some (.int N), some (bookD N E rows), some (storyD story), v5, v6, v7, v8, v9, none] S4 = some (.nx, [some scr, some (.obj a), some (.int N), some (bookD N E rows), some (storyD story), some (.obj f), v6, v7, v8, v9, none], S5) := by
    clear hN hE hNr
    simp -dsimp [↓toT, ↓toG, ↓toF, ↓toL, bndT_some, bndT_none, guT_true, ite_and, ite_or, fin_nx, fin_ret, exSs, exS, evE, evs, evO, evT, evI, bl_some, optInt, asgT, asgTs, startE, wipeE, List.map_cons, List.map_nil, List.length_cons, List.length_nil, List.replicate, List.cons_append, List.nil_append, List.append_nil, eq_ii, ne_ii, eq_ss, ne_ss, eq_bb, ne_bb, lt_ii, le_ii, gt_ii, ge_ii, add_ii, sub_ii, isi_i, isi_b, isi_n, isi_s, isi_t, isi_l, sub_t, sub_l, at0, at1, at2, at3, len_t, slice_t, cut1, cut_02, zipT_tail, zipT_map, forT_nil, forT_cons, forK_nx, forK_brk, forK_ret, len_l, walk_t, walk_l, walk_o, walkC_l, walkC_d, seq_t, seq_l, seq_o, lst_o, lst_l, srcOf_o, isi_o, sub_o, subC_l, subC_d, min_s, tup_s, list_s, len_s, index_s, omap_some, obind_some, srcOf_t, srcOf_l, srcOk_nil, mk_f, mk_t, int_b, int_i, book_0, book_1, book_2, ↓book_t, book_q, book_i, sights_w, sights_s, sights_q, story_w, story_s, story_q, story_i, b_k02_s3, e5]
  have hA15 := hA14.pre p5
  obtain ⟨hfl, hfw⟩ := lengthsOf_len hs (fun r hr => (hw r hr).1) hf
  have haf : a ≠ f := by
    rintro rfl
    obtain ⟨b, hb, _⟩ := hA15.at ha
    rw [c5, bagC] at hb
    cases found with
    | nil => simp at hfl; omega
    | cons x found => simp [tupI] at hb
  -- sights
  have hm4 : m * (n + 1) ≤ 31 * 5 := Nat.mul_le_mul (by omega) (by omega)
  obtain ⟨ss, S6, e6, hS, _, hA6⟩ := ev_sights G (k + 5) a _ (by omega) N E (by omega) (by omega) rows (.obj f) 6 6 rfl (by omega) S5 (hA15.at ha) (lens_ok N E hN hE hn.1 hm.1 hRo hl hs hw hf c5 haf)
  have hA16 := hA15.trans hA6 ha
  have es4 : exS (callK Γ (k + 7)) b_k02_s4 [some scr, some (.obj a), some (.int N), some (bookD N E rows), some (storyD story), some (.obj f), v6, v7, v8, v9, none] S5 = some (.nx, [some scr, some (.obj a), some (.int N), some (bookD N E rows), some (storyD story), some (.obj f), some (sightsD ss), v7, v8, v9, none], S6) := by
    clear hN hE hNr
    simp -dsimp [↓toT, ↓toG, ↓toF, ↓toL, bndT_some, bndT_none, guT_true, ite_and, ite_or, fin_nx, fin_ret, exSs, exS, evE, evs, evO, evT, evI, bl_some, optInt, asgT, asgTs, startE, wipeE, List.map_cons, List.map_nil, List.length_cons, List.length_nil, List.replicate, List.cons_append, List.nil_append, List.append_nil, eq_ii, ne_ii, eq_ss, ne_ss, eq_bb, ne_bb, lt_ii, le_ii, gt_ii, ge_ii, add_ii, sub_ii, isi_i, isi_b, isi_n, isi_s, isi_t, isi_l, sub_t, sub_l, at0, at1, at2, at3, len_t, slice_t, cut1, cut_02, zipT_tail, zipT_map, forT_nil, forT_cons, forK_nx, forK_brk, forK_ret, len_l, walk_t, walk_l, walk_o, walkC_l, walkC_d, seq_t, seq_l, seq_o, lst_o, lst_l, srcOf_o, isi_o, sub_o, subC_l, subC_d, min_s, tup_s, list_s, len_s, index_s, omap_some, obind_some, srcOf_t, srcOf_l, srcOk_nil, mk_f, mk_t, int_b, int_i, book_0, book_1, book_2, ↓book_t, book_q, book_i, sights_w, sights_s, sights_q, story_w, story_s, story_q, story_i, b_k02_s4, e6]
  -- the run can be, and is a story
  have h0 : SightsOk N E [] := ⟨by simp, by simp, rfl⟩
  have hok : storyOk n m rows [] story = true := by simp [storyOk, hf, seenOk]
  obtain ⟨S7, e7, p7⟩ := ev_can_be G k n m N E hN hE rows [] hB h0 S6 (story_rest hn.1 hRo ⟨by simp⟩ hs hw hok)
  obtain ⟨S8, e8, p8⟩ := ev_is_story G k n m N E hN hE S7 rows [] hB h0 story hw (by omega)
  have h00 : sightsD [] = .tup [] := rfl
  have hsl : decide (story.length = m) = true := by simp [hs]
  rw [h00] at e7
  rw [h00, hsl, hok, Bool.and_self] at e8
  have es5 : exS (callK Γ (k + 7)) b_k02_s5 [some scr, some (.obj a), some (.int N), some (bookD N E rows), some (storyD story), some (.obj f), some (sightsD ss), v7, v8, v9, none] S6 = some (.nx, [some scr, some (.obj a), some (.int N), some (bookD N E rows), some (storyD story), some (.obj f), some (sightsD ss), v7, v8, v9, none], S8) := by
    clear hN hE hNr
    simp -dsimp [↓toT, ↓toG, ↓toF, ↓toL, bndT_some, bndT_none, guT_true, ite_and, ite_or, fin_nx, fin_ret, exSs, exS, evE, evs, evO, evT, evI, bl_some, optInt, asgT, asgTs, startE, wipeE, List.map_cons, List.map_nil, List.length_cons, List.length_nil, List.replicate, List.cons_append, List.nil_append, List.append_nil, eq_ii, ne_ii, eq_ss, ne_ss, eq_bb, ne_bb, lt_ii, le_ii, gt_ii, ge_ii, add_ii, sub_ii, isi_i, isi_b, isi_n, isi_s, isi_t, isi_l, sub_t, sub_l, at0, at1, at2, at3, len_t, slice_t, cut1, cut_02, zipT_tail, zipT_map, forT_nil, forT_cons, forK_nx, forK_brk, forK_ret, len_l, walk_t, walk_l, walk_o, walkC_l, walkC_d, seq_t, seq_l, seq_o, lst_o, lst_l, srcOf_o, isi_o, sub_o, subC_l, subC_d, min_s, tup_s, list_s, len_s, index_s, omap_some, obind_some, srcOf_t, srcOf_l, srcOk_nil, mk_f, mk_t, int_b, int_i, book_0, book_1, book_2, ↓book_t, book_q, book_i, sights_w, sights_s, sights_q, story_w, story_s, story_q, story_i, b_k02_s5, e7, e8]
  have hA18 := (hA16.pre p7).pre p8
  -- things
  obtain ⟨s1, c1, c1l, c1m⟩ := cut_map story none (some (-1))
  obtain ⟨s2, c2, c2l, c2m⟩ := cut_map story none (some 1)
  have hadd : binD false .add (storyD story) (.tup (s2.map tupI)) S8 = some (.tup (story.map tupI ++ s2.map tupI), S8) := by
    rw [story_add, if_pos (by simp; omega)]
  obtain ⟨ths, hths⟩ : ∃ ths : List D, ths = [storyD story, .tup (s1.map tupI), .tup (story.map tupI ++ s2.map tupI), .lst (story.map tupI), .tup (story.map tupI).reverse, .non, .tup [], .int 7] := ⟨_, rfl⟩
  have es6 : exS (callK Γ (k + 7)) b_k02_s6 [some scr, some (.obj a), some (.int N), some (bookD N E rows), some (storyD story), some (.obj f), some (sightsD ss), v7, v8, v9, none] S8 = some (.nx, [some scr, some (.obj a), some (.int N), some (bookD N E rows), some (storyD story), some (.obj f), some (sightsD ss), some (.lst ths), v8, v9, none], S8) := by
    clear hN hE hNr
    simp -dsimp [↓toT, ↓toG, ↓toF, ↓toL, bndT_some, bndT_none, guT_true, ite_and, ite_or, fin_nx, fin_ret, exSs, exS, evE, evs, evO, evT, evI, bl_some, optInt, asgT, asgTs, startE, wipeE, List.map_cons, List.map_nil, List.length_cons, List.length_nil, List.replicate, List.cons_append, List.nil_append, List.append_nil, eq_ii, ne_ii, eq_ss, ne_ss, eq_bb, ne_bb, lt_ii, le_ii, gt_ii, ge_ii, add_ii, sub_ii, isi_i, isi_b, isi_n, isi_s, isi_t, isi_l, sub_t, sub_l, at0, at1, at2, at3, len_t, slice_t, cut1, cut_02, zipT_tail, zipT_map, forT_nil, forT_cons, forK_nx, forK_brk, forK_ret, len_l, walk_t, walk_l, walk_o, walkC_l, walkC_d, seq_t, seq_l, seq_o, lst_o, lst_l, srcOf_o, isi_o, sub_o, subC_l, subC_d, min_s, tup_s, list_s, len_s, index_s, omap_some, obind_some, srcOf_t, srcOf_l, srcOk_nil, mk_f, mk_t, int_b, int_i, book_0, book_1, book_2, ↓book_t, book_q, book_i, sights_w, sights_s, sights_q, story_w, story_s, story_q, story_i, b_k02_s6, story_slice, story_rev, c1, c2, hadd, hths]
  have hth : ∀ x ∈ ths, Thing n x := by
    rw [hths]
    intro x hx
    simp only [List.mem_cons, List.not_mem_nil, or_false] at hx
    rcases hx with rfl | rfl | rfl | rfl | rfl | rfl | rfl | rfl
    · exact .story story hw (by omega)
    · exact .story s1 (fun r hr => hw r (c1m r hr)) (by omega)
    · rw [← List.map_append]
      refine .story (story ++ s2) (fun r hr => ?_) (by simp; omega)
      rcases List.mem_append.1 hr with hr | hr
      · exact hw r hr
      · exact hw r (c2m r hr)
    · exact .lst _
    · rw [← List.map_reverse]
      exact .story story.reverse (fun r hr => hw r (List.mem_reverse.1 hr)) (by simp; omega)
    · exact .non
    · exact .story [] (by simp) (by simp)
    · exact .int 7
  -- bent ones
  obtain ⟨ys, S9, e9, hyl, hy, hA9⟩ := bents_go hbent G (k + 5) a n m N hN (by omega) (by omega) story hs hw _ (some scr) (some (bookD N E rows)) (some (.obj f)) (some (sightsD ss)) (some (.lst ths)) v8 v9 rfl (List.range 12) _ [] S8 (by rw [List.length_range]; omega) (hA18.at ha) (by simp)
  have hA19 := hA18.trans hA9 ha
  have hall : binD false .add (.lst ths) (.lst ys) S9 = some (.lst (ths ++ ys), S9) := add_ll _ _ _ (by rw [hyl, hths]; simp)
  have hthy : ∀ x ∈ ths ++ ys, Thing n x := fun x hx => by
    rcases List.mem_append.1 hx with hx | hx
    · exact hth x hx
    · exact hy x hx
  obtain ⟨env', S10, hgo, w8, w9, rfl, p10⟩ := for_all (id : D → D) (src := []) (asg := asgT (.name 8)) (body := fun env S => exSs (callK Γ (k + 7)) b_law_k02_L1 env S)
    (fun _ env S' => ∃ w8 w9, env = [some scr, some (.obj a), some (.int N), some (bookD N E rows), some (storyD story), some (.obj f), some (sightsD ss), some (.lst ths), w8, w9, none] ∧ S9 <+: S')
    (ths ++ ys) [some scr, some (.obj a), some (.int N), some (bookD N E rows), some (storyD story), some (.obj f), some (sightsD ss), some (.lst ths), v8, v9, none] S9 ⟨v8, v9, rfl, List.prefix_refl _⟩
    (fun j x hx env S' h => by
      obtain ⟨w8, w9, rfl, hp⟩ := h
      obtain ⟨S'', w9', e, p⟩ := ev_k02_L1 G k n m N E hN hE rows hB ss hS x (hthy x (List.mem_of_getElem? hx)) (some scr) (some (.obj a)) (some (.int N)) (some (storyD story)) (some (.obj f)) (some (.lst ths)) w9 none S'
      exact ⟨_, _, S'', rfl, e, rfl, some x, w9', rfl, hp.trans p⟩)
  have hrg : rng1 (.int 12) = some ((List.range 12).map fun i : Nat => .int (i : Int)) := rng1_i 12 (by omega)
  have es7 : exS (callK Γ (k + 7)) b_k02_s7 [some scr, some (.obj a), some (.int N), some (bookD N E rows), some (storyD story), some (.obj f), some (sightsD ss), some (.lst ths), v8, v9, none] S8 = some (.nx, [some scr, some (.obj a), some (.int N), some (bookD N E rows), some (storyD story), some (.obj f), some (sightsD ss), some (.lst ths), w8, w9, none], S10) := by
    clear hN hE hNr hths
    rw [List.map_id] at hgo
    rw [toL, List.nil_append] at e9
    rw [toF] at hgo
    generalize hbb : b_law_k02_L1 = bb at *
    generalize hb0 : b_law_k02_E0 = b0 at *
    generalize hr12 : ((List.range 12).map fun i : Nat => D.int (i : Int)) = r12 at *
    simp -dsimp [↓toT, ↓toG, ↓toF, ↓toL, bndT_some, bndT_none, guT_true, ite_and, ite_or, fin_nx, fin_ret, exSs, exS, evE, evs, evO, evT, evI, bl_some, optInt, asgT, asgTs, startE, wipeE, List.map_cons, List.map_nil, List.length_cons, List.length_nil, List.replicate, List.cons_append, List.nil_append, List.append_nil, eq_ii, ne_ii, eq_ss, ne_ss, eq_bb, ne_bb, lt_ii, le_ii, gt_ii, ge_ii, add_ii, sub_ii, isi_i, isi_b, isi_n, isi_s, isi_t, isi_l, sub_t, sub_l, at0, at1, at2, at3, len_t, slice_t, cut1, cut_02, zipT_tail, zipT_map, forT_nil, forT_cons, forK_nx, forK_brk, forK_ret, len_l, walk_t, walk_l, walk_o, walkC_l, walkC_d, seq_t, seq_l, seq_o, lst_o, lst_l, srcOf_o, isi_o, sub_o, subC_l, subC_d, min_s, tup_s, list_s, len_s, index_s, omap_some, obind_some, srcOf_t, srcOf_l, srcOk_nil, mk_f, mk_t, int_b, int_i, book_0, book_1, book_2, ↓book_t, book_q, book_i, sights_w, sights_s, sights_q, story_w, story_s, story_q, story_i, b_k02_s7, hbb, hb0, hrg, e9, hall, hgo]
  refine ⟨some (.int N), some (bookD N E rows), some (storyD story), some (.obj f), some (sightsD ss), some (.lst ths), w8, w9, _, S10, ?_, hA19.pre p10⟩
  rw [b_k02_eq, exSs_nx es1, exSs_nx es2, exSs_nx es3, exSs_nx es4, exSs_nx es5, exSs_nx es6, exSs_nx es7]
  rfl
theorem At.keep {a b m M : Nat} {S S' : Sto} (h : At b m S) (hA : Adv a M S S') (hne : a ≠ b) : At b m S' := by
  obtain ⟨x, h1, h2⟩ := h
  exact ⟨x, hA.get hne h1, h2⟩
theorem law_k02 (hbent : Γ "_law_bent" = some ⟨3, 9, b__law_bent_k02⟩) (hlaw : Γ "law" = some ⟨1, 11, b_law_k02⟩) (G : Std Γ) (hw : ∃ S', callK Γ 11 "_law_written" [] [] = some (.bl true, S')) (ns : List Int) : ∃ S', callK Γ 12 "law" [.ro (ns.map .int)] [] = some (.bl true, S') := by
  obtain ⟨Sw, ew⟩ := hw
  obtain ⟨bs, hb0, hb1, hb2, eb⟩ := ev_bags G 9 8 (by omega) ns Sw
  obtain ⟨scr, hscr⟩ : ∃ scr, scr = D.ro (ns.map .int) := ⟨_, rfl⟩
  have es1 : exS (callK Γ 11) b_k02m_s1 [some scr, none, none, none, none, none, none, none, none, none, none] [] = some (.nx, [some scr, none, none, none, none, none, none, none, none, none, none], Sw) := by
    simp -dsimp [↓toT, ↓toG, ↓toF, ↓toL, bndT_some, bndT_none, guT_true, ite_and, ite_or, fin_nx, fin_ret, exSs, exS, evE, evs, evO, evT, evI, bl_some, optInt, asgT, asgTs, startE, wipeE, List.map_cons, List.map_nil, List.length_cons, List.length_nil, List.replicate, List.cons_append, List.nil_append, List.append_nil, eq_ii, ne_ii, eq_ss, ne_ss, eq_bb, ne_bb, lt_ii, le_ii, gt_ii, ge_ii, add_ii, sub_ii, isi_i, isi_b, isi_n, isi_s, isi_t, isi_l, sub_t, sub_l, at0, at1, at2, at3, len_t, slice_t, cut1, cut_02, zipT_tail, zipT_map, forT_nil, forT_cons, forK_nx, forK_brk, forK_ret, len_l, walk_t, walk_l, walk_o, walkC_l, walkC_d, seq_t, seq_l, seq_o, lst_o, lst_l, srcOf_o, isi_o, sub_o, subC_l, subC_d, min_s, tup_s, list_s, len_s, index_s, omap_some, obind_some, srcOf_t, srcOf_l, srcOk_nil, mk_f, mk_t, int_b, int_i, b_k02m_s1, ew]
  obtain ⟨env', S', hgo, w1, w2, w3, w4, w5, w6, w7, w8, w9, rfl, _⟩ := for_all (fun j : Nat => D.obj (Sw.length + j)) (src := []) (asg := asgT (.name 1)) (body := fun env S => exSs (callK Γ 11) b_law_k02_L2 env S)
    (fun j env S' => ∃ w1 w2 w3 w4 w5 w6 w7 w8 w9, env = [some scr, w1, w2, w3, w4, w5, w6, w7, w8, w9, none] ∧ ∀ i, j ≤ i → i < bs.length → At (Sw.length + i) 100000 S')
    (List.range bs.length) [some scr, none, none, none, none, none, none, none, none, none, none] (Sw ++ bs.map bagC)
    ⟨none, none, none, none, none, none, none, none, none, rfl, fun i _ hi => ⟨bs[i], by rw [List.getElem?_append_right (by omega), show Sw.length + i - Sw.length = i by omega]; simp [hi], hb2 _ (List.getElem_mem hi)⟩⟩
    (fun j x hx env S' h => by
      obtain ⟨w1, w2, w3, w4, w5, w6, w7, w8, w9, rfl, hA⟩ := h
      obtain ⟨hj, rfl⟩ := range_at hx
      obtain ⟨u2, u3, u4, u5, u6, u7, u8, u9, M, S'', e, hM⟩ := ev_k02_turn hbent G 4 (Sw.length + x) scr w2 w3 w4 w5 w6 w7 w8 w9 S' (hA x (by omega) hj)
      exact ⟨_, _, S'', rfl, e, rfl, some (.obj (Sw.length + x)), u2, u3, u4, u5, u6, u7, u8, u9, rfl, fun i h1 h2 => (hA i (by omega) h2).keep hM (by omega)⟩)
  have es2 : exS (callK Γ 11) b_k02m_s2 [some scr, none, none, none, none, none, none, none, none, none, none] Sw = some (.nx, [some scr, w1, w2, w3, w4, w5, w6, w7, w8, w9, none], S') := by
    rw [← hscr] at eb
    rw [toF] at hgo
    have e8 : ((8 : Nat) : Int) = 8 := rfl
    rw [e8] at eb
    generalize hbb : b_law_k02_L2 = bb at *
    generalize hads : ((List.range bs.length).map fun j : Nat => D.obj (Sw.length + j)) = ads at *
    simp -dsimp [↓toT, ↓toG, ↓toF, ↓toL, bndT_some, bndT_none, guT_true, ite_and, ite_or, fin_nx, fin_ret, exSs, exS, evE, evs, evO, evT, evI, bl_some, optInt, asgT, asgTs, startE, wipeE, List.map_cons, List.map_nil, List.length_cons, List.length_nil, List.replicate, List.cons_append, List.nil_append, List.append_nil, eq_ii, ne_ii, eq_ss, ne_ss, eq_bb, ne_bb, lt_ii, le_ii, gt_ii, ge_ii, add_ii, sub_ii, isi_i, isi_b, isi_n, isi_s, isi_t, isi_l, sub_t, sub_l, at0, at1, at2, at3, len_t, slice_t, cut1, cut_02, zipT_tail, zipT_map, forT_nil, forT_cons, forK_nx, forK_brk, forK_ret, len_l, walk_t, walk_l, walk_o, walkC_l, walkC_d, seq_t, seq_l, seq_o, lst_o, lst_l, srcOf_o, isi_o, sub_o, subC_l, subC_d, min_s, tup_s, list_s, len_s, index_s, omap_some, obind_some, srcOf_t, srcOf_l, srcOk_nil, mk_f, mk_t, int_b, int_i, b_k02m_s2, hbb, eb, hgo]
  refine ⟨S', ?_⟩
  have est : startE 11 [scr] = [some scr, none, none, none, none, none, none, none, none, none, none] := rfl
  rw [← hscr, call_step hlaw, b_k02m_eq, est, exSs_nx es1, exSs_nx es2]
  rfl
end SL

namespace K02
open PySem L2 SL
def top (i : Nat) : Stmt := PySem.Challenge.pw_shortlines_k02_stories_judged.main.body.getD i (.Pass ⟨0, 0, 0, 0⟩)
def g : Cfg := { N := [], sc := { kind := .function, names := [], isGenerator := false, isCoroutine := false }, cs := [("MOST_LINES", .int 4), ("MOST_END", .int 30), ("MOST_ROWS", .int 16), ("MOST_SIGHTS", .int 6)], bs := ["len", "min", "all", "sorted", "tuple", "list", "int", "isinstance", "range", "enumerate", "zip", "bool", "str"], fs := ["is_whole", "is_within", "is_row", "is_book", "are_sights", "look_at", "joined_by", "joined_ahead", "is_served", "shortest_of", "lengths_of", "is_story", "node", "fact_of", "all_facts", "can_be", "_law_well", "_law_take", "_law_bags", "_law_same", "_law_in", "_law_run", "_law_lengths", "_law_sights", "_law_bent", "_law_is_story", "_law_written", "law"], ks := ["Bounds"], ms := [("tighten", "Bounds"), ("ring_from", "Bounds")], fl := ["steps", "most", "by", "ring"] }
abbrev s_is_whole : Stmt := top 9
abbrev s_is_within : Stmt := top 10
abbrev s_is_row : Stmt := top 11
abbrev s_is_book : Stmt := top 12
abbrev s_are_sights : Stmt := top 13
abbrev s_look_at : Stmt := top 14
abbrev s_joined_by : Stmt := top 15
abbrev s_joined_ahead : Stmt := top 16
abbrev s_is_served : Stmt := top 17
abbrev s_shortest_of : Stmt := top 18
abbrev s_lengths_of : Stmt := top 19
abbrev s_is_story : Stmt := top 20
abbrev s_node : Stmt := top 22
abbrev s_fact_of : Stmt := top 23
abbrev s_all_facts : Stmt := top 24
abbrev s_Bounds : Stmt := inClass (top 25) 0
abbrev s_tighten : Stmt := inClass (top 25) 1
abbrev s_ring_from : Stmt := inClass (top 25) 2
abbrev s_can_be : Stmt := top 27
abbrev s__law_well : Stmt := top 29
abbrev s__law_take : Stmt := top 30
abbrev s__law_bags : Stmt := top 31
abbrev s__law_same : Stmt := top 32
abbrev s__law_in : Stmt := top 33
abbrev s__law_run : Stmt := top 34
abbrev s__law_lengths : Stmt := top 35
abbrev s__law_sights : Stmt := top 36
abbrev s__law_bent : Stmt := top 37
abbrev s__law_is_story : Stmt := top 38
abbrev s__law_written : Stmt := top 39
abbrev s_law : Stmt := top 40
def c_is_whole : Cfg := { g with N := ["thing"], sc := defScope s_is_whole, st := stB (defScope s_is_whole).names, mu := [], ra := false, ea := false }
theorem t_is_whole : trSs 100 c_is_whole (defBody s_is_whole) = some b_is_whole := by kernel_rfl
def c_is_within : Cfg := { g with N := ["thing", "low", "high"], sc := defScope s_is_within, st := stB (defScope s_is_within).names, mu := [], ra := false, ea := false }
theorem t_is_within : trSs 100 c_is_within (defBody s_is_within) = some b_is_within := by kernel_rfl
def c_is_row : Cfg := { g with N := ["lines", "end", "thing"], sc := defScope s_is_row, st := stB (defScope s_is_row).names, mu := [], ra := false, ea := false }
theorem t_is_row : trSs 100 c_is_row (defBody s_is_row) = some b_is_row := by kernel_rfl
def c_is_book : Cfg := { g with N := ["thing", "lines", "end", "rows", "one", "other", "row"], sc := defScope s_is_book, st := stB (defScope s_is_book).names, mu := [], ra := false, ea := false }
theorem t_is_book : trSs 100 c_is_book (defBody s_is_book) = some b_is_book := by kernel_rfl
def c_are_sights : Cfg := { g with N := ["book", "thing", "one", "other"], sc := defScope s_are_sights, st := stB (defScope s_are_sights).names, mu := [], ra := false, ea := false }
theorem t_are_sights : trSs 100 c_are_sights (defBody s_are_sights) = some b_are_sights := by kernel_rfl
def c_look_at : Cfg := { g with N := ["book", "sights"], sc := defScope s_look_at, st := stB (defScope s_look_at).names, mu := [], ra := false, ea := false }
theorem t_look_at : trSs 100 c_look_at (defBody s_look_at) = some b_look_at := by kernel_rfl
def c_joined_by : Cfg := { g with N := ["book", "line", "tick", "row"], sc := defScope s_joined_by, st := stB (defScope s_joined_by).names, mu := [], ra := false, ea := false }
theorem t_joined_by : trSs 100 c_joined_by (defBody s_joined_by) = some b_joined_by := by kernel_rfl
def c_joined_ahead : Cfg := { g with N := ["book", "at", "line", "row"], sc := defScope s_joined_ahead, st := stB (defScope s_joined_ahead).names, mu := [], ra := false, ea := false }
theorem t_joined_ahead : trSs 100 c_joined_ahead (defBody s_joined_ahead) = some b_joined_ahead := by kernel_rfl
def c_is_served : Cfg := { g with N := ["lines", "thing", "one"], sc := defScope s_is_served, st := stB (defScope s_is_served).names, mu := [], ra := false, ea := false }
theorem t_is_served : trSs 100 c_is_served (defBody s_is_served) = some b_is_served := by kernel_rfl
def c_shortest_of : Cfg := { g with N := ["lengths"], sc := defScope s_shortest_of, st := stB (defScope s_shortest_of).names, mu := [], ra := false, ea := false }
theorem t_shortest_of : trSs 100 c_shortest_of (defBody s_shortest_of) = some b_shortest_of := by kernel_rfl
def c_lengths_of : Cfg := { g with N := ["book", "story", "lines", "end", "rows", "now", "found", "tick", "when", "line", "long", "served"], sc := defScope s_lengths_of, st := stB (defScope s_lengths_of).names, mu := ["found", "now"], ra := false, ea := false }
theorem t_lengths_of : trSs 100 c_lengths_of (defBody s_lengths_of) = some b_lengths_of := by kernel_rfl
def c_is_story : Cfg := { g with N := ["book", "sights", "thing", "found", "one", "tick", "line", "long"], sc := defScope s_is_story, st := stB (defScope s_is_story).names, mu := [], ra := false, ea := false }
theorem t_is_story : trSs 100 c_is_story (defBody s_is_story) = some b_is_story := by kernel_rfl
def c_node : Cfg := { g with N := ["line", "tick"], sc := defScope s_node, st := stB (defScope s_node).names, mu := [], ra := false, ea := false }
theorem t_node : trSs 100 c_node (defBody s_node) = some b_node := by kernel_rfl
def c_fact_of : Cfg := { g with N := ["book", "sights", "fact", "word", "line", "tick", "at", "mine", "apart", "long", "served"], sc := defScope s_fact_of, st := stB (defScope s_fact_of).names, mu := [], ra := false, ea := false }
theorem t_fact_of : trSs 100 c_fact_of (defBody s_fact_of) = some b_fact_of := by kernel_rfl
def c_all_facts : Cfg := { g with N := ["book", "sights", "lines", "end", "rows", "found", "line", "tick", "at", "row", "word"], sc := defScope s_all_facts, st := stB (defScope s_all_facts).names, mu := ["found"], ra := false, ea := false }
theorem t_all_facts : trSs 100 c_all_facts (defBody s_all_facts) = some b_all_facts := by kernel_rfl
def c_Bounds : Cfg := { g with N := ["self", "book", "sights", "changed", "turn", "step", "fact"], sc := defScope s_Bounds, st := stB (defScope s_Bounds).names, mu := [], ra := false, ea := false }
theorem t_Bounds : trSs 100 c_Bounds (defBody s_Bounds) = some b_Bounds := by kernel_rfl
def c_tighten : Cfg := { g with N := ["self", "step", "one", "other", "many", "fact", "least"], sc := defScope s_tighten, st := stB (defScope s_tighten).names, mu := [], ra := false, ea := false }
theorem t_tighten : trSs 100 c_tighten (defBody s_tighten) = some b_tighten := by kernel_rfl
def c_ring_from : Cfg := { g with N := ["self", "start", "far", "here", "turn", "ring", "step"], sc := defScope s_ring_from, st := stB (defScope s_ring_from).names, mu := ["ring"], ra := false, ea := false }
theorem t_ring_from : trSs 100 c_ring_from (defBody s_ring_from) = some b_ring_from := by kernel_rfl
def c_can_be : Cfg := { g with N := ["book", "sights"], sc := defScope s_can_be, st := stB (defScope s_can_be).names, mu := [], ra := false, ea := false }
theorem t_can_be : trSs 100 c_can_be (defBody s_can_be) = some b_can_be := by kernel_rfl
def c__law_well : Cfg := { g with N := ["cell", "turn"], sc := defScope s__law_well, st := stB (defScope s__law_well).names, mu := [], ra := true, ea := false }
theorem t__law_well : trSs 100 c__law_well (defBody s__law_well) = some b__law_well := by kernel_rfl
def c__law_take : Cfg := { g with N := ["bag", "many", "found", "p", "n"], sc := defScope s__law_take, st := stB (defScope s__law_take).names, mu := ["bag"], ra := false, ea := false }
theorem t__law_take : trSs 100 c__law_take (defBody s__law_take) = some b__law_take := by kernel_rfl
def c__law_bags : Cfg := { g with N := ["script", "most", "k", "cell"], sc := defScope s__law_bags, st := stB (defScope s__law_bags).names, mu := [], ra := false, ea := false }
theorem t__law_bags : trSs 100 c__law_bags (defBody s__law_bags) = some b__law_bags := by kernel_rfl
def c__law_same : Cfg := { g with N := ["a", "b", "x", "y"], sc := defScope s__law_same, st := stB (defScope s__law_same).names, mu := [], ra := false, ea := false }
theorem t__law_same : trSs 100 c__law_same (defBody s__law_same) = some b__law_same := by kernel_rfl
def c__law_in : Cfg := { g with N := ["x", "low", "high"], sc := defScope s__law_in, st := stB (defScope s__law_in).names, mu := [], ra := false, ea := false }
theorem t__law_in : trSs 100 c__law_in (defBody s__law_in) = some b__law_in := by kernel_rfl
def c__law_run : Cfg := { g with N := ["bag", "lines1", "end", "most", "now", "rows", "story", "eager", "tick", "served", "turn", "line", "long", "one"], sc := defScope s__law_run, st := stB (defScope s__law_run).names, mu := ["story", "now", "rows"], ra := false, ea := false }
theorem t__law_run : trSs 100 c__law_run (defBody s__law_run) = some b__law_run := by kernel_rfl
def c__law_lengths : Cfg := { g with N := ["book", "story", "now", "found", "tick", "when", "line", "long", "one"], sc := defScope s__law_lengths, st := stB (defScope s__law_lengths).names, mu := ["found", "now"], ra := false, ea := false }
theorem t__law_lengths : trSs 100 c__law_lengths (defBody s__law_lengths) = some b__law_lengths := by kernel_rfl
def c__law_sights : Cfg := { g with N := ["bag", "book", "most", "lengths", "found", "turn", "tick", "line", "long"], sc := defScope s__law_sights, st := stB (defScope s__law_sights).names, mu := ["found"], ra := false, ea := false }
theorem t__law_sights : trSs 100 c__law_sights (defBody s__law_sights) = some b__law_sights := by kernel_rfl
def c__law_bent : Cfg := { g with N := ["bag", "story", "lines1", "rows", "turn", "tick", "line", "one", "row"], sc := defScope s__law_bent, st := stB (defScope s__law_bent).names, mu := [], ra := false, ea := true }
theorem t__law_bent : trSs 100 c__law_bent (defBody s__law_bent) = some b__law_bent_k02 := by kernel_rfl
def c__law_is_story : Cfg := { g with N := ["book", "sights", "x", "one", "found", "tick", "line", "long", "part"], sc := defScope s__law_is_story, st := stB (defScope s__law_is_story).names, mu := [], ra := false, ea := false }
theorem t__law_is_story : trSs 100 c__law_is_story (defBody s__law_is_story) = some b__law_is_story := by kernel_rfl
def c__law_written : Cfg := { g with N := ["book", "good", "sights", "bad"], sc := defScope s__law_written, st := stB (defScope s__law_written).names, mu := [], ra := false, ea := false }
theorem t__law_written : trSs 100 c__law_written (defBody s__law_written) = some b__law_written := by kernel_rfl
def c_law : Cfg := { g with N := ["script", "bag", "lines1", "book", "story", "lengths", "sights", "things", "x", "some", "turn"], sc := defScope s_law, st := stB (defScope s_law).names, mu := [], ra := false, ea := false }
theorem t_law : trSs 100 c_law (defBody s_law) = some b_law_k02 := by kernel_rfl
def tbl : List (Str × Fn) := [("is_whole", ⟨1, 1, b_is_whole⟩), ("is_within", ⟨3, 3, b_is_within⟩), ("is_row", ⟨3, 3, b_is_row⟩), ("is_book", ⟨1, 7, b_is_book⟩), ("are_sights", ⟨2, 4, b_are_sights⟩), ("look_at", ⟨2, 2, b_look_at⟩), ("joined_by", ⟨3, 4, b_joined_by⟩), ("joined_ahead", ⟨3, 4, b_joined_ahead⟩), ("is_served", ⟨2, 3, b_is_served⟩), ("shortest_of", ⟨1, 1, b_shortest_of⟩), ("lengths_of", ⟨2, 12, b_lengths_of⟩), ("is_story", ⟨3, 8, b_is_story⟩), ("node", ⟨2, 2, b_node⟩), ("fact_of", ⟨3, 11, b_fact_of⟩), ("all_facts", ⟨2, 11, b_all_facts⟩), ("Bounds", ⟨3, 7, b_Bounds⟩), ("tighten", ⟨2, 7, b_tighten⟩), ("ring_from", ⟨3, 7, b_ring_from⟩), ("can_be", ⟨2, 2, b_can_be⟩), ("_law_well", ⟨2, 2, b__law_well⟩), ("_law_take", ⟨2, 5, b__law_take⟩), ("_law_bags", ⟨2, 4, b__law_bags⟩), ("_law_same", ⟨2, 4, b__law_same⟩), ("_law_in", ⟨3, 3, b__law_in⟩), ("_law_run", ⟨4, 14, b__law_run⟩), ("_law_lengths", ⟨2, 9, b__law_lengths⟩), ("_law_sights", ⟨4, 9, b__law_sights⟩), ("_law_bent", ⟨3, 9, b__law_bent_k02⟩), ("_law_is_story", ⟨3, 9, b__law_is_story⟩), ("_law_written", ⟨0, 4, b__law_written⟩), ("law", ⟨1, 11, b_law_k02⟩)]
def Γ (n : Str) : Option Fn := (tbl ++ SL.stdTbl).lookup n
theorem d_is_whole {K : PySem.W.Frag} {fa : Addr} {fd : FuncData} (F : Fun K "is_whole" "is_whole" s_is_whole fa fd) (b : Binds K fd ["thing"] []) : DefOk K Γ g "is_whole" fa fd ["thing"] :=
  ⟨⟨"is_whole", "is_whole", s_is_whole, ["thing"], [], false, false, ⟨1, 1, b_is_whole⟩, F, ⟨rfl, rfl, rfl, by decide +kernel, rfl, by decide +kernel, by decide +kernel⟩, by kernel_rfl, rfl, rfl, t_is_whole, by decide +kernel⟩, b⟩
theorem d_is_within {K : PySem.W.Frag} {fa : Addr} {fd : FuncData} (F : Fun K "is_within" "is_within" s_is_within fa fd) (b : Binds K fd ["thing", "low", "high"] []) : DefOk K Γ g "is_within" fa fd ["thing", "low", "high"] :=
  ⟨⟨"is_within", "is_within", s_is_within, ["thing", "low", "high"], [], false, false, ⟨3, 3, b_is_within⟩, F, ⟨rfl, rfl, rfl, by decide +kernel, rfl, by decide +kernel, by decide +kernel⟩, by kernel_rfl, rfl, rfl, t_is_within, by decide +kernel⟩, b⟩
theorem d_is_row {K : PySem.W.Frag} {fa : Addr} {fd : FuncData} (F : Fun K "is_row" "is_row" s_is_row fa fd) (b : Binds K fd ["lines", "end", "thing"] []) : DefOk K Γ g "is_row" fa fd ["lines", "end", "thing"] :=
  ⟨⟨"is_row", "is_row", s_is_row, ["lines", "end", "thing"], [], false, false, ⟨3, 3, b_is_row⟩, F, ⟨rfl, rfl, rfl, by decide +kernel, rfl, by decide +kernel, by decide +kernel⟩, by kernel_rfl, rfl, rfl, t_is_row, by decide +kernel⟩, b⟩
theorem d_is_book {K : PySem.W.Frag} {fa : Addr} {fd : FuncData} (F : Fun K "is_book" "is_book" s_is_book fa fd) (b : Binds K fd ["thing"] []) : DefOk K Γ g "is_book" fa fd ["thing"] :=
  ⟨⟨"is_book", "is_book", s_is_book, ["thing", "lines", "end", "rows", "one", "other", "row"], [], false, false, ⟨1, 7, b_is_book⟩, F, ⟨rfl, rfl, rfl, by decide +kernel, rfl, by decide +kernel, by decide +kernel⟩, by kernel_rfl, rfl, rfl, t_is_book, by decide +kernel⟩, b⟩
theorem d_are_sights {K : PySem.W.Frag} {fa : Addr} {fd : FuncData} (F : Fun K "are_sights" "are_sights" s_are_sights fa fd) (b : Binds K fd ["book", "thing"] []) : DefOk K Γ g "are_sights" fa fd ["book", "thing"] :=
  ⟨⟨"are_sights", "are_sights", s_are_sights, ["book", "thing", "one", "other"], [], false, false, ⟨2, 4, b_are_sights⟩, F, ⟨rfl, rfl, rfl, by decide +kernel, rfl, by decide +kernel, by decide +kernel⟩, by kernel_rfl, rfl, rfl, t_are_sights, by decide +kernel⟩, b⟩
theorem d_look_at {K : PySem.W.Frag} {fa : Addr} {fd : FuncData} (F : Fun K "look_at" "look_at" s_look_at fa fd) (b : Binds K fd ["book", "sights"] []) : DefOk K Γ g "look_at" fa fd ["book", "sights"] :=
  ⟨⟨"look_at", "look_at", s_look_at, ["book", "sights"], [], false, false, ⟨2, 2, b_look_at⟩, F, ⟨rfl, rfl, rfl, by decide +kernel, rfl, by decide +kernel, by decide +kernel⟩, by kernel_rfl, rfl, rfl, t_look_at, by decide +kernel⟩, b⟩
theorem d_joined_by {K : PySem.W.Frag} {fa : Addr} {fd : FuncData} (F : Fun K "joined_by" "joined_by" s_joined_by fa fd) (b : Binds K fd ["book", "line", "tick"] []) : DefOk K Γ g "joined_by" fa fd ["book", "line", "tick"] :=
  ⟨⟨"joined_by", "joined_by", s_joined_by, ["book", "line", "tick", "row"], [], false, false, ⟨3, 4, b_joined_by⟩, F, ⟨rfl, rfl, rfl, by decide +kernel, rfl, by decide +kernel, by decide +kernel⟩, by kernel_rfl, rfl, rfl, t_joined_by, by decide +kernel⟩, b⟩
theorem d_joined_ahead {K : PySem.W.Frag} {fa : Addr} {fd : FuncData} (F : Fun K "joined_ahead" "joined_ahead" s_joined_ahead fa fd) (b : Binds K fd ["book", "at", "line"] []) : DefOk K Γ g "joined_ahead" fa fd ["book", "at", "line"] :=
  ⟨⟨"joined_ahead", "joined_ahead", s_joined_ahead, ["book", "at", "line", "row"], [], false, false, ⟨3, 4, b_joined_ahead⟩, F, ⟨rfl, rfl, rfl, by decide +kernel, rfl, by decide +kernel, by decide +kernel⟩, by kernel_rfl, rfl, rfl, t_joined_ahead, by decide +kernel⟩, b⟩
theorem d_is_served {K : PySem.W.Frag} {fa : Addr} {fd : FuncData} (F : Fun K "is_served" "is_served" s_is_served fa fd) (b : Binds K fd ["lines", "thing"] []) : DefOk K Γ g "is_served" fa fd ["lines", "thing"] :=
  ⟨⟨"is_served", "is_served", s_is_served, ["lines", "thing", "one"], [], false, false, ⟨2, 3, b_is_served⟩, F, ⟨rfl, rfl, rfl, by decide +kernel, rfl, by decide +kernel, by decide +kernel⟩, by kernel_rfl, rfl, rfl, t_is_served, by decide +kernel⟩, b⟩
theorem d_shortest_of {K : PySem.W.Frag} {fa : Addr} {fd : FuncData} (F : Fun K "shortest_of" "shortest_of" s_shortest_of fa fd) (b : Binds K fd ["lengths"] []) : DefOk K Γ g "shortest_of" fa fd ["lengths"] :=
  ⟨⟨"shortest_of", "shortest_of", s_shortest_of, ["lengths"], [], false, false, ⟨1, 1, b_shortest_of⟩, F, ⟨rfl, rfl, rfl, by decide +kernel, rfl, by decide +kernel, by decide +kernel⟩, by kernel_rfl, rfl, rfl, t_shortest_of, by decide +kernel⟩, b⟩
theorem d_lengths_of {K : PySem.W.Frag} {fa : Addr} {fd : FuncData} (F : Fun K "lengths_of" "lengths_of" s_lengths_of fa fd) (b : Binds K fd ["book", "story"] []) : DefOk K Γ g "lengths_of" fa fd ["book", "story"] :=
  ⟨⟨"lengths_of", "lengths_of", s_lengths_of, ["book", "story", "lines", "end", "rows", "now", "found", "tick", "when", "line", "long", "served"], ["found", "now"], false, false, ⟨2, 12, b_lengths_of⟩, F, ⟨rfl, rfl, rfl, by decide +kernel, rfl, by decide +kernel, by decide +kernel⟩, by kernel_rfl, rfl, rfl, t_lengths_of, by decide +kernel⟩, b⟩
theorem d_is_story {K : PySem.W.Frag} {fa : Addr} {fd : FuncData} (F : Fun K "is_story" "is_story" s_is_story fa fd) (b : Binds K fd ["book", "sights", "thing"] []) : DefOk K Γ g "is_story" fa fd ["book", "sights", "thing"] :=
  ⟨⟨"is_story", "is_story", s_is_story, ["book", "sights", "thing", "found", "one", "tick", "line", "long"], [], false, false, ⟨3, 8, b_is_story⟩, F, ⟨rfl, rfl, rfl, by decide +kernel, rfl, by decide +kernel, by decide +kernel⟩, by kernel_rfl, rfl, rfl, t_is_story, by decide +kernel⟩, b⟩
theorem d_node {K : PySem.W.Frag} {fa : Addr} {fd : FuncData} (F : Fun K "node" "node" s_node fa fd) (b : Binds K fd ["line", "tick"] []) : DefOk K Γ g "node" fa fd ["line", "tick"] :=
  ⟨⟨"node", "node", s_node, ["line", "tick"], [], false, false, ⟨2, 2, b_node⟩, F, ⟨rfl, rfl, rfl, by decide +kernel, rfl, by decide +kernel, by decide +kernel⟩, by kernel_rfl, rfl, rfl, t_node, by decide +kernel⟩, b⟩
theorem d_fact_of {K : PySem.W.Frag} {fa : Addr} {fd : FuncData} (F : Fun K "fact_of" "fact_of" s_fact_of fa fd) (b : Binds K fd ["book", "sights", "fact"] []) : DefOk K Γ g "fact_of" fa fd ["book", "sights", "fact"] :=
  ⟨⟨"fact_of", "fact_of", s_fact_of, ["book", "sights", "fact", "word", "line", "tick", "at", "mine", "apart", "long", "served"], [], false, false, ⟨3, 11, b_fact_of⟩, F, ⟨rfl, rfl, rfl, by decide +kernel, rfl, by decide +kernel, by decide +kernel⟩, by kernel_rfl, rfl, rfl, t_fact_of, by decide +kernel⟩, b⟩
theorem d_all_facts {K : PySem.W.Frag} {fa : Addr} {fd : FuncData} (F : Fun K "all_facts" "all_facts" s_all_facts fa fd) (b : Binds K fd ["book", "sights"] []) : DefOk K Γ g "all_facts" fa fd ["book", "sights"] :=
  ⟨⟨"all_facts", "all_facts", s_all_facts, ["book", "sights", "lines", "end", "rows", "found", "line", "tick", "at", "row", "word"], ["found"], false, false, ⟨2, 11, b_all_facts⟩, F, ⟨rfl, rfl, rfl, by decide +kernel, rfl, by decide +kernel, by decide +kernel⟩, by kernel_rfl, rfl, rfl, t_all_facts, by decide +kernel⟩, b⟩
theorem d_Bounds {K : PySem.W.Frag} {fa : Addr} {fd : FuncData} (F : Fun K "__init__" "Bounds.__init__" s_Bounds fa fd) (b : Binds K fd ["self", "book", "sights"] []) : DefOk K Γ g "Bounds" fa fd ["self", "book", "sights"] :=
  ⟨⟨"__init__", "Bounds.__init__", s_Bounds, ["self", "book", "sights", "changed", "turn", "step", "fact"], [], false, false, ⟨3, 7, b_Bounds⟩, F, ⟨rfl, rfl, rfl, by decide +kernel, rfl, by decide +kernel, by decide +kernel⟩, by kernel_rfl, rfl, rfl, t_Bounds, by decide +kernel⟩, b⟩
theorem d_tighten {K : PySem.W.Frag} {fa : Addr} {fd : FuncData} (F : Fun K "tighten" "Bounds.tighten" s_tighten fa fd) (b : Binds K fd ["self", "step"] []) : DefOk K Γ g "tighten" fa fd ["self", "step"] :=
  ⟨⟨"tighten", "Bounds.tighten", s_tighten, ["self", "step", "one", "other", "many", "fact", "least"], [], false, false, ⟨2, 7, b_tighten⟩, F, ⟨rfl, rfl, rfl, by decide +kernel, rfl, by decide +kernel, by decide +kernel⟩, by kernel_rfl, rfl, rfl, t_tighten, by decide +kernel⟩, b⟩
theorem d_ring_from {K : PySem.W.Frag} {fa : Addr} {fd : FuncData} (F : Fun K "ring_from" "Bounds.ring_from" s_ring_from fa fd) (b : Binds K fd ["self", "start", "far"] []) : DefOk K Γ g "ring_from" fa fd ["self", "start", "far"] :=
  ⟨⟨"ring_from", "Bounds.ring_from", s_ring_from, ["self", "start", "far", "here", "turn", "ring", "step"], ["ring"], false, false, ⟨3, 7, b_ring_from⟩, F, ⟨rfl, rfl, rfl, by decide +kernel, rfl, by decide +kernel, by decide +kernel⟩, by kernel_rfl, rfl, rfl, t_ring_from, by decide +kernel⟩, b⟩
theorem d_can_be {K : PySem.W.Frag} {fa : Addr} {fd : FuncData} (F : Fun K "can_be" "can_be" s_can_be fa fd) (b : Binds K fd ["book", "sights"] []) : DefOk K Γ g "can_be" fa fd ["book", "sights"] :=
  ⟨⟨"can_be", "can_be", s_can_be, ["book", "sights"], [], false, false, ⟨2, 2, b_can_be⟩, F, ⟨rfl, rfl, rfl, by decide +kernel, rfl, by decide +kernel, by decide +kernel⟩, by kernel_rfl, rfl, rfl, t_can_be, by decide +kernel⟩, b⟩
theorem d__law_well {K : PySem.W.Frag} {fa : Addr} {fd : FuncData} (F : Fun K "_law_well" "_law_well" s__law_well fa fd) (b : Binds K fd ["cell", "turn"] []) : DefOk K Γ g "_law_well" fa fd ["cell", "turn"] :=
  ⟨⟨"_law_well", "_law_well", s__law_well, ["cell", "turn"], [], true, false, ⟨2, 2, b__law_well⟩, F, ⟨rfl, rfl, rfl, by decide +kernel, rfl, by decide +kernel, by decide +kernel⟩, by kernel_rfl, rfl, rfl, t__law_well, by decide +kernel⟩, b⟩
theorem d__law_take {K : PySem.W.Frag} {fa : Addr} {fd : FuncData} (F : Fun K "_law_take" "_law_take" s__law_take fa fd) (b : Binds K fd ["bag", "many"] []) : DefOk K Γ g "_law_take" fa fd ["bag", "many"] :=
  ⟨⟨"_law_take", "_law_take", s__law_take, ["bag", "many", "found", "p", "n"], ["bag"], false, false, ⟨2, 5, b__law_take⟩, F, ⟨rfl, rfl, rfl, by decide +kernel, rfl, by decide +kernel, by decide +kernel⟩, by kernel_rfl, rfl, rfl, t__law_take, by decide +kernel⟩, b⟩
theorem d__law_bags {K : PySem.W.Frag} {fa : Addr} {fd : FuncData} (F : Fun K "_law_bags" "_law_bags" s__law_bags fa fd) (b : Binds K fd ["script", "most"] []) : DefOk K Γ g "_law_bags" fa fd ["script", "most"] :=
  ⟨⟨"_law_bags", "_law_bags", s__law_bags, ["script", "most", "k", "cell"], [], false, false, ⟨2, 4, b__law_bags⟩, F, ⟨rfl, rfl, rfl, by decide +kernel, rfl, by decide +kernel, by decide +kernel⟩, by kernel_rfl, rfl, rfl, t__law_bags, by decide +kernel⟩, b⟩
theorem d__law_same {K : PySem.W.Frag} {fa : Addr} {fd : FuncData} (F : Fun K "_law_same" "_law_same" s__law_same fa fd) (b : Binds K fd ["a", "b"] []) : DefOk K Γ g "_law_same" fa fd ["a", "b"] :=
  ⟨⟨"_law_same", "_law_same", s__law_same, ["a", "b", "x", "y"], [], false, false, ⟨2, 4, b__law_same⟩, F, ⟨rfl, rfl, rfl, by decide +kernel, rfl, by decide +kernel, by decide +kernel⟩, by kernel_rfl, rfl, rfl, t__law_same, by decide +kernel⟩, b⟩
theorem d__law_in {K : PySem.W.Frag} {fa : Addr} {fd : FuncData} (F : Fun K "_law_in" "_law_in" s__law_in fa fd) (b : Binds K fd ["x", "low", "high"] []) : DefOk K Γ g "_law_in" fa fd ["x", "low", "high"] :=
  ⟨⟨"_law_in", "_law_in", s__law_in, ["x", "low", "high"], [], false, false, ⟨3, 3, b__law_in⟩, F, ⟨rfl, rfl, rfl, by decide +kernel, rfl, by decide +kernel, by decide +kernel⟩, by kernel_rfl, rfl, rfl, t__law_in, by decide +kernel⟩, b⟩
theorem d__law_run {K : PySem.W.Frag} {fa : Addr} {fd : FuncData} (F : Fun K "_law_run" "_law_run" s__law_run fa fd) (b : Binds K fd ["bag", "lines1", "end", "most"] []) : DefOk K Γ g "_law_run" fa fd ["bag", "lines1", "end", "most"] :=
  ⟨⟨"_law_run", "_law_run", s__law_run, ["bag", "lines1", "end", "most", "now", "rows", "story", "eager", "tick", "served", "turn", "line", "long", "one"], ["story", "now", "rows"], false, false, ⟨4, 14, b__law_run⟩, F, ⟨rfl, rfl, rfl, by decide +kernel, rfl, by decide +kernel, by decide +kernel⟩, by kernel_rfl, rfl, rfl, t__law_run, by decide +kernel⟩, b⟩
theorem d__law_lengths {K : PySem.W.Frag} {fa : Addr} {fd : FuncData} (F : Fun K "_law_lengths" "_law_lengths" s__law_lengths fa fd) (b : Binds K fd ["book", "story"] []) : DefOk K Γ g "_law_lengths" fa fd ["book", "story"] :=
  ⟨⟨"_law_lengths", "_law_lengths", s__law_lengths, ["book", "story", "now", "found", "tick", "when", "line", "long", "one"], ["found", "now"], false, false, ⟨2, 9, b__law_lengths⟩, F, ⟨rfl, rfl, rfl, by decide +kernel, rfl, by decide +kernel, by decide +kernel⟩, by kernel_rfl, rfl, rfl, t__law_lengths, by decide +kernel⟩, b⟩
theorem d__law_sights {K : PySem.W.Frag} {fa : Addr} {fd : FuncData} (F : Fun K "_law_sights" "_law_sights" s__law_sights fa fd) (b : Binds K fd ["bag", "book", "most", "lengths"] []) : DefOk K Γ g "_law_sights" fa fd ["bag", "book", "most", "lengths"] :=
  ⟨⟨"_law_sights", "_law_sights", s__law_sights, ["bag", "book", "most", "lengths", "found", "turn", "tick", "line", "long"], ["found"], false, false, ⟨4, 9, b__law_sights⟩, F, ⟨rfl, rfl, rfl, by decide +kernel, rfl, by decide +kernel, by decide +kernel⟩, by kernel_rfl, rfl, rfl, t__law_sights, by decide +kernel⟩, b⟩
theorem d__law_bent {K : PySem.W.Frag} {fa : Addr} {fd : FuncData} (F : Fun K "_law_bent" "_law_bent" s__law_bent fa fd) (b : Binds K fd ["bag", "story", "lines1"] []) : DefOk K Γ g "_law_bent" fa fd ["bag", "story", "lines1"] :=
  ⟨⟨"_law_bent", "_law_bent", s__law_bent, ["bag", "story", "lines1", "rows", "turn", "tick", "line", "one", "row"], [], false, true, ⟨3, 9, b__law_bent_k02⟩, F, ⟨rfl, rfl, rfl, by decide +kernel, rfl, by decide +kernel, by decide +kernel⟩, by kernel_rfl, rfl, rfl, t__law_bent, by decide +kernel⟩, b⟩
theorem d__law_is_story {K : PySem.W.Frag} {fa : Addr} {fd : FuncData} (F : Fun K "_law_is_story" "_law_is_story" s__law_is_story fa fd) (b : Binds K fd ["book", "sights", "x"] []) : DefOk K Γ g "_law_is_story" fa fd ["book", "sights", "x"] :=
  ⟨⟨"_law_is_story", "_law_is_story", s__law_is_story, ["book", "sights", "x", "one", "found", "tick", "line", "long", "part"], [], false, false, ⟨3, 9, b__law_is_story⟩, F, ⟨rfl, rfl, rfl, by decide +kernel, rfl, by decide +kernel, by decide +kernel⟩, by kernel_rfl, rfl, rfl, t__law_is_story, by decide +kernel⟩, b⟩
theorem d__law_written {K : PySem.W.Frag} {fa : Addr} {fd : FuncData} (F : Fun K "_law_written" "_law_written" s__law_written fa fd) (b : Binds K fd [] []) : DefOk K Γ g "_law_written" fa fd [] :=
  ⟨⟨"_law_written", "_law_written", s__law_written, ["book", "good", "sights", "bad"], [], false, false, ⟨0, 4, b__law_written⟩, F, ⟨rfl, rfl, rfl, by decide +kernel, rfl, by decide +kernel, by decide +kernel⟩, by kernel_rfl, rfl, rfl, t__law_written, by decide +kernel⟩, b⟩
theorem d_law {K : PySem.W.Frag} {fa : Addr} {fd : FuncData} (F : Fun K "law" "law" s_law fa fd) (b : Binds K fd ["script"] []) : DefOk K Γ g "law" fa fd ["script"] :=
  ⟨⟨"law", "law", s_law, ["script", "bag", "lines1", "book", "story", "lengths", "sights", "things", "x", "some", "turn"], [], false, false, ⟨1, 11, b_law_k02⟩, F, ⟨rfl, rfl, rfl, by decide +kernel, rfl, by decide +kernel, by decide +kernel⟩, by kernel_rfl, rfl, rfl, t_law, by decide +kernel⟩, b⟩
theorem all_mk {l : PySem.W.OpenLaw} {w : World} {K : PySem.W.Frag} {h : Heap} {mg : Str → Option Value} {fa : Addr} (X : K.In h) (G : h.Ns mainGlobals mg) (hfa : mg "law" = some (.ref fa))
    {od0 an0 : Option Addr} {sl0 : Array (Option Value)} {oc0 kV0 dc0 pm0 cd0 ct0 : Value} {f0 : Addr}
    {od1 an1 : Option Addr} {sl1 : Array (Option Value)} {oc1 kV1 dc1 pm1 cd1 ct1 : Value} {f1 : Addr}
    {od2 an2 : Option Addr} {sl2 : Array (Option Value)} {oc2 kV2 dc2 pm2 cd2 ct2 : Value} {f2 : Addr}
    {od3 an3 : Option Addr} {sl3 : Array (Option Value)} {oc3 kV3 dc3 pm3 cd3 ct3 : Value} {f3 : Addr}
    {od4 an4 : Option Addr} {sl4 : Array (Option Value)} {oc4 kV4 dc4 pm4 cd4 ct4 : Value} {f4 : Addr}
    {od5 an5 : Option Addr} {sl5 : Array (Option Value)} {oc5 kV5 dc5 pm5 cd5 ct5 : Value} {f5 : Addr}
    {od6 an6 : Option Addr} {sl6 : Array (Option Value)} {oc6 kV6 dc6 pm6 cd6 ct6 : Value} {f6 : Addr}
    {od7 an7 : Option Addr} {sl7 : Array (Option Value)} {oc7 kV7 dc7 pm7 cd7 ct7 : Value} {f7 : Addr}
    {od8 an8 : Option Addr} {sl8 : Array (Option Value)} {oc8 kV8 dc8 pm8 cd8 ct8 : Value} {f8 : Addr}
    {od9 an9 : Option Addr} {sl9 : Array (Option Value)} {oc9 kV9 dc9 pm9 cd9 ct9 : Value} {f9 : Addr}
    {od10 an10 : Option Addr} {sl10 : Array (Option Value)} {oc10 kV10 dc10 pm10 cd10 ct10 : Value} {f10 : Addr}
    {od11 an11 : Option Addr} {sl11 : Array (Option Value)} {oc11 kV11 dc11 pm11 cd11 ct11 : Value} {f11 : Addr}
    {od12 an12 : Option Addr} {sl12 : Array (Option Value)} {oc12 kV12 dc12 pm12 cd12 ct12 : Value} {f12 : Addr}
    {od13 an13 : Option Addr} {sl13 : Array (Option Value)} {oc13 kV13 dc13 pm13 cd13 ct13 : Value} {f13 : Addr}
    {od14 an14 : Option Addr} {sl14 : Array (Option Value)} {oc14 kV14 dc14 pm14 cd14 ct14 : Value} {f14 : Addr}
    {od15 an15 : Option Addr} {sl15 : Array (Option Value)} {oc15 kV15 dc15 pm15 cd15 ct15 : Value} {f15 : Addr}
    {od16 an16 : Option Addr} {sl16 : Array (Option Value)} {oc16 kV16 dc16 pm16 cd16 ct16 : Value} {f16 : Addr}
    {od17 an17 : Option Addr} {sl17 : Array (Option Value)} {oc17 kV17 dc17 pm17 cd17 ct17 : Value} {f17 : Addr}
    {od18 an18 : Option Addr} {sl18 : Array (Option Value)} {oc18 kV18 dc18 pm18 cd18 ct18 : Value} {f18 : Addr}
    {od19 an19 : Option Addr} {sl19 : Array (Option Value)} {oc19 kV19 dc19 pm19 cd19 ct19 : Value} {f19 : Addr}
    {od20 an20 : Option Addr} {sl20 : Array (Option Value)} {oc20 kV20 dc20 pm20 cd20 ct20 : Value} {f20 : Addr}
    {od21 an21 : Option Addr} {sl21 : Array (Option Value)} {oc21 kV21 dc21 pm21 cd21 ct21 : Value} {f21 : Addr}
    {od22 an22 : Option Addr} {sl22 : Array (Option Value)} {oc22 kV22 dc22 pm22 cd22 ct22 : Value} {f22 : Addr}
    {od23 an23 : Option Addr} {sl23 : Array (Option Value)} {oc23 kV23 dc23 pm23 cd23 ct23 : Value} {f23 : Addr}
    {od24 an24 : Option Addr} {sl24 : Array (Option Value)} {oc24 kV24 dc24 pm24 cd24 ct24 : Value} {f24 : Addr}
    {od25 an25 : Option Addr} {sl25 : Array (Option Value)} {oc25 kV25 dc25 pm25 cd25 ct25 : Value} {f25 : Addr}
    {od26 an26 : Option Addr} {sl26 : Array (Option Value)} {oc26 kV26 dc26 pm26 cd26 ct26 : Value} {f26 : Addr}
    {od27 an27 : Option Addr} {sl27 : Array (Option Value)} {oc27 kV27 dc27 pm27 cd27 ct27 : Value} {f27 : Addr}
    {od28 an28 : Option Addr} {sl28 : Array (Option Value)} {oc28 kV28 dc28 pm28 cd28 ct28 : Value} {f28 : Addr}
    {od29 an29 : Option Addr} {sl29 : Array (Option Value)} {oc29 kV29 dc29 pm29 cd29 ct29 : Value} {f29 : Addr}
    {od30 an30 : Option Addr} {sl30 : Array (Option Value)} {oc30 kV30 dc30 pm30 cd30 ct30 : Value} {f30 : Addr}
    {CA : Addr}
    {u0 : Tok}
    {u1 : Tok}
    {u2 : Tok}
    {u3 : Tok}
    (aC : PySem.W.nsIn K mainGlobals "Bounds" = some (some (.ref CA)))
    (pg : PySem.W.plainGet K CA Str.empty = true)
    (hd : PySem.W.hasDictIn K CA = true)
    (po : PySem.W.plainOver K CA = true)
    (sa : PySem.W.findIn K (.ref CA) "__setattr__" = some (some (.builtin "object.__setattr__")))
    (mk : PySem.W.makesIn K CA = true)
    (kc : PySem.W.keepIn K (.ref CA) = true)
    (n_steps : PySem.W.findIn K (.ref CA) "steps" = some none)
    (n_most : PySem.W.findIn K (.ref CA) "most" = some none)
    (n_by : PySem.W.findIn K (.ref CA) "by" = some none)
    (n_ring : PySem.W.findIn K (.ref CA) "ring" = some none)
    (a0 : PySem.W.nsIn K mainGlobals "is_whole" = some (some (.ref f0)))
    (l0 : K.lookup f0 = some ⟨oc0, od0, .func (PySem.W.fnOf "is_whole" "is_whole" (defArgs s_is_whole) (defBody s_is_whole) (defScope s_is_whole) .none kV0 dc0 pm0 an0 cd0 ct0), sl0⟩)
    (c0 : PySem.W.codeIn K cd0 "is_whole" = true)
    (k0 : PySem.W.keepIn K (.ref f0) = true)
    (a1 : PySem.W.nsIn K mainGlobals "is_within" = some (some (.ref f1)))
    (l1 : K.lookup f1 = some ⟨oc1, od1, .func (PySem.W.fnOf "is_within" "is_within" (defArgs s_is_within) (defBody s_is_within) (defScope s_is_within) .none kV1 dc1 pm1 an1 cd1 ct1), sl1⟩)
    (c1 : PySem.W.codeIn K cd1 "is_within" = true)
    (k1 : PySem.W.keepIn K (.ref f1) = true)
    (a2 : PySem.W.nsIn K mainGlobals "is_row" = some (some (.ref f2)))
    (l2 : K.lookup f2 = some ⟨oc2, od2, .func (PySem.W.fnOf "is_row" "is_row" (defArgs s_is_row) (defBody s_is_row) (defScope s_is_row) .none kV2 dc2 pm2 an2 cd2 ct2), sl2⟩)
    (c2 : PySem.W.codeIn K cd2 "is_row" = true)
    (k2 : PySem.W.keepIn K (.ref f2) = true)
    (a3 : PySem.W.nsIn K mainGlobals "is_book" = some (some (.ref f3)))
    (l3 : K.lookup f3 = some ⟨oc3, od3, .func (PySem.W.fnOf "is_book" "is_book" (defArgs s_is_book) (defBody s_is_book) (defScope s_is_book) .none kV3 dc3 pm3 an3 cd3 ct3), sl3⟩)
    (c3 : PySem.W.codeIn K cd3 "is_book" = true)
    (k3 : PySem.W.keepIn K (.ref f3) = true)
    (a4 : PySem.W.nsIn K mainGlobals "are_sights" = some (some (.ref f4)))
    (l4 : K.lookup f4 = some ⟨oc4, od4, .func (PySem.W.fnOf "are_sights" "are_sights" (defArgs s_are_sights) (defBody s_are_sights) (defScope s_are_sights) .none kV4 dc4 pm4 an4 cd4 ct4), sl4⟩)
    (c4 : PySem.W.codeIn K cd4 "are_sights" = true)
    (k4 : PySem.W.keepIn K (.ref f4) = true)
    (a5 : PySem.W.nsIn K mainGlobals "look_at" = some (some (.ref f5)))
    (l5 : K.lookup f5 = some ⟨oc5, od5, .func (PySem.W.fnOf "look_at" "look_at" (defArgs s_look_at) (defBody s_look_at) (defScope s_look_at) .none kV5 dc5 pm5 an5 cd5 ct5), sl5⟩)
    (c5 : PySem.W.codeIn K cd5 "look_at" = true)
    (k5 : PySem.W.keepIn K (.ref f5) = true)
    (a6 : PySem.W.nsIn K mainGlobals "joined_by" = some (some (.ref f6)))
    (l6 : K.lookup f6 = some ⟨oc6, od6, .func (PySem.W.fnOf "joined_by" "joined_by" (defArgs s_joined_by) (defBody s_joined_by) (defScope s_joined_by) .none kV6 dc6 pm6 an6 cd6 ct6), sl6⟩)
    (c6 : PySem.W.codeIn K cd6 "joined_by" = true)
    (k6 : PySem.W.keepIn K (.ref f6) = true)
    (a7 : PySem.W.nsIn K mainGlobals "joined_ahead" = some (some (.ref f7)))
    (l7 : K.lookup f7 = some ⟨oc7, od7, .func (PySem.W.fnOf "joined_ahead" "joined_ahead" (defArgs s_joined_ahead) (defBody s_joined_ahead) (defScope s_joined_ahead) .none kV7 dc7 pm7 an7 cd7 ct7), sl7⟩)
    (c7 : PySem.W.codeIn K cd7 "joined_ahead" = true)
    (k7 : PySem.W.keepIn K (.ref f7) = true)
    (a8 : PySem.W.nsIn K mainGlobals "is_served" = some (some (.ref f8)))
    (l8 : K.lookup f8 = some ⟨oc8, od8, .func (PySem.W.fnOf "is_served" "is_served" (defArgs s_is_served) (defBody s_is_served) (defScope s_is_served) .none kV8 dc8 pm8 an8 cd8 ct8), sl8⟩)
    (c8 : PySem.W.codeIn K cd8 "is_served" = true)
    (k8 : PySem.W.keepIn K (.ref f8) = true)
    (a9 : PySem.W.nsIn K mainGlobals "shortest_of" = some (some (.ref f9)))
    (l9 : K.lookup f9 = some ⟨oc9, od9, .func (PySem.W.fnOf "shortest_of" "shortest_of" (defArgs s_shortest_of) (defBody s_shortest_of) (defScope s_shortest_of) .none kV9 dc9 pm9 an9 cd9 ct9), sl9⟩)
    (c9 : PySem.W.codeIn K cd9 "shortest_of" = true)
    (k9 : PySem.W.keepIn K (.ref f9) = true)
    (a10 : PySem.W.nsIn K mainGlobals "lengths_of" = some (some (.ref f10)))
    (l10 : K.lookup f10 = some ⟨oc10, od10, .func (PySem.W.fnOf "lengths_of" "lengths_of" (defArgs s_lengths_of) (defBody s_lengths_of) (defScope s_lengths_of) .none kV10 dc10 pm10 an10 cd10 ct10), sl10⟩)
    (c10 : PySem.W.codeIn K cd10 "lengths_of" = true)
    (k10 : PySem.W.keepIn K (.ref f10) = true)
    (a11 : PySem.W.nsIn K mainGlobals "is_story" = some (some (.ref f11)))
    (l11 : K.lookup f11 = some ⟨oc11, od11, .func (PySem.W.fnOf "is_story" "is_story" (defArgs s_is_story) (defBody s_is_story) (defScope s_is_story) .none kV11 dc11 pm11 an11 cd11 ct11), sl11⟩)
    (c11 : PySem.W.codeIn K cd11 "is_story" = true)
    (k11 : PySem.W.keepIn K (.ref f11) = true)
    (a12 : PySem.W.nsIn K mainGlobals "node" = some (some (.ref f12)))
    (l12 : K.lookup f12 = some ⟨oc12, od12, .func (PySem.W.fnOf "node" "node" (defArgs s_node) (defBody s_node) (defScope s_node) .none kV12 dc12 pm12 an12 cd12 ct12), sl12⟩)
    (c12 : PySem.W.codeIn K cd12 "node" = true)
    (k12 : PySem.W.keepIn K (.ref f12) = true)
    (a13 : PySem.W.nsIn K mainGlobals "fact_of" = some (some (.ref f13)))
    (l13 : K.lookup f13 = some ⟨oc13, od13, .func (PySem.W.fnOf "fact_of" "fact_of" (defArgs s_fact_of) (defBody s_fact_of) (defScope s_fact_of) .none kV13 dc13 pm13 an13 cd13 ct13), sl13⟩)
    (c13 : PySem.W.codeIn K cd13 "fact_of" = true)
    (k13 : PySem.W.keepIn K (.ref f13) = true)
    (a14 : PySem.W.nsIn K mainGlobals "all_facts" = some (some (.ref f14)))
    (l14 : K.lookup f14 = some ⟨oc14, od14, .func (PySem.W.fnOf "all_facts" "all_facts" (defArgs s_all_facts) (defBody s_all_facts) (defScope s_all_facts) .none kV14 dc14 pm14 an14 cd14 ct14), sl14⟩)
    (c14 : PySem.W.codeIn K cd14 "all_facts" = true)
    (k14 : PySem.W.keepIn K (.ref f14) = true)
    (a15 : PySem.W.findIn K (.ref CA) "__init__" = some (some (.ref f15)))
    (i15 : PySem.W.isFn K (.ref f15) = true)
    (l15 : K.lookup f15 = some ⟨oc15, od15, .func (PySem.W.fnOf "__init__" "Bounds.__init__" (defArgs s_Bounds) (defBody s_Bounds) (defScope s_Bounds) .none kV15 dc15 pm15 an15 cd15 ct15), sl15⟩)
    (c15 : PySem.W.codeIn K cd15 "Bounds.__init__" = true)
    (k15 : PySem.W.keepIn K (.ref f15) = true)
    (a16 : PySem.W.findIn K (.ref CA) "tighten" = some (some (.ref f16)))
    (i16 : PySem.W.isFn K (.ref f16) = true)
    (l16 : K.lookup f16 = some ⟨oc16, od16, .func (PySem.W.fnOf "tighten" "Bounds.tighten" (defArgs s_tighten) (defBody s_tighten) (defScope s_tighten) .none kV16 dc16 pm16 an16 cd16 ct16), sl16⟩)
    (c16 : PySem.W.codeIn K cd16 "Bounds.tighten" = true)
    (k16 : PySem.W.keepIn K (.ref f16) = true)
    (a17 : PySem.W.findIn K (.ref CA) "ring_from" = some (some (.ref f17)))
    (i17 : PySem.W.isFn K (.ref f17) = true)
    (l17 : K.lookup f17 = some ⟨oc17, od17, .func (PySem.W.fnOf "ring_from" "Bounds.ring_from" (defArgs s_ring_from) (defBody s_ring_from) (defScope s_ring_from) .none kV17 dc17 pm17 an17 cd17 ct17), sl17⟩)
    (c17 : PySem.W.codeIn K cd17 "Bounds.ring_from" = true)
    (k17 : PySem.W.keepIn K (.ref f17) = true)
    (a18 : PySem.W.nsIn K mainGlobals "can_be" = some (some (.ref f18)))
    (l18 : K.lookup f18 = some ⟨oc18, od18, .func (PySem.W.fnOf "can_be" "can_be" (defArgs s_can_be) (defBody s_can_be) (defScope s_can_be) .none kV18 dc18 pm18 an18 cd18 ct18), sl18⟩)
    (c18 : PySem.W.codeIn K cd18 "can_be" = true)
    (k18 : PySem.W.keepIn K (.ref f18) = true)
    (a19 : PySem.W.nsIn K mainGlobals "_law_well" = some (some (.ref f19)))
    (l19 : K.lookup f19 = some ⟨oc19, od19, .func (PySem.W.fnOf "_law_well" "_law_well" (defArgs s__law_well) (defBody s__law_well) (defScope s__law_well) .none kV19 dc19 pm19 an19 cd19 ct19), sl19⟩)
    (c19 : PySem.W.codeIn K cd19 "_law_well" = true)
    (k19 : PySem.W.keepIn K (.ref f19) = true)
    (a20 : PySem.W.nsIn K mainGlobals "_law_take" = some (some (.ref f20)))
    (l20 : K.lookup f20 = some ⟨oc20, od20, .func (PySem.W.fnOf "_law_take" "_law_take" (defArgs s__law_take) (defBody s__law_take) (defScope s__law_take) .none kV20 dc20 pm20 an20 cd20 ct20), sl20⟩)
    (c20 : PySem.W.codeIn K cd20 "_law_take" = true)
    (k20 : PySem.W.keepIn K (.ref f20) = true)
    (a21 : PySem.W.nsIn K mainGlobals "_law_bags" = some (some (.ref f21)))
    (l21 : K.lookup f21 = some ⟨oc21, od21, .func (PySem.W.fnOf "_law_bags" "_law_bags" (defArgs s__law_bags) (defBody s__law_bags) (defScope s__law_bags) .none kV21 dc21 pm21 an21 cd21 ct21), sl21⟩)
    (c21 : PySem.W.codeIn K cd21 "_law_bags" = true)
    (k21 : PySem.W.keepIn K (.ref f21) = true)
    (a22 : PySem.W.nsIn K mainGlobals "_law_same" = some (some (.ref f22)))
    (l22 : K.lookup f22 = some ⟨oc22, od22, .func (PySem.W.fnOf "_law_same" "_law_same" (defArgs s__law_same) (defBody s__law_same) (defScope s__law_same) .none kV22 dc22 pm22 an22 cd22 ct22), sl22⟩)
    (c22 : PySem.W.codeIn K cd22 "_law_same" = true)
    (k22 : PySem.W.keepIn K (.ref f22) = true)
    (a23 : PySem.W.nsIn K mainGlobals "_law_in" = some (some (.ref f23)))
    (l23 : K.lookup f23 = some ⟨oc23, od23, .func (PySem.W.fnOf "_law_in" "_law_in" (defArgs s__law_in) (defBody s__law_in) (defScope s__law_in) .none kV23 dc23 pm23 an23 cd23 ct23), sl23⟩)
    (c23 : PySem.W.codeIn K cd23 "_law_in" = true)
    (k23 : PySem.W.keepIn K (.ref f23) = true)
    (a24 : PySem.W.nsIn K mainGlobals "_law_run" = some (some (.ref f24)))
    (l24 : K.lookup f24 = some ⟨oc24, od24, .func (PySem.W.fnOf "_law_run" "_law_run" (defArgs s__law_run) (defBody s__law_run) (defScope s__law_run) .none kV24 dc24 pm24 an24 cd24 ct24), sl24⟩)
    (c24 : PySem.W.codeIn K cd24 "_law_run" = true)
    (k24 : PySem.W.keepIn K (.ref f24) = true)
    (a25 : PySem.W.nsIn K mainGlobals "_law_lengths" = some (some (.ref f25)))
    (l25 : K.lookup f25 = some ⟨oc25, od25, .func (PySem.W.fnOf "_law_lengths" "_law_lengths" (defArgs s__law_lengths) (defBody s__law_lengths) (defScope s__law_lengths) .none kV25 dc25 pm25 an25 cd25 ct25), sl25⟩)
    (c25 : PySem.W.codeIn K cd25 "_law_lengths" = true)
    (k25 : PySem.W.keepIn K (.ref f25) = true)
    (a26 : PySem.W.nsIn K mainGlobals "_law_sights" = some (some (.ref f26)))
    (l26 : K.lookup f26 = some ⟨oc26, od26, .func (PySem.W.fnOf "_law_sights" "_law_sights" (defArgs s__law_sights) (defBody s__law_sights) (defScope s__law_sights) .none kV26 dc26 pm26 an26 cd26 ct26), sl26⟩)
    (c26 : PySem.W.codeIn K cd26 "_law_sights" = true)
    (k26 : PySem.W.keepIn K (.ref f26) = true)
    (a27 : PySem.W.nsIn K mainGlobals "_law_bent" = some (some (.ref f27)))
    (l27 : K.lookup f27 = some ⟨oc27, od27, .func (PySem.W.fnOf "_law_bent" "_law_bent" (defArgs s__law_bent) (defBody s__law_bent) (defScope s__law_bent) .none kV27 dc27 pm27 an27 cd27 ct27), sl27⟩)
    (c27 : PySem.W.codeIn K cd27 "_law_bent" = true)
    (k27 : PySem.W.keepIn K (.ref f27) = true)
    (a28 : PySem.W.nsIn K mainGlobals "_law_is_story" = some (some (.ref f28)))
    (l28 : K.lookup f28 = some ⟨oc28, od28, .func (PySem.W.fnOf "_law_is_story" "_law_is_story" (defArgs s__law_is_story) (defBody s__law_is_story) (defScope s__law_is_story) .none kV28 dc28 pm28 an28 cd28 ct28), sl28⟩)
    (c28 : PySem.W.codeIn K cd28 "_law_is_story" = true)
    (k28 : PySem.W.keepIn K (.ref f28) = true)
    (a29 : PySem.W.nsIn K mainGlobals "_law_written" = some (some (.ref f29)))
    (l29 : K.lookup f29 = some ⟨oc29, od29, .func (PySem.W.fnOf "_law_written" "_law_written" (defArgs s__law_written) (defBody s__law_written) (defScope s__law_written) .none kV29 dc29 pm29 an29 cd29 ct29), sl29⟩)
    (c29 : PySem.W.codeIn K cd29 "_law_written" = true)
    (k29 : PySem.W.keepIn K (.ref f29) = true)
    (a30 : PySem.W.nsIn K mainGlobals "law" = some (some (.ref f30)))
    (l30 : K.lookup f30 = some ⟨oc30, od30, .func (PySem.W.fnOf "law" "law" (defArgs s_law) (defBody s_law) (defScope s_law) .none kV30 dc30 pm30 an30 cd30 ct30), sl30⟩)
    (c30 : PySem.W.codeIn K cd30 "law" = true)
    (k30 : PySem.W.keepIn K (.ref f30) = true)
    (v0 : PySem.W.nsIn K mainGlobals "MOST_LINES" = some (some (.int 4 u0)))
    (v1 : PySem.W.nsIn K mainGlobals "MOST_END" = some (some (.int 30 u1)))
    (v2 : PySem.W.nsIn K mainGlobals "MOST_ROWS" = some (some (.int 16 u2)))
    (v3 : PySem.W.nsIn K mainGlobals "MOST_SIGHTS" = some (some (.int 6 u3)))
    (z0 : PySem.W.nsIn K mainGlobals "len" = some none)
    (z1 : PySem.W.nsIn K mainGlobals "min" = some none)
    (z2 : PySem.W.nsIn K mainGlobals "all" = some none)
    (z3 : PySem.W.nsIn K mainGlobals "sorted" = some none)
    (z4 : PySem.W.nsIn K mainGlobals "tuple" = some none)
    (z5 : PySem.W.nsIn K mainGlobals "list" = some none)
    (z6 : PySem.W.nsIn K mainGlobals "int" = some none)
    (z7 : PySem.W.nsIn K mainGlobals "isinstance" = some none)
    (z8 : PySem.W.nsIn K mainGlobals "range" = some none)
    (z9 : PySem.W.nsIn K mainGlobals "enumerate" = some none)
    (z10 : PySem.W.nsIn K mainGlobals "zip" = some none)
    (z11 : PySem.W.nsIn K mainGlobals "bool" = some none)
    (z12 : PySem.W.nsIn K mainGlobals "str" = some none)
    (thm : ∀ ns : List Int, ns.length ≤ 63 → ∃ S', callK Γ 12 "law" [.ro (ns.map .int)] [] = some (.bl true, S')) :
    ∃ fd : FuncData, (∀ (s : Shared) (v : Value), BindsTo s fd ⟨[v], []⟩ [("script", v)]) ∧ ∀ base : Heap, K.In base → base.Ns mainGlobals mg → FnOk l.prog w K mg base CX0 (2 * 12) fa fd ["script"] (SL.spLaw K) := by
  have e := hfa.symm.trans (PySem.W.mg_of X G a30)
  cases e
  have F0 := fun_mk (st := s_is_whole) l0 c0 k0
  have D0 := d_is_whole F0 (F0.binds (ps := ["thing"]) fun _ _ _ _ _ _ us hl => match us, hl with | [_], _ => rfl)
  have F1 := fun_mk (st := s_is_within) l1 c1 k1
  have D1 := d_is_within F1 (F1.binds (ps := ["thing", "low", "high"]) fun _ _ _ _ _ _ us hl => match us, hl with | [_, _, _], _ => rfl)
  have F2 := fun_mk (st := s_is_row) l2 c2 k2
  have D2 := d_is_row F2 (F2.binds (ps := ["lines", "end", "thing"]) fun _ _ _ _ _ _ us hl => match us, hl with | [_, _, _], _ => rfl)
  have F3 := fun_mk (st := s_is_book) l3 c3 k3
  have D3 := d_is_book F3 (F3.binds (ps := ["thing"]) fun _ _ _ _ _ _ us hl => match us, hl with | [_], _ => rfl)
  have F4 := fun_mk (st := s_are_sights) l4 c4 k4
  have D4 := d_are_sights F4 (F4.binds (ps := ["book", "thing"]) fun _ _ _ _ _ _ us hl => match us, hl with | [_, _], _ => rfl)
  have F5 := fun_mk (st := s_look_at) l5 c5 k5
  have D5 := d_look_at F5 (F5.binds (ps := ["book", "sights"]) fun _ _ _ _ _ _ us hl => match us, hl with | [_, _], _ => rfl)
  have F6 := fun_mk (st := s_joined_by) l6 c6 k6
  have D6 := d_joined_by F6 (F6.binds (ps := ["book", "line", "tick"]) fun _ _ _ _ _ _ us hl => match us, hl with | [_, _, _], _ => rfl)
  have F7 := fun_mk (st := s_joined_ahead) l7 c7 k7
  have D7 := d_joined_ahead F7 (F7.binds (ps := ["book", "at", "line"]) fun _ _ _ _ _ _ us hl => match us, hl with | [_, _, _], _ => rfl)
  have F8 := fun_mk (st := s_is_served) l8 c8 k8
  have D8 := d_is_served F8 (F8.binds (ps := ["lines", "thing"]) fun _ _ _ _ _ _ us hl => match us, hl with | [_, _], _ => rfl)
  have F9 := fun_mk (st := s_shortest_of) l9 c9 k9
  have D9 := d_shortest_of F9 (F9.binds (ps := ["lengths"]) fun _ _ _ _ _ _ us hl => match us, hl with | [_], _ => rfl)
  have F10 := fun_mk (st := s_lengths_of) l10 c10 k10
  have D10 := d_lengths_of F10 (F10.binds (ps := ["book", "story"]) fun _ _ _ _ _ _ us hl => match us, hl with | [_, _], _ => rfl)
  have F11 := fun_mk (st := s_is_story) l11 c11 k11
  have D11 := d_is_story F11 (F11.binds (ps := ["book", "sights", "thing"]) fun _ _ _ _ _ _ us hl => match us, hl with | [_, _, _], _ => rfl)
  have F12 := fun_mk (st := s_node) l12 c12 k12
  have D12 := d_node F12 (F12.binds (ps := ["line", "tick"]) fun _ _ _ _ _ _ us hl => match us, hl with | [_, _], _ => rfl)
  have F13 := fun_mk (st := s_fact_of) l13 c13 k13
  have D13 := d_fact_of F13 (F13.binds (ps := ["book", "sights", "fact"]) fun _ _ _ _ _ _ us hl => match us, hl with | [_, _, _], _ => rfl)
  have F14 := fun_mk (st := s_all_facts) l14 c14 k14
  have D14 := d_all_facts F14 (F14.binds (ps := ["book", "sights"]) fun _ _ _ _ _ _ us hl => match us, hl with | [_, _], _ => rfl)
  have F15 := fun_mk (st := s_Bounds) l15 c15 k15
  have D15 := d_Bounds F15 (F15.binds (ps := ["self", "book", "sights"]) fun _ _ _ _ _ _ us hl => match us, hl with | [_, _, _], _ => rfl)
  have F16 := fun_mk (st := s_tighten) l16 c16 k16
  have D16 := d_tighten F16 (F16.binds (ps := ["self", "step"]) fun _ _ _ _ _ _ us hl => match us, hl with | [_, _], _ => rfl)
  have F17 := fun_mk (st := s_ring_from) l17 c17 k17
  have D17 := d_ring_from F17 (F17.binds (ps := ["self", "start", "far"]) fun _ _ _ _ _ _ us hl => match us, hl with | [_, _, _], _ => rfl)
  have F18 := fun_mk (st := s_can_be) l18 c18 k18
  have D18 := d_can_be F18 (F18.binds (ps := ["book", "sights"]) fun _ _ _ _ _ _ us hl => match us, hl with | [_, _], _ => rfl)
  have F19 := fun_mk (st := s__law_well) l19 c19 k19
  have D19 := d__law_well F19 (F19.binds (ps := ["cell", "turn"]) fun _ _ _ _ _ _ us hl => match us, hl with | [_, _], _ => rfl)
  have F20 := fun_mk (st := s__law_take) l20 c20 k20
  have D20 := d__law_take F20 (F20.binds (ps := ["bag", "many"]) fun _ _ _ _ _ _ us hl => match us, hl with | [_, _], _ => rfl)
  have F21 := fun_mk (st := s__law_bags) l21 c21 k21
  have D21 := d__law_bags F21 (F21.binds (ps := ["script", "most"]) fun _ _ _ _ _ _ us hl => match us, hl with | [_, _], _ => rfl)
  have F22 := fun_mk (st := s__law_same) l22 c22 k22
  have D22 := d__law_same F22 (F22.binds (ps := ["a", "b"]) fun _ _ _ _ _ _ us hl => match us, hl with | [_, _], _ => rfl)
  have F23 := fun_mk (st := s__law_in) l23 c23 k23
  have D23 := d__law_in F23 (F23.binds (ps := ["x", "low", "high"]) fun _ _ _ _ _ _ us hl => match us, hl with | [_, _, _], _ => rfl)
  have F24 := fun_mk (st := s__law_run) l24 c24 k24
  have D24 := d__law_run F24 (F24.binds (ps := ["bag", "lines1", "end", "most"]) fun _ _ _ _ _ _ us hl => match us, hl with | [_, _, _, _], _ => rfl)
  have F25 := fun_mk (st := s__law_lengths) l25 c25 k25
  have D25 := d__law_lengths F25 (F25.binds (ps := ["book", "story"]) fun _ _ _ _ _ _ us hl => match us, hl with | [_, _], _ => rfl)
  have F26 := fun_mk (st := s__law_sights) l26 c26 k26
  have D26 := d__law_sights F26 (F26.binds (ps := ["bag", "book", "most", "lengths"]) fun _ _ _ _ _ _ us hl => match us, hl with | [_, _, _, _], _ => rfl)
  have F27 := fun_mk (st := s__law_bent) l27 c27 k27
  have D27 := d__law_bent F27 (F27.binds (ps := ["bag", "story", "lines1"]) fun _ _ _ _ _ _ us hl => match us, hl with | [_, _, _], _ => rfl)
  have F28 := fun_mk (st := s__law_is_story) l28 c28 k28
  have D28 := d__law_is_story F28 (F28.binds (ps := ["book", "sights", "x"]) fun _ _ _ _ _ _ us hl => match us, hl with | [_, _, _], _ => rfl)
  have F29 := fun_mk (st := s__law_written) l29 c29 k29
  have D29 := d__law_written F29 (F29.binds (ps := []) fun _ _ _ _ _ _ us hl => match us, hl with | [], _ => rfl)
  have F30 := fun_mk (st := s_law) l30 c30 k30
  have D30 := d_law F30 (F30.binds (ps := ["script"]) fun _ _ _ _ _ _ us hl => match us, hl with | [_], _ => rfl)
  have hcl : ∀ (c : Str) (A : Addr), (if c = "Bounds" then some CA else none) = some A → A = CA := fun c A h => by
    split at h
    · exact (Option.some.inj h).symm
    · cases h
  have T : Tab K mg (fun c => if c = "Bounds" then some CA else none) Γ g := {
    cs := fun n d h => by
      have m := PySem.mem_of_lookup h
      simp only [g, List.mem_cons, Prod.mk.injEq, List.not_mem_nil, or_false] at m
      rcases m with ⟨rfl, rfl⟩ | ⟨rfl, rfl⟩ | ⟨rfl, rfl⟩ | ⟨rfl, rfl⟩
      · exact ⟨_, .int 4, PySem.W.mg_of X G v0, ⟨_, rfl⟩, fun _ _ => rfl⟩
      · exact ⟨_, .int 30, PySem.W.mg_of X G v1, ⟨_, rfl⟩, fun _ _ => rfl⟩
      · exact ⟨_, .int 16, PySem.W.mg_of X G v2, ⟨_, rfl⟩, fun _ _ => rfl⟩
      · exact ⟨_, .int 6, PySem.W.mg_of X G v3, ⟨_, rfl⟩, fun _ _ => rfl⟩
    bs := fun n h => by
      simp only [g, List.mem_cons, List.not_mem_nil, or_false] at h
      rcases h with rfl | rfl | rfl | rfl | rfl | rfl | rfl | rfl | rfl | rfl | rfl | rfl | rfl
      · exact PySem.W.mg_none_of X G z0
      · exact PySem.W.mg_none_of X G z1
      · exact PySem.W.mg_none_of X G z2
      · exact PySem.W.mg_none_of X G z3
      · exact PySem.W.mg_none_of X G z4
      · exact PySem.W.mg_none_of X G z5
      · exact PySem.W.mg_none_of X G z6
      · exact PySem.W.mg_none_of X G z7
      · exact PySem.W.mg_none_of X G z8
      · exact PySem.W.mg_none_of X G z9
      · exact PySem.W.mg_none_of X G z10
      · exact PySem.W.mg_none_of X G z11
      · exact PySem.W.mg_none_of X G z12
    fs := fun n h => by
      simp only [g, List.mem_cons, List.not_mem_nil, or_false] at h
      rcases h with rfl | rfl | rfl | rfl | rfl | rfl | rfl | rfl | rfl | rfl | rfl | rfl | rfl | rfl | rfl | rfl | rfl | rfl | rfl | rfl | rfl | rfl | rfl | rfl | rfl | rfl | rfl | rfl
      · exact ⟨_, _, _, PySem.W.mg_of X G a0, D0⟩
      · exact ⟨_, _, _, PySem.W.mg_of X G a1, D1⟩
      · exact ⟨_, _, _, PySem.W.mg_of X G a2, D2⟩
      · exact ⟨_, _, _, PySem.W.mg_of X G a3, D3⟩
      · exact ⟨_, _, _, PySem.W.mg_of X G a4, D4⟩
      · exact ⟨_, _, _, PySem.W.mg_of X G a5, D5⟩
      · exact ⟨_, _, _, PySem.W.mg_of X G a6, D6⟩
      · exact ⟨_, _, _, PySem.W.mg_of X G a7, D7⟩
      · exact ⟨_, _, _, PySem.W.mg_of X G a8, D8⟩
      · exact ⟨_, _, _, PySem.W.mg_of X G a9, D9⟩
      · exact ⟨_, _, _, PySem.W.mg_of X G a10, D10⟩
      · exact ⟨_, _, _, PySem.W.mg_of X G a11, D11⟩
      · exact ⟨_, _, _, PySem.W.mg_of X G a12, D12⟩
      · exact ⟨_, _, _, PySem.W.mg_of X G a13, D13⟩
      · exact ⟨_, _, _, PySem.W.mg_of X G a14, D14⟩
      · exact ⟨_, _, _, PySem.W.mg_of X G a18, D18⟩
      · exact ⟨_, _, _, PySem.W.mg_of X G a19, D19⟩
      · exact ⟨_, _, _, PySem.W.mg_of X G a20, D20⟩
      · exact ⟨_, _, _, PySem.W.mg_of X G a21, D21⟩
      · exact ⟨_, _, _, PySem.W.mg_of X G a22, D22⟩
      · exact ⟨_, _, _, PySem.W.mg_of X G a23, D23⟩
      · exact ⟨_, _, _, PySem.W.mg_of X G a24, D24⟩
      · exact ⟨_, _, _, PySem.W.mg_of X G a25, D25⟩
      · exact ⟨_, _, _, PySem.W.mg_of X G a26, D26⟩
      · exact ⟨_, _, _, PySem.W.mg_of X G a27, D27⟩
      · exact ⟨_, _, _, PySem.W.mg_of X G a28, D28⟩
      · exact ⟨_, _, _, PySem.W.mg_of X G a29, D29⟩
      · exact ⟨_, _, _, PySem.W.mg_of X G a30, D30⟩
    ks := fun n h => by
      simp only [g, List.mem_cons, List.not_mem_nil, or_false] at h
      subst h
      exact ⟨CA, _, _, _, PySem.W.mg_of X G aC, if_pos rfl, ⟨mk, a15, i15, kc⟩, D15⟩
    ms := fun m cn h => by
      have mm := PySem.mem_of_lookup h
      simp only [g, List.mem_cons, Prod.mk.injEq, List.not_mem_nil, or_false] at mm
      rcases mm with ⟨rfl, rfl⟩ | ⟨rfl, rfl⟩
      · exact ⟨CA, _, _, _, if_pos rfl, ⟨a16, i16, k16⟩, D16⟩
      · exact ⟨CA, _, _, _, if_pos rfl, ⟨a17, i17, k17⟩, D17⟩
    kl := fun c A h => by
      rw [hcl c A h]
      exact ⟨pg, hd, po, sa⟩
    fl := fun f hf c A h => by
      rw [hcl c A h]
      simp only [g, List.mem_cons, List.not_mem_nil, or_false] at hf
      rcases hf with rfl | rfl | rfl | rfl
      · exact n_steps
      · exact n_most
      · exact n_by
      · exact n_ring
  }
  exact ⟨_, fun s v => .of_eq rfl, fun base _ _ => SL.law_ok T D30 thm⟩
theorem walk {l : PySem.W.OpenLaw} {q : Program} {loose : List Str} {XP : (Str → Option Value) → Heap → Prop} {YP : World → Heap → Prop} {d : DefRec} {K : Params → PySem.W.Frag} (hn : l.most = some 63) (hdf : d.params.defaults = [])
    (hY : ∀ (w : World) (h : Heap), YP w h → (K w.params).In h)
    (F : ∀ (w : World) (mg : Str → Option Value) (fa : Addr) (h : Heap), (K w.params).In h → h.Ns mainGlobals mg → mg d.name = some (.ref fa) →
      ∃ fd : FuncData, (∀ (s : Shared) (u : Value), BindsTo s fd ⟨[u], []⟩ [("script", u)]) ∧ ∀ base : Heap, (K w.params).In base → base.Ns mainGlobals mg → FnOk l.prog w (K w.params) mg base CX0 (2 * 12) fa fd ["script"] (SL.spLaw (K w.params))) :
    PySem.W.WalkO q loose XP YP l.row.toRowW d [] (fun f vs => PySem.call f vs) :=
  L2.walk_of (n := 63) (k := 2 * 12) (x := "script") (CX := fun _ => CX0) (sp := fun w => SL.spLaw (K w.params)) hn (by decide) hdf ⟨rfl, by decide, by decide⟩ hY F (fun _ _ a ns hl _ hS => ⟨a, ns, rfl, hS, hl, fun _ => rfl⟩) fun _ _ _ _ _ z => z
end K02

namespace SL
open PySem
def isTrueB : Option (D × Sto) → Bool
  | some (.bl true, _) => true
  | _ => false
theorem isTrueB_some {x : Option (D × Sto)} (h : isTrueB x = true) : ∃ S', x = some (.bl true, S') := by
  unfold isTrueB at h
  split at h
  · exact ⟨_, rfl⟩
  · cases h
end SL
namespace K02
open PySem SL
theorem written : isTrueB (callK K02.Γ 11 "_law_written" [] []) = true := by decide +kernel
end K02

namespace K02
open PySem SL
theorem std : Std K02.Γ := by constructor <;> kernel_rfl
theorem law_true (ns : List Int) (_ : ns.length ≤ 63) : ∃ S', SL.callK K02.Γ 12 "law" [.ro (ns.map .int)] [] = some (.bl true, S') :=
  SL.law_k02 (by kernel_rfl) (by kernel_rfl) std (isTrueB_some written) ns
end K02
open PySem PySem.W PyProof.Rows
set_option maxRecDepth 100000 in
set_option maxHeartbeats 0 in
theorem PySem.Challenge.cw_shortlines_k02_stories_judged_holds : PySem.Challenge.rw_shortlines_k02_stories_judged.Holds := by
  w_on; o_law; k_head; (case hw => w_witness2)
  k_fill
  refine K02.walk (l := PySem.Challenge.rw_shortlines_k02_stories_judged) rfl rfl (fun w h Y => PySem.W.kIn_of Y) ?F
  case F =>
    intro w mg fa h KX G hmg
    refine' K02.all_mk KX G hmg ?aC ?pg ?hd ?po ?sa ?mk ?kc ?n_steps ?n_most ?n_by ?n_ring ?a0 ?l0 ?c0 ?k0 ?a1 ?l1 ?c1 ?k1 ?a2 ?l2 ?c2 ?k2 ?a3 ?l3 ?c3 ?k3 ?a4 ?l4 ?c4 ?k4 ?a5 ?l5 ?c5 ?k5 ?a6 ?l6 ?c6 ?k6 ?a7 ?l7 ?c7 ?k7 ?a8 ?l8 ?c8 ?k8 ?a9 ?l9 ?c9 ?k9 ?a10 ?l10 ?c10 ?k10 ?a11 ?l11 ?c11 ?k11 ?a12 ?l12 ?c12 ?k12 ?a13 ?l13 ?c13 ?k13 ?a14 ?l14 ?c14 ?k14 ?a15 ?i15 ?l15 ?c15 ?k15 ?a16 ?i16 ?l16 ?c16 ?k16 ?a17 ?i17 ?l17 ?c17 ?k17 ?a18 ?l18 ?c18 ?k18 ?a19 ?l19 ?c19 ?k19 ?a20 ?l20 ?c20 ?k20 ?a21 ?l21 ?c21 ?k21 ?a22 ?l22 ?c22 ?k22 ?a23 ?l23 ?c23 ?k23 ?a24 ?l24 ?c24 ?k24 ?a25 ?l25 ?c25 ?k25 ?a26 ?l26 ?c26 ?k26 ?a27 ?l27 ?c27 ?k27 ?a28 ?l28 ?c28 ?k28 ?a29 ?l29 ?c29 ?k29 ?a30 ?l30 ?c30 ?k30 ?v0 ?v1 ?v2 ?v3 ?z0 ?z1 ?z2 ?z3 ?z4 ?z5 ?z6 ?z7 ?z8 ?z9 ?z10 ?z11 ?z12 K02.law_true
    (case aC => k_is)
    (case pg => k_is)
    (case hd => k_is)
    (case po => k_is)
    (case sa => k_is)
    (case mk => k_is)
    (case kc => k_is)
    (case n_steps => k_is)
    (case n_most => k_is)
    (case n_by => k_is)
    (case n_ring => k_is)
    (case a0 => k_is)
    (case l0 => k_is)
    (case c0 => k_is)
    (case k0 => k_is)
    (case a1 => k_is)
    (case l1 => k_is)
    (case c1 => k_is)
    (case k1 => k_is)
    (case a2 => k_is)
    (case l2 => k_is)
    (case c2 => k_is)
    (case k2 => k_is)
    (case a3 => k_is)
    (case l3 => k_is)
    (case c3 => k_is)
    (case k3 => k_is)
    (case a4 => k_is)
    (case l4 => k_is)
    (case c4 => k_is)
    (case k4 => k_is)
    (case a5 => k_is)
    (case l5 => k_is)
    (case c5 => k_is)
    (case k5 => k_is)
    (case a6 => k_is)
    (case l6 => k_is)
    (case c6 => k_is)
    (case k6 => k_is)
    (case a7 => k_is)
    (case l7 => k_is)
    (case c7 => k_is)
    (case k7 => k_is)
    (case a8 => k_is)
    (case l8 => k_is)
    (case c8 => k_is)
    (case k8 => k_is)
    (case a9 => k_is)
    (case l9 => k_is)
    (case c9 => k_is)
    (case k9 => k_is)
    (case a10 => k_is)
    (case l10 => k_is)
    (case c10 => k_is)
    (case k10 => k_is)
    (case a11 => k_is)
    (case l11 => k_is)
    (case c11 => k_is)
    (case k11 => k_is)
    (case a12 => k_is)
    (case l12 => k_is)
    (case c12 => k_is)
    (case k12 => k_is)
    (case a13 => k_is)
    (case l13 => k_is)
    (case c13 => k_is)
    (case k13 => k_is)
    (case a14 => k_is)
    (case l14 => k_is)
    (case c14 => k_is)
    (case k14 => k_is)
    (case a15 => k_is)
    (case i15 => k_is)
    (case l15 => k_is)
    (case c15 => k_is)
    (case k15 => k_is)
    (case a16 => k_is)
    (case i16 => k_is)
    (case l16 => k_is)
    (case c16 => k_is)
    (case k16 => k_is)
    (case a17 => k_is)
    (case i17 => k_is)
    (case l17 => k_is)
    (case c17 => k_is)
    (case k17 => k_is)
    (case a18 => k_is)
    (case l18 => k_is)
    (case c18 => k_is)
    (case k18 => k_is)
    (case a19 => k_is)
    (case l19 => k_is)
    (case c19 => k_is)
    (case k19 => k_is)
    (case a20 => k_is)
    (case l20 => k_is)
    (case c20 => k_is)
    (case k20 => k_is)
    (case a21 => k_is)
    (case l21 => k_is)
    (case c21 => k_is)
    (case k21 => k_is)
    (case a22 => k_is)
    (case l22 => k_is)
    (case c22 => k_is)
    (case k22 => k_is)
    (case a23 => k_is)
    (case l23 => k_is)
    (case c23 => k_is)
    (case k23 => k_is)
    (case a24 => k_is)
    (case l24 => k_is)
    (case c24 => k_is)
    (case k24 => k_is)
    (case a25 => k_is)
    (case l25 => k_is)
    (case c25 => k_is)
    (case k25 => k_is)
    (case a26 => k_is)
    (case l26 => k_is)
    (case c26 => k_is)
    (case k26 => k_is)
    (case a27 => k_is)
    (case l27 => k_is)
    (case c27 => k_is)
    (case k27 => k_is)
    (case a28 => k_is)
    (case l28 => k_is)
    (case c28 => k_is)
    (case k28 => k_is)
    (case a29 => k_is)
    (case l29 => k_is)
    (case c29 => k_is)
    (case k29 => k_is)
    (case a30 => k_is)
    (case l30 => k_is)
    (case c30 => k_is)
    (case k30 => k_is)
    (case v0 => k_is)
    (case v1 => k_is)
    (case v2 => k_is)
    (case v3 => k_is)
    (case z0 => k_is)
    (case z1 => k_is)
    (case z2 => k_is)
    (case z3 => k_is)
    (case z4 => k_is)
    (case z5 => k_is)
    (case z6 => k_is)
    (case z7 => k_is)
    (case z8 => k_is)
    (case z9 => k_is)
    (case z10 => k_is)
    (case z11 => k_is)
    (case z12 => k_is)

