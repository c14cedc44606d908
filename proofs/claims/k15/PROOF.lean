import PyProof.Rows.All
import Wide.All
import OpenK.AllK
import HandS.More
import HandS.Words
import HandS.WordsExc
import HandS.Head0
import HandS.Head1
import HandS.Head2
import HandS.HeadEnd
import HandS.HeadHook1
import HandS.HeadHook2
import HandS.HeadHook3
import HandS.HeadHook4
import PySem.Challenge.RW_flyovers_k15_whole_rows_exchanged
import Wide.FinOn
import HandS.ForExc
import HandS.ForMost
import HandS.TupAny
import HandS.TupMul
import HandS.IsInst
import HandS.Zip
import HandS.SortInts
import HandS.Rev
import HandS.TryOnly
import HandS.Style
import HandS.Small
import KE.GoesEnum
import HandS.Iter
import KE.GoesZip
import KE.GoesMore
import HandS.Dict
import KE.KDictDisplayH
import HandS.Deep
import HandS.Wide
import HandS.TupSets
import HandS.NamedTupSort
import PyProof.TupleOfSeq
import HandS.SetFor
import HandS.Strs
import HandS.Conv
import PyProof.ListNew
import PyProof.SetNew
import HandS.List
import PyProof.WalkInts
import PyProof.WalksMore
import KE.KDictPairs
import KE.SortData
import KE.DatumOrd
import KE.KIndexOf
import KE.DataFind
import HandS.DictComp
import HandS.DictTup
import HandS.TupLen
import KE.KDictSum
import KE.KDictItemsList
import KE.KDictWalk
import KE.KDictCopyH
import HandS.Defaults
section
/-! A small language of one's own (module Core): its data, its programs, its runs. Plain Lean. -/
namespace Fly

inductive D where
  | non
  | bl (b : Bool)
  | int (i : Int)
  | str (x : List Nat)
  | tup (l : List D)
  | lst (l : List D)
  /-- a dict from rows of numbers -/
  | dic (ks : List (List Int)) (vs : List D)
  /-- a thing of the class c: its attributes' names, their data -/
  | ins (c : List Nat) (ns : List (List Nat)) (fs : List D)
  | fn (f : Nat)
  /-- the script -/
  | scr (l : List D)
  /-- a tuple that is known to have no dict of its own -/
  | kt (l : List D)
  /-- a dict from rows of numbers that is shared and stays as it is -/
  | kd (ks : List (List Int)) (vs : List D)

/-- a local name: not there, locked, shared data, a thing of one's own (p: a parameter that is lent) -/
inductive Sl where
  | un
  | lk
  | fz (p : Bool) (d : D)
  | ow (p : Bool) (d : D)

/-- what an expression hands on: shared data, a fresh thing, a name's own thing -/
inductive Tok where
  | tv (d : D)
  | tf (d : D)
  | br (i : Nat)

/-- is it the thing of the name i -/
def Tok.isBr (i : Nat) : Tok → Bool
  | .br j => i == j
  | _ => false

/-- the built-in steps -/
inductive Op where
  | add | sub | mul | fdiv | mod | pow | neg
  | lt | le | gt | ge | eq | ne | isN | notN | isB | notB | isIn | notIn
  | idx | rev
  | len | int | abs | tuple | list | all | any | sum | sorted | max2 | min2 | isi (ts : List Nat)
  | sortset | lenset | listrg | att (c f : List Nat)
  | max1 | min1 | tuplek | dictp
  /-- {"a": 1, ..}[x] -/
  | selS (kvs : List (List Nat × Int))
  /-- x[a], a in x: x a name of the module, a dict of texts and numbers -/
  | gsel (x : List Nat) (kvs : List (List Nat × Int)) | gin (x : List Nat) (kvs : List (List Nat × Int))
  /-- isinstance(a, c), c a class of the program -/
  | isc (c : List Nat)
  /-- sorted(x), x a list of pairs of a row and a number -/
  | sortp
  /-- sorted(d), min(d), list(d.items()), list(d.values()), max(d.values()), len(d), d a dict with rows as keys -/
  | sortd | minr | lit | lvl | maxv | lend
  /-- isinstance(x, dict) -/
  | isd
  deriving DecidableEq

/-- methods that turn a name's own thing -/
inductive Me where
  | append | extend | pop | popAt | insert | reverse | clear
  deriving DecidableEq

/-- what a loop walks -/
inductive Ik where
  | seq | range1 | range2 | enum | zip | range3
  /-- a dict's keys, its pairs -/
  | keys | itm
  deriving DecidableEq

inductive Tg where
  | nm (i : Nat)
  | tp (is : List Nat)

inductive E where
  | c (d : D)
  | v (i : Nat)
  | fz (i : Nat)
  | mv (i : Nat)
  | gl (x : List Nat) (d : D)
  | nil
  | cons (a b : E)
  | op (o : Op) (es : E)
  | tup (es : E)
  /-- a display of a tuple that is known whole -/
  | ktp (es : E)
  | lst (es : E)
  /-- {k: v, ..} with rows as keys -/
  | dct (es : E)
  | and (a b : E)
  | or (a b : E)
  | not (a : E)
  | ite (c a b : E)
  | call (f : Nat) (es : E)
  /-- C(..), its __init__ being f -/
  | mk (c : List Nat) (f : Nat) (es : E)
  /-- a.m(..), a of the class c -/
  | meth (c m : List Nat) (f : Nat) (a es : E)
  | bm (m : Me) (i : Nat) (es : E)
  | lc (elt : E) (t : Tg) (k : Ik) (es : E) (cond : E)
  /-- a < b < ..: the first, the links -/
  | chn (a l : E)
  /-- a[lo:hi] (nil: left out) -/
  | sl (a lo hi : E)
  /-- a.get(k, d), a a dict with rows as keys -/
  | dgt (a k d : E)
  /-- a.count(k) (m), a.index(k), a a tuple known whole -/
  | tmt (m : Bool) (a k : E)
  | dcp (kx vx : E) (t : Tg) (k : Ik) (es : E) (c : E)
  | lsd (es : E)
  /-- what is shared from now on; a dict stays as it is -/
  | frd (e : E)
  | lk1 (o : Op) (b : E)
  | lks (o : Op) (b l : E)
  /-- an expression that is not reached -/
  | no

inductive S where
  | nil
  | seq (a b : S)
  | asg (t : Tg) (e : E)
  | aug (i : Nat) (o : Op) (e : E)
  | setI (i : Nat) (k e : E)
  | augI (i : Nat) (k : E) (o : Op) (e : E)
  /-- name.f = e -/
  | setF (i : Nat) (c f : List Nat) (e : E)
  /-- x, y = a, b, each name given what is its own -/
  | parG (is : List Nat) (es : E)
  /-- name[lo:hi] = e (nil: left out) -/
  | setS (i : Nat) (lo hi e : E)
  | ex (e : E)
  | ifs (c : E) (a b : S)
  | for (t : Tg) (k : Ik) (es : E) (b : S)
  | whl (c : E) (b : S)
  | ret (e : E)
  | retn
  | brk
  | cnt
  | pass
  /-- a statement that is not reached -/
  | no
  /-- a, b = x, y -/
  | par (is : List Nat) (es : E)
  /-- try: b, except c: return d -/
  | tryR (b : S) (c : Nat) (d : D)
  | raise (c : Nat) (es : E)

/-! ### results -/
inductive R where
  | ok (ts : List Tok) (σ : List Sl)
  | ex (c : Nat) (fs : List D) (σ : List Sl)
  | bad
inductive RB where
  | ok (b : Bool) (σ : List Sl)
  | ex (c : Nat) (fs : List D) (σ : List Sl)
  | bad
inductive Fw where
  | nx (σ : List Sl)
  | rt (d : D) (o : Bool) (σ : List Sl)
  | bk (σ : List Sl)
  | ct (σ : List Sl)
  | ex (c : Nat) (fs : List D) (σ : List Sl)
  | bad
inductive CR where
  | ret (d : D) (o : Bool) (outs : List Sl)
  | ex (c : Nat) (fs : List D) (outs : List Sl)
  | bad

def R.andThen (r : R) (k : List Tok → List Sl → R) : R :=
  match r with | .ok ts σ => k ts σ | .ex c fs σ => .ex c fs σ | .bad => .bad
def R.toFw (r : R) (k : List Tok → List Sl → Fw) : Fw :=
  match r with | .ok ts σ => k ts σ | .ex c fs σ => .ex c fs σ | .bad => .bad
def RB.toR (r : RB) (k : Bool → List Sl → R) : R :=
  match r with | .ok b σ => k b σ | .ex c fs σ => .ex c fs σ | .bad => .bad
def RB.toFw (r : RB) (k : Bool → List Sl → Fw) : Fw :=
  match r with | .ok b σ => k b σ | .ex c fs σ => .ex c fs σ | .bad => .bad
def Fw.andThen (r : Fw) (k : List Sl → Fw) : Fw :=
  match r with | .nx σ => k σ | r => r

/-- the data behind a token -/
def look (σ : List Sl) : Tok → Option D
  | .tv d => some d
  | .tf d => some d
  | .br i => match σ[i]? with
    | some (.fz _ d) => some d
    | some (.ow _ d) => some d
    | _ => none
def looks (σ : List Sl) : List Tok → Option (List D)
  | [] => some []
  | t :: ts => match look σ t, looks σ ts with
    | some d, some ds => some (d :: ds)
    | _, _ => none
/-- shared data, or what may become it -/
def val (σ : List Sl) : Tok → Option D
  | .tv d => some d
  | .tf d => some d
  | .br i => match σ[i]? with
    | some (.fz _ d) => some d
    | _ => none
def vals (σ : List Sl) : List Tok → Option (List D)
  | [] => some []
  | t :: ts => match val σ t, vals σ ts with
    | some d, some ds => some (d :: ds)
    | _, _ => none
/-- what may be given to a name: (data, is it one's own) -/
def give (σ : List Sl) : Tok → Option (D × Bool)
  | .tv d => some (d, false)
  | .tf d => some (d, true)
  | .br i => match σ[i]? with
    | some (.fz _ d) => some (d, false)
    | _ => none

/-! ### the built-in steps -/
def szLine : Nat := 16777216

mutual
def deq : D → D → Bool
  | .non, .non => true
  | .bl a, .bl b => a == b
  | .bl a, .int j => (if a then 1 else 0) == j
  | .int i, .bl b => i == (if b then 1 else 0)
  | .int i, .int j => i == j
  | .str x, .str y => x == y
  | .tup l, .tup m => deqs l m
  | .lst l, .lst m => deqs l m
  | .kt l, .kt m => deqs l m
  | .kt l, .tup m => deqs l m
  | .tup l, .kt m => deqs l m
  | _, _ => false
def deqs : List D → List D → Bool
  | [], [] => true
  | a :: l, b :: m => deq a b && deqs l m
  | _, _ => false
end
/- data that == is told of: no dict, no thing of a class; at most so deep -/
mutual
def flat : Nat → D → Bool
  | _, .non => true
  | _, .bl _ => true
  | _, .int _ => true
  | _, .str x => x.all fun c => decide (c < 1114112)
  | n + 1, .tup l => flats n l
  | n + 1, .lst l => flats n l
  | n + 1, .kt l => flats n l
  | _, _ => false
def flats : Nat → List D → Bool
  | _, [] => true
  | n, a :: l => flat n a && flats n l
end

def atom : D → Bool
  | .non => true
  | .bl _ => true
  | .int _ => true
  | .str _ => true
  | _ => false
def b2i (b : Bool) : Int := if b then 1 else 0
def toInts : List D → Option (List Int)
  | [] => some []
  | .int i :: r => (toInts r).map (i :: ·)
  | _ => none
def bools : List D → Option (List Bool)
  | [] => some []
  | .bl i :: r => (bools r).map (i :: ·)
  | _ => none
/-- the place of an index -/
def place (n : Nat) (i : Int) : Option Nat :=
  if 0 ≤ i ∧ i < n then some i.toNat else if -(n : Int) ≤ i ∧ i < 0 then some (i + n).toNat else none
/-- a slice's border -/
def border (n : Nat) (i : Int) : Nat :=
  if i < 0 then (i + n).toNat else if i < n then i.toNat else n
def cut {α : Type} (l : List α) (lo hi : Option Int) : List α :=
  let a := match lo with | none => 0 | some i => border l.length i
  let b := match hi with | none => l.length | some i => border l.length i
  (l.drop a).take (b - a)
/-- is a slice all of it -/
def whole (n : Nat) (lo hi : Option Int) : Bool :=
  (match lo with | none => true | some i => border n i == 0) && (match hi with | none => true | some i => border n i == n)
def isort (l : List Int) : List Int := l.mergeSort (fun a b => decide (a ≤ b))
/-- rows of numbers: is one ahead of the other -/
def lexI : List Int → List Int → Bool
  | [], [] => false
  | [], _ :: _ => true
  | _ :: _, [] => false
  | x :: xs, y :: ys => if x = y then lexI xs ys else decide (x < y)
def lsort (l : List (List Int)) : List (List Int) := l.mergeSort (fun a b => !(lexI b a))
def kind : D → Nat
  | .non => 0
  | .bl _ => 1
  | .int _ => 2
  | .str _ => 3
  | .tup _ => 4
  | .lst _ => 5
  | .dic _ _ => 6
  | .ins _ _ _ => 7
  | .fn _ => 8
  | .scr _ => 9
  | .kt _ => 4
  | .kd _ _ => 10
/-- is a value of a kind one of a built-in type (a bool is an int) -/
def isKind (k t : Nat) : Bool := k == t || (k == 1 && t == 2)
/-- tuples of numbers, none empty -/
def rowsI : List D → Option (List (List Int))
  | [] => some []
  | .tup l :: ds => match toInts l with
    | some (x :: k) => (rowsI ds).map fun ks => (x :: k) :: ks
    | _ => none
  | _ :: _ => none
/-! rows as keys -/
def dget : List (List Int) → List D → List Int → Option D
  | k :: ks, v :: vs, x => if k = x then some v else dget ks vs x
  | _, _, _ => none
def dset : List (List Int) → List D → List Int → D → List D
  | k :: ks, v :: vs, x, d => if k = x then d :: dset ks vs x d else v :: dset ks vs x d
  | _, vs, _, _ => vs
def dput (ks : List (List Int)) (vs : List D) (x : List Int) (d : D) : D := if x ∈ ks then .dic ks (dset ks vs x d) else .dic (ks ++ [x]) (vs ++ [d])
/-- the dict of a display -/
def dmake : List D → List (List Int) → List D → Option D
  | [], ks, vs => some (.dic ks vs)
  | .tup l :: d :: r, ks, vs => (toInts l).bind fun k => match dput ks vs k d with
    | .dic ks' vs' => dmake r ks' vs'
    | _ => none
  | _, _, _ => none
/-- the dict of some pairs -/
def dpairs : List D → List (List Int) → List D → Option D
  | [], ks, vs => some (.dic ks vs)
  | .tup [.tup l, d] :: r, ks, vs => (toInts l).bind fun k => match dput ks vs k d with
    | .dic ks' vs' => dpairs r ks' vs'
    | _ => none
  | _, _, _ => none
/-- rows, each once -/
def dedupR : List (List Int) → List (List Int)
  | [] => []
  | x :: xs => if x ∈ xs then dedupR xs else x :: dedupR xs
theorem dedupR_mem {x : List Int} : ∀ {l : List (List Int)}, x ∈ dedupR l ↔ x ∈ l
  | [] => Iff.rfl
  | y :: l => by
    unfold dedupR
    split
    · rename_i h
      rw [dedupR_mem (l := l), List.mem_cons]
      exact ⟨.inr, fun q => q.elim (fun e => e ▸ h) id⟩
    · rw [List.mem_cons, List.mem_cons, dedupR_mem (l := l)]
theorem dedupR_nodup : ∀ l : List (List Int), (dedupR l).Nodup
  | [] => List.nodup_nil
  | y :: l => by
    unfold dedupR
    split
    · exact dedupR_nodup l
    · rename_i h
      exact List.nodup_cons.mpr ⟨fun q => h (dedupR_mem.mp q), dedupR_nodup l⟩
/-- the numbers of a row, each once -/
def dedup : List Int → List Int
  | [] => []
  | x :: xs => if x ∈ xs then dedup xs else x :: dedup xs
theorem dedup_mem {x : Int} : ∀ {l : List Int}, x ∈ dedup l ↔ x ∈ l
  | [] => Iff.rfl
  | y :: l => by
    unfold dedup
    split
    · rename_i h
      rw [dedup_mem (l := l), List.mem_cons]
      exact ⟨.inr, fun q => q.elim (fun e => e ▸ h) id⟩
    · rw [List.mem_cons, List.mem_cons, dedup_mem (l := l)]
theorem dedup_nodup : ∀ l : List Int, (dedup l).Nodup
  | [] => List.nodup_nil
  | y :: l => by
    unfold dedup
    split
    · exact dedup_nodup l
    · rename_i h
      exact List.nodup_cons.mpr ⟨fun q => h (dedup_mem.mp q), dedup_nodup l⟩
theorem nodup_perm : ∀ {l m : List Int}, l.Nodup → m.Nodup → (∀ x, x ∈ l ↔ x ∈ m) → l.Perm m
  | [], m, _, _, h => by
    cases m with
    | nil => exact .nil
    | cons x m => exact absurd ((h x).mpr (by simp)) (by simp)
  | x :: l, m, hl, hm, h => by
    obtain ⟨p, q, rfl⟩ := List.append_of_mem ((h x).mp (by simp))
    have h1 := List.nodup_cons.mp hl
    have h2 : (x :: (p ++ q)).Nodup := (List.perm_middle.nodup_iff).mp hm
    have h3 := List.nodup_cons.mp h2
    refine (List.Perm.cons x (nodup_perm h1.2 h3.2 fun y => ?_)).trans List.perm_middle.symm
    have hy := h y
    simp only [List.mem_cons, List.mem_append] at hy ⊢
    constructor
    · intro hz
      have ne : y ≠ x := fun e => h1.1 (e ▸ hz)
      rcases hy.mp (.inr hz) with g | g | g
      · exact .inl g
      · exact absurd g ne
      · exact .inr g
    · intro hz
      have ne : y ≠ x := fun e => h3.1 (List.mem_append.mpr (e ▸ hz))
      rcases hy.mpr (hz.elim .inl fun g => .inr (.inr g)) with g | g
      · exact absurd g ne
      · exact g
/-! attributes -/
def flook : List (List Nat) → List D → List Nat → Option D
  | n :: ns, d :: ds, f => if n = f then some d else flook ns ds f
  | _, _, _ => none
def fputN (ns : List (List Nat)) (f : List Nat) : List (List Nat) := if f ∈ ns then ns else ns ++ [f]
def fputV {α : Type} : List (List Nat) → List α → List Nat → α → List α
  | [], _, _, d => [d]
  | n :: ns, x :: xs, f, d => if n = f then d :: xs else x :: fputV ns xs f d
  | _ :: _, [], _, _ => []
def okMul (i j : Int) : Bool := (decide (-(2 ^ 64) < i) && decide (i < 2 ^ 64)) || (decide (-(2 ^ 64) < j) && decide (j < 2 ^ 64))
def smallI (i : Int) : Bool := decide (-(2 ^ 62) ≤ i) && decide (i < 2 ^ 62)
/-- how many numbers a rising range holds -/
def upSz (a b c : Int) : Nat := if a < b then ((b - a - 1) / c + 1).toNat else 0

/-- a row that is a key -/
def keyD (k : List Int) : D := .tup (k.map .int)
def keysZ (ks : List (List Int)) : Bool := ks.all fun k => decide (k.length ≤ szLine)
/-- a dict that is shared -/
def frD : D → D
  | .dic ks vs => .kd ks vs
  | d => d
/-- a dict's keys, its values -/
def dprt : D → Option (List (List Int) × List D)
  | .dic ks vs => some (ks, vs)
  | .kd ks vs => some (ks, vs)
  | _ => none
def fAdd : List D → Option (Bool × D)
  | [.int i, .int j] => some (false, .int (i + j))
  | [.str x, .str y] => if x.length + y.length ≤ szLine then some (false, .str (x ++ y)) else none
  | [.tup l, .tup m] => if l.length + m.length ≤ szLine then some (false, .tup (l ++ m)) else none
  | [.lst l, .lst m] => if l.length + m.length ≤ szLine then some (true, .lst (l ++ m)) else none
  | _ => none
def fSub : List D → Option (Bool × D)
  | [.int i, .int j] => some (false, .int (i - j))
  | _ => none
def fMul : List D → Option (Bool × D)
  | [.int i, .int j] => if okMul i j then some (false, .int (i * j)) else none
  | [.tup l, .int k] => if 2 ≤ k ∧ k ≤ 1000 ∧ l.length ≤ 1000 ∧ l ≠ [] then some (false, .tup (List.replicate k.toNat l).flatten) else if k = 1 ∧ l ≠ [] then some (false, .tup l) else none
  | [.lst l, .int k] => if -(2 ^ 63) ≤ k ∧ k < 2 ^ 63 ∧ l.length * k.toNat ≤ szLine then some (true, .lst (List.replicate k.toNat l).flatten) else none
  | _ => none
def fFdiv : List D → Option (Bool × D)
  | [.int i, .int j] => if 0 < j ∧ j < 1073741824 then some (false, .int (i / j)) else if 0 < j ∧ j.natAbs.log2 < 9000 then some (false, .int (i / j)) else none
  | _ => none
def fMod : List D → Option (Bool × D)
  | [.int i, .int j] => if 0 < j then some (false, .int (i % j)) else none
  | _ => none
def fPow : List D → Option (Bool × D)
  | [.int i, .int j] => if 0 ≤ i ∧ i ≤ 16 ∧ 0 ≤ j ∧ j ≤ 200 then some (false, .int (i ^ j.toNat)) else none
  | _ => none
def fNeg : List D → Option (Bool × D)
  | [.int i] => some (false, .int (-i))
  | _ => none
def fLt : List D → Option (Bool × D)
  | [.int i, .int j] => some (false, .bl (decide (i < j)))
  | [.tup l, .tup m] => (toInts l).bind fun k => (toInts m).map fun k2 => (false, .bl (lexI k k2))
  | _ => none
def fLe : List D → Option (Bool × D)
  | [.int i, .int j] => some (false, .bl (decide (i ≤ j)))
  | _ => none
def fGt : List D → Option (Bool × D)
  | [.int i, .int j] => some (false, .bl (decide (j < i)))
  | _ => none
def fGe : List D → Option (Bool × D)
  | [.int i, .int j] => some (false, .bl (decide (j ≤ i)))
  | _ => none
def fEq : List D → Option (Bool × D)
  | [a, b] => if flat 60 a && flat 60 b then some (false, .bl (deq a b)) else none
  | _ => none
def fNe : List D → Option (Bool × D)
  | [a, b] => if flat 60 a && flat 60 b then some (false, .bl (!deq a b)) else none
  | _ => none
def fIsn : List D → Option (Bool × D)
  | [a] => some (false, .bl (match a with | .non => true | _ => false))
  | _ => none
def fNotn : List D → Option (Bool × D)
  | [a] => some (false, .bl (match a with | .non => false | _ => true))
  | _ => none
def fIsb : List D → Option (Bool × D)
  | [.bl a, .bl b] => some (false, .bl (a == b))
  | _ => none
def fNotb : List D → Option (Bool × D)
  | [.bl a, .bl b] => some (false, .bl (a != b))
  | _ => none
def fIsin : List D → Option (Bool × D)
  | [.tup l, .dic ks _] => (toInts l).map fun k => (false, .bl (decide (k ∈ ks)))
  | [.tup l, .kd ks _] => (toInts l).map fun k => (false, .bl (decide (k ∈ ks)))
  | [a, .tup l] => if atom a && l.all atom then some (false, .bl (l.any fun z => deq z a)) else none
  | [a, .lst l] => if flat 60 a && flats 59 l then some (false, .bl (l.any fun z => deq z a)) else none
  | _ => none
def fNotin : List D → Option (Bool × D)
  | [.tup l, .dic ks _] => (toInts l).map fun k => (false, .bl (!decide (k ∈ ks)))
  | [.tup l, .kd ks _] => (toInts l).map fun k => (false, .bl (!decide (k ∈ ks)))
  | [a, .tup l] => if atom a && l.all atom then some (false, .bl (!l.any fun z => deq z a)) else none
  | [a, .lst l] => if flat 60 a && flats 59 l then some (false, .bl (!l.any fun z => deq z a)) else none
  | _ => none
def fIdx : List D → Option (Bool × D)
  | [.tup l, .int i] => ((place l.length i).bind fun k => l[k]?).map fun d => (false, d)
  | [.lst l, .int i] => ((place l.length i).bind fun k => l[k]?).map fun d => (false, d)
  | [.kt l, .int i] => ((place l.length i).bind fun k => l[k]?).map fun d => (false, d)
  | [.dic ks vs, .tup l] => (toInts l).bind fun k => (dget ks vs k).map fun d => (false, d)
  | [.kd ks vs, .tup l] => (toInts l).bind fun k => (dget ks vs k).map fun d => (false, d)
  | _ => none
def fRev : List D → Option (Bool × D)
  | [.tup l] => some (false, .tup l.reverse)
  | [.lst l] => some (true, .lst l.reverse)
  | _ => none
def fLen : List D → Option (Bool × D)
  | [.tup l] => some (false, .int l.length)
  | [.kt l] => some (false, .int l.length)
  | [.lst l] => some (false, .int l.length)
  | _ => none
def fInt : List D → Option (Bool × D)
  | [.int i] => some (false, .int i)
  | [.bl b] => some (false, .int (b2i b))
  | _ => none
def fAbs : List D → Option (Bool × D)
  | [.int i] => some (false, .int (if i < 0 then -i else i))
  | _ => none
def fTuple : List D → Option (Bool × D)
  | [.tup l] => some (false, .tup l)
  | [.lst l] => some (false, .tup l)
  | _ => none
def fList : List D → Option (Bool × D)
  | [.tup l] => some (true, .lst l)
  | [.lst l] => some (true, .lst l)
  | _ => none
def fAll : List D → Option (Bool × D)
  | [.lst l] => (bools l).map fun bs => (false, .bl (bs.all id))
  | _ => none
def fAny : List D → Option (Bool × D)
  | [.lst l] => (bools l).map fun bs => (false, .bl (bs.any id))
  | _ => none
def fSum : List D → Option (Bool × D)
  | [.lst l] => (toInts l).map fun is => (false, .int is.sum)
  | _ => none
def fSorted : List D → Option (Bool × D)
  | [.tup l] => (toInts l).map fun is => (true, .lst ((isort is).map .int))
  | [.kt l] => (toInts l).map fun is => (true, .lst ((isort is).map .int))
  | [.lst l] => ((toInts l).map fun is => (true, .lst ((isort is).map .int))).or ((rowsI l).map fun ks => (true, .lst ((lsort ks).map fun k => .tup (k.map .int))))
  | _ => none
def fMax2 : List D → Option (Bool × D)
  | [.int i, .int j] => some (false, .int (if j > i then j else i))
  | _ => none
def fMin2 : List D → Option (Bool × D)
  | [.int i, .int j] => some (false, .int (if j < i then j else i))
  | _ => none
def fIsi (ts : List Nat) : List D → Option (Bool × D)
  | [a] => if kind a ≤ 6 then some (false, .bl (ts.any fun t => isKind (kind a) t)) else none
  | _ => none
def maxOf : List Int → Option Int
  | [] => none
  | [x] => some x
  | x :: xs => (maxOf xs).map fun m => if m < x then x else m
def minOf : List Int → Option Int
  | [] => none
  | [x] => some x
  | x :: xs => (minOf xs).map fun m => if x < m then x else m
def fMax1 : List D → Option (Bool × D)
  | [.tup l] => ((toInts l).bind maxOf).map fun m => (false, .int m)
  | [.lst l] => ((toInts l).bind maxOf).map fun m => (false, .int m)
  | _ => none
def fMin1 : List D → Option (Bool × D)
  | [.tup l] => ((toInts l).bind minOf).map fun m => (false, .int m)
  | [.lst l] => ((toInts l).bind minOf).map fun m => (false, .int m)
  | _ => none
def fTuplek : List D → Option (Bool × D)
  | [.lst l] => some (false, .kt l)
  | _ => none
def fDictp : List D → Option (Bool × D)
  | [.kt l] => (dpairs l [] []).map fun d => (true, d)
  | [.lst l] => (dpairs l [] []).map fun d => (true, d)
  | _ => none
def fSelS (kvs : List (List Nat × Int)) : List D → Option (Bool × D)
  | [.str x] => (kvs.lookup x).map fun i => (false, .int i)
  | _ => none
def fGin (kvs : List (List Nat × Int)) : List D → Option (Bool × D)
  | [.str x] => (kvs.lookup x).map fun _ => (false, .bl true)
  | _ => none
def fIsc (c : List Nat) : List D → Option (Bool × D)
  | [.ins c' _ _] => if c' = c then some (false, .bl true) else none
  | _ => none
def fSortset : List D → Option (Bool × D)
  | [.tup l] => if l.length ≤ 40 then (toInts l).map fun is => (true, .lst ((isort (dedup is)).map .int)) else none
  | [.lst l] => if l.length ≤ 64 then (match rowsI l with
    | some ks => some (true, .lst ((lsort (dedupR ks)).map fun k => .tup (k.map .int)))
    | none => if l.length ≤ 40 then (toInts l).map fun is => (true, .lst ((isort (dedup is)).map .int)) else none) else none
  | _ => none
/-- pairs of a row and a number -/
def prsI : List D → Option (List (List Int × Int))
  | [] => some []
  | .tup [.tup r, .int i] :: l => match toInts r, prsI l with
    | some k, some ps => some ((k, i) :: ps)
    | _, _ => none
  | _ => none
def pLt (a b : List Int × Int) : Bool := if a.1 = b.1 then decide (a.2 < b.2) else lexI a.1 b.1
def psort (l : List (List Int × Int)) : List (List Int × Int) := l.mergeSort (fun a b => !(pLt b a))
def prqD (p : List Int × Int) : D := .tup [.tup (p.1.map .int), .int p.2]
def fSortp : List D → Option (Bool × D)
  | [.lst l] => (prsI l).map fun ps => (true, .lst ((psort ps).map prqD))
  | _ => none
def fLenset : List D → Option (Bool × D)
  | [.lst l] => if l.length ≤ 40 then (toInts l).map fun is => (false, .int (dedup is).length) else none
  | [.tup l] => if l.length ≤ 40 then (toInts l).map fun is => (false, .int (dedup is).length) else none
  | _ => none
/-- are all rows told, none empty -/
def keysN (ks : List (List Int)) : Bool := ks.all fun k => decide (k ≠ [])
def rmin : List (List Int) → Option (List Int)
  | [] => none
  | k :: ks => some (ks.foldl (fun m x => if lexI x m then x else m) k)
def fSortd : List D → Option (Bool × D)
  | [x] => (dprt x).bind fun p => if keysN p.1 && keysZ p.1 then some (true, .lst ((lsort p.1).map keyD)) else none
  | _ => none
def fMinr : List D → Option (Bool × D)
  | [x] => (dprt x).bind fun p => if keysN p.1 && keysZ p.1 then (rmin p.1).map fun k => (false, keyD k) else none
  | _ => none
def fLit : List D → Option (Bool × D)
  | [x] => (dprt x).bind fun p => if keysZ p.1 then some (true, .lst ((p.1.zip p.2).map fun q => .tup [keyD q.1, q.2])) else none
  | _ => none
def fLvl : List D → Option (Bool × D)
  | [x] => (dprt x).map fun p => (true, .lst p.2)
  | _ => none
def fMaxv : List D → Option (Bool × D)
  | [x] => (dprt x).bind fun p => ((toInts p.2).bind maxOf).map fun m => (false, .int m)
  | _ => none
def fLend : List D → Option (Bool × D)
  | [x] => (dprt x).map fun p => (false, .int (p.1.length : Nat))
  | _ => none
def fIsd : List D → Option (Bool × D)
  | [.kd _ _] => some (false, .bl true)
  | ds => fIsi [6] ds
def fListrg : List D → Option (Bool × D)
  | [.int n] => if 0 ≤ n ∧ n ≤ 1000000 then some (true, .lst ((List.range n.toNat).map fun k => .int (k : Nat))) else none
  | _ => none
def fAtt (c f : List Nat) : List D → Option (Bool × D)
  | [.ins c' ns fs] => if c' = c then (flook ns fs f).map fun d => (false, d) else none
  | _ => none
/-- x[lo:hi] -/
def fSl (lo hi : Option Int) : D → Option (Bool × D)
  | .tup l => some (false, .tup (cut l lo hi))
  | .kt l => some (false, .kt (cut l lo hi))
  | .lst l => some (true, .lst (cut l lo hi))
  | .scr l => some (true, .lst (cut l lo hi))
  | _ => none
/-- (is it fresh, the data) -/
def opf : Op → List D → Option (Bool × D)
  | .add, ds => fAdd ds
  | .sub, ds => fSub ds
  | .mul, ds => fMul ds
  | .fdiv, ds => fFdiv ds
  | .mod, ds => fMod ds
  | .pow, ds => fPow ds
  | .neg, ds => fNeg ds
  | .lt, ds => fLt ds
  | .le, ds => fLe ds
  | .gt, ds => fGt ds
  | .ge, ds => fGe ds
  | .eq, ds => fEq ds
  | .ne, ds => fNe ds
  | .isN, ds => fIsn ds
  | .notN, ds => fNotn ds
  | .isB, ds => fIsb ds
  | .notB, ds => fNotb ds
  | .isIn, ds => fIsin ds
  | .notIn, ds => fNotin ds
  | .idx, ds => fIdx ds
  | .rev, ds => fRev ds
  | .len, ds => fLen ds
  | .int, ds => fInt ds
  | .abs, ds => fAbs ds
  | .tuple, ds => fTuple ds
  | .list, ds => fList ds
  | .all, ds => fAll ds
  | .any, ds => fAny ds
  | .sum, ds => fSum ds
  | .sorted, ds => fSorted ds
  | .max2, ds => fMax2 ds
  | .min2, ds => fMin2 ds
  | .isi ts, ds => fIsi ts ds
  | .sortset, ds => fSortset ds
  | .lenset, ds => fLenset ds
  | .listrg, ds => fListrg ds
  | .att c f, ds => fAtt c f ds
  | .max1, ds => fMax1 ds
  | .min1, ds => fMin1 ds
  | .tuplek, ds => fTuplek ds
  | .dictp, ds => fDictp ds
  | .selS kvs, ds => fSelS kvs ds
  | .gsel _ kvs, ds => fSelS kvs ds
  | .gin _ kvs, ds => fGin kvs ds
  | .isc c, ds => fIsc c ds
  | .sortp, ds => fSortp ds
  | .sortd, ds => fSortd ds
  | .minr, ds => fMinr ds
  | .lit, ds => fLit ds
  | .lvl, ds => fLvl ds
  | .maxv, ds => fMaxv ds
  | .lend, ds => fLend ds
  | .isd, ds => fIsd ds

/-- (what is told, the thing turned) -/
def mef : Me → D → List D → Option (D × D)
  | .append, .lst l, [d] => if l.length < szLine then some (.non, .lst (l ++ [d])) else none
  | .extend, .lst l, [.lst m] => if l.length + m.length ≤ szLine then some (.non, .lst (l ++ m)) else none
  | .pop, .lst l, [] => (l[l.length - 1]?).map fun d => (d, .lst l.dropLast)
  | .popAt, .lst l, [.int i] => if smallI i then ((place l.length i).bind fun k => (l[k]?).map fun d => (d, .lst (l.eraseIdx k))) else none
  | .insert, .lst l, [.int i, d] => if l.length < szLine ∧ 0 ≤ i ∧ i < 2 ^ 62 then some (.non, .lst (l.take i.toNat ++ [d] ++ l.drop i.toNat)) else none
  | .reverse, .lst l, [] => some (.non, .lst l.reverse)
  | .clear, .lst _, [] => some (.non, .lst [])
  | _, _, _ => none
/-- x[k] = d -/
def setf : D → D → D → Option D
  | .lst l, .int i, d => if smallI i then (place l.length i).map fun k => .lst (l.set k d) else none
  | .dic ks vs, .tup l, d => if ks.length < szLine then (toInts l).map fun k => dput ks vs k d else none
  | _, _, _ => none

/-- x[lo:hi] = y -/
def setsl (xs : List D) (lo hi : Option Int) (ys : List D) : Option (List D) :=
  if xs.length + ys.length ≤ szLine then match lo, hi with
    | none, none => some ys
    | some a, some c => if 0 ≤ a ∧ a ≤ c ∧ c ≤ xs.length then some (xs.take a.toNat ++ ys ++ xs.drop c.toNat) else none
    | _, _ => none
  else none

/-- the items that a loop walks -/
def items : Ik → List D → Option (List D)
  | .seq, [.tup l] => some l
  | .seq, [.lst l] => some l
  | .seq, [.kt l] => some l
  | .range1, [.int n] => if smallI n then some ((List.range n.toNat).map fun k => .int (k : Nat)) else none
  | .range2, [.int a, .int b] => if smallI a && smallI b then some ((List.range (b - a).toNat).map fun k => .int (a + (k : Nat))) else none
  | .enum, [.lst l] => some (((List.range l.length).zip l).map fun p => .tup [.int (p.1 : Nat), p.2])
  | .enum, [.tup l] => some (((List.range l.length).zip l).map fun p => .tup [.int (p.1 : Nat), p.2])
  | .range3, [.int a, .int b, .int c] => if smallI a && smallI b && decide (c = -1) then some ((List.range (a - b).toNat).map fun k => .int (a - (k : Nat)))
    else if smallI a && smallI b && decide (1 ≤ c ∧ c < 1073741824) then some ((List.range (upSz a b c)).map fun k => .int (a + (k : Nat) * c)) else none
  | .zip, [.lst l, .lst m] => some ((l.zip m).map fun p => .tup [p.1, p.2])
  | .zip, [.tup l, .tup m] => some ((l.zip m).map fun p => .tup [p.1, p.2])
  | .zip, [.tup l, .lst m] => some ((l.zip m).map fun p => .tup [p.1, p.2])
  | .zip, [.lst l, .tup m] => some ((l.zip m).map fun p => .tup [p.1, p.2])
  | .zip, [.kt l, .tup m] => some ((l.zip m).map fun p => .tup [p.1, p.2])
  | .zip, [.kt l, .kt m] => some ((l.zip m).map fun p => .tup [p.1, p.2])
  | .keys, [.kd ks _] => if keysZ ks then some (ks.map keyD) else none
  | .itm, [.kd ks vs] => if keysZ ks then some ((ks.zip vs).map fun p => .tup [keyD p.1, p.2]) else none
  | _, _ => none

/-! ### names -/
/-- may this name be given something -/
def free1 (σ : List Sl) (i : Nat) : Bool :=
  match σ[i]? with
  | some .un => true
  | some (.fz false _) => true
  | some (.ow false _) => true
  | _ => false
def put (σ : List Sl) (i : Nat) (d : D) (o : Bool) : Option (List Sl) :=
  if free1 σ i then some (σ.set i (if o then .ow false d else .fz false d)) else none
def puts (σ : List Sl) : List Nat → List D → Option (List Sl)
  | [], [] => some σ
  | i :: is, d :: ds => (put σ i d false).bind fun σ1 => puts σ1 is ds
  | _, _ => none
def gives (σ : List Sl) : List Tok → Option (List (D × Bool))
  | [] => some []
  | t :: ts => match give σ t, gives σ ts with
    | some g, some gs => some (g :: gs)
    | _, _ => none
def putsG (σ : List Sl) : List Nat → List (D × Bool) → Option (List Sl)
  | [], [] => some σ
  | i :: is, g :: gs => (put σ i g.1 g.2).bind fun σ1 => putsG σ1 is gs
  | _, _ => none
def bindT (σ : List Sl) : Tg → D → Bool → Option (List Sl)
  | .nm i, d, o => put σ i d o
  | .tp is, .tup ds, false => puts σ is ds
  | _, _, _ => none
def Tg.own : Tg → List Nat
  | .nm i => [i]
  | .tp is => is

/-- the parameters of a call, from the tokens (the state: what is lent is away) -/
def lend : List Tok → List Sl → Option (List Sl × List Sl)
  | [], σ => some ([], σ)
  | .tv d :: ts, σ => (lend ts σ).map fun p => (.fz false d :: p.1, p.2)
  | .tf d :: ts, σ => (lend ts σ).map fun p => (.ow false d :: p.1, p.2)
  | .br i :: ts, σ => match σ[i]? with
    | some (.fz _ d) => (lend ts σ).map fun p => (.fz false d :: p.1, p.2)
    | some (.ow _ d) => (lend ts (σ.set i .un)).map fun p => (.ow true d :: p.1, p.2)
    | _ => none
/-- behind the call: what was lent comes back (σ0: as it stood ahead) -/
def back : List Tok → List Sl → List Sl → List Sl → Option (List Sl)
  | [], _, _, σ => some σ
  | .br i :: ts, o :: outs, σ0, σ => match σ0[i]? with
    | some (.ow p _) => match o with
      | .ow true d => back ts outs σ0 (σ.set i (.ow p d))
      | .fz true d => back ts outs σ0 (σ.set i (.fz p d))
      | _ => none
    | _ => back ts outs σ0 σ
  | .tv _ :: ts, _ :: outs, σ0, σ => back ts outs σ0 σ
  | .tf _ :: ts, _ :: outs, σ0, σ => back ts outs σ0 σ
  | _ :: _, [], _, _ => none
def called (cf : Nat → List Sl → CR) (f : Nat) (ts : List Tok) (σ : List Sl) : R :=
  match lend ts σ with
  | none => .bad
  | some (args, σ1) => match cf f args with
    | .ret d o outs => match back ts outs σ σ1 with
      | some σ' => .ok [if o then .tf d else .tv d] σ'
      | none => .bad
    | .ex c fs outs => match back ts outs σ σ1 with
      | some σ' => .ex c fs σ'
      | none => .bad
    | .bad => .bad

/-- a new thing of the class c -/
def made (cf : Nat → List Sl → CR) (c : List Nat) (f : Nat) (ts : List Tok) (σ : List Sl) : R :=
  match lend ts σ with
  | none => .bad
  | some (args, σ1) => match cf f (.ow true (.ins c [] []) :: args) with
    | .ret .non _ (.ow true d :: outs) => match back ts outs σ σ1 with
      | some σ' => .ok [.tf d] σ'
      | none => .bad
    | .ex k fs (_ :: outs) => match back ts outs σ σ1 with
      | some σ' => .ex k fs σ'
      | none => .bad
    | _ => .bad
/-- a loop's source is no name's own thing -/
def calmS (σ : List Sl) : List Tok → Bool
  | [] => true
  | .br i :: ts => (match σ[i]? with | some (.fz _ _) => true | _ => false) && calmS σ ts
  | _ :: ts => calmS σ ts

/-- a comprehension's own names hold no thing of their own outside -/
def calmO (σ : List Sl) : List Nat → Bool
  | [] => true
  | i :: is => (match σ[i]? with | some .un => true | some (.fz _ _) => true | _ => false) && calmO σ is
def unwipeS (σ0 σ : List Sl) : List Nat → List Sl
  | [] => σ
  | i :: is => (unwipeS σ0 σ is).set i (σ0.getD i .un)
/-- while a comprehension walks a name's own thing, the name is away -/
def hideS (σ : List Sl) : List Tok → List Sl
  | [] => σ
  | .br i :: ts => match σ[i]? with
    | some (.ow _ _) => (hideS σ ts).set i .un
    | _ => hideS σ ts
  | _ :: ts => hideS σ ts
def showS (σ0 σ : List Sl) : List Tok → List Sl
  | [] => σ
  | .br i :: ts => match σ0[i]? with
    | some (.ow p d) => (showS σ0 σ ts).set i (.ow p d)
    | _ => showS σ0 σ ts
  | _ :: ts => showS σ0 σ ts

/-! ### the run of an expression -/
def one (r : R) (k : Tok → List Sl → R) : R :=
  r.andThen fun ts σ => match ts with | [t] => k t σ | _ => .bad
def asB (r : R) : RB :=
  match r with
  | .ok [t] σ => match look σ t with | some (.bl b) => .ok b σ | _ => .bad
  | .ok _ _ => .bad
  | .ex c fs σ => .ex c fs σ
  | .bad => .bad

def dropS (σ : List Sl) : List Nat → List Sl
  | [] => σ
  | i :: is => (dropS σ is).set i .un
/-- a slice's border -/
def partI (r : R) (k : Option Int → List Sl → R) : R :=
  match r with
  | .ok [] σ => k none σ
  | .ok [u] σ => match look σ u with
    | some (.int i) => k (some i) σ
    | _ => .bad
  | .ok _ _ => .bad
  | .ex c fs σ => .ex c fs σ
  | .bad => .bad
def partF (r : R) (k : Option Int → List Sl → Fw) : Fw :=
  match r with
  | .ok [] σ => k none σ
  | .ok [u] σ => match look σ u with
    | some (.int i) => k (some i) σ
    | _ => .bad
  | .ok _ _ => .bad
  | .ex c fs σ => .ex c fs σ
  | .bad => .bad
/-- a comprehension's turns -/
def lcL (own : List Nat) (bd : D → List Sl → Option (List Sl)) (cnd : List Sl → RB) (el : List Sl → R) : List D → List Sl → List D → R
  | [], σ, acc => .ok [.tf (.lst acc)] σ
  | x :: xs, σ, acc => match bd x (dropS σ own) with
    | none => .bad
    | some σ1 => match cnd σ1 with
      | .ok true σ2 => match el σ2 with
        | .ok [t] σ3 => match val σ3 t with
          | some d => if acc.length < szLine then lcL own bd cnd el xs σ3 (acc ++ [d]) else .bad
          | none => .bad
        | _ => .bad
      | .ok false σ2 => lcL own bd cnd el xs σ2 acc
      | _ => .bad

/-- the turns of a dict's comprehension -/
def dcL (own : List Nat) (bd : D → List Sl → Option (List Sl)) (cnd : List Sl → RB) (ek el : List Sl → R) : List D → List Sl → List (List Int) → List D → R
  | [], σ, ks, vs => .ok [.tf (.dic ks vs)] σ
  | x :: xs, σ, ks, vs => match bd x (dropS σ own) with
    | none => .bad
    | some σ1 => match cnd σ1 with
      | .ok true σ2 => match ek σ2 with
        | .ok [.tv (.tup l)] σ3 => match toInts l with
          | some k => match el σ3 with
            | .ok [u] σ4 => match val σ4 u with
              | some d => if ks.length < szLine then (match dput ks vs k d with
                | .dic ks' vs' => dcL own bd cnd ek el xs σ4 ks' vs'
                | _ => .bad) else .bad
              | none => .bad
            | _ => .bad
          | none => .bad
        | _ => .bad
      | .ok false σ2 => dcL own bd cnd ek el xs σ2 ks vs
      | _ => .bad

mutual
def ev (cf : Nat → List Sl → CR) : E → List Sl → R
  | .c d, σ => .ok [.tv d] σ
  | .gl _ d, σ => .ok [.tv d] σ
  | .v i, σ => match σ[i]? with
    | some (.fz _ d) => .ok [.tv d] σ
    | some (.ow _ _) => .ok [.br i] σ
    | _ => .bad
  | .fz i, σ => match σ[i]? with
    | some (.fz _ d) => .ok [.tv d] σ
    | some (.ow p d) => .ok [.tv d] (σ.set i (.fz p d))
    | _ => .bad
  | .mv i, σ => match σ[i]? with
    | some (.fz false d) => .ok [.tv d] σ
    | some (.ow false d) => .ok [.tf d] (σ.set i .un)
    | _ => .bad
  | .nil, σ => .ok [] σ
  | .cons a b, σ => (ev cf a σ).andThen fun ts σ1 => (ev cf b σ1).andThen fun us σ2 => .ok (ts ++ us) σ2
  | .op o es, σ => (ev cf es σ).andThen fun ts σ1 => match looks σ1 ts with
    | some ds => match opf o ds with
      | some (true, d) => .ok [.tf d] σ1
      | some (false, d) => .ok [.tv d] σ1
      | none => .bad
    | none => .bad
  | .tup es, σ => (ev cf es σ).andThen fun ts σ1 => match vals σ1 ts with
    | some ds => if ds.length ≤ szLine then .ok [.tv (.tup ds)] σ1 else .bad
    | none => .bad
  | .ktp es, σ => (ev cf es σ).andThen fun ts σ1 => match vals σ1 ts with
    | some ds => if ds.length ≤ szLine then .ok [.tv (.kt ds)] σ1 else .bad
    | none => .bad
  | .lst es, σ => (ev cf es σ).andThen fun ts σ1 => match vals σ1 ts with
    | some ds => if ds.length ≤ szLine then .ok [.tf (.lst ds)] σ1 else .bad
    | none => .bad
  | .dct es, σ => (ev cf es σ).andThen fun ts σ1 => match vals σ1 ts with
    | some ds => match dmake ds [] [] with
      | some d => if ds.length ≤ 30 then .ok [.tf d] σ1 else .bad
      | none => .bad
    | none => .bad
  | .and a b, σ => (asB (ev cf a σ)).toR fun x σ1 => if x then ev cf b σ1 else .ok [.tv (.bl false)] σ1
  | .or a b, σ => (asB (ev cf a σ)).toR fun x σ1 => if x then .ok [.tv (.bl true)] σ1 else ev cf b σ1
  | .not a, σ => (asB (ev cf a σ)).toR fun x σ1 => .ok [.tv (.bl (!x))] σ1
  | .ite c a b, σ => (asB (ev cf c σ)).toR fun x σ1 => if x then ev cf a σ1 else ev cf b σ1
  | .call f es, σ => (ev cf es σ).andThen fun ts σ1 => called cf f ts σ1
  | .mk c f es, σ => (ev cf es σ).andThen fun ts σ1 => made cf c f ts σ1
  | .meth c m f a es, σ => (ev cf a σ).andThen fun ts σ1 => match ts with
    | [t] => match look σ1 t with
      | some (.ins c' ns _) => if c' = c ∧ m ∉ ns then (ev cf es σ1).andThen fun us σ2 => called cf f (t :: us) σ2 else .bad
      | _ => .bad
    | _ => .bad
  | .bm m i es, σ => match σ[i]? with
    | some (.ow _ (.lst _)) => (ev cf es σ).andThen fun ts σ1 => match σ1[i]?, (if m = .extend then looks σ1 ts else vals σ1 ts) with
      | some (.ow p x), some ds => match mef m x ds with
        | some (d, x') => .ok [.tv d] (σ1.set i (.ow p x'))
        | none => .bad
      | _, _ => .bad
    | _ => .bad
  | .lc elt t k es cnd, σ => (ev cf es σ).andThen fun ts σ1 => match looks σ1 ts with
    | none => .bad
    | some ds => match items k ds with
      | some xs => if calmO (hideS σ1 ts) t.own then
          (lcL t.own (fun x s => bindT s t x false) (fun s => asB (ev cf cnd s)) (fun s => ev cf elt s) xs (hideS σ1 ts) []).andThen fun us σ3 => .ok us (showS σ1 (unwipeS (hideS σ1 ts) σ3 t.own) ts)
        else .bad
      | _ => .bad
  | .lsd es, σ => (ev cf es σ).andThen fun ts σ1 => match looks σ1 ts with
    | some [.dic ks _] => if keysZ ks then .ok [.tf (.lst (ks.map keyD))] σ1 else .bad
    | some [.kd ks _] => if keysZ ks then .ok [.tf (.lst (ks.map keyD))] σ1 else .bad
    | _ => .bad
  | .frd e, σ => (ev cf e σ).andThen fun ts σ1 => match ts with
    | [.tv d] => .ok [.tv d] σ1
    | [.tf d] => .ok [.tv (frD d)] σ1
    | [.br i] => match σ1[i]? with
      | some (.fz _ d) => .ok [.tv d] σ1
      | some (.ow p d) => .ok [.tv (frD d)] (σ1.set i (.fz p (frD d)))
      | _ => .bad
    | _ => .bad
  | .dcp kx vx t k es cnd, σ => (ev cf es σ).andThen fun ts σ1 => match looks σ1 ts with
    | none => .bad
    | some ds => match items k ds with
      | some xs => if calmO (hideS σ1 ts) t.own then
          (dcL t.own (fun x s => bindT s t x false) (fun s => asB (ev cf cnd s)) (fun s => ev cf kx s) (fun s => ev cf vx s) xs (hideS σ1 ts) [] []).andThen fun us σ3 => .ok us (showS σ1 (unwipeS (hideS σ1 ts) σ3 t.own) ts)
        else .bad
      | _ => .bad
  | .chn a l, σ => (ev cf a σ).andThen fun ts σ1 => match ts with
    | [u] => match look σ1 u with
      | some (.int x) => evC cf l x σ1
      | _ => .bad
    | _ => .bad
  | .sl a lo hi, σ => (ev cf a σ).andThen fun ts σ1 => match ts with
    | [t] => partI (ev cf lo σ1) fun l σ2 => partI (ev cf hi σ2) fun h σ3 => match look σ3 t with
      | some x => match fSl l h x with
        | some (true, d) => .ok [.tf d] σ3
        | some (false, d) => .ok [.tv d] σ3
        | none => .bad
      | none => .bad
    | _ => .bad
  | .dgt a k d, σ => (ev cf a σ).andThen fun ts σ1 => match ts with
    | [t] => match look σ1 t with
      | some (.dic _ _) => (ev cf k σ1).andThen fun us σ2 => match us with
        | [u] => (ev cf d σ2).andThen fun ws σ3 => match ws with
          | [w] => match look σ3 t, look σ3 u, look σ3 w with
            | some (.dic ks vs), some (.tup l), some x => if atom x then match toInts l with
              | some k => .ok [.tv ((dget ks vs k).getD x)] σ3
              | none => .bad
              else .bad
            | _, _, _ => .bad
          | _ => .bad
        | _ => .bad
      | _ => .bad
    | _ => .bad
  | .tmt m a k, σ => (ev cf a σ).andThen fun ts σ1 => match ts with
    | [t] => match look σ1 t with
      | some (.kt _) => (ev cf k σ1).andThen fun us σ2 => match us with
        | [u] => match look σ2 t, look σ2 u with
          | some (.kt l), some (.int x) => match toInts l with
            | some is => if m then .ok [.tv (.int (is.count x : Nat))] σ2 else if x ∈ is then .ok [.tv (.int (is.idxOf x : Nat))] σ2 else .bad
            | none => .bad
          | _, _ => .bad
        | _ => .bad
      | _ => .bad
    | _ => .bad
  | .no, _ => .bad
  | .lk1 _ _, _ => .bad
  | .lks _ _ _, _ => .bad
/-- the links of a chain, from the int ahead -/
def evC (cf : Nat → List Sl → CR) : E → Int → List Sl → R
  | .lk1 o b, x, σ => (ev cf b σ).andThen fun ts σ1 => match ts with
    | [u] => match look σ1 u with
      | some (.int y) => match opf o [.int x, .int y] with
        | some (false, .bl r) => .ok [.tv (.bl r)] σ1
        | _ => .bad
      | _ => .bad
    | _ => .bad
  | .lks o b l, x, σ => (ev cf b σ).andThen fun ts σ1 => match ts with
    | [u] => match look σ1 u with
      | some (.int y) => match opf o [.int x, .int y] with
        | some (false, .bl true) => evC cf l y σ1
        | some (false, .bl false) => .ok [.tv (.bl false)] σ1
        | _ => .bad
      | _ => .bad
    | _ => .bad
  | _, _, _ => .bad
end

/-! ### the run of a statement -/
def forL (bd : D → List Sl → Option (List Sl)) (b : List Sl → Fw) : List D → List Sl → Fw
  | [], σ => .nx σ
  | x :: xs, σ => match bd x σ with
    | none => .bad
    | some σ1 => match b σ1 with
      | .nx σ2 => forL bd b xs σ2
      | .ct σ2 => forL bd b xs σ2
      | .bk σ2 => .nx σ2
      | r => r
def whlL (c : List Sl → RB) (b : List Sl → Fw) : Nat → List Sl → Fw
  | 0, _ => .bad
  | n + 1, σ => (c σ).toFw fun x σ1 => if x then (match b σ1 with
      | .nx σ2 => whlL c b n σ2
      | .ct σ2 => whlL c b n σ2
      | .bk σ2 => .nx σ2
      | r => r) else .nx σ1
/-- the most turns of a while -/
def turns : Nat := 1000000000000

def exec (cf : Nat → List Sl → CR) : S → List Sl → Fw
  | .nil, σ => .nx σ
  | .seq a b, σ => (exec cf a σ).andThen fun σ1 => exec cf b σ1
  | .asg t e, σ => (ev cf e σ).toFw fun ts σ1 => match ts with
    | [u] => match give σ1 u with
      | some (d, o) => match bindT σ1 t d o with
        | some σ2 => .nx σ2
        | none => .bad
      | none => .bad
    | _ => .bad
  | .aug i o e, σ => match σ[i]? with
    | some (.fz false (.int x)) => (ev cf e σ).toFw fun ts σ1 => match ts with
      | [u] => match look σ1 u with
        | some (.int y) => match opf o [.int x, .int y], put σ1 i (.int 0) false with
          | some (false, d), some _ => .nx (σ1.set i (.fz false d))
          | _, _ => .bad
        | _ => .bad
      | _ => .bad
    | _ => .bad
  | .setI i k e, σ => (ev cf e σ).toFw fun ts σ1 => match ts with
    | [u] => match σ1[i]? with
      | some (.ow _ _) => (ev cf k σ1).toFw fun ks σ2 => match ks with
        | [kt] => match val σ2 u, look σ2 kt, σ2[i]? with
          | some d, some kd, some (.ow p x) => match setf x kd d with
            | some x' => .nx (σ2.set i (.ow p x'))
            | none => .bad
          | _, _, _ => .bad
        | _ => .bad
      | _ => .bad
    | _ => .bad
  | .augI i k o e, σ => match σ[i]? with
    | some (.ow _ _) => (ev cf k σ).toFw fun ks σ1 => match ks with
      | [kt] => match look σ1 kt, σ1[i]? with
        | some kd, some (.ow _ x) => match opf .idx [x, kd] with
          | some (_, .int z) => (ev cf e σ1).toFw fun ts σ2 => match ts with
            | [u] => match look σ2 u, σ2[i]? with
              | some (.int y), some (.ow p x2) => match opf o [.int z, .int y] with
                | some (false, d) => match setf x2 kd d with
                  | some x' => .nx (σ2.set i (.ow p x'))
                  | none => .bad
                | _ => .bad
              | _, _ => .bad
            | _ => .bad
          | _ => .bad
        | _, _ => .bad
      | _ => .bad
    | _ => .bad
  | .setF i c f e, σ => (ev cf e σ).toFw fun ts σ1 => match ts with
    | [u] => match val σ1 u, σ1[i]? with
      | some d, some (.ow p (.ins c' ns fs)) => if c' = c ∧ ns.length < 100 then .nx (σ1.set i (.ow p (.ins c' (fputN ns f) (fputV ns fs f d)))) else .bad
      | _, _ => .bad
    | _ => .bad
  | .parG is es, σ => (ev cf es σ).toFw fun ts σ1 => match gives σ1 ts with
    | some gs => match putsG σ1 is gs with
      | some σ2 => .nx σ2
      | none => .bad
    | none => .bad
  | .setS i lo hi e, σ => (ev cf e σ).toFw fun ts σ1 => match ts with
    | [u] => match σ1[i]? with
      | some (.ow _ _) => partF (ev cf lo σ1) fun l σ2 => partF (ev cf hi σ2) fun h σ3 => match look σ3 u, σ3[i]? with
        | some (.lst ys), some (.ow p (.lst xs)) => if u.isBr i then .bad else match setsl xs l h ys with
          | some zs => .nx (σ3.set i (.ow p (.lst zs)))
          | none => .bad
        | _, _ => .bad
      | _ => .bad
    | _ => .bad
  | .ex e, σ => (ev cf e σ).toFw fun _ σ1 => .nx σ1
  | .ifs c a b, σ => (asB (ev cf c σ)).toFw fun x σ1 => if x then exec cf a σ1 else exec cf b σ1
  | .for t k es b, σ => (ev cf es σ).toFw fun ts σ1 => match looks σ1 ts with
    | none => .bad
    | some ds => match items k ds with
      | some xs => if calmS σ1 ts then forL (fun x s => bindT s t x false) (fun s => exec cf b s) xs σ1 else .bad
      | none => .bad
  | .whl c b, σ => whlL (fun s => asB (ev cf c s)) (fun s => exec cf b s) turns σ
  | .ret e, σ => (ev cf e σ).toFw fun ts σ1 => match ts with
    | [u] => match give σ1 u with
      | some (d, o) => .rt d o σ1
      | none => .bad
    | _ => .bad
  | .retn, σ => .rt .non false σ
  | .brk, σ => .bk σ
  | .cnt, σ => .ct σ
  | .pass, σ => .nx σ
  | .no, _ => .bad
  | .tryR b c d, σ => match exec cf b σ with
    | .ex c' _ σ' => if c' = c then .rt d false σ' else .bad
    | r => r
  | .par is es, σ => (ev cf es σ).toFw fun ts σ1 => match vals σ1 ts with
    | some ds => match puts σ1 is ds with
      | some σ2 => .nx σ2
      | none => .bad
    | none => .bad
  | .raise c es, σ => (ev cf es σ).toFw fun ts σ1 => match vals σ1 ts with
    | some ds => .ex c ds σ1
    | none => .bad

/-! ### programs -/
structure Fn where
  np : Nat
  ns : Nat
  body : S
def Fw.toCR (np : Nat) : Fw → CR
  | .nx σ => .ret .non false (σ.take np)
  | .rt d o σ => .ret d o (σ.take np)
  | .ex c fs σ => .ex c fs (σ.take np)
  | _ => .bad
/-- what was lent still stands in its place -/
def outsOk : List Sl → List Sl → Bool
  | [], _ => true
  | .ow true _ :: as, o :: os => (match o with | .ow true _ => true | .fz true _ => true | _ => false) && outsOk as os
  | _ :: as, _ :: os => outsOk as os
  | _ :: _, [] => false
def CR.chk (as : List Sl) : CR → CR
  | .ret d o os => if outsOk as os then .ret d o os else .bad
  | .ex c fs os => if outsOk as os then .ex c fs os else .bad
  | .bad => .bad
def run (P : List Fn) : Nat → Nat → List Sl → CR
  | 0, _, _ => .bad
  | n + 1, f, args => match P[f]? with
    | none => .bad
    | some F => if args.length = F.np then ((exec (run P n) F.body (args ++ List.replicate (F.ns - F.np) .un)).toCR F.np).chk args else .bad
end Fly
end

section
set_option Elab.async false
set_option linter.all false
set_option maxRecDepth 100000
set_option maxHeartbeats 4000000
/-! The tables of a program (FlyTab): ahead of all else, so that the head's run stands first. -/
namespace Fly
open PySem L2
def toS (x : List Nat) : Str := ⟨x.toArray⟩
structure Ent where
  x : Str
  st : Stmt
  N : List Str
  ps : List Str
  cl : Option Str := none
/-- the text by places -/
def topOf (p : Program) (i : Nat) : Stmt := p.main.body.getD i (.Pass ⟨0, 0, 0, 0⟩)
/-- the text of a class's body by places -/
def subOf (s : Stmt) (j : Nat) : Stmt := match s with | .ClassDef _ _ _ body .. => body.getD j (.Pass ⟨0, 0, 0, 0⟩) | _ => .Pass ⟨0, 0, 0, 0⟩
/-- where a def's thing hangs, and its long name -/
def Ent.at_ (e : Ent) : Str × Option Str := match e.cl with | none => (e.x, none) | some c => (c, some e.x)
def Ent.qual (e : Ent) : Str := match e.cl with | none => e.x | some c => c ++ ("." : Str) ++ e.x
def Ent.d (e : Ent) : He.DefD := ⟨e.at_, e.x, e.qual, defArgs e.st, defBody e.st, defScope e.st, [], []⟩
structure Tabs where
  fns : List (Str × Nat × Nat)
  cns : List (Str × Int)
  exs : List (Str × Nat)
  blt : List Str
  mks : List (Str × Nat × Nat) := []
  mts : List ((Str × Str) × Nat × Nat) := []
  fls : List (Str × Str) := []
  gds : List (Str × List (List Nat × Int)) := []
/-- the head's facts -/
def facts (T : Tabs) (es : List Ent) : List He.Fa := ((es.filter fun e => e.cl.isNone).map (fun e => .glo e.x) ++ T.cns.map (fun q => .int q.1 q.2) ++ T.exs.flatMap (fun q => [.glo q.1, .exc q.1, .exm q.1 q.1 true]) ++ T.blt.map fun x => .free x) ++
  (T.mks.flatMap (fun q => [.glo q.1, .mkr q.1]) ++ T.mts.flatMap (fun q => [.cls q.1.1, .meth q.1.1 q.1.2]) ++ T.fls.flatMap (fun q => [.cls q.1, .noat q.1 q.2]) ++ T.gds.map fun q => .glo q.1)
def tabsOf (T : Tabs) : List He.Tab := T.gds.map fun q => ((fun K => He.ga K q.1), q.2.map fun p => toS p.1)
def gdB (T : Tabs) (K : PySem.W.Frag) : Bool := T.gds.all fun q => He.valsB K (He.ga K q.1) (q.2.map fun p => (toS p.1, He.Dv.int p.2))
end Fly
end

section
namespace K15
open Fly
/-! is_integer(thing); names: 0=thing -/
def b0 : S :=
 (.seq (.ret (.and (.op (.isi [2]) (.cons (.v 0) .nil)) (.not (.op (.isi [1]) (.cons (.v 0) .nil)))))
 .nil)
def f0 : Fn := ⟨1, 1, b0⟩
/-! is_between(thing, least, most); names: 0=thing 1=least 2=most -/
def b1 : S :=
 (.seq (.ret (.and (.call 0 (.cons (.v 0) .nil)) (.chn (.v 1) (.lks .le (.v 0) (.lk1 .le (.v 2))))))
 .nil)
def f1 : Fn := ⟨3, 3, b1⟩
/-! is_index(thing, many); names: 0=thing 1=many -/
def b2 : S :=
 (.seq (.ret (.call 1 (.cons (.v 0) (.cons (.c (.int 0)) (.cons (.op .sub (.cons (.v 1) (.cons (.c (.int 1)) .nil))) .nil)))))
 .nil)
def f2 : Fn := ⟨2, 2, b2⟩
/-! is_integers(thing, many); names: 0=thing 1=many 2=one -/
def b3 : S :=
 (.seq (.ret (.and (.op (.isi [4]) (.cons (.v 0) .nil)) (.and (.op .eq (.cons (.op .len (.cons (.v 0) .nil)) (.cons (.v 1) .nil))) (.op .all (.cons (.lc (.call 0 (.cons (.v 2) .nil)) (.nm 2) .seq (.cons (.v 0) .nil) (.c (.bl true))) .nil)))))
 .nil)
def f3 : Fn := ⟨2, 3, b3⟩
/-! is_row(thing); names: 0=thing 1=letter -/
def b4 : S :=
 (.seq (.ifs (.or (.not (.op (.isi [4]) (.cons (.v 0) .nil))) (.not (.chn (.c (.int 1)) (.lks .le (.op .len (.cons (.v 0) .nil)) (.lk1 .le (.gl [77, 79, 83, 84, 95, 76, 65, 78, 69, 83] (.int 1000)))))))
  (.seq (.ret (.c (.bl false)))
  .nil)
  .nil)
 (.seq (.ret (.op .all (.cons (.lc (.call 2 (.cons (.v 1) (.cons (.gl [77, 79, 83, 84, 95, 76, 69, 84, 84, 69, 82, 83] (.int 4)) .nil))) (.nm 1) .seq (.cons (.v 0) .nil) (.c (.bl true))) .nil)))
 .nil))
def f4 : Fn := ⟨1, 2, b4⟩
/-! check_row(thing); names: 0=thing -/
def b5 : S :=
 (.seq (.ifs (.not (.call 4 (.cons (.v 0) .nil)))
  (.seq (.raise 1 .nil)
  .nil)
  .nil)
 .nil)
def f5 : Fn := ⟨1, 1, b5⟩
/-! is_exchange(thing, lanes); names: 0=thing 1=lanes -/
def b6 : S :=
 (.seq (.ret (.chn (.c (.int 0)) (.lks .le (.op .idx (.cons (.v 0) (.cons (.c (.int 0)) .nil))) (.lks .lt (.op .idx (.cons (.v 0) (.cons (.c (.int 1)) .nil))) (.lks .lt (.op .idx (.cons (.v 0) (.cons (.c (.int 2)) .nil))) (.lk1 .le (.v 1)))))))
 .nil)
def f6 : Fn := ⟨2, 2, b6⟩
/-! exchanged_by(row, a, b, c); names: 0=row 1=a 2=b 3=c -/
def b7 : S :=
 (.seq (.ret (.op .add (.cons (.op .add (.cons (.op .add (.cons (.sl (.v 0) .nil (.v 1)) (.cons (.sl (.v 0) (.v 2) (.v 3)) .nil))) (.cons (.sl (.v 0) (.v 1) (.v 2)) .nil))) (.cons (.sl (.v 0) (.v 3) .nil) .nil))))
 .nil)
def f7 : Fn := ⟨4, 4, b7⟩
/-! exchanged(row, a, b, c); names: 0=row 1=a 2=b 3=c -/
def b8 : S :=
 (.seq (.ex (.call 5 (.cons (.v 0) .nil)))
 (.seq (.ifs (.or (.not (.call 3 (.cons (.tup (.cons (.fz 1) (.cons (.fz 2) (.cons (.fz 3) .nil)))) (.cons (.c (.int 3)) .nil)))) (.not (.call 6 (.cons (.tup (.cons (.fz 1) (.cons (.fz 2) (.cons (.fz 3) .nil)))) (.cons (.op .len (.cons (.v 0) .nil)) .nil)))))
  (.seq (.raise 2 .nil)
  .nil)
  .nil)
 (.seq (.ret (.call 7 (.cons (.v 0) (.cons (.v 1) (.cons (.v 2) (.cons (.v 3) .nil))))))
 .nil)))
def f8 : Fn := ⟨4, 4, b8⟩
/-! _law_hand(_law_script); names: 0=_law_script 1=_law_cells 2=_law_cell -/
def b9 : S :=
 (.seq (.asg (.nm 1) (.lc (.op .abs (.cons (.op .int (.cons (.v 2) .nil)) .nil)) (.nm 2) .seq (.cons (.sl (.v 0) .nil (.c (.int 63))) .nil) (.c (.bl true))))
 (.seq (.ret (.lst (.cons (.fz 1) (.cons (.c (.int 0)) (.cons (.c (.int 0)) (.cons (.op .add (.cons (.c (.int 1)) (.cons (.op .len (.cons (.v 1) .nil)) .nil))) (.cons (.c (.int 0)) .nil)))))))
 .nil))
def f9 : Fn := ⟨1, 3, b9⟩
/-! _law_draw(_law_hand_here, _law_many); names: 0=_law_hand_here 1=_law_many 2=_law_number 3=_law_cell 4=_law_digit -/
def b10 : S :=
 (.seq (.ifs (.and (.op .eq (.cons (.op .idx (.cons (.v 0) (.cons (.c (.int 2)) .nil))) (.cons (.c (.int 0)) .nil))) (.op .lt (.cons (.op .idx (.cons (.v 0) (.cons (.c (.int 1)) .nil))) (.cons (.op .len (.cons (.op .idx (.cons (.v 0) (.cons (.c (.int 0)) .nil))) .nil)) .nil))))
  (.seq (.asg (.nm 3) (.op .idx (.cons (.op .idx (.cons (.v 0) (.cons (.c (.int 0)) .nil))) (.cons (.op .idx (.cons (.v 0) (.cons (.c (.int 1)) .nil))) .nil))))
  (.seq (.setI 0 (.c (.int 1)) (.op .add (.cons (.op .idx (.cons (.v 0) (.cons (.c (.int 1)) .nil))) (.cons (.c (.int 1)) .nil))))
  (.seq (.setI 0 (.c (.int 3)) (.op .mod (.cons (.op .int (.cons (.op .add (.cons (.op .add (.cons (.op .mul (.cons (.op .idx (.cons (.v 0) (.cons (.c (.int 3)) .nil))) (.cons (.c (.int 69621)) .nil))) (.cons (.v 3) .nil))) (.cons (.c (.int 11)) .nil))) .nil)) (.cons (.c (.int 2147483629)) .nil))))
  (.seq (.ifs (.op .ge (.cons (.v 3) (.cons (.op .pow (.cons (.c (.int 10)) (.cons (.c (.int 18)) .nil))) .nil)))
   (.seq (.setI 0 (.c (.int 2)) (.fz 3))
   .nil)
   .nil)
  .nil))))
  .nil)
 (.seq (.ifs (.op .gt (.cons (.op .idx (.cons (.v 0) (.cons (.c (.int 2)) .nil))) (.cons (.c (.int 0)) .nil)))
  (.seq (.asg (.nm 4) (.op .mod (.cons (.op .int (.cons (.op .idx (.cons (.v 0) (.cons (.c (.int 2)) .nil))) .nil)) (.cons (.v 1) .nil))))
  (.seq (.setI 0 (.c (.int 2)) (.op .fdiv (.cons (.op .idx (.cons (.v 0) (.cons (.c (.int 2)) .nil))) (.cons (.v 1) .nil))))
  (.seq (.ret (.mv 4))
  .nil)))
  .nil)
 (.seq (.setI 0 (.c (.int 4)) (.op .add (.cons (.op .idx (.cons (.v 0) (.cons (.c (.int 4)) .nil))) (.cons (.c (.int 1)) .nil))))
 (.seq (.asg (.nm 2) (.op .mod (.cons (.op .int (.cons (.op .mul (.cons (.op .int (.cons (.op .add (.cons (.op .idx (.cons (.v 0) (.cons (.c (.int 3)) .nil))) (.cons (.op .mul (.cons (.c (.int 7919)) (.cons (.op .idx (.cons (.v 0) (.cons (.c (.int 4)) .nil))) .nil))) .nil))) .nil)) (.cons (.c (.int 48271)) .nil))) .nil)) (.cons (.c (.int 2147483647)) .nil))))
 (.seq (.asg (.nm 2) (.op .mod (.cons (.op .int (.cons (.op .mul (.cons (.v 2) (.cons (.op .add (.cons (.op .fdiv (.cons (.v 2) (.cons (.c (.int 1009)) .nil))) (.cons (.c (.int 69621)) .nil))) .nil))) .nil)) (.cons (.c (.int 2147483647)) .nil))))
 (.seq (.asg (.nm 2) (.op .mod (.cons (.op .int (.cons (.op .mul (.cons (.v 2) (.cons (.op .add (.cons (.op .fdiv (.cons (.v 2) (.cons (.c (.int 2003)) .nil))) (.cons (.c (.int 40692)) .nil))) .nil))) .nil)) (.cons (.c (.int 2147483399)) .nil))))
 (.seq (.ret (.op .mod (.cons (.op .int (.cons (.op .fdiv (.cons (.v 2) (.cons (.c (.int 16)) .nil))) .nil)) (.cons (.v 1) .nil))))
 .nil)))))))
def f10 : Fn := ⟨2, 5, b10⟩
/-! _law_is(_law_told, _law_due_here); names: 0=_law_told 1=_law_due_here 2=_law_one 3=_law_two -/
def b11 : S :=
 (.seq (.ifs (.op (.isi [4, 5]) (.cons (.v 1) .nil))
  (.seq (.ifs (.or (.op .ne (.cons (.op (.isi [4]) (.cons (.v 0) .nil)) (.cons (.op (.isi [4]) (.cons (.v 1) .nil)) .nil))) (.not (.op (.isi [4, 5]) (.cons (.v 0) .nil))))
   (.seq (.ret (.c (.bl false)))
   .nil)
   .nil)
  (.seq (.ret (.and (.op .eq (.cons (.op .len (.cons (.v 0) .nil)) (.cons (.op .len (.cons (.v 1) .nil)) .nil))) (.op .all (.cons (.lc (.call 11 (.cons (.v 2) (.cons (.v 3) .nil))) (.tp [2, 3]) .zip (.cons (.v 0) (.cons (.v 1) .nil)) (.c (.bl true))) .nil))))
  .nil))
  .nil)
 (.seq (.ifs (.op (.isi [4, 5]) (.cons (.v 0) .nil))
  (.seq (.ret (.c (.bl false)))
  .nil)
  .nil)
 (.seq (.ret (.and (.op .eq (.cons (.op (.isi [1]) (.cons (.v 0) .nil)) (.cons (.op (.isi [1]) (.cons (.v 1) .nil)) .nil))) (.op .eq (.cons (.v 0) (.cons (.v 1) .nil)))))
 .nil)))
def f11 : Fn := ⟨2, 4, b11⟩
/-! _law_row(_law_hand_here, _law_letters, _law_most); names: 0=_law_hand_here 1=_law_letters 2=_law_most 3=_law_many 4=_law_found 5=_law_k -/
def b12 : S :=
 (.seq (.asg (.nm 3) (.op .add (.cons (.c (.int 1)) (.cons (.call 10 (.cons (.v 0) (.cons (.v 2) .nil))) .nil))))
 (.seq (.ifs (.op .eq (.cons (.call 10 (.cons (.v 0) (.cons (.c (.int 2)) .nil))) (.cons (.c (.int 0)) .nil)))
  (.seq (.ret (.op .tuple (.cons (.lc (.call 10 (.cons (.v 0) (.cons (.v 1) .nil))) (.nm 5) .range1 (.cons (.v 3) .nil) (.c (.bl true))) .nil)))
  .nil)
  .nil)
 (.seq (.asg (.nm 4) (.lst .nil))
 (.seq (.for (.nm 5) .range1 (.cons (.v 3) .nil)
  (.seq (.ifs (.op .lt (.cons (.op .len (.cons (.v 4) .nil)) (.cons (.v 3) .nil)))
   (.seq (.ex (.bm .extend 4 (.cons (.op .mul (.cons (.lst (.cons (.call 10 (.cons (.v 0) (.cons (.v 1) .nil))) .nil)) (.cons (.op .add (.cons (.c (.int 1)) (.cons (.call 10 (.cons (.v 0) (.cons (.c (.int 3)) .nil))) .nil))) .nil))) .nil)))
   .nil)
   .nil)
  .nil))
 (.seq (.ret (.op .tuple (.cons (.sl (.v 4) .nil (.v 3)) .nil)))
 .nil)))))
def f12 : Fn := ⟨3, 6, b12⟩
/-! _law_places(_law_hand_here, _law_lanes); names: 0=_law_hand_here 1=_law_lanes 2=_law_a 3=_law_b -/
def b13 : S :=
 (.seq (.asg (.nm 2) (.call 10 (.cons (.v 0) (.cons (.op .sub (.cons (.v 1) (.cons (.c (.int 1)) .nil))) .nil))))
 (.seq (.asg (.nm 3) (.op .add (.cons (.op .add (.cons (.v 2) (.cons (.c (.int 1)) .nil))) (.cons (.call 10 (.cons (.v 0) (.cons (.op .sub (.cons (.op .sub (.cons (.v 1) (.cons (.v 2) .nil))) (.cons (.c (.int 1)) .nil))) .nil))) .nil))))
 (.seq (.ret (.tup (.cons (.fz 2) (.cons (.fz 3) (.cons (.op .add (.cons (.op .add (.cons (.v 3) (.cons (.c (.int 1)) .nil))) (.cons (.call 10 (.cons (.v 0) (.cons (.op .sub (.cons (.v 1) (.cons (.v 3) .nil))) .nil))) .nil))) .nil)))))
 .nil)))
def f13 : Fn := ⟨2, 4, b13⟩
/-! _law_due(_law_row_here, _law_a, _law_b, _law_c); names: 0=_law_row_here 1=_law_a 2=_law_b 3=_law_c 4=_law_found 5=_law_lane -/
def b14 : S :=
 (.seq (.asg (.nm 4) (.lst .nil))
 (.seq (.for (.nm 5) .range1 (.cons (.op .len (.cons (.v 0) .nil)) .nil)
  (.seq (.ifs (.or (.op .lt (.cons (.v 5) (.cons (.v 1) .nil))) (.op .ge (.cons (.v 5) (.cons (.v 3) .nil))))
   (.seq (.ex (.bm .append 4 (.cons (.op .idx (.cons (.v 0) (.cons (.v 5) .nil))) .nil)))
   .nil)
   (.seq (.ifs (.op .lt (.cons (.v 5) (.cons (.op .sub (.cons (.op .add (.cons (.v 1) (.cons (.v 3) .nil))) (.cons (.v 2) .nil))) .nil)))
    (.seq (.ex (.bm .append 4 (.cons (.op .idx (.cons (.v 0) (.cons (.op .sub (.cons (.op .add (.cons (.v 5) (.cons (.v 2) .nil))) (.cons (.v 1) .nil))) .nil))) .nil)))
    .nil)
    (.seq (.ex (.bm .append 4 (.cons (.op .idx (.cons (.v 0) (.cons (.op .add (.cons (.op .sub (.cons (.v 5) (.cons (.v 3) .nil))) (.cons (.v 2) .nil))) .nil))) .nil)))
    .nil))
   .nil))
  .nil))
 (.seq (.ret (.op .tuple (.cons (.v 4) .nil)))
 .nil)))
def f14 : Fn := ⟨4, 6, b14⟩
/-! law(_law_script); names: 0=_law_script 1=_law_hand_here 2=_law_turn 3=_law_row_here 4=_law_lanes 5=_law_told 6=_law_a 7=_law_b 8=_law_c 9=_law_at 10=_law_once -/
def b15 : S :=
 (.seq (.asg (.nm 1) (.call 9 (.cons (.v 0) .nil)))
 (.seq (.for (.nm 2) .range1 (.cons (.c (.int 6)) .nil)
  (.seq (.asg (.nm 3) (.op .add (.cons (.call 12 (.cons (.v 1) (.cons (.op .add (.cons (.c (.int 1)) (.cons (.call 10 (.cons (.v 1) (.cons (.c (.int 4)) .nil))) .nil))) (.cons (.c (.int 29)) .nil)))) (.cons (.tup (.cons (.call 10 (.cons (.v 1) (.cons (.c (.int 4)) .nil))) .nil)) .nil))))
  (.seq (.ifs (.and (.op .eq (.cons (.v 2) (.cons (.c (.int 5)) .nil))) (.op .eq (.cons (.call 10 (.cons (.v 1) (.cons (.c (.int 3)) .nil))) (.cons (.c (.int 0)) .nil))))
   (.seq (.asg (.nm 3) (.sl (.op .mul (.cons (.v 3) (.cons (.c (.int 1000)) .nil))) .nil (.c (.int 1000))))
   .nil)
   .nil)
  (.seq (.asg (.nm 4) (.op .len (.cons (.v 3) .nil)))
  (.seq (.asg (.tp [6, 7, 8]) (.call 13 (.cons (.v 1) (.cons (.v 4) .nil))))
  (.seq (.asg (.nm 5) (.call 8 (.cons (.v 3) (.cons (.v 6) (.cons (.v 7) (.cons (.v 8) .nil))))))
  (.seq (.ifs (.or (.not (.call 11 (.cons (.v 5) (.cons (.call 14 (.cons (.v 3) (.cons (.v 6) (.cons (.v 7) (.cons (.v 8) .nil))))) .nil)))) (.not (.call 11 (.cons (.call 8 (.cons (.v 5) (.cons (.v 6) (.cons (.op .sub (.cons (.op .add (.cons (.v 6) (.cons (.v 8) .nil))) (.cons (.v 7) .nil))) (.cons (.v 8) .nil))))) (.cons (.v 3) .nil)))))
   (.seq (.ret (.c (.bl false)))
   .nil)
   .nil)
  (.seq (.ifs (.op .ne (.cons (.call 8 (.cons (.op .rev (.cons (.v 3) .nil)) (.cons (.op .sub (.cons (.v 4) (.cons (.v 8) .nil))) (.cons (.op .sub (.cons (.v 4) (.cons (.v 7) .nil))) (.cons (.op .sub (.cons (.v 4) (.cons (.v 6) .nil))) .nil))))) (.cons (.op .rev (.cons (.v 5) .nil)) .nil)))
   (.seq (.ret (.c (.bl false)))
   .nil)
   .nil)
  (.seq (.ifs (.op .ne (.cons (.op .sorted (.cons (.v 5) .nil)) (.cons (.op .sorted (.cons (.v 3) .nil)) .nil)))
   (.seq (.ret (.c (.bl false)))
   .nil)
   .nil)
  (.seq (.ifs (.op .gt (.cons (.v 4) (.cons (.c (.int 2)) .nil)))
   (.seq (.asg (.nm 9) (.call 10 (.cons (.v 1) (.cons (.op .sub (.cons (.v 4) (.cons (.c (.int 2)) .nil))) .nil))))
   (.seq (.asg (.nm 10) (.call 8 (.cons (.v 3) (.cons (.v 9) (.cons (.op .add (.cons (.v 9) (.cons (.c (.int 1)) .nil))) (.cons (.op .add (.cons (.v 9) (.cons (.c (.int 3)) .nil))) .nil))))))
   (.seq (.ifs (.op .ne (.cons (.call 8 (.cons (.call 8 (.cons (.v 3) (.cons (.v 9) (.cons (.op .add (.cons (.v 9) (.cons (.c (.int 1)) .nil))) (.cons (.op .add (.cons (.v 9) (.cons (.c (.int 2)) .nil))) .nil))))) (.cons (.op .add (.cons (.v 9) (.cons (.c (.int 1)) .nil))) (.cons (.op .add (.cons (.v 9) (.cons (.c (.int 2)) .nil))) (.cons (.op .add (.cons (.v 9) (.cons (.c (.int 3)) .nil))) .nil))))) (.cons (.v 10) .nil)))
    (.seq (.ret (.c (.bl false)))
    .nil)
    .nil)
   (.seq (.ifs (.op .ne (.cons (.call 8 (.cons (.call 8 (.cons (.v 10) (.cons (.v 9) (.cons (.op .add (.cons (.v 9) (.cons (.c (.int 1)) .nil))) (.cons (.op .add (.cons (.v 9) (.cons (.c (.int 3)) .nil))) .nil))))) (.cons (.v 9) (.cons (.op .add (.cons (.v 9) (.cons (.c (.int 1)) .nil))) (.cons (.op .add (.cons (.v 9) (.cons (.c (.int 3)) .nil))) .nil))))) (.cons (.v 3) .nil)))
    (.seq (.ret (.c (.bl false)))
    .nil)
    .nil)
   .nil))))
   .nil)
  .nil))))))))))
 (.seq (.ret (.c (.bl true)))
 .nil)))
def f15 : Fn := ⟨1, 11, b15⟩
def P : List Fn := [f0, f1, f2, f3, f4, f5, f6, f7, f8, f9, f10, f11, f12, f13, f14, f15]
end K15
end

section
set_option Elab.async false
set_option linter.all false
set_option maxRecDepth 100000
set_option maxHeartbeats 0
namespace K15
open Fly PySem L2 PyProof.Rows PySem.W
abbrev tx (i : Nat) : Stmt := topOf PySem.Challenge.pw_flyovers_k15_whole_rows_exchanged i
def e0 : Ent := ⟨"is_integer", tx 6, [("thing" : Str)], [("thing" : Str)], none⟩
def e1 : Ent := ⟨"is_between", tx 7, [("thing" : Str), ("least" : Str), ("most" : Str)], [("thing" : Str), ("least" : Str), ("most" : Str)], none⟩
def e2 : Ent := ⟨"is_index", tx 8, [("thing" : Str), ("many" : Str)], [("thing" : Str), ("many" : Str)], none⟩
def e3 : Ent := ⟨"is_integers", tx 9, [("thing" : Str), ("many" : Str), ("one" : Str)], [("thing" : Str), ("many" : Str)], none⟩
def e4 : Ent := ⟨"is_row", tx 12, [("thing" : Str), ("letter" : Str)], [("thing" : Str)], none⟩
def e5 : Ent := ⟨"check_row", tx 13, [("thing" : Str)], [("thing" : Str)], none⟩
def e6 : Ent := ⟨"is_exchange", tx 15, [("thing" : Str), ("lanes" : Str)], [("thing" : Str), ("lanes" : Str)], none⟩
def e7 : Ent := ⟨"exchanged_by", tx 16, [("row" : Str), ("a" : Str), ("b" : Str), ("c" : Str)], [("row" : Str), ("a" : Str), ("b" : Str), ("c" : Str)], none⟩
def e8 : Ent := ⟨"exchanged", tx 17, [("row" : Str), ("a" : Str), ("b" : Str), ("c" : Str)], [("row" : Str), ("a" : Str), ("b" : Str), ("c" : Str)], none⟩
def e9 : Ent := ⟨"_law_hand", tx 19, [("_law_script" : Str), ("_law_cells" : Str), ("_law_cell" : Str)], [("_law_script" : Str)], none⟩
def e10 : Ent := ⟨"_law_draw", tx 20, [("_law_hand_here" : Str), ("_law_many" : Str), ("_law_number" : Str), ("_law_cell" : Str), ("_law_digit" : Str)], [("_law_hand_here" : Str), ("_law_many" : Str)], none⟩
def e11 : Ent := ⟨"_law_is", tx 21, [("_law_told" : Str), ("_law_due_here" : Str), ("_law_one" : Str), ("_law_two" : Str)], [("_law_told" : Str), ("_law_due_here" : Str)], none⟩
def e12 : Ent := ⟨"_law_row", tx 22, [("_law_hand_here" : Str), ("_law_letters" : Str), ("_law_most" : Str), ("_law_many" : Str), ("_law_found" : Str), ("_law_k" : Str)], [("_law_hand_here" : Str), ("_law_letters" : Str), ("_law_most" : Str)], none⟩
def e13 : Ent := ⟨"_law_places", tx 23, [("_law_hand_here" : Str), ("_law_lanes" : Str), ("_law_a" : Str), ("_law_b" : Str)], [("_law_hand_here" : Str), ("_law_lanes" : Str)], none⟩
def e14 : Ent := ⟨"_law_due", tx 24, [("_law_row_here" : Str), ("_law_a" : Str), ("_law_b" : Str), ("_law_c" : Str), ("_law_found" : Str), ("_law_lane" : Str)], [("_law_row_here" : Str), ("_law_a" : Str), ("_law_b" : Str), ("_law_c" : Str)], none⟩
def e15 : Ent := ⟨"law", tx 25, [("_law_script" : Str), ("_law_hand_here" : Str), ("_law_turn" : Str), ("_law_row_here" : Str), ("_law_lanes" : Str), ("_law_told" : Str), ("_law_a" : Str), ("_law_b" : Str), ("_law_c" : Str), ("_law_at" : Str), ("_law_once" : Str)], [("_law_script" : Str)], none⟩
def es : List Ent := [e0, e1, e2, e3, e4, e5, e6, e7, e8, e9, e10, e11, e12, e13, e14, e15]
def tb : Tabs where
  fns := [(("is_integer" : Str), 0, 1), (("is_between" : Str), 1, 3), (("is_index" : Str), 2, 2), (("is_integers" : Str), 3, 2), (("is_row" : Str), 4, 1), (("check_row" : Str), 5, 1), (("is_exchange" : Str), 6, 2), (("exchanged_by" : Str), 7, 4), (("exchanged" : Str), 8, 4), (("_law_hand" : Str), 9, 1), (("_law_draw" : Str), 10, 2), (("_law_is" : Str), 11, 2), (("_law_row" : Str), 12, 3), (("_law_places" : Str), 13, 2), (("_law_due" : Str), 14, 4), (("law" : Str), 15, 1)]
  cns := [(("MOST_LETTERS" : Str), 4), (("MOST_LANES" : Str), 1000)]
  exs := [(("LaneError" : Str), 0), (("NoRow" : Str), 1), (("NoPlaces" : Str), 2)]
  blt := [("abs" : Str), ("all" : Str), ("bool" : Str), ("int" : Str), ("isinstance" : Str), ("len" : Str), ("list" : Str), ("range" : Str), ("sorted" : Str), ("tuple" : Str), ("zip" : Str)]
def l0 : List PySem.Str := [("__name__" : Str), ("LaneError" : Str), ("NoRow" : Str), ("NoPlaces" : Str), ("MOST_LETTERS" : Str), ("is_integer" : Str), ("is_between" : Str), ("is_index" : Str), ("is_integers" : Str), ("MOST_LANES" : Str), ("is_row" : Str), ("check_row" : Str), ("is_exchange" : Str), ("exchanged_by" : Str), ("exchanged" : Str), ("_law_hand" : Str), ("_law_draw" : Str), ("_law_is" : Str), ("_law_row" : Str), ("_law_places" : Str), ("_law_due" : Str)]
def loose : List PySem.Str := l0
abbrev R : PySem.W.OpenRow := PySem.W.OpenLaw.row PySem.Challenge.rw_flyovers_k15_whole_rows_exchanged
abbrev hk : PySem.W.Hook := He.hookD 4 (facts tb es) (es.map Ent.d)
def ob (s : PySem.W.SharedT) : He.AlD := He.obsDG 4 (facts tb es) (es.map Ent.d) (HandSHeadRun.getT s)
theorem ob_eq (s : PySem.W.SharedT) : ob s = hk.obs s.abs := He.obsDG_eq (HandSHeadRun.getT_eq s)
abbrev qv : Program := PySem.W.view R.prog [25]
theorem top_run (w : World) : HandSHeadRun.RunEq R qv hk ob 1960 loose w := by
  intro os
  kernel_rfl
end K15
end

section
set_option Elab.async false
set_option linter.all false
set_option maxRecDepth 100000
set_option maxHeartbeats 4000000
/-! How the small language's data lie in the abstract heap (FlyRep). -/
namespace Fly
open PySem L2

abbrev AP := Addr → Prop

/-- a list of the values xs at a, shared: tracked (fr), or of the written part -/
def RL (K : PySem.W.Frag) (fr : AP) (H : Hp) (a : Addr) (xs : List V) : Prop := (fr a ∧ Rd H a (.lst xs)) ∨ SqL K (fun _ => none) a xs
def RT (K : PySem.W.Frag) (fr : AP) (H : Hp) (a : Addr) (xs : List V) : Prop := fr a ∧ H a = some (.tup xs)
/-- the keys of a dict, as they stand in the heap -/
def keyI (k : List Int) : List Key := k.map Sum.inl
theorem keyI_kV (k : List Int) : (keyI k).map kV = k.map V.int := by unfold keyI; rw [List.map_map]; rfl
theorem keyI_inj : ∀ {k l : List Int}, keyI k = keyI l → k = l
  | [], [], _ => rfl
  | [], _ :: _, e => nomatch e
  | _ :: _, [], e => nomatch e
  | x :: k, y :: l, e => by
    unfold keyI at e
    simp only [List.map_cons, List.cons.injEq, Sum.inl.injEq] at e
    rw [e.1, keyI_inj (k := k) (l := l) e.2]
def keysI (ks : List (List Int)) : List (List Key) := ks.map keyI

theorem toS_inj {a b : List Nat} (h : toS a = toS b) : a = b := by
  have := congrArg Str.cps h
  simpa [toS] using this
/-- a thing's attributes, as they stand in the heap -/
def fldV (ns : List (List Nat)) (vs : List V) : List (Str × V) := (ns.map toS).zip vs
mutual
inductive Rep (K : PySem.W.Frag) (fr : AP) (H : Hp) : V → D → Prop
  | non : Rep K fr H .non .non
  | bl (b : Bool) : Rep K fr H (.bl b) (.bl b)
  | int (i : Int) : Rep K fr H (.int i) (.int i)
  | str (x : List Nat) : Rep K fr H (.str (toS x)) (.str x)
  | tup {a : Addr} {xs : List V} {ds : List D} : RT K fr H a xs → xs.length ≤ sizeLine → Reps K fr H xs ds → Rep K fr H (.ref a) (.tup ds)
  | lst {a : Addr} {xs : List V} {ds : List D} : fr a → H a = some (.lst xs) → xs.length ≤ sizeLine → Reps K fr H xs ds → Rep K fr H (.ref a) (.lst ds)
  | dic {a : Addr} {kvs : List (List Key × V)} {ks : List (List Int)} {ds : List D} : fr a → H a = some (.dT kvs) → kvs.length ≤ sizeLine → kvs.map (·.1) = keysI ks → Reps K fr H (kvs.map (·.2)) ds → Rep K fr H (.ref a) (.dic ks ds)
  | ins {a dx : Addr} {c : List Nat} {ns : List (List Nat)} {vs : List V} {ds : List D} : fr a → H a = some (.ins (He.ga K (toS c)) dx (fldV ns vs)) → ns.length = vs.length → Reps K fr H vs ds → Rep K fr H (.ref a) (.ins c ns ds)
  | scr {a : Addr} {xs : List V} {ds : List D} : RL K fr H a xs → xs.length ≤ sizeLine → Reps K fr H xs ds → Rep K fr H (.ref a) (.scr ds)
  | kt {a : Addr} {o : Obj} {xs : List V} {ds : List D} : fr a → o.dict = none → H a = some (.frz o (.tup xs)) → xs.length ≤ sizeLine → Reps K fr H xs ds → Rep K fr H (.ref a) (.kt ds)
  | kd {a : Addr} {o : Obj} {kvs : List (List Key × V)} {ks : List (List Int)} {ds : List D} : fr a → H a = some (.frz o (.dT kvs)) → kvs.length ≤ sizeLine → kvs.map (·.1) = keysI ks → Reps K fr H (kvs.map (·.2)) ds → Rep K fr H (.ref a) (.kd ks ds)
inductive Reps (K : PySem.W.Frag) (fr : AP) (H : Hp) : List V → List D → Prop
  | nil : Reps K fr H [] []
  | cons {v : V} {vs : List V} {d : D} {ds : List D} : Rep K fr H v d → Reps K fr H vs ds → Reps K fr H (v :: vs) (d :: ds)
end
/-- a thing of one's own at a -/
inductive RepO (K : PySem.W.Frag) (fr : AP) (H : Hp) (a : Addr) : D → Prop
  | lst {xs : List V} {ds : List D} : H a = some (.lst xs) → xs.length ≤ sizeLine → Reps K fr H xs ds → RepO K fr H a (.lst ds)
  | dic {kvs : List (List Key × V)} {ks : List (List Int)} {ds : List D} : H a = some (.dT kvs) → kvs.length ≤ sizeLine → kvs.map (·.1) = keysI ks → Reps K fr H (kvs.map (·.2)) ds → RepO K fr H a (.dic ks ds)
  | ins {dx : Addr} {c : List Nat} {ns : List (List Nat)} {vs : List V} {ds : List D} : H a = some (.ins (He.ga K (toS c)) dx (fldV ns vs)) → ns.length = vs.length → Reps K fr H vs ds → RepO K fr H a (.ins c ns ds)

theorem sql_none {K : PySem.W.Frag} {H : Hp} {a : Addr} {xs : List V} (h : SqL K (fun _ => none) a xs) : SqL K H a xs := by
  rcases h with h | h
  · rcases h with h | ⟨o, h⟩ <;> cases h
  · exact .inr h
theorem sqt_none {K : PySem.W.Frag} {H : Hp} {a : Addr} {xs : List V} (h : SqT K (fun _ => none) a xs) : SqT K H a xs := by
  rcases h with h | h
  · rcases h with h | ⟨o, h⟩ <;> cases h
  · exact .inr h
theorem RL.sq {K : PySem.W.Frag} {fr : AP} {H : Hp} {a : Addr} {xs : List V} (h : RL K fr H a xs) : SqL K H a xs := by
  rcases h with ⟨_, h⟩ | h
  · exact .inl h
  · exact sql_none h
theorem RT.sq {K : PySem.W.Frag} {fr : AP} {H : Hp} {a : Addr} {xs : List V} (h : RT K fr H a xs) : SqT K H a xs := .inl (.inl h.2)

section
variable {K : PySem.W.Frag} {fr fr' : AP} {H H' : Hp}
theorem rd_at {a : Addr} {o : HO} (h : Rd H a o) (e : H' a = H a) : Rd H' a o := by
  rcases h with h | ⟨u, h⟩
  · exact .inl (e.trans h)
  · exact .inr ⟨u, e.trans h⟩
mutual
theorem Rep.keep (k : ∀ a, fr a → fr' a ∧ H' a = H a) : ∀ {v : V} {d : D}, Rep K fr H v d → Rep K fr' H' v d
  | _, _, .non => .non
  | _, _, .bl b => .bl b
  | _, _, .int i => .int i
  | _, _, .str x => .str x
  | _, _, .tup h z r => .tup ⟨(k _ h.1).1, (k _ h.1).2.trans h.2⟩ z (Reps.keep k r)
  | _, _, .dic f h z e r => .dic (k _ f).1 ((k _ f).2.trans h) z e (Reps.keep k r)
  | _, _, .kd f h z e r => .kd (k _ f).1 ((k _ f).2.trans h) z e (Reps.keep k r)
  | _, _, .ins f h z r => .ins (k _ f).1 ((k _ f).2.trans h) z (Reps.keep k r)
  | _, _, .lst f h z r => .lst (k _ f).1 ((k _ f).2.trans h) z (Reps.keep k r)
  | _, _, .kt f n h z r => .kt (k _ f).1 n ((k _ f).2.trans h) z (Reps.keep k r)
  | _, _, .scr h z r => .scr (h.elim (fun ⟨f, q⟩ => .inl ⟨(k _ f).1, rd_at q (k _ f).2⟩) .inr) z (Reps.keep k r)
theorem Reps.keep (k : ∀ a, fr a → fr' a ∧ H' a = H a) : ∀ {vs : List V} {ds : List D}, Reps K fr H vs ds → Reps K fr' H' vs ds
  | _, _, .nil => .nil
  | _, _, .cons r t => .cons (Rep.keep k r) (Reps.keep k t)
end
theorem RepO.keep {a : Addr} {d : D} (k : ∀ a, fr a → fr' a ∧ H' a = H a) (ha : H' a = H a) (h : RepO K fr H a d) : RepO K fr' H' a d := by
  cases h with
  | lst h z r => exact .lst (ha.trans h) z (r.keep k)
  | dic h z e r => exact .dic (ha.trans h) z e (r.keep k)
  | ins h z r => exact .ins (ha.trans h) z (r.keep k)
theorem RepO.rep {a : Addr} {d : D} (h : RepO K fr H a d) : Rep K (fun x => fr x ∨ x = a) H (.ref a) d := by
  cases h with
  | lst h z r => exact .lst (.inr rfl) h z (r.keep fun a f => ⟨.inl f, rfl⟩)
  | dic h z e r => exact .dic (.inr rfl) h z e (r.keep fun a f => ⟨.inl f, rfl⟩)
  | ins h z r => exact .ins (.inr rfl) h z (r.keep fun a f => ⟨.inl f, rfl⟩)
theorem RepO.some {a : Addr} {d : D} (h : RepO K fr H a d) : H a ≠ none := by
  cases h with
  | lst h z r => rw [h]; simp
  | dic h z e r => rw [h]; simp
  | ins h z r => rw [h]; simp
/-- no tuple stands here -/
def NT (o : Option HO) : Prop := ∀ xs, o ≠ some (.tup xs)
theorem RepO.nt {a : Addr} {d : D} (h : RepO K fr H a d) : NT (H a) := by
  intro xs
  cases h with
  | lst h z r => rw [h]; simp
  | dic h z e r => rw [h]; simp
  | ins h z r => rw [h]; simp
theorem Reps.length : ∀ {vs : List V} {ds : List D}, Reps K fr H vs ds → vs.length = ds.length
  | _, _, .nil => rfl
  | _, _, .cons _ t => by rw [List.length_cons, List.length_cons, Reps.length t]
theorem Reps.get : ∀ {vs : List V} {ds : List D} {i : Nat} {d : D}, Reps K fr H vs ds → ds[i]? = some d → ∃ v, vs[i]? = some v ∧ Rep K fr H v d
  | _, _, _, _, .nil, e => by simp at e
  | _, _, 0, _, .cons r _, e => by simp at e; subst e; exact ⟨_, rfl, r⟩
  | _, _, i + 1, d, .cons _ t, e => by
    obtain ⟨u, h1, h2⟩ := Reps.get (i := i) (d := d) t (by simpa using e)
    exact ⟨u, by simpa using h1, h2⟩
theorem Reps.getV : ∀ {vs : List V} {ds : List D} {i : Nat} {v : V}, Reps K fr H vs ds → vs[i]? = some v → ∃ d, ds[i]? = some d ∧ Rep K fr H v d
  | _, _, _, _, .nil, e => by simp at e
  | _, _, 0, _, .cons r _, e => by simp at e; subst e; exact ⟨_, rfl, r⟩
  | _, _, i + 1, d, .cons _ t, e => by
    obtain ⟨u, h1, h2⟩ := Reps.getV (i := i) (v := d) t (by simpa using e)
    exact ⟨u, by simpa using h1, h2⟩
theorem Reps.append : ∀ {vs ws : List V} {ds es : List D}, Reps K fr H vs ds → Reps K fr H ws es → Reps K fr H (vs ++ ws) (ds ++ es)
  | _, _, _, _, .nil, s => s
  | _, _, _, _, .cons r t, s => .cons r (Reps.append t s)
theorem Reps.take : ∀ {vs : List V} {ds : List D} (n : Nat), Reps K fr H vs ds → Reps K fr H (vs.take n) (ds.take n)
  | _, _, 0, _ => .nil
  | _, _, _ + 1, .nil => .nil
  | _, _, n + 1, .cons r t => .cons r (Reps.take n t)
theorem Reps.drop : ∀ {vs : List V} {ds : List D} (n : Nat), Reps K fr H vs ds → Reps K fr H (vs.drop n) (ds.drop n)
  | _, _, 0, r => r
  | _, _, _ + 1, .nil => .nil
  | _, _, n + 1, .cons _ t => Reps.drop n t
theorem Reps.set {v : V} {d : D} (r : Rep K fr H v d) : ∀ {vs : List V} {ds : List D} (i : Nat), Reps K fr H vs ds → Reps K fr H (vs.set i v) (ds.set i d)
  | _, _, _, .nil => .nil
  | _, _, 0, .cons _ t => .cons r t
  | _, _, i + 1, .cons q t => .cons q (Reps.set r i t)
theorem Reps.reverse : ∀ {vs : List V} {ds : List D}, Reps K fr H vs ds → Reps K fr H vs.reverse ds.reverse
  | _, _, .nil => .nil
  | _, _, .cons r t => by
    rw [List.reverse_cons, List.reverse_cons]
    exact Reps.append (Reps.reverse t) (.cons r .nil)
theorem Reps.eraseIdx : ∀ {vs : List V} {ds : List D} (i : Nat), Reps K fr H vs ds → Reps K fr H (vs.eraseIdx i) (ds.eraseIdx i)
  | _, _, _, .nil => .nil
  | _, _, 0, .cons _ t => t
  | _, _, i + 1, .cons q t => .cons q (Reps.eraseIdx i t)
theorem Reps.rep {vs : List V} {ds : List D} (r : Reps K fr H vs ds) : ∀ n : Nat, Reps K fr H (List.replicate n vs).flatten (List.replicate n ds).flatten
  | 0 => by simp; exact .nil
  | n + 1 => by
    rw [List.replicate_succ, List.replicate_succ, List.flatten_cons, List.flatten_cons]
    exact Reps.append r (Reps.rep r n)
theorem Reps.toInts : ∀ {is : List Int}, Reps K fr H (is.map V.int) (is.map D.int)
  | [] => .nil
  | i :: is => .cons (.int i) Reps.toInts
theorem Reps.of_ints : ∀ {vs : List V} {ds : List D} {is : List Int}, Reps K fr H vs ds → Fly.toInts ds = some is → vs = is.map V.int
  | _, _, is, .nil, e => by simp [Fly.toInts] at e; subst e; rfl
  | _, _, is, .cons r t, e => by
    cases r with
    | int i =>
      simp only [Fly.toInts, Option.map_eq_some_iff] at e
      obtain ⟨js, e1, rfl⟩ := e
      rw [Reps.of_ints t e1]; rfl
    | _ => simp [Fly.toInts] at e
theorem Reps.of_bools : ∀ {vs : List V} {ds : List D} {is : List Bool}, Reps K fr H vs ds → Fly.bools ds = some is → vs = is.map V.bl
  | _, _, is, .nil, e => by simp [Fly.bools] at e; subst e; rfl
  | _, _, is, .cons r t, e => by
    cases r with
    | bl i =>
      simp only [Fly.bools, Option.map_eq_some_iff] at e
      obtain ⟨js, e1, rfl⟩ := e
      rw [Reps.of_bools t e1]; rfl
    | _ => simp [Fly.bools] at e
end
theorem szLine_eq : szLine = sizeLine := by rw [sizeLine_eq]; rfl

/-! ### equality -/
mutual
def toP : D → PyData
  | .non => .none
  | .bl b => .bool b
  | .int i => .int i
  | .str x => .str (toS x)
  | .tup l => .tuple (toPs l)
  | .lst l => .list (toPs l)
  | .kt l => .tuple (toPs l)
  | _ => .none
def toPs : List D → List PyData
  | [] => []
  | d :: ds => toP d :: toPs ds
end
section
variable {K : PySem.W.Frag} {fr : AP} {H : Hp}
mutual
theorem Rep.dp : ∀ {n : Nat} {v : V} {d : D}, Rep K fr H v d → flat n d = true → Dp K H v (toP d)
  | _, _, _, .non, _ => by unfold toP; exact .non
  | _, _, _, .bl b, _ => by unfold toP; exact .bl b
  | _, _, _, .int i, _ => by unfold toP; exact .int i
  | _, _, _, .str x, _ => by unfold toP; exact .str _
  | n + 1, _, _, .tup h z r, e => by unfold toP; exact .tup h.sq (Reps.dp (n := n) r (by simpa [flat] using e))
  | n + 1, _, _, .lst f h z r, e => by unfold toP; exact .lst (.of h) (Reps.dp (n := n) r (by simpa [flat] using e))
  | n + 1, _, _, .kt f q h z r, e => by unfold toP; exact .tup (.inl (.inr ⟨_, h⟩)) (Reps.dp (n := n) r (by simpa [flat] using e))
  | 0, _, _, .tup h z r, e => by simp [flat] at e
  | 0, _, _, .kt f q h z r, e => by simp [flat] at e
  | 0, _, _, .lst f h z r, e => by simp [flat] at e
  | 0, _, _, .scr h z r, e => by simp [flat] at e
  | n + 1, _, _, .scr h z r, e => by simp [flat] at e
  | 0, _, _, .dic f h z q r, e => by simp [flat] at e
  | n + 1, _, _, .dic f h z q r, e => by simp [flat] at e
  | 0, _, _, .kd f h z q r, e => by simp [flat] at e
  | n + 1, _, _, .kd f h z q r, e => by simp [flat] at e
  | 0, _, _, .ins f h z r, e => by simp [flat] at e
  | n + 1, _, _, .ins f h z r, e => by simp [flat] at e
theorem Reps.dp : ∀ {n : Nat} {vs : List V} {ds : List D}, Reps K fr H vs ds → flats n ds = true → DpAll K H vs (toPs ds)
  | _, _, _, .nil, _ => by unfold toPs; exact .nil
  | n, _, _, .cons r t, e => by
    simp only [flats, Bool.and_eq_true] at e
    unfold toPs; exact .cons (Rep.dp r e.1) (Reps.dp t e.2)
end
theorem RepO.dp {n : Nat} {a : Addr} {d : D} (h : RepO K fr H a d) (e : flat n d = true) : Dp K H (.ref a) (toP d) := by
  cases h with
  | lst h z r =>
    cases n with
    | zero => simp [flat] at e
    | succ n => unfold toP; exact .lst (.of h) (Reps.dp (n := n) r (by simpa [flat] using e))
  | dic h z q r =>
    cases n with
    | zero => simp [flat] at e
    | succ n => simp [flat] at e
  | ins h z r =>
    cases n with
    | zero => simp [flat] at e
    | succ n => simp [flat] at e
end
end Fly
end

section
set_option Elab.async false
set_option linter.all false
set_option maxRecDepth 100000
set_option maxHeartbeats 4000000
/-! t * 1 is the tuple itself (FlyMul1). -/
namespace L2
open PySem PySem.Spec PyProof.Rows
theorem own_mul_one (at_ : Addr) (its : Array Value) (cnt : Nat) (dct : Option Addr) (slt : Array (Option Value)) (u : Tok) (ne : its.isEmpty = false) :
    Meets (Builtin.«tuple.__mul__» ⟨[.ref at_, .int 1 u], []⟩) (fun _ R s => s.heap.get? at_ = some { cls := .type "tuple", dict := dct, data := .seq its cnt, slots := slt } ∧
      R (.ok (.ret (Value.ref at_))) s) :=
  .of_wp fun prog w A R s h => by
    obtain ⟨hp, g, d, tk, os⟩ := s
    obtain ⟨hl, h⟩ := h
    have f1 := AutoSeq1.idx_int
    wp_walk using wpAny_loadPart' hl
    repeat (first
      | (refine wpAny_ite_false (decide_eq_false (by decide)) ?_; wp_walk using wpAny_loadPart' hl)
      | (refine wpAny_ite_true (decide_eq_true (by rw [ne]; rfl)) ?_; wp_walk using wpAny_loadPart' hl))
    exact ⟨_, rfl, h⟩
end L2
namespace L2
open PySem PySem.Spec PyProof.Rows
def rRepOne (K : PySem.W.Frag) : R2 := fun x y H Q => ∃ l xs, x = .ref l ∧ y = .int 1 ∧ SqT K H l xs ∧ xs ≠ [] ∧ Q (.ref l) H
section
variable {X : Cx}
theorem op_repOne : OpR X (binaryOp .Mult) (rRepOne X.K) := by
  intro pins s σ H x y v u Q I rx ry hh
  obtain ⟨l, xs, rfl, rfl, hT, hne, q⟩ := hh
  cases rx
  obtain ⟨t, rfl⟩ := ry
  obtain ⟨its, r, ⟨⟨cls, dd, data, sl⟩, ho, hc, n, hd⟩, hs⟩ := I.tuple hT
  simp only at hc hd
  subst hc hd
  have hn : its ≠ [] := fun e => hne (List.eq_nil_of_length_eq_zero (by have := r.length; rw [e] at this; exact this))
  have hi : its.toArray.isEmpty = false := by
    cases its with
    | nil => exact absurd rfl hn
    | cons a b => rfl
  refine wpAny_binaryOp_repeat_ref (T := "tuple") (U := "int") (by decide) ⟨_, ho, rfl⟩ (fun s' => typeIs_int s' 1 t) noFill_tuple_mul F.fills_int_mul F.slot_int_rmul repeat_tuple F.slot_int_index.lookup
    (call_meets F.slot_int_rmul (typeIs_int s 1 t) F.entry_int_rmul (F.args_int_rmul_2 _ _) (int_rmul_tuple 1 t l its.toArray n dd sl)
      ⟨ho, rfl, ⟨_, ho, rfl⟩, call_meets F.slot_tuple_mul ⟨_, ho, rfl⟩ F.entry_tuple_mul (F.args_tuple_mul_2 _ _) (own_mul_one l its.toArray n dd sl t hi) ⟨ho, ?_⟩⟩)
  exact ⟨.ref l, H, I, rfl, q⟩
end
end L2
end

section
set_option Elab.async false
set_option linter.all false
set_option maxRecDepth 100000
set_option maxHeartbeats 4000000
/-! enumerate of a tuple, of a list or a tuple (FlyEnum). -/
namespace Fly
open PySem PySem.Spec PyProof.Rows L2
theorem fly_enum_new {tp : Addr} {els : Array Value} :
    Meets (Builtin.«enumerate.__new__» ⟨[.type "enumerate", .ref tp], []⟩) (fun _ R s => s.heap.IsTuple tp els ∧
      R (.ok (.ret (.ref (s.heap.push { cls := .type "tuple_iterator", data := .fields #[.ref tp, .int 0 0] }).objs.size))) { s with heap := (s.heap.push { cls := .type "tuple_iterator", data := .fields #[.ref tp, .int 0 0] }).push { cls := .type "enumerate", data := .fields #[.none, .bool false, .ref s.heap.objs.size, rawInt 0, .none, .none] } }) :=
  .of_wp fun prog w A R st0 hyp => by
    obtain ⟨hp, g, d, tk, os⟩ := st0
    obtain ⟨isT, fin⟩ := hyp
    have hsub := sub_enumerate
    have it1 : ∀ {A' : Around} {E : Value → Shared → Prop} {Q : Value → Shared → Prop}, Q (.ref hp.objs.size) ⟨hp.push { cls := .type "tuple_iterator", data := .fields #[.ref tp, .int 0 0] }, g, d, tk, os⟩ → wpAny (model prog w) A' (pyIter (.ref tp)) Q E ⟨hp, g, d, tk, os⟩ :=
      fun q => (begins_tuple tp els).iter prog w _ _ ⟨hp, g, d, tk, os⟩ _ isT q
    wp_walk using it1
    refine wpAny_stack_any fun stk => wpAny_pure ?_
    split
    · rename_i cl _ _ _ _ _
      cases (cl == Value.type "enumerate") <;> (wp_walk using it1) <;> exact ⟨_, rfl, fin⟩
    · wp_walk using it1
      exact ⟨_, rfl, fin⟩
section
variable {prog : Program} {w : World} {A : Around} {E : Value → Shared → Prop} {s : Shared}
theorem fly_enum_call {tp : Addr} {els : Array Value} {Q : Value → Shared → Prop} (isT : s.heap.IsTuple tp els)
    (fin : ∀ h', IsEnum h' (s.heap.objs.size + 1) s.heap.objs.size 0 .none → h'.IsTupleIter s.heap.objs.size tp 0 → h'.objs.size = s.heap.objs.size + 2 →
      (∀ b ob, s.heap.get? b = some ob → h'.get? b = some ob) → Q (.ref (s.heap.objs.size + 1)) { s with heap := h' }) :
    wpAny (model prog w) A (call (.type "enumerate") [.ref tp]) Q E s := by
  refine callType_new F.called_enumerate (by decide) (F.typeCall_enumerate_1 _) (F.newCall_enumerate_1 _) (fun ob => F.args_object_init_2 ob _) F.entry_enumerate_new fly_enum_new ⟨isT, ?_⟩
  have sz : (s.heap.push { cls := .type "tuple_iterator", data := .fields #[.ref tp, .int 0 0] }).objs.size = s.heap.objs.size + 1 := Heap.size_push ..
  show _ ∧ _
  rw [sz]
  have en : IsEnum ((s.heap.push { cls := .type "tuple_iterator", data := .fields #[.ref tp, .int 0 0] }).push { cls := .type "enumerate", data := .fields #[.none, .bool false, .ref s.heap.objs.size, rawInt 0, .none, .none] }) (s.heap.objs.size + 1) s.heap.objs.size 0 .none := by
    have z := Heap.get?_push_size (s.heap.push { cls := .type "tuple_iterator", data := .fields #[.ref tp, .int 0 0] }) (o := { cls := .type "enumerate", data := .fields #[.none, .bool false, .ref s.heap.objs.size, rawInt 0, .none, .none] }) rfl
    rw [sz] at z
    exact z
  refine ⟨⟨_, en, rfl⟩, fin _ en ⟨_, Heap.get?_push_of_some _ (Heap.get?_push_size _ rfl), rfl, rfl⟩ (by rw [Heap.size_push, sz]) fun b ob x => Heap.get?_push_of_some _ (Heap.get?_push_of_some _ x)⟩
end
/-- a tuple's iterator that is through -/
theorem fly_gone {prog : Program} {w : World} {A : Around} (hh : A.handled = none) {it a : Addr} {i : Nat} {els : Array Value} (gone : els[i]? = none) :
    Draws prog w A it [it, a] 0 (fun _ _ => True) (fun _ h => h.IsTupleIter it a i ∧ h.IsTuple a els) where
  live := fun _ _ stt => let ⟨ob, ho, _⟩ := stt.1; ⟨ob, ho⟩
  frame := fun _ _ _ stt k => ⟨stt.1.at fun ob e => k it (by simp) ob e, stt.2.at fun ob e => k a (by simp) ob e⟩
  item := fun i s Q E lt _ _ => absurd lt (Nat.not_lt_zero _)
  done := fun s Q E stt hE => wpAny_nextOf_tuple_end hh stt.1 stt.2 gone hE
/-- the tuple at a as it stands, each item in a new pair -/
def IteT (K : PySem.W.Frag) (a : Addr) : It :=
  ⟨fun i H => ∃ (xs : List V) (x : V), SqT K H a xs ∧ xs[i]? = some x, fun i H v H' => ∃ p x, v = .ref p ∧ H p = none ∧ H' = upd H p (.tup [.int (i : Nat), x]) ∧ ∀ xs, SqT K H a xs → xs[i]? = some x, fun i H => ∃ xs : List V, SqT K H a xs ∧ xs.length ≤ i⟩
theorem turn_enumT {P : Program} {w : World} {K : PySem.W.Frag} {elts : List Expr} {kk : Nat} {tpos : Pos} (a e it : Addr) :
    Turn P w K (.Tuple elts kk tpos) (IteT K a) [e, it] e (fun i h => (∃ old, IsEnum h e it ((i : Nat) : Int) old) ∧ h.IsTupleIter it a i ∧ e ≠ it ∧ e ≠ a ∧ it ≠ a) where
  mem := by simp
  obj := fun i h stt b hb => by
    obtain ⟨⟨was, en⟩, ⟨ob, ho, hc, hd⟩, _⟩ := stt
    rcases (show b = e ∨ b = it by simpa using hb) with z | z
    · rw [z]; exact ⟨_, en, fun v q => nomatch q⟩
    · rw [z]; exact ⟨ob, ho, fun v q => by rw [hd] at q; cases q⟩
  keep := fun i h h' stt k => let ⟨⟨was, en⟩, hi, ne⟩ := stt; ⟨⟨was, k e (by simp) _ en⟩, hi.at fun ob q => k it (by simp) ob q, ne⟩
  item := by
    intro X hP hw hK hc i pins s σ H E I hf stt hg
    subst hP hw hK
    obtain ⟨⟨was, en⟩, itr, ne, nea, nia⟩ := stt
    obtain ⟨xs, x, sq, hx⟩ := hg
    obtain ⟨its, rv, isT, _⟩ := I.tuple sq
    obtain ⟨u, hu, ru⟩ := rv.get hx
    have isT : s.heap.IsTuple a its.toArray := isT
    have el : e < s.heap.objs.size := Heap.lt_size en
    have il : it < s.heap.objs.size := by obtain ⟨_, q, _⟩ := itr; exact Heap.lt_size q
    have lt : i < its.toArray.size := by
      have := (List.getElem?_eq_some_iff.mp hu).1
      simpa using this
    refine wpAny_pyNext_enum_itemC (Draws.tuple (show (X.A.in1).handled = none from I.ok.hd hc) it a (Ne.symm nia) its.toArray) en ⟨itr, isT⟩ lt ne (by simp [ne, nea]) fun x' h1 tk hP ho hst hT hsz hk => ?_
    have hxu : x' = u := by
      have hu' : its.toArray[i]? = some u := by simpa using hu
      rw [hu'] at hP
      exact (Option.some.inj hP).symm
    subst hxu
    refine ⟨_, rfl, wpAny_letOwnedTupleGo_enum (s := { s with heap := h1, toks := tk + 1 }) ho fun h2 en2 sb => ?_⟩
    have hT2 : h2.get? s.heap.objs.size = some { cls := .type "tuple", data := .seq #[.int ((i : Nat) : Int) tk, x'] } := (sb.2 _ (Nat.ne_of_gt el)).trans hT
    have fresh : ObjOk X.prog X.w (upd H s.heap.objs.size (.tup [.int (i : Nat), x])) h2 s.heap.objs.size (.tup [.int (i : Nat), x]) :=
      ⟨by show 2 ≤ sizeLine; decide, [.int ((i : Nat) : Int) tk, x'], .cons ⟨_, rfl⟩ (.cons ru .nil), ⟨_, hT2, rfl, _, rfl⟩⟩
    have J : Inv X pins σ (upd H s.heap.objs.size (.tup [.int (i : Nat), x])) { s with heap := h2, toks := tk + 1 } :=
      I.turnedNew (ch := [e, it]) (fun b ob hb q => (sb.2 b (fun z => hb (by simp [z]))).trans (hk b ob (fun z => hb (by simp [z])) (fun z => hb (by simp [z])) q)) hf (Nat.le_refl _) fresh
    refine ⟨.ref s.heap.objs.size, _, J, rfl, ⟨_, x, rfl, I.hok.fresh (Nat.le_refl _), rfl, fun ys hy => by rw [I.tuple_inj hy sq]; exact hx⟩, ⟨⟨x', ?_⟩, hst.1.at fun ob q => (sb.2 it (Ne.symm ne)).trans q, ne, nea, nia⟩, fun b hb => ?_⟩
    · rw [show ((i + 1 : Nat) : Int) = (i : Int) + 1 by omega]
      exact en2
    · have below : b < s.heap.objs.size := by
        rcases (show b = e ∨ b = it by simpa using hb) with z | z
        · rw [z]; exact el
        · rw [z]; exact il
      rw [upd_ne (Nat.ne_of_lt below)]
      exact (hf b hb).1
  done := by
    intro X hP hw hK hc i pins s σ H E I hf stt hg
    subst hP hw hK
    obtain ⟨⟨was, en⟩, itr, ne, nea, nia⟩ := stt
    obtain ⟨xs, sq, hx⟩ := hg
    obtain ⟨its, rv, isT, _⟩ := I.tuple sq
    have isT : s.heap.IsTuple a its.toArray := isT
    obtain ⟨f0, f1, f2, f3, f4, f5⟩ := hf it (by simp)
    have ll := rv.length
    have gone : its.toArray[i]? = none := by
      rw [Array.getElem?_eq_none_iff]
      simp only [List.size_toArray]
      omega
    exact wpAny_pyNext_enum_endD (fly_gone (show (X.A.in1).handled = none from I.ok.hd hc) gone) en ⟨itr, isT⟩ fun h' eb => ⟨rfl, I.turned (t' := s.toks) (fun b o hb q => eb b o hb q) f0 f1 f3 f4 f5⟩
  self := fun A i s Q E stt h => let ⟨⟨_, en⟩, _⟩ := stt; wpAny_pyIter_enum en h
def iEnumA (K : PySem.W.Frag) (ta : TA) : TI := fun σ H R => ta σ H fun vs H1 => ∃ a, vs = [.ref a] ∧ ((∃ xs, SqL K H1 a xs ∧ R (Ite K a) H1) ∨ (∃ xs, SqT K H1 a xs ∧ R (IteT K a) H1))
theorem pi_enumA {X : Cx} {e : Expr} {ta : TA} {p pos tpos : Pos} {elts : List Expr} {kk : Nat} (hg : Gl X "enumerate") (hm : X.mg "enumerate" = none) (ha : PA X [e] ta) (hs : starEach [e] X.env = [(false, eval e X.env)]) :
    PI X (.Tuple elts kk tpos) (.Call (.Name "enumerate" p) [e] [] pos) (iEnumA X.K ta) := by
  refine ⟨fun pins s σ H R I h => ?_⟩
  refine Call_ (ld_blt I hg hm boot_enumerate (PyProof.Rows.callWith_type1 (thn (ha.run pos pins s σ H _ I h) fun us s1 ⟨vs, H1, I1, r1, q1⟩ => ?_) hs rfl))
  obtain ⟨a, ex, q1⟩ := q1
  subst ex
  cases r1 with
  | cons r rr =>
    cases rr
    cases r
    have new2 : ∀ b, b ∈ [s1.heap.objs.size + 1, s1.heap.objs.size] → FpOk X pins H1 b := fun b hb => by
      have hle : s1.heap.objs.size ≤ b := by
        rcases (show b = s1.heap.objs.size + 1 ∨ b = s1.heap.objs.size by simpa using hb) with z | z
        · rw [z]; exact Nat.le_add_right _ _
        · rw [z]; exact Nat.le_refl _
      exact I1.fpOk hle (I1.hok.fresh hle)
    rcases q1 with ⟨xs, sq, q⟩ | ⟨xs, sq, q⟩
    · obtain ⟨its, rv, isL, _⟩ := I1.list sq
      refine call_enumerate_list isL.isList fun h' en itr hsz hk => wpAny_pyIter_enum en ?_
      have I2 : Inv X pins σ H1 { s1 with heap := h' } := I1.kept (t' := s1.toks) hk
      exact ⟨s1.heap.objs.size + 1, [s1.heap.objs.size + 1, s1.heap.objs.size], _, _, H1, rfl, I2, turn_enum a (s1.heap.objs.size + 1) s1.heap.objs.size, ⟨⟨.none, en⟩, itr, Nat.succ_ne_self _⟩, new2, q⟩
    · obtain ⟨its, rv, isT, _⟩ := I1.tuple sq
      have isT : s1.heap.IsTuple a its.toArray := isT
      have la : a < s1.heap.objs.size := by obtain ⟨ob, ho, _⟩ := id isT; exact Heap.lt_size ho
      refine fly_enum_call isT fun h' en itr hsz hk => wpAny_pyIter_enum en ?_
      have I2 : Inv X pins σ H1 { s1 with heap := h' } := I1.kept (t' := s1.toks) hk
      exact ⟨s1.heap.objs.size + 1, [s1.heap.objs.size + 1, s1.heap.objs.size], _, _, H1, rfl, I2, turn_enumT a (s1.heap.objs.size + 1) s1.heap.objs.size, ⟨⟨.none, en⟩, itr, Nat.succ_ne_self _, Nat.ne_of_gt (Nat.lt_succ_of_lt la), Nat.ne_of_gt la⟩, new2, q⟩
end Fly
end

section
set_option Elab.async false
set_option linter.all false
set_option maxRecDepth 100000
set_option maxHeartbeats 4000000
/-! The state of the small language and the abstract heap (FlySim). -/
namespace Fly
open PySem L2

/-- how an exception's class and fields are found -/
structure XT where
  cls : Nat → Value
  fld : Nat → List Str
  w : World

section
variable (K : PySem.W.Frag) (G : Nat → V) (fr Fo : AP) (H : Hp)
/-- one name -/
def SlOk (i : Nat) (o : Option (Option V)) : Sl → Prop
  | .un => True
  | .lk => o = some (some (G i)) 
  | .fz p d => ∃ v, o = some (some v) ∧ Rep K fr H v d ∧ (p = true → v = G i)
  | .ow p d => ∃ a, o = some (some (.ref a)) ∧ RepO K fr H a d ∧ ¬ fr a ∧ ¬ Fo a ∧ (p = true → V.ref a = G i)
structure Sim (σv : St) (σd : List Sl) : Prop where
  len : σd.length = σv.length
  slot : ∀ (i : Nat) (s : Sl), σd[i]? = some s → SlOk K G fr Fo H i σv[i]? s
  sep : ∀ (i j : Nat) (p q : Bool) (d e : D) (a : Addr), σd[i]? = some (.ow p d) → σd[j]? = some (.ow q e) → σv[i]? = some (some (.ref a)) → σv[j]? = some (some (.ref a)) → i = j
  frs : ∀ a, fr a → H a ≠ none
  fos : ∀ a, Fo a → H a ≠ none ∧ ¬ fr a ∧ NT (H a)
end
structure Aft (fr Fo : AP) (H : Hp) (fr' : AP) (H' : Hp) : Prop where
  keep : ∀ a, fr a → fr' a ∧ H' a = H a
  out : ∀ a, Fo a → ¬ fr' a ∧ H' a = H a

/-- the ow names stand apart from a -/
def Apart (σv : St) (σd : List Sl) (a : Addr) : Prop := ∀ (j : Nat) (p : Bool) (e : D), σd[j]? = some (.ow p e) → σv[j]? ≠ some (some (.ref a))
inductive TR (K : PySem.W.Frag) (fr : AP) (H : Hp) (σv : St) (σd : List Sl) (Fo : AP) : V → Tok → Prop
  | tv {v d} : Rep K fr H v d → TR K fr H σv σd Fo v (.tv d)
  | tf {a d} : RepO K fr H a d → ¬ fr a → ¬ Fo a → Apart σv σd a → TR K fr H σv σd Fo (.ref a) (.tf d)
  | br {i : Nat} {v : V} : σv[i]? = some (some v) → TR K fr H σv σd Fo v (.br i)
def addF (Fo : AP) (v : V) (t : Tok) : AP := fun x => Fo x ∨ ((∃ d, t = .tf d) ∧ v = .ref x)
def TRs (K : PySem.W.Frag) (fr : AP) (H : Hp) (σv : St) (σd : List Sl) : AP → List V → List Tok → Prop
  | _, [], [] => True
  | Fo, v :: vs, t :: ts => TR K fr H σv σd Fo v t ∧ TRs K fr H σv σd (addF Fo v t) vs ts
  | _, _, _ => False

section
variable {K : PySem.W.Frag} {G : Nat → V} {fr fr' fr'' Fo Fo' : AP} {H H' H'' : Hp} {σv : St} {σd σd' : List Sl}
theorem Aft.refl (S : Sim K G fr Fo H σv σd) : Aft fr Fo H fr H := ⟨fun a f => ⟨f, rfl⟩, fun a f => ⟨(S.fos a f).2.1, rfl⟩⟩
theorem Aft.trans (a : Aft fr Fo H fr' H') (b : Aft fr' Fo H' fr'' H'') : Aft fr Fo H fr'' H'' :=
  ⟨fun x f => ⟨(b.keep x (a.keep x f).1).1, ((b.keep x (a.keep x f).1).2).trans (a.keep x f).2⟩, fun x f => ⟨(b.out x f).1, (b.out x f).2.trans (a.out x f).2⟩⟩
theorem Aft.less (a : Aft fr Fo' H fr' H') (h : ∀ x, Fo x → Fo' x) : Aft fr Fo H fr' H' := ⟨a.keep, fun x f => a.out x (h x f)⟩
theorem Sim.less (S : Sim K G fr Fo' H σv σd) (h : ∀ x, Fo x → Fo' x) : Sim K G fr Fo H σv σd := by
  refine ⟨S.len, fun i s e => ?_, S.sep, S.frs, fun a f => S.fos a (h a f)⟩
  have q := S.slot i s e
  cases s with
  | un => exact q
  | lk => exact q
  | fz p d => exact q
  | ow p d => obtain ⟨a, h1, h2, h3, h4, h5⟩ := q; exact ⟨a, h1, h2, h3, fun z => h4 (h a z), h5⟩
/-- one more thing that is not to be touched -/
theorem Sim.more {a : Addr} (S : Sim K G fr Fo H σv σd) (ha : H a ≠ none) (hf : ¬ fr a) (hd : Apart σv σd a) (ht : NT (H a)) : Sim K G fr (fun x => Fo x ∨ x = a) H σv σd := by
  refine ⟨S.len, fun i s e => ?_, S.sep, S.frs, fun x f => ?_⟩
  · have q := S.slot i s e
    cases s with
    | un => exact q
    | lk => exact q
    | fz p d => exact q
    | ow p d =>
      obtain ⟨b, h1, h2, h3, h4, h5⟩ := q
      refine ⟨b, h1, h2, h3, fun z => ?_, h5⟩
      rcases z with z | z
      · exact h4 z
      · subst z; exact hd i p d e h1
  · rcases f with f | f
    · exact S.fos x f
    · subst f; exact ⟨ha, hf, ht⟩
theorem Sim.addF {v : V} {t : Tok} (S : Sim K G fr Fo H σv σd) (r : TR K fr H σv σd Fo v t) : Sim K G fr (addF Fo v t) H σv σd := by
  cases r with
  | tv h => exact S.less fun x f => f.elim id fun ⟨⟨d, e⟩, _⟩ => nomatch e
  | br h => exact S.less fun x f => f.elim id fun ⟨⟨d, e⟩, _⟩ => nomatch e
  | tf h h1 h2 h3 =>
    refine (S.more h.some h1 h3 h.nt).less fun x f => ?_
    rcases f with f | ⟨_, e⟩
    · exact .inl f
    · exact .inr (V.ref.inj e).symm
theorem addF_sub {v : V} {t : Tok} : ∀ x, Fo x → addF Fo v t x := fun x f => .inl f
/-- a token stays, while its thing is not to be touched -/
theorem TR.keep {v : V} {t : Tok} (r : TR K fr H σv σd Fo v t) (a : Aft fr (addF Fo v t) H fr' H') (S' : Sim K G fr' (addF Fo v t) H' σv σd') : TR K fr' H' σv σd' Fo v t := by
  cases r with
  | tv h => exact .tv (h.keep a.keep)
  | br h => exact .br h
  | @tf x d h h1 h2 h3 =>
    have hx : addF Fo (V.ref x) (.tf d) x := .inr ⟨⟨_, rfl⟩, rfl⟩
    refine .tf (h.keep a.keep (a.out x hx).2) (a.out x hx).1 h2 fun j p e ej ev => ?_
    obtain ⟨b, g1, g2, g3, g4, g5⟩ := S'.slot j _ ej
    rw [ev] at g1
    cases g1
    exact g4 hx
/-- names come on: the heap has grown by p -/
theorem Sim.grow {p : Addr} {o : HO} (S : Sim K G fr Fo H σv σd) (hp : H p = none) (hfr : ∀ a, fr a → fr' a) (hfr' : ∀ a, fr' a → fr a ∨ a = p) : Sim K G fr' Fo (upd H p o) σv σd := by
  have ne : ∀ a, fr a → a ≠ p := fun a f e => S.frs a f (e ▸ hp)
  have k : ∀ a, fr a → fr' a ∧ upd H p o a = H a := fun a f => ⟨hfr a f, upd_ne (ne a f)⟩
  refine ⟨S.len, fun i s e => ?_, S.sep, fun a f => ?_, fun a f => ?_⟩
  · have q := S.slot i s e
    cases s with
    | un => exact q
    | lk => exact q
    | fz b d => obtain ⟨v, h1, h2, h3⟩ := q; exact ⟨v, h1, h2.keep k, h3⟩
    | ow b d =>
      obtain ⟨a, h1, h2, h3, h4, h5⟩ := q
      have na : a ≠ p := fun z => h2.some (z ▸ hp)
      exact ⟨a, h1, h2.keep k (upd_ne na), fun z => (hfr' a z).elim h3 na, h4, h5⟩
  · rcases hfr' a f with f | f
    · rw [upd_ne (ne a f)]; exact S.frs a f
    · subst f; rw [upd_same]; simp
  · have na : a ≠ p := fun z => (S.fos a f).1 (z ▸ hp)
    exact ⟨by rw [upd_ne na]; exact (S.fos a f).1, fun z => (hfr' a z).elim (S.fos a f).2.1 na, by rw [upd_ne na]; exact (S.fos a f).2.2⟩
theorem Aft.grow {p : Addr} {o : HO} (S : Sim K G fr Fo H σv σd) (hp : H p = none) (hfr : ∀ a, fr a → fr' a) (hfr' : ∀ a, fr' a → fr a ∨ a = p) : Aft fr Fo H fr' (upd H p o) :=
  ⟨fun a f => ⟨hfr a f, upd_ne fun e => S.frs a f (e ▸ hp)⟩, fun a f => ⟨fun z => (hfr' a z).elim (S.fos a f).2.1 fun e => (S.fos a f).1 (e ▸ hp), upd_ne fun e => (S.fos a f).1 (e ▸ hp)⟩⟩
theorem Sim.apart_new {p : Addr} (S : Sim K G fr Fo H σv σd) (hp : H p = none) : Apart σv σd p := fun j b e ej ev => by
  obtain ⟨a, g1, g2, _⟩ := S.slot j _ ej
  rw [ev] at g1
  cases g1
  exact g2.some hp
end

/-- data that may be read: shared, or one's own -/
inductive Rep0 (K : PySem.W.Frag) (fr : AP) (H : Hp) : V → D → Prop
  | sh {v d} : Rep K fr H v d → Rep0 K fr H v d
  | ow {a d} : RepO K fr H a d → Rep0 K fr H (.ref a) d
inductive Rep0s (K : PySem.W.Frag) (fr : AP) (H : Hp) : List V → List D → Prop
  | nil : Rep0s K fr H [] []
  | cons {v vs d ds} : Rep0 K fr H v d → Rep0s K fr H vs ds → Rep0s K fr H (v :: vs) (d :: ds)
section
variable {K : PySem.W.Frag} {G : Nat → V} {fr fr' Fo : AP} {H H' : Hp} {σv : St} {σd : List Sl}
theorem TR.look {v : V} {t : Tok} {d : D} (S : Sim K G fr Fo H σv σd) (r : TR K fr H σv σd Fo v t) (e : look σd t = some d) : Rep0 K fr H v d := by
  cases r with
  | tv h => cases e; exact .sh h
  | tf h _ _ _ => cases e; exact .ow h
  | @br i v h =>
    simp only [Fly.look] at e
    split at e
    · rename_i q
      cases e
      obtain ⟨u, h1, h2, _⟩ := S.slot i _ q
      rw [h] at h1; cases h1
      exact .sh h2
    · rename_i q
      cases e
      obtain ⟨u, h1, h2, _⟩ := S.slot i _ q
      rw [h] at h1; cases h1
      exact .ow h2
    · cases e
theorem TRs.looks : ∀ {Fo' : AP} {vs : List V} {ts : List Tok} {ds : List D}, (∀ x, Fo x → Fo' x) → Sim K G fr Fo' H σv σd → TRs K fr H σv σd Fo' vs ts → looks σd ts = some ds → Rep0s K fr H vs ds
  | _, [], [], ds, _, S, _, e => by simp [Fly.looks] at e; subst e; exact .nil
  | Fo', v :: vs, t :: ts, ds, hs, S, r, e => by
    unfold Fly.looks at e
    split at e
    · rename_i d ds' e1 e2
      cases e
      exact .cons (r.1.look S e1) (TRs.looks (fun x f => .inl (hs x f)) (S.addF r.1) r.2 e2)
    · cases e
  | _, [], _ :: _, _, _, _, r, _ => r.elim
  | _, _ :: _, [], _, _, _, r, _ => r.elim
end

/-- an exception -/
def ExR (T : XT) (K : PySem.W.Frag) (fr : AP) (H : Hp) (cls : Value) (dx : Option Addr) (c : Nat) (fs : List D) : Prop :=
  cls = T.cls c ∧ ((fs = [] ∧ dx = none) ∨ ∃ x vs, dx = some x ∧ H x = some (.xd ((T.fld c).zip vs)) ∧ (T.fld c).length = vs.length ∧ Reps K fr H vs fs)

section
variable (T : XT) (K : PySem.W.Frag) (W : WX) (G : Nat → V) (fr Fo : AP) (H : Hp)
/-- what is wanted behind a run -/
def RPost (σv : St) (r : R) (Q : List V → Hp → Prop) : Prop :=
  match r with
  | .ok ts σd => ∀ vs fr' H', Aft fr Fo H fr' H' → Sim K G fr' Fo H' σv σd → TRs K fr' H' σv σd Fo vs ts → Q vs H'
  | .ex c fs σd => ∀ cls dx fr' H', Aft fr Fo H fr' H' → Sim K G fr' Fo H' σv σd → ExR T K fr' H' cls dx c fs → W cls dx σv H'
  | .bad => False
def BPost (σv : St) (r : RB) (Q : Bool → Hp → Prop) : Prop :=
  match r with
  | .ok b σd => ∀ fr' H', Aft fr Fo H fr' H' → Sim K G fr' Fo H' σv σd → Q b H'
  | .ex c fs σd => ∀ cls dx fr' H', Aft fr Fo H fr' H' → Sim K G fr' Fo H' σv σd → ExR T K fr' H' cls dx c fs → W cls dx σv H'
  | .bad => False
/-- a value that is told -/
inductive RV (fr : AP) (H : Hp) (σv : St) (σd : List Sl) : V → D → Bool → Prop
  | sh {v d} : Rep K fr H v d → RV fr H σv σd v d false
  | ow {a d} : RepO K fr H a d → ¬ fr a → ¬ Fo a → Apart σv σd a → RV fr H σv σd (.ref a) d true
def FPost (r : Fw) (D : Ends) : Prop :=
  match r with
  | .nx σd => ∀ σv fr' H', Aft fr Fo H fr' H' → Sim K G fr' Fo H' σv σd → D.nx σv H'
  | .rt d o σd => ∀ σv v fr' H', Aft fr Fo H fr' H' → Sim K G fr' Fo H' σv σd → RV K Fo fr' H' σv σd v d o → D.rt v H'
  | .bk σd => ∀ σv fr' H', Aft fr Fo H fr' H' → Sim K G fr' Fo H' σv σd → D.bk σv H'
  | .ct σd => ∀ σv fr' H', Aft fr Fo H fr' H' → Sim K G fr' Fo H' σv σd → D.ct σv H'
  | .ex c fs σd => ∀ σv cls dx fr' H', Aft fr Fo H fr' H' → Sim K G fr' Fo H' σv σd → ExR T K fr' H' cls dx c fs → W cls dx σv H'
  | .bad => False
end
section
variable {T : XT} {K : PySem.W.Frag} {W : WX} {G : Nat → V} {fr fr' Fo : AP} {H H' : Hp} {σv : St}
theorem RPost.from {r : R} {Q : List V → Hp → Prop} (h : RPost T K W G fr Fo H σv r Q) (a : Aft fr Fo H fr' H') : RPost T K W G fr' Fo H' σv r Q := by
  cases r with
  | ok ts σd => exact fun vs f2 H2 a2 => h vs f2 H2 (a.trans a2)
  | ex c fs σd => exact fun cls dx f2 H2 a2 => h cls dx f2 H2 (a.trans a2)
  | bad => exact h
theorem BPost.from {r : RB} {Q : Bool → Hp → Prop} (h : BPost T K W G fr Fo H σv r Q) (a : Aft fr Fo H fr' H') : BPost T K W G fr' Fo H' σv r Q := by
  cases r with
  | ok ts σd => exact fun f2 H2 a2 => h f2 H2 (a.trans a2)
  | ex c fs σd => exact fun cls dx f2 H2 a2 => h cls dx f2 H2 (a.trans a2)
  | bad => exact h
theorem FPost.from {r : Fw} {D : Ends} (h : FPost T K W G fr Fo H r D) (a : Aft fr Fo H fr' H') : FPost T K W G fr' Fo H' r D := by
  cases r with
  | nx σd => exact fun σv f2 H2 a2 => h σv f2 H2 (a.trans a2)
  | rt d o σd => exact fun σv v f2 H2 a2 => h σv v f2 H2 (a.trans a2)
  | bk σd => exact fun σv f2 H2 a2 => h σv f2 H2 (a.trans a2)
  | ct σd => exact fun σv f2 H2 a2 => h σv f2 H2 (a.trans a2)
  | ex c fs σd => exact fun σv cls dx f2 H2 a2 => h σv cls dx f2 H2 (a.trans a2)
  | bad => exact h
end

/-! ### the judgements: an expression's reading is as the run tells -/
section
variable (T : XT) (K : PySem.W.Frag) (W : WX) (cf : Nat → List Sl → CR)
def GE (m : E) (t : TE) : Prop := ∀ G fr Fo H σv σd Q, Sim K G fr Fo H σv σd → RPost T K W G fr Fo H σv (ev cf m σd) (fun vs H' => ∀ v, vs = [v] → Q v H') → t σv H Q
def GA (m : E) (t : TA) : Prop := ∀ G fr Fo H σv σd Q, Sim K G fr Fo H σv σd → RPost T K W G fr Fo H σv (ev cf m σd) Q → t σv H Q
def GB (m : E) (t : TT) : Prop := ∀ G fr Fo H σv σd Q, Sim K G fr Fo H σv σd → BPost T K W G fr Fo H σv (asB (ev cf m σd)) Q → t σv H Q
def GS (m : S) (t : TS) : Prop := ∀ G fr Fo H σv σd D, Sim K G fr Fo H σv σd → FPost T K W G fr Fo H (exec cf m σd) D → t D σv H
end
end Fly
end

section
set_option Elab.async false
set_option linter.all false
set_option maxRecDepth 100000
set_option maxHeartbeats 4000000
/-! Expressions: names, displays, operations, tests (FlyEx). -/
namespace Fly
open PySem L2
section
variable {T : XT} {K : PySem.W.Frag} {W : WX} {cf : Nat → List Sl → CR} {G : Nat → V} {fr fr' Fo Fo' : AP} {H H' : Hp} {σv : St} {σd σd' : List Sl}

theorem getElem?_set' {α : Type} {l : List α} {i j : Nat} {x y : α} (h : (l.set i x)[j]? = some y) : (j = i ∧ y = x) ∨ (j ≠ i ∧ l[j]? = some y) := by
  by_cases e : i = j
  · subst e
    rw [List.getElem?_set_self'] at h
    cases q : l[i]? with
    | none => rw [q] at h; cases h
    | some z => rw [q] at h; cases h; exact .inl ⟨rfl, rfl⟩
  · rw [List.getElem?_set_ne e] at h
    exact .inr ⟨fun z => e z.symm, h⟩
/-- a name that is forgotten -/
theorem Sim.drop {i : Nat} (S : Sim K G fr Fo H σv σd) : Sim K G fr Fo H σv (σd.set i .un) := by
  refine ⟨by rw [List.length_set]; exact S.len, fun j s e => ?_, fun j k p q d e a h1 h2 h3 h4 => ?_, S.frs, S.fos⟩
  · rcases getElem?_set' e with ⟨_, rfl⟩ | ⟨_, e⟩
    · exact True.intro
    · exact S.slot j s e
  · rcases getElem?_set' h1 with ⟨_, z⟩ | ⟨_, h1⟩
    · cases z
    · rcases getElem?_set' h2 with ⟨_, z⟩ | ⟨_, h2⟩
      · cases z
      · exact S.sep j k p q d e a h1 h2 h3 h4
/-- a thing that stands apart is shared from now on -/
theorem Sim.share {a : Addr} (S : Sim K G fr Fo H σv σd) (ha : H a ≠ none) (hF : ¬ Fo a) (hd : Apart σv σd a) : Sim K G (fun x => fr x ∨ x = a) Fo H σv σd := by
  have k : ∀ x, fr x → (fr x ∨ x = a) ∧ H x = H x := fun x f => ⟨.inl f, rfl⟩
  refine ⟨S.len, fun i s e => ?_, S.sep, fun x f => f.elim (S.frs x) fun z => z ▸ ha, fun x f => ⟨(S.fos x f).1, fun z => z.elim (S.fos x f).2.1 fun z => hF (z ▸ f), (S.fos x f).2.2⟩⟩
  have q := S.slot i s e
  cases s with
  | un => exact q
  | lk => exact q
  | fz b d => obtain ⟨v, h1, h2, h3⟩ := q; exact ⟨v, h1, h2.keep k, h3⟩
  | ow b d =>
    obtain ⟨x, h1, h2, h3, h4, h5⟩ := q
    exact ⟨x, h1, h2.keep k rfl, fun z => z.elim h3 fun z => hd i b d e (z ▸ h1), h4, h5⟩
theorem Aft.share {a : Addr} (S : Sim K G fr Fo H σv σd) (hF : ¬ Fo a) : Aft fr Fo H (fun x => fr x ∨ x = a) H :=
  ⟨fun x f => ⟨.inl f, rfl⟩, fun x f => ⟨fun z => z.elim (S.fos x f).2.1 fun z => hF (z ▸ f), rfl⟩⟩
/-- a name's own thing leaves the name -/
theorem Sim.leave {i : Nat} {p : Bool} {d : D} {a : Addr} (S : Sim K G fr Fo H σv σd) (e : σd[i]? = some (.ow p d)) (ev : σv[i]? = some (some (.ref a))) : Apart σv (σd.set i .un) a := fun j q x ej evj => by
  rcases getElem?_set' ej with ⟨_, z⟩ | ⟨n, ej⟩
  · cases z
  · exact n (S.sep j i q p x d a ej e evj ev)
theorem Sim.setFz {i : Nat} {p : Bool} {d : D} {v : V} (S : Sim K G fr Fo H σv (σd.set i .un)) (e : σv[i]? = some (some v)) (r : Rep K fr H v d) (hp : p = true → v = G i) : Sim K G fr Fo H σv (σd.set i (.fz p d)) := by
  have hl := S.len
  rw [List.length_set] at hl
  refine ⟨by rw [List.length_set]; exact hl, fun j s ej => ?_, fun j k q1 q2 d1 d2 a h1 h2 h3 h4 => ?_, S.frs, S.fos⟩
  · rcases getElem?_set' ej with ⟨z, rfl⟩ | ⟨n, ej⟩
    · subst z; exact ⟨v, e, r, hp⟩
    · exact S.slot j s (by rw [List.getElem?_set_ne (Ne.symm n)]; exact ej)
  · rcases getElem?_set' h1 with ⟨_, z⟩ | ⟨n1, h1⟩
    · cases z
    · rcases getElem?_set' h2 with ⟨_, z⟩ | ⟨n2, h2⟩
      · cases z
      · exact S.sep j k q1 q2 d1 d2 a (by rw [List.getElem?_set_ne (Ne.symm n1)]; exact h1) (by rw [List.getElem?_set_ne (Ne.symm n2)]; exact h2) h3 h4
theorem Sim.setOw {i : Nat} {p : Bool} {d : D} {a : Addr} (S : Sim K G fr Fo H σv (σd.set i .un)) (e : σv[i]? = some (some (.ref a))) (r : RepO K fr H a d) (h1 : ¬ fr a) (h2 : ¬ Fo a) (h3 : Apart σv (σd.set i .un) a) (hp : p = true → V.ref a = G i) : Sim K G fr Fo H σv (σd.set i (.ow p d)) := by
  have hl := S.len
  rw [List.length_set] at hl
  refine ⟨by rw [List.length_set]; exact hl, fun j s ej => ?_, fun j k q1 q2 d1 d2 b g1 g2 g3 g4 => ?_, S.frs, S.fos⟩
  · rcases getElem?_set' ej with ⟨z, rfl⟩ | ⟨n, ej⟩
    · subst z; exact ⟨a, e, r, h1, h2, hp⟩
    · exact S.slot j s (by rw [List.getElem?_set_ne (Ne.symm n)]; exact ej)
  · rcases getElem?_set' g1 with ⟨z1, w1⟩ | ⟨n1, k1⟩
    · rcases getElem?_set' g2 with ⟨z2, w2⟩ | ⟨n2, k2⟩
      · rw [z1, z2]
      · rw [z1, e] at g3; cases g3
        exact absurd g4 (h3 k q2 d2 (by rw [List.getElem?_set_ne (Ne.symm n2)]; exact k2))
    · rcases getElem?_set' g2 with ⟨z2, w2⟩ | ⟨n2, k2⟩
      · rw [z2, e] at g4; cases g4
        exact absurd g3 (h3 j q1 d1 (by rw [List.getElem?_set_ne (Ne.symm n1)]; exact k1))
      · exact S.sep j k q1 q2 d1 d2 b (by rw [List.getElem?_set_ne (Ne.symm n1)]; exact k1) (by rw [List.getElem?_set_ne (Ne.symm n2)]; exact k2) g3 g4

/-! ### names and constants -/
theorem ge_c {v : V} {d : D} (h : ∀ fr H, Rep K fr H v d) : GE T K W cf (.c d) (tC v) := fun G fr Fo H σv σd Q S hq =>
  hq [v] fr H (.refl S) S ⟨.tv (h fr H), True.intro⟩ v rfl
theorem ge_gl {x : List Nat} {v : V} {d : D} (h : ∀ fr H, Rep K fr H v d) : GE T K W cf (.gl x d) (tC v) := fun G fr Fo H σv σd Q S hq =>
  hq [v] fr H (.refl S) S ⟨.tv (h fr H), True.intro⟩ v rfl
theorem ge_v {i : Nat} : GE T K W cf (.v i) (tVar i) := fun G fr Fo H σv σd Q S hq => by
  simp only [ev] at hq
  split at hq
  · rename_i q
    obtain ⟨v, h1, h2, _⟩ := S.slot i _ q
    exact ⟨v, h1, hq [v] fr H (.refl S) S ⟨.tv h2, True.intro⟩ v rfl⟩
  · rename_i q
    obtain ⟨a, h1, _⟩ := S.slot i _ q
    exact ⟨_, h1, hq [_] fr H (.refl S) S ⟨.br h1, True.intro⟩ _ rfl⟩
  · exact hq.elim
theorem ge_fz {i : Nat} : GE T K W cf (.fz i) (tVar i) := fun G fr Fo H σv σd Q S hq => by
  simp only [ev] at hq
  split at hq
  · rename_i q
    obtain ⟨v, h1, h2, _⟩ := S.slot i _ q
    exact ⟨v, h1, hq [v] fr H (.refl S) S ⟨.tv h2, True.intro⟩ v rfl⟩
  · rename_i p d q
    obtain ⟨a, h1, h2, h3, h4, h5⟩ := S.slot i _ q
    have ap := S.leave q h1
    have S2 := (S.drop (i := i)).share h2.some h4 ap
    exact ⟨_, h1, hq [_] _ H (.share S h4) (S2.setFz h1 h2.rep h5) ⟨.tv h2.rep, True.intro⟩ _ rfl⟩
  · exact hq.elim
theorem ge_mv {i : Nat} : GE T K W cf (.mv i) (tVar i) := fun G fr Fo H σv σd Q S hq => by
  simp only [ev] at hq
  split at hq
  · rename_i q
    obtain ⟨v, h1, h2, _⟩ := S.slot i _ q
    exact ⟨v, h1, hq [v] fr H (.refl S) S ⟨.tv h2, True.intro⟩ v rfl⟩
  · rename_i d q
    obtain ⟨a, h1, h2, h3, h4, h5⟩ := S.slot i _ q
    exact ⟨_, h1, hq [_] fr H (.refl S) S.drop ⟨.tf h2 h3 h4 (S.leave q h1), True.intro⟩ _ rfl⟩
  · exact hq.elim

/-! ### lists of arguments -/
theorem TRs.one {vs : List V} {t : Tok} (h : TRs K fr H σv σd Fo vs [t]) : ∃ v, vs = [v] ∧ TR K fr H σv σd Fo v t := by
  match vs, h with
  | [v], h => exact ⟨v, rfl, h.1⟩
  | [], h => exact h.elim
  | _ :: _ :: _, h => exact h.2.elim
theorem TRs.one' {v : V} {ts : List Tok} (h : TRs K fr H σv σd Fo [v] ts) : ∃ t, ts = [t] ∧ TR K fr H σv σd Fo v t := by
  match ts, h with
  | [t], h => exact ⟨t, rfl, h.1⟩
  | [], h => exact h.elim
  | _ :: _ :: _, h => exact h.2.elim
theorem ga_nil : GA T K W cf .nil tNil := fun G fr Fo H σv σd Q S hq => hq [] fr H (.refl S) S True.intro
theorem ga_cons {m m' : E} {ta : TE} {tr : TA} (ha : GE T K W cf m ta) (hr : GA T K W cf m' tr) : GA T K W cf (.cons m m') (tCons ta tr) := fun G fr Fo H σv σd Q S hq => by
  refine ha G fr Fo H σv σd _ S ?_
  simp only [ev, R.andThen] at hq
  cases e : ev cf m σd with
  | bad => rw [e] at hq; exact hq
  | ex c fs σ1 => rw [e] at hq; exact hq
  | ok ts σ1 =>
    rw [e] at hq
    intro vs fr1 H1 A1 S1 R1 v hv
    subst hv
    obtain ⟨t, rfl, r1⟩ := R1.one'
    refine hr G fr1 (addF Fo v t) H1 σv σ1 _ (S1.addF r1) ?_
    simp only at hq
    cases e2 : ev cf m' σ1 with
    | bad => rw [e2] at hq; exact hq
    | ex c fs σ2 =>
      rw [e2] at hq
      exact fun cls dx fr2 H2 A2 S2 => hq cls dx fr2 H2 (A1.trans (A2.less addF_sub)) (S2.less addF_sub)
    | ok us σ2 =>
      rw [e2] at hq
      exact fun ws fr2 H2 A2 S2 R2 => hq (v :: ws) fr2 H2 (A1.trans (A2.less addF_sub)) (S2.less addF_sub) ⟨r1.keep A2 S2, R2⟩

/-! ### operations -/
def OPost (K : PySem.W.Frag) (fr : AP) (H : Hp) (b : Bool) (d : D) (Q : VK) : Prop :=
  (b = false → ∀ v, Rep K fr H v d → Q v H) ∧
  ∀ p o, H p = none → (b = false → ∀ v, Rep K (fun x => fr x ∨ x = p) (upd H p o) v d → Q v (upd H p o)) ∧ (b = true → RepO K fr (upd H p o) p d → Q (.ref p) (upd H p o))
def OpOk (K : PySem.W.Frag) (o : Op) (r : List V → Hp → VK → Prop) : Prop :=
  ∀ fr H vs ds b d Q, (∀ a, fr a → H a ≠ none) → Rep0s K fr H vs ds → opf o ds = some (b, d) → OPost K fr H b d Q → r vs H Q
theorem ge_op {o : Op} {es : E} {r : List V → Hp → VK → Prop} {t : TA} (ho : OpOk K o r) (h : GA T K W cf es t) : GE T K W cf (.op o es) (tCB r t) := fun G fr Fo H σv σd Q S hq => by
  refine h G fr Fo H σv σd _ S ?_
  simp only [ev, R.andThen] at hq
  cases e : ev cf es σd with
  | bad => rw [e] at hq; exact hq
  | ex c fs σ1 => rw [e] at hq; exact hq
  | ok ts σ1 =>
    rw [e] at hq
    intro vs fr1 H1 A1 S1 R1
    simp only at hq
    split at hq
    · rename_i ds el
      have r0 := R1.looks (fun _ f => f) S1 el
      split at hq
      · rename_i d eo
        refine ho fr1 H1 vs ds true d Q S1.frs r0 eo ⟨fun z => (nomatch z), fun p o hp => ⟨fun z => (nomatch z), fun _ ro => ?_⟩⟩
        exact hq [.ref p] fr1 (upd H1 p o) (A1.trans (.grow S1 hp (fun _ f => f) fun _ f => .inl f)) (S1.grow hp (fun _ f => f) fun _ f => .inl f)
          ⟨.tf ro (fun f => S1.frs p f hp) (fun f => (S1.fos p f).1 hp) (S1.apart_new hp), True.intro⟩ _ rfl
      · rename_i d eo
        refine ho fr1 H1 vs ds false d Q S1.frs r0 eo ⟨fun _ v rv => hq [v] fr1 H1 A1 S1 ⟨.tv rv, True.intro⟩ v rfl, fun p o hp => ⟨fun _ v rv => ?_, fun z => nomatch z⟩⟩
        exact hq [v] _ (upd H1 p o) (A1.trans (.grow S1 hp (fun _ f => .inl f) fun _ f => f)) (S1.grow hp (fun _ f => .inl f) fun _ f => f) ⟨.tv rv, True.intro⟩ _ rfl
      · exact hq.elim
    · exact hq.elim

/-! ### displays -/
theorem TRs.less {Fo Fo' : AP} (h : ∀ x, Fo x → Fo' x) : ∀ {vs : List V} {ts : List Tok}, TRs K fr H σv σd Fo' vs ts → TRs K fr H σv σd Fo vs ts := by
  intro vs
  induction vs generalizing Fo Fo' with
  | nil => intro ts r; cases ts <;> exact r
  | cons v vs ih =>
    intro ts r
    cases ts with
    | nil => exact r
    | cons t ts =>
      refine ⟨?_, ih (fun x f => ?_) r.2⟩
      · cases r.1 with
        | tv q => exact .tv q
        | br q => exact .br q
        | tf q h1 h2 h3 => exact .tf q h1 (fun f => h2 (h _ f)) h3
      · rcases f with f | f
        · exact .inl (h x f)
        · exact .inr f
/-- all tokens become shared data -/
theorem TRs.vals : ∀ {vs : List V} {ts : List Tok} {ds : List D} {fr : AP}, Sim K G fr Fo H σv σd → TRs K fr H σv σd Fo vs ts → Fly.vals σd ts = some ds →
    ∃ fr1, Aft fr Fo H fr1 H ∧ Sim K G fr1 Fo H σv σd ∧ Reps K fr1 H vs ds
  | [], [], ds, fr, S, _, e => by simp [Fly.vals] at e; subst e; exact ⟨fr, .refl S, S, .nil⟩
  | v :: vs, t :: ts, ds, fr, S, r, e => by
    unfold Fly.vals at e
    split at e
    · rename_i d ds' e1 e2
      cases e
      obtain ⟨r1, r2⟩ := r
      cases r1 with
      | tv h =>
        cases e1
        obtain ⟨fr1, A1, S1, R1⟩ := TRs.vals S (r2.less addF_sub) e2
        exact ⟨fr1, A1, S1, .cons (h.keep A1.keep) R1⟩
      | @br i v h =>
        simp only [Fly.val] at e1
        split at e1
        · rename_i q
          cases e1
          obtain ⟨u, h1, h2, _⟩ := S.slot i _ q
          rw [h] at h1; cases h1
          obtain ⟨fr1, A1, S1, R1⟩ := TRs.vals S (r2.less addF_sub) e2
          exact ⟨fr1, A1, S1, .cons (h2.keep A1.keep) R1⟩
        · cases e1
      | @tf a d h h1 h2 h3 =>
        cases e1
        have A0 : Aft fr Fo H (fun x => fr x ∨ x = a) H := .share S h2
        have S0 := S.share h.some h2 h3
        have r2' : TRs K (fun x => fr x ∨ x = a) H σv σd Fo vs ts := by
          have go : ∀ {Fo' : AP} {vs : List V} {ts : List Tok}, Fo' a → TRs K fr H σv σd Fo' vs ts → TRs K (fun x => fr x ∨ x = a) H σv σd Fo' vs ts := by
            intro Fo' vs
            induction vs generalizing Fo' with
            | nil => intro ts _ r; cases ts <;> exact r
            | cons v vs ih =>
              intro ts ha r
              cases ts with
              | nil => exact r
              | cons t ts =>
                refine ⟨?_, ih (.inl ha) r.2⟩
                cases r.1 with
                | tv q => exact .tv (q.keep fun x f => ⟨.inl f, rfl⟩)
                | br q => exact .br q
                | tf q g1 g2 g3 => exact .tf (q.keep (fun x f => ⟨.inl f, rfl⟩) rfl) (fun z => z.elim g1 fun z => g2 (z ▸ ha)) g2 g3
          exact (go (.inr ⟨⟨_, rfl⟩, rfl⟩) r2).less addF_sub
        obtain ⟨fr1, A1, S1, R1⟩ := TRs.vals S0 r2' e2
        exact ⟨fr1, A0.trans A1, S1, .cons (h.rep.keep A1.keep) R1⟩
    · cases e
  | [], _ :: _, _, _, _, r, _ => r.elim
  | _ :: _, [], _, _, _, r, _ => r.elim
theorem ge_tup {es : E} {t : TA} (h : GA T K W cf es t) : GE T K W cf (.tup es) (tTup t) := fun G fr Fo H σv σd Q S hq => by
  refine h G fr Fo H σv σd _ S ?_
  simp only [ev, R.andThen] at hq
  cases e : ev cf es σd with
  | bad => rw [e] at hq; exact hq
  | ex c fs σ1 => rw [e] at hq; exact hq
  | ok ts σ1 =>
    rw [e] at hq
    intro vs fr1 H1 A1 S1 R1
    simp only at hq
    split at hq
    · rename_i ds el
      obtain ⟨fr2, A2, S2, R2⟩ := R1.vals S1 el
      split at hq
      · rename_i z
        have zl : vs.length ≤ sizeLine := by rw [R2.length, ← szLine_eq]; exact z
        refine ⟨zl, fun p hp => ?_⟩
        refine hq [.ref p] (fun x => fr2 x ∨ x = p) _ ((A1.trans A2).trans (.grow S2 hp (fun _ f => .inl f) fun _ f => f)) (S2.grow hp (fun _ f => .inl f) fun _ f => f) ⟨.tv (.tup ⟨.inr rfl, upd_same⟩ zl (R2.keep fun a f => ⟨.inl f, upd_ne (fun (e : a = p) => S2.frs a f (e ▸ hp))⟩)), True.intro⟩ _ rfl
      · exact hq.elim
    · exact hq.elim
theorem ge_lst {es : E} {t : TA} (h : GA T K W cf es t) : GE T K W cf (.lst es) (tLst t) := fun G fr Fo H σv σd Q S hq => by
  refine h G fr Fo H σv σd _ S ?_
  simp only [ev, R.andThen] at hq
  cases e : ev cf es σd with
  | bad => rw [e] at hq; exact hq
  | ex c fs σ1 => rw [e] at hq; exact hq
  | ok ts σ1 =>
    rw [e] at hq
    intro vs fr1 H1 A1 S1 R1
    simp only at hq
    split at hq
    · rename_i ds el
      obtain ⟨fr2, A2, S2, R2⟩ := R1.vals S1 el
      split at hq
      · rename_i z
        have zl : vs.length ≤ sizeLine := by rw [R2.length, ← szLine_eq]; exact z
        refine ⟨zl, fun p hp => ?_⟩
        refine hq [.ref p] fr2 _ ((A1.trans A2).trans (.grow S2 hp (fun _ f => f) fun _ f => .inl f)) (S2.grow hp (fun _ f => f) fun _ f => .inl f) ⟨.tf (.lst upd_same zl (R2.keep fun a f => ⟨f, upd_ne (fun (e : a = p) => S2.frs a f (e ▸ hp))⟩)) (fun f => S2.frs p f hp) (fun f => (S2.fos p f).1 hp) (S2.apart_new hp), True.intro⟩ _ rfl
      · exact hq.elim
    · exact hq.elim

/-! ### tests -/
theorem Rep0.bl {v : V} {b : Bool} (h : Rep0 K fr H v (.bl b)) : v = .bl b := by
  cases h with
  | sh h => cases h; rfl
  | ow h => cases h
theorem Rep0.int {v : V} {b : Int} (h : Rep0 K fr H v (.int b)) : v = .int b := by
  cases h with
  | sh h => cases h; rfl
  | ow h => cases h
/-- a value that is a bool -/
theorem gb_of {m : E} {t : TE} (h : GE T K W cf m t) : GB T K W cf m (tB t) := fun G fr Fo H σv σd Q S hq => by
  refine h G fr Fo H σv σd _ S ?_
  unfold asB at hq
  split at hq
  · rename_i t σ1 e
    rw [e]
    split at hq
    · rename_i b el
      intro vs fr1 H1 A1 S1 R1 v hv
      subst hv
      exact ⟨b, (R1.1.look S1 el).bl, hq fr1 H1 A1 S1⟩
    · exact hq.elim
  · exact hq.elim
  · rename_i c fs σ1 e
    rw [e]
    exact hq
  · exact hq.elim
theorem asB_tv (b : Bool) (σ : List Sl) : asB (.ok [.tv (.bl b)] σ) = .ok b σ := rfl
theorem gb_and {a b : E} {ta tb : TT} (ha : GB T K W cf a ta) (hb : GB T K W cf b tb) : GB T K W cf (.and a b) (tAnd ta tb) := fun G fr Fo H σv σd Q S hq => by
  refine ha G fr Fo H σv σd _ S ?_
  simp only [ev, RB.toR] at hq
  cases e : asB (ev cf a σd) with
  | bad => rw [e] at hq; exact hq
  | ex c fs σ1 => rw [e] at hq; exact hq
  | ok x σ1 =>
    rw [e] at hq
    cases x with
    | true =>
      intro fr1 H1 A1 S1
      exact hb G fr1 Fo H1 σv σ1 Q S1 (BPost.from (by simpa using hq) A1)
    | false =>
      intro fr1 H1 A1 S1
      exact (show BPost T K W G fr Fo H σv (.ok false σ1) Q from hq) fr1 H1 A1 S1
theorem gb_or {a b : E} {ta tb : TT} (ha : GB T K W cf a ta) (hb : GB T K W cf b tb) : GB T K W cf (.or a b) (tOr ta tb) := fun G fr Fo H σv σd Q S hq => by
  refine ha G fr Fo H σv σd _ S ?_
  simp only [ev, RB.toR] at hq
  cases e : asB (ev cf a σd) with
  | bad => rw [e] at hq; exact hq
  | ex c fs σ1 => rw [e] at hq; exact hq
  | ok x σ1 =>
    rw [e] at hq
    cases x with
    | false =>
      intro fr1 H1 A1 S1
      exact hb G fr1 Fo H1 σv σ1 Q S1 (BPost.from (by simpa using hq) A1)
    | true =>
      intro fr1 H1 A1 S1
      exact (show BPost T K W G fr Fo H σv (.ok true σ1) Q from hq) fr1 H1 A1 S1
theorem gb_not {a : E} {ta : TT} (ha : GB T K W cf a ta) : GB T K W cf (.not a) (tNot ta) := fun G fr Fo H σv σd Q S hq => by
  refine ha G fr Fo H σv σd _ S ?_
  simp only [ev, RB.toR] at hq
  cases e : asB (ev cf a σd) with
  | bad => rw [e] at hq; exact hq
  | ex c fs σ1 => rw [e] at hq; exact hq
  | ok x σ1 =>
    rw [e] at hq
    intro fr1 H1 A1 S1
    exact (show BPost T K W G fr Fo H σv (.ok (!x) σ1) Q from hq) fr1 H1 A1 S1
theorem ge_and {a b : E} {ta tb : TE} (ha : GE T K W cf a ta) (hb : GE T K W cf b tb) : GE T K W cf (.and a b) (tAndV ta tb) := fun G fr Fo H σv σd Q S hq => by
  refine gb_of ha G fr Fo H σv σd _ S ?_
  simp only [ev, RB.toR] at hq
  cases e : asB (ev cf a σd) with
  | bad => rw [e] at hq; exact hq
  | ex c fs σ1 => rw [e] at hq; exact hq
  | ok x σ1 =>
    rw [e] at hq
    cases x with
    | true =>
      intro fr1 H1 A1 S1
      rw [if_pos rfl]
      exact hb G fr1 Fo H1 σv σ1 Q S1 (RPost.from (by simpa using hq) A1)
    | false =>
      intro fr1 H1 A1 S1
      rw [if_neg (by decide)]
      exact (show RPost T K W G fr Fo H σv (.ok [.tv (.bl false)] σ1) _ from hq) [.bl false] fr1 H1 A1 S1 ⟨.tv (.bl _), True.intro⟩ _ rfl
theorem ge_or {a b : E} {ta tb : TE} (ha : GE T K W cf a ta) (hb : GE T K W cf b tb) : GE T K W cf (.or a b) (tOrV ta tb) := fun G fr Fo H σv σd Q S hq => by
  refine gb_of ha G fr Fo H σv σd _ S ?_
  simp only [ev, RB.toR] at hq
  cases e : asB (ev cf a σd) with
  | bad => rw [e] at hq; exact hq
  | ex c fs σ1 => rw [e] at hq; exact hq
  | ok x σ1 =>
    rw [e] at hq
    cases x with
    | false =>
      intro fr1 H1 A1 S1
      rw [if_neg (by decide)]
      exact hb G fr1 Fo H1 σv σ1 Q S1 (RPost.from (by simpa using hq) A1)
    | true =>
      intro fr1 H1 A1 S1
      rw [if_pos rfl]
      exact (show RPost T K W G fr Fo H σv (.ok [.tv (.bl true)] σ1) _ from hq) [.bl true] fr1 H1 A1 S1 ⟨.tv (.bl _), True.intro⟩ _ rfl
theorem ge_not {a : E} {ta : TE} (ha : GE T K W cf a ta) : GE T K W cf (.not a) (tNotV ta) := fun G fr Fo H σv σd Q S hq => by
  refine gb_of ha G fr Fo H σv σd _ S ?_
  simp only [ev, RB.toR] at hq
  cases e : asB (ev cf a σd) with
  | bad => rw [e] at hq; exact hq
  | ex c fs σ1 => rw [e] at hq; exact hq
  | ok x σ1 =>
    rw [e] at hq
    intro fr1 H1 A1 S1
    exact (show RPost T K W G fr Fo H σv (.ok [.tv (.bl (!x))] σ1) _ from hq) [.bl (!x)] fr1 H1 A1 S1 ⟨.tv (.bl _), True.intro⟩ _ rfl
theorem ge_ite {c a b : E} {tc : TT} {ta tb : TE} (hc : GB T K W cf c tc) (ha : GE T K W cf a ta) (hb : GE T K W cf b tb) : GE T K W cf (.ite c a b) (tIf tc ta tb) := fun G fr Fo H σv σd Q S hq => by
  refine hc G fr Fo H σv σd _ S ?_
  simp only [ev, RB.toR] at hq
  cases e : asB (ev cf c σd) with
  | bad => rw [e] at hq; exact hq
  | ex c fs σ1 => rw [e] at hq; exact hq
  | ok x σ1 =>
    rw [e] at hq
    cases x with
    | true =>
      intro fr1 H1 A1 S1
      rw [if_pos rfl]
      exact ha G fr1 Fo H1 σv σ1 Q S1 (RPost.from (by simpa using hq) A1)
    | false =>
      intro fr1 H1 A1 S1
      rw [if_neg (by decide)]
      exact hb G fr1 Fo H1 σv σ1 Q S1 (RPost.from (by simpa using hq) A1)
end
end Fly
end

section
set_option Elab.async false
set_option linter.all false
set_option maxRecDepth 100000
set_option maxHeartbeats 4000000
/-! Calls of the program's own defs (FlyCall). -/
namespace Fly
open PySem L2

/-- the parameters' places -/
inductive AR (K : PySem.W.Frag) (fr : AP) (H : Hp) : AP → List V → List Sl → Prop
  | nil {Fo : AP} : AR K fr H Fo [] []
  | fz {Fo : AP} {v vs d as} : Rep K fr H v d → AR K fr H Fo vs as → AR K fr H Fo (v :: vs) (.fz false d :: as)
  | ow {Fo : AP} {a vs p d as} : RepO K fr H a d → ¬ fr a → ¬ Fo a → AR K fr H (fun x => Fo x ∨ x = a) vs as → AR K fr H Fo (.ref a :: vs) (.ow p d :: as)
/-- behind a call: what was lent -/
inductive Outs (K : PySem.W.Frag) (fr : AP) (H : Hp) : List V → List Sl → List Sl → Prop
  | nil : Outs K fr H [] [] []
  | fz {v vs d as o os} : Outs K fr H vs as os → Outs K fr H (v :: vs) (.fz false d :: as) (o :: os)
  | new {v vs d as o os} : Outs K fr H vs as os → Outs K fr H (v :: vs) (.ow false d :: as) (o :: os)
  | ow {a vs d as d' os} : RepO K fr H a d' → ¬ fr a → Outs K fr H vs as os → Outs K fr H (.ref a :: vs) (.ow true d :: as) (.ow true d' :: os)
  | sh {v vs d as d' os} : Rep K fr H v d' → Outs K fr H vs as os → Outs K fr H (v :: vs) (.ow true d :: as) (.fz true d' :: os)
def OApart (vs : List V) (outs : List Sl) (a : Addr) : Prop := ∀ (k : Nat) (d : D), outs[k]? = some (.ow true d) → vs[k]? ≠ some (.ref a)
inductive RC (K : PySem.W.Frag) (Fo : AP) (fr : AP) (H : Hp) (vs : List V) (outs : List Sl) : V → D → Bool → Prop
  | sh {v d} : Rep K fr H v d → RC K Fo fr H vs outs v d false
  | ow {a d} : RepO K fr H a d → ¬ fr a → ¬ Fo a → OApart vs outs a → RC K Fo fr H vs outs (.ref a) d true
def CPost (T : XT) (K : PySem.W.Frag) (fr Fo : AP) (H : Hp) (vs : List V) (args : List Sl) (r : CR) (Q : VK) (E : XK) : Prop :=
  match r with
  | .ret d o outs => ∀ v fr' H', Aft fr Fo H fr' H' → (∀ a, fr' a → H' a ≠ none) → (∀ a, Fo a → H' a ≠ none) → Outs K fr' H' vs args outs → RC K Fo fr' H' vs outs v d o → Q v H'
  | .ex c fs outs => ∀ cls dx fr' H', Aft fr Fo H fr' H' → (∀ a, fr' a → H' a ≠ none) → (∀ a, Fo a → H' a ≠ none) → Outs K fr' H' vs args outs → ExR T K fr' H' cls dx c fs → E cls dx H'
  | .bad => False
/-- the promise of the def f -/
def SpF (T : XT) (K : PySem.W.Frag) (cf : Nat → List Sl → CR) (np f : Nat) : Sp := fun vs H Q E => vs.length = np ∧ ∃ fr Fo args, (∀ a, fr a → H a ≠ none) ∧ (∀ a, Fo a → H a ≠ none ∧ ¬ fr a ∧ NT (H a)) ∧
  AR K fr H Fo vs args ∧ CPost T K fr Fo H vs args (cf f args) Q E

section
variable {T : XT} {K : PySem.W.Frag} {W : WX} {cf : Nat → List Sl → CR} {G : Nat → V} {fr fr' Fo Fo' : AP} {H H' : Hp} {σv : St} {σd σd' : List Sl}
/-- the ow names' things -/
def OwA (σv : St) (σd : List Sl) : AP := fun x => ∃ (j : Nat) (p : Bool) (d : D), σd[j]? = some (.ow p d) ∧ σv[j]? = some (some (.ref x))
theorem AR.less {Fo Fo' : AP} {vs : List V} {as : List Sl} (r : AR K fr H Fo' vs as) : ∀ {Fo : AP}, (∀ x, Fo x → Fo' x) → AR K fr H Fo vs as := by
  induction r with
  | nil => exact fun _ => .nil
  | fz h _ ih => exact fun hs => .fz h (ih hs)
  | ow h h1 h2 _ ih => exact fun hs => .ow h h1 (fun f => h2 (hs _ f)) (ih fun x f => f.elim (fun f => .inl (hs x f)) .inr)
theorem TRs.lent {i : Nat} {p : Bool} {d : D} {a : Addr} (e : σd[i]? = some (.ow p d)) (ev : σv[i]? = some (some (.ref a))) : ∀ {vs : List V} {ts : List Tok} {Fo : AP}, TRs K fr H σv σd Fo vs ts → TRs K fr H σv (σd.set i .un) (fun x => Fo x ∨ x = a) vs ts := by
  intro vs
  induction vs with
  | nil => intro ts Fo r; cases ts <;> exact r
  | cons v vs ih =>
    intro ts Fo r
    cases ts with
    | nil => exact r
    | cons t ts =>
      refine ⟨?_, ?_⟩
      · cases r.1 with
        | tv q => exact .tv q
        | br q => exact .br q
        | tf q h1 h2 h3 =>
          refine .tf q h1 (fun z => z.elim h2 fun z => h3 i p d e (z ▸ ev)) fun j b x ej evj => ?_
          rcases getElem?_set' ej with ⟨_, z⟩ | ⟨n, ej⟩
          · cases z
          · exact h3 j b x ej evj
      · refine TRs.less (fun x f => ?_) (ih r.2)
        rcases f with (f | f) | f
        · exact .inl (.inl f)
        · exact .inr f
        · exact .inl (.inr f)
theorem OwA.set_un {i : Nat} {x : Addr} (h : OwA σv (σd.set i .un) x) : OwA σv σd x := by
  obtain ⟨j, p, d, h1, h2⟩ := h
  rcases getElem?_set' h1 with ⟨_, z⟩ | ⟨n, h1⟩
  · cases z
  · exact ⟨j, p, d, h1, h2⟩
theorem lend_ok : ∀ {ts : List Tok} {vs : List V} {σd args σL : List Sl} {Fo : AP}, Sim K G fr Fo H σv σd → TRs K fr H σv σd Fo vs ts → lend ts σd = some (args, σL) →
    AR K fr H (fun x => Fo x ∨ OwA σv σL x) vs args ∧ (∀ x, OwA σv σL x → OwA σv σd x) ∧ Sim K G fr Fo H σv σL
  | [], vs, σd, args, σL, Fo, S, r, e => by
    simp only [lend, Option.some.injEq, Prod.mk.injEq] at e
    obtain ⟨rfl, rfl⟩ := e
    cases vs with
    | nil => exact ⟨.nil, fun _ h => h, S⟩
    | cons _ _ => exact r.elim
  | t :: ts, [], σd, args, σL, Fo, S, r, e => r.elim
  | .tv d :: ts, v :: vs, σd, args, σL, Fo, S, r, e => by
    simp only [lend, Option.map_eq_some_iff, Prod.mk.injEq] at e
    obtain ⟨⟨as, s⟩, e1, rfl, rfl⟩ := e
    obtain ⟨h1, h2, h3⟩ := lend_ok S (r.2.less addF_sub) e1
    cases r.1 with
    | tv q => exact ⟨.fz q h1, h2, h3⟩
  | .tf d :: ts, v :: vs, σd, args, σL, Fo, S, r, e => by
    simp only [lend, Option.map_eq_some_iff, Prod.mk.injEq] at e
    obtain ⟨⟨as, s⟩, e1, rfl, rfl⟩ := e
    obtain ⟨h1, h2, h3⟩ := lend_ok (S.addF r.1) r.2 e1
    cases r.1 with
    | @tf a d q g1 g2 g3 =>
      refine ⟨.ow q g1 (fun z => z.elim g2 fun z => ?_) (h1.less (Fo := fun x => (Fo x ∨ OwA σv s x) ∨ x = a) fun x f => ?_), h2, h3.less addF_sub⟩
      · obtain ⟨j, p, d', k1, k2⟩ := h2 a z
        exact g3 j p d' k1 k2
      · rcases f with (f | f) | f
        · exact .inl (.inl f)
        · exact .inr f
        · exact .inl (.inr ⟨⟨_, rfl⟩, by rw [f]⟩)
  | .br i :: ts, v :: vs, σd, args, σL, Fo, S, r, e => by
    simp only [lend] at e
    cases r.1 with
    | br q =>
    split at e
    · rename_i p d ei
      simp only [Option.map_eq_some_iff, Prod.mk.injEq] at e
      obtain ⟨⟨as, s⟩, e1, rfl, rfl⟩ := e
      obtain ⟨h1, h2, h3⟩ := lend_ok S (r.2.less addF_sub) e1
      obtain ⟨u, k1, k2, _⟩ := S.slot i _ ei
      rw [q] at k1; cases k1
      exact ⟨.fz k2 h1, h2, h3⟩
    · rename_i p d ei
      simp only [Option.map_eq_some_iff, Prod.mk.injEq] at e
      obtain ⟨⟨as, s⟩, e1, rfl, rfl⟩ := e
      obtain ⟨a, k1, k2, k3, k4, _⟩ := S.slot i _ ei
      rw [q] at k1; cases k1
      have ap := S.leave ei q
      have r2 : TRs K fr H σv (σd.set i .un) (fun x => Fo x ∨ x = a) vs ts := (r.2.lent ei q).less fun x f => f.elim (fun f => .inl (.inl f)) .inr
      obtain ⟨h1, h2, h3⟩ := lend_ok (S.drop.more k2.some k3 ap k2.nt) r2 e1
      refine ⟨.ow k2 k3 (fun z => z.elim k4 fun z => ?_) (h1.less (Fo := fun x => (Fo x ∨ OwA σv s x) ∨ x = a) fun x f => ?_), fun x h => (h2 x h).set_un, h3.less fun x f => .inl f⟩
      · obtain ⟨j, b, d', g1, g2⟩ := h2 a z
        exact ap j b d' g1 g2
      · rcases f with (f | f) | f
        · exact .inl (.inl f)
        · exact .inr f
        · exact .inl (.inr f)
    · cases e
/-- names whose things were not to be touched -/
theorem Sim.aft (S : Sim K G fr Fo H σv σd) (A : Aft fr (fun x => Fo x ∨ OwA σv σd x) H fr' H') (h1 : ∀ a, fr' a → H' a ≠ none) : Sim K G fr' Fo H' σv σd := by
  refine ⟨S.len, fun i s e => ?_, S.sep, h1, fun a f => ⟨by rw [(A.out a (.inl f)).2]; exact (S.fos a f).1, (A.out a (.inl f)).1, by rw [(A.out a (.inl f)).2]; exact (S.fos a f).2.2⟩⟩
  have q := S.slot i s e
  cases s with
  | un => exact q
  | lk => exact q
  | fz b d => obtain ⟨v, h1, h2, h3⟩ := q; exact ⟨v, h1, h2.keep A.keep, h3⟩
  | ow b d =>
    obtain ⟨a, h1, h2, h3, h4, h5⟩ := q
    have o := A.out a (.inr ⟨i, b, d, e, h1⟩)
    exact ⟨a, h1, h2.keep A.keep o.2, o.1, h4, h5⟩
/-- the tokens' own values -/
def BrV (σv : St) : List V → List Tok → Prop
  | v :: vs, .br i :: ts => σv[i]? = some (some v) ∧ BrV σv vs ts
  | _ :: vs, _ :: ts => BrV σv vs ts
  | _, _ => True
theorem TRs.brv : ∀ {vs : List V} {ts : List Tok} {Fo : AP}, TRs K fr H σv σd Fo vs ts → BrV σv vs ts
  | [], _, _, _ => by unfold BrV; trivial
  | v :: vs, [], _, r => r.elim
  | v :: vs, .tv d :: ts, _, r => by simp only [BrV]; exact TRs.brv r.2
  | v :: vs, .tf d :: ts, _, r => by simp only [BrV]; exact TRs.brv r.2
  | v :: vs, .br i :: ts, _, r => by
    simp only [BrV]
    exact ⟨(by cases r.1 with | br q => exact q), TRs.brv r.2⟩
/-- apart from one another, whatever lies there -/
inductive AD : AP → List V → List Sl → Prop
  | nil {Fo : AP} : AD Fo [] []
  | fz {Fo : AP} {v vs d as} : AD Fo vs as → AD Fo (v :: vs) (.fz false d :: as)
  | ow {Fo : AP} {a vs p d as} : ¬ Fo a → AD (fun x => Fo x ∨ x = a) vs as → AD Fo (.ref a :: vs) (.ow p d :: as)
theorem AR.ad {vs : List V} {as : List Sl} (r : AR K fr H Fo vs as) : AD Fo vs as := by
  induction r with
  | nil => exact .nil
  | fz _ _ ih => exact .fz ih
  | ow _ _ h2 _ ih => exact .ow h2 ih
theorem AD.less {vs : List V} {as : List Sl} {Fo' : AP} (r : AD Fo' vs as) : ∀ {Fo : AP}, (∀ x, Fo x → Fo' x) → AD Fo vs as := by
  induction r with
  | nil => exact fun _ => .nil
  | fz _ ih => exact fun hs => .fz (ih hs)
  | ow h2 _ ih => exact fun hs => .ow (fun f => h2 (hs _ f)) (ih fun x f => f.elim (fun f => .inl (hs x f)) .inr)
/-- σ0 with some names away -/
def Below (σ σ0 : List Sl) : Prop := ∀ (i : Nat) (s : Sl), σ[i]? = some s → s = .un ∨ σ0[i]? = some s
theorem back_ok {σ0 : List Sl} : ∀ {ts : List Tok} {vs : List V} {as outs σc σL σ σ2 : List Sl} {Fo' : AP}, lend ts σc = some (as, σL) → Below σc σ0 → Outs K fr H vs as outs → BrV σv vs ts → AD Fo' vs as →
    (∀ x, OwA σv σ x → Fo' x) → (∀ x, Fo x → Fo' x) → (∀ (i : Nat) (p : Bool) (d : D), σ0[i]? = some (.ow p d) → ∀ v : V, σv[i]? = some (some v) → p = true → v = G i) → Sim K G fr Fo H σv σ → back ts outs σ0 σ = some σ2 →
    Sim K G fr Fo H σv σ2 ∧ ∀ x, OwA σv σ2 x → Fo' x ∨ ∃ (k : Nat) (d : D), outs[k]? = some (.ow true d) ∧ vs[k]? = some (.ref x)
  | [], vs, as, outs, σc, σL, σ, σ2, Fo', e, hb, O, B, A, hO, hF, hG, S, eb => by
    simp only [back, Option.some.injEq] at eb
    subst eb
    exact ⟨S, fun x h => .inl (hO x h)⟩
  | .tv d :: ts, vs, as, outs, σc, σL, σ, σ2, Fo', e, hb, O, B, A, hO, hF, hG, S, eb => by
    simp only [lend, Option.map_eq_some_iff, Prod.mk.injEq] at e
    obtain ⟨⟨as', s⟩, e1, rfl, rfl⟩ := e
    cases O with
    | fz O' =>
      cases A with
      | fz A' =>
        simp only [back] at eb
        simp only [BrV] at B
        obtain ⟨h1, h2⟩ := back_ok e1 hb O' B A' hO hF hG S eb
        exact ⟨h1, fun x h => (h2 x h).imp id fun ⟨k, d, a, b⟩ => ⟨k + 1, d, a, b⟩⟩
  | .tf d :: ts, vs, as, outs, σc, σL, σ, σ2, Fo', e, hb, O, B, A, hO, hF, hG, S, eb => by
    simp only [lend, Option.map_eq_some_iff, Prod.mk.injEq] at e
    obtain ⟨⟨as', s⟩, e1, rfl, rfl⟩ := e
    cases O with
    | new O' =>
      cases A with
      | ow A1 A' =>
        simp only [back] at eb
        simp only [BrV] at B
        obtain ⟨h1, h2⟩ := back_ok e1 hb O' B (A'.less fun x f => .inl f) hO hF hG S eb
        exact ⟨h1, fun x h => (h2 x h).imp id fun ⟨k, d, a, b⟩ => ⟨k + 1, d, a, b⟩⟩
  | .br i :: ts, vs, as, outs, σc, σL, σ, σ2, Fo', e, hb, O, B, A, hO, hF, hG, S, eb => by
    simp only [lend] at e
    split at e
    · rename_i p d ei
      simp only [Option.map_eq_some_iff, Prod.mk.injEq] at e
      obtain ⟨⟨as', s⟩, e1, rfl, rfl⟩ := e
      have e0 : σ0[i]? = some (.fz p d) := (hb i _ ei).elim (fun z => nomatch z) id
      cases O with
      | fz O' =>
        cases A with
        | fz A' =>
          simp only [back, e0] at eb
          simp only [BrV] at B
          obtain ⟨h1, h2⟩ := back_ok e1 hb O' B.2 A' hO hF hG S eb
          exact ⟨h1, fun x h => (h2 x h).imp id fun ⟨k, d, a, b⟩ => ⟨k + 1, d, a, b⟩⟩
    · rename_i p d ei
      simp only [Option.map_eq_some_iff, Prod.mk.injEq] at e
      obtain ⟨⟨as', s⟩, e1, rfl, rfl⟩ := e
      have e0 : σ0[i]? = some (.ow p d) := (hb i _ ei).elim (fun z => nomatch z) id
      have hb' : Below (σc.set i .un) σ0 := fun j s ej => by
        rcases getElem?_set' ej with ⟨_, z⟩ | ⟨n, ej⟩
        · exact .inl z
        · exact hb j s ej
      cases O with
      | @ow a vs' _ _ d' os ro nf O' =>
        cases A with
        | ow A1 A' =>
          simp only [back, e0] at eb
          simp only [BrV] at B
          have ap : Apart σv (σ.set i .un) a := fun j q x ej evj => A1 (hO a (OwA.set_un ⟨j, q, x, ej, evj⟩))
          have S2 : Sim K G fr Fo H σv (σ.set i (.ow p d')) := (S.drop (i := i)).setOw B.1 ro nf (fun f => A1 (hF a f)) ap fun hp => hG i p d e0 _ B.1 hp
          have hO2 : ∀ x, OwA σv (σ.set i (.ow p d')) x → Fo' x ∨ x = a := fun x hx => by
            obtain ⟨j, q, y, ej, evj⟩ := hx
            rcases getElem?_set' ej with ⟨z, _⟩ | ⟨n, ej⟩
            · subst z
              rw [B.1] at evj; cases evj
              exact .inr rfl
            · exact .inl (hO x ⟨j, q, y, ej, evj⟩)
          obtain ⟨h1, h2⟩ := back_ok (Fo' := fun x => Fo' x ∨ x = a) e1 hb' O' B.2 A' hO2 (fun x f => .inl (hF x f)) hG S2 eb
          refine ⟨h1, fun x h => ?_⟩
          rcases h2 x h with (f | f) | ⟨k, d, a', b⟩
          · exact .inl f
          · exact .inr ⟨0, d', rfl, by rw [f]; rfl⟩
          · exact .inr ⟨k + 1, d, a', b⟩
      | @sh v vs' _ _ d' os rr O' =>
        cases A with
        | ow A1 A' =>
          simp only [back, e0] at eb
          simp only [BrV] at B
          have S2 : Sim K G fr Fo H σv (σ.set i (.fz p d')) := (S.drop (i := i)).setFz B.1 rr fun hp => hG i p d e0 _ B.1 hp
          have hO2 : ∀ x, OwA σv (σ.set i (.fz p d')) x → Fo' x := fun x hx => by
            obtain ⟨j, q, y, ej, evj⟩ := hx
            rcases getElem?_set' ej with ⟨_, z⟩ | ⟨n, ej⟩
            · cases z
            · exact hO x ⟨j, q, y, ej, evj⟩
          obtain ⟨h1, h2⟩ := back_ok e1 hb' O' B.2 (A'.less fun x f => .inl f) hO2 hF hG S2 eb
          exact ⟨h1, fun x h => (h2 x h).imp id fun ⟨k, d, a, b⟩ => ⟨k + 1, d, a, b⟩⟩
    · cases e
theorem AR.length {vs : List V} {as : List Sl} (r : AR K fr H Fo vs as) : vs.length = as.length := by
  induction r with
  | nil => rfl
  | fz _ _ ih => simp [ih]
  | ow _ _ _ _ ih => simp [ih]
/-- f(..) -/
theorem ge_call {f np : Nat} {es : E} {t : TA} (hn : ∀ args, (cf f args = .bad ∨ args.length = np)) (h : GA T K W cf es t) : GE T K W cf (.call f es) (tCallS (SpF T K cf np f) (WE W) t) := fun G fr Fo H σv σd Q S hq => by
  refine h G fr Fo H σv σd _ S ?_
  simp only [ev, R.andThen] at hq
  cases e : ev cf es σd with
  | bad => rw [e] at hq; exact hq
  | ex c fs σ1 => rw [e] at hq; exact hq
  | ok ts σ1 =>
    rw [e] at hq
    intro vs fr1 H1 A1 S1 R1
    simp only [called] at hq
    split at hq
    · exact hq.elim
    · rename_i args σL el
      obtain ⟨AR1, sub, SL⟩ := lend_ok S1 R1 el
      have hl : vs.length = np := by
        rcases hn args with z | z
        · rw [z] at hq; exact hq.elim
        · rw [AR1.length]; exact z
      have fo1 : ∀ a, (Fo a ∨ OwA σv σL a) → H1 a ≠ none ∧ ¬ fr1 a ∧ NT (H1 a) := fun a f => f.elim (SL.fos a) fun ⟨j, p, d, k1, k2⟩ => by
        obtain ⟨b, g1, g2, g3, _⟩ := SL.slot j _ k1
        rw [k2] at g1; cases g1
        exact ⟨g2.some, g3, g2.nt⟩
      have hG : ∀ (i : Nat) (p : Bool) (d : D), σ1[i]? = some (.ow p d) → ∀ v : V, σv[i]? = some (some v) → p = true → v = G i := fun i p d e0 v e1 hp => by
        obtain ⟨b, g1, _, _, _, g5⟩ := S1.slot i _ e0
        rw [e1] at g1; cases g1
        exact g5 hp
      refine ⟨hl, fr1, _, args, S1.frs, fo1, AR1, ?_⟩
      cases ec : cf f args with
      | bad => rw [ec] at hq; exact hq
      | ret d o outs =>
        rw [ec] at hq
        intro v fr2 H2 A2 g1 g2 O2 R2
        simp only at hq
        split at hq
        · rename_i σ2 eb
          have SL2 := SL.aft A2 g1
          obtain ⟨S2, hO⟩ := back_ok (Fo' := fun x => Fo x ∨ OwA σv σL x) el (fun i s z => .inr z) O2 R1.brv AR1.ad (fun x f => .inr f) (fun x f => .inl f) hG SL2 eb
          have A12 : Aft fr Fo H fr2 H2 := A1.trans (A2.less fun x f => .inl f)
          cases R2 with
          | sh r => exact hq [v] fr2 H2 A12 S2 ⟨.tv r, True.intro⟩ v rfl
          | @ow a d r k1 k2 k3 =>
            refine hq [.ref a] fr2 H2 A12 S2 ⟨.tf r k1 (fun f => k2 (.inl f)) fun j p x ej evj => ?_, True.intro⟩ _ rfl
            rcases hO a ⟨j, p, x, ej, evj⟩ with z | ⟨k, d', z1, z2⟩
            · exact k2 z
            · exact k3 k d' z1 z2
        · exact hq.elim
      | ex c fs outs =>
        rw [ec] at hq
        intro cls dx fr2 H2 A2 g1 g2 O2 R2
        simp only at hq
        split at hq
        · rename_i σ2 eb
          have SL2 := SL.aft A2 g1
          obtain ⟨S2, hO⟩ := back_ok (Fo' := fun x => Fo x ∨ OwA σv σL x) el (fun i s z => .inr z) O2 R1.brv AR1.ad (fun x f => .inr f) (fun x f => .inl f) hG SL2 eb
          exact hq cls dx fr2 H2 (A1.trans (A2.less fun x f => .inl f)) S2 R2
        · exact hq.elim
end
end Fly
end

section
set_option Elab.async false
set_option linter.all false
set_option maxRecDepth 100000
set_option maxHeartbeats 4000000
/-! Statements (FlySt). -/
namespace Fly
open PySem L2
section
variable {T : XT} {K : PySem.W.Frag} {W : WX} {cf : Nat → List Sl → CR} {G : Nat → V} {fr fr' Fo Fo' : AP} {H H' : Hp} {σv : St} {σd σd' : List Sl}

theorem RV.less {v : V} {d : D} {o : Bool} (h : ∀ x, Fo x → Fo' x) (r : RV K Fo' fr H σv σd v d o) : RV K Fo fr H σv σd v d o := by
  cases r with
  | sh r => exact .sh r
  | ow r h1 h2 h3 => exact .ow r h1 (fun f => h2 (h _ f)) h3
theorem FPost.more {r : Fw} {D : Ends} (hs : ∀ x, Fo x → Fo' x) (h : FPost T K W G fr Fo H r D) : FPost T K W G fr Fo' H r D := by
  cases r with
  | nx σd => exact fun σv f2 H2 a2 S2 => h σv f2 H2 (a2.less hs) (S2.less hs)
  | rt d o σd => exact fun σv v f2 H2 a2 S2 R2 => h σv v f2 H2 (a2.less hs) (S2.less hs) (R2.less hs)
  | bk σd => exact fun σv f2 H2 a2 S2 => h σv f2 H2 (a2.less hs) (S2.less hs)
  | ct σd => exact fun σv f2 H2 a2 S2 => h σv f2 H2 (a2.less hs) (S2.less hs)
  | ex c fs σd => exact fun σv cls dx f2 H2 a2 S2 => h σv cls dx f2 H2 (a2.less hs) (S2.less hs)
  | bad => exact h

theorem gs_nil : GS T K W cf .nil tNext := fun G fr Fo H σv σd D S hq => hq σv fr H (.refl S) S
theorem gs_seq {a b : S} {t u : TS} (ha : GS T K W cf a t) (hb : GS T K W cf b u) : GS T K W cf (.seq a b) (tSeq t u) := fun G fr Fo H σv σd D S hq => by
  refine ha G fr Fo H σv σd _ S ?_
  simp only [exec, Fw.andThen] at hq
  cases e : exec cf a σd with
  | nx σ1 =>
    rw [e] at hq
    exact fun σv1 fr1 H1 A1 S1 => hb G fr1 Fo H1 σv1 σ1 D S1 (FPost.from hq A1)
  | rt d o σ1 => rw [e] at hq; exact hq
  | bk σ1 => rw [e] at hq; exact hq
  | ct σ1 => rw [e] at hq; exact hq
  | ex c fs σ1 => rw [e] at hq; exact hq
  | bad => rw [e] at hq; exact hq
theorem gs_ex {e : E} {te : TE} (h : GE T K W cf e te) : GS T K W cf (.ex e) (tDrop te) := fun G fr Fo H σv σd D S hq => by
  refine h G fr Fo H σv σd _ S ?_
  simp only [exec, R.toFw] at hq
  cases ee : ev cf e σd with
  | bad => rw [ee] at hq; exact hq
  | ex c fs σ1 => rw [ee] at hq; exact hq σv
  | ok ts σ1 =>
    rw [ee] at hq
    exact fun vs fr1 H1 A1 S1 R1 v hv => hq σv fr1 H1 A1 S1
theorem gs_if {c : E} {a b : S} {tc : TT} {t u : TS} (hc : GB T K W cf c tc) (ha : GS T K W cf a t) (hb : GS T K W cf b u) : GS T K W cf (.ifs c a b) (tIfS tc t u) := fun G fr Fo H σv σd D S hq => by
  refine hc G fr Fo H σv σd _ S ?_
  simp only [exec, RB.toFw] at hq
  cases e : asB (ev cf c σd) with
  | bad => rw [e] at hq; exact hq
  | ex c fs σ1 => rw [e] at hq; exact hq σv
  | ok x σ1 =>
    rw [e] at hq
    cases x with
    | true =>
      intro fr1 H1 A1 S1
      rw [if_pos rfl]
      exact ha G fr1 Fo H1 σv σ1 D S1 (FPost.from (by simpa using hq) A1)
    | false =>
      intro fr1 H1 A1 S1
      rw [if_neg (by decide)]
      exact hb G fr1 Fo H1 σv σ1 D S1 (FPost.from (by simpa using hq) A1)
/-- what is given -/
theorem TR.give {v : V} {t : Tok} {d : D} {o : Bool} (S : Sim K G fr Fo H σv σd) (r : TR K fr H σv σd Fo v t) (e : give σd t = some (d, o)) : RV K Fo fr H σv σd v d o := by
  cases r with
  | tv h => cases e; exact .sh h
  | tf h h1 h2 h3 => cases e; exact .ow h h1 h2 h3
  | @br i v h =>
    simp only [Fly.give] at e
    split at e
    · rename_i q
      cases e
      obtain ⟨u, h1, h2, _⟩ := S.slot i _ q
      rw [h] at h1; cases h1
      exact .sh h2
    · cases e
theorem gs_ret {e : E} {te : TE} (h : GE T K W cf e te) : GS T K W cf (.ret e) (tRet te) := fun G fr Fo H σv σd D S hq => by
  refine h G fr Fo H σv σd _ S ?_
  simp only [exec, R.toFw] at hq
  cases ee : ev cf e σd with
  | bad => rw [ee] at hq; exact hq
  | ex c fs σ1 => rw [ee] at hq; exact hq σv
  | ok ts σ1 =>
    rw [ee] at hq
    intro vs fr1 H1 A1 S1 R1 v hv
    subst hv
    obtain ⟨t, rfl, r1⟩ := R1.one'
    simp only at hq
    split at hq
    · rename_i d o eg
      exact hq σv v fr1 H1 A1 S1 (r1.give S1 eg)
    · exact hq.elim
theorem gs_retn : GS T K W cf .retn tRetN := fun G fr Fo H σv σd D S hq => hq σv .non fr H (.refl S) S (.sh .non)
theorem gs_brk : GS T K W cf .brk tBreak := fun G fr Fo H σv σd D S hq => hq σv fr H (.refl S) S
theorem gs_cnt : GS T K W cf .cnt tCont := fun G fr Fo H σv σd D S hq => hq σv fr H (.refl S) S
theorem gs_no : GS T K W cf .no (fun _ _ _ => False) := fun G fr Fo H σv σd D S hq => by
  simp only [exec] at hq
  exact hq
theorem gs_pass : GS T K W cf .pass tNext := fun G fr Fo H σv σd D S hq => hq σv fr H (.refl S) S

/-! ### targets -/
/-- a name is given something -/
theorem Sim.assign {i : Nat} {v : V} {d : D} {o : Bool} {σ2 : List Sl} (S : Sim K G fr Fo H σv σd) (r : RV K Fo fr H σv σd v d o) (e : put σd i d o = some σ2) : Sim K G fr Fo H (σv.set i (some v)) σ2 := by
  unfold put at e
  split at e
  · rename_i f
    cases e
    have hi : i < σd.length := by
      unfold free1 at f
      split at f
      · rename_i q; exact (List.getElem?_eq_some_iff.mp q).1
      · rename_i q; exact (List.getElem?_eq_some_iff.mp q).1
      · rename_i q; exact (List.getElem?_eq_some_iff.mp q).1
      · cases f
    have hiv : i < σv.length := by rw [← S.len]; exact hi
    have S0 : Sim K G fr Fo H (σv.set i (some v)) (σd.set i .un) := by
      refine ⟨by rw [List.length_set, List.length_set]; exact S.len, fun j s ej => ?_, fun j k p q d e a h1 h2 h3 h4 => ?_, S.frs, S.fos⟩
      · rcases getElem?_set' ej with ⟨_, rfl⟩ | ⟨n, ej⟩
        · exact True.intro
        · rw [List.getElem?_set_ne (Ne.symm n)]
          exact S.slot j s ej
      · rcases getElem?_set' h1 with ⟨_, z⟩ | ⟨n1, h1⟩
        · cases z
        · rcases getElem?_set' h2 with ⟨_, z⟩ | ⟨n2, h2⟩
          · cases z
          · rw [List.getElem?_set_ne (Ne.symm n1)] at h3
            rw [List.getElem?_set_ne (Ne.symm n2)] at h4
            exact S.sep j k p q d e a h1 h2 h3 h4
    cases r with
    | sh r =>
      rw [if_neg (by decide)]
      exact S0.setFz (by rw [List.getElem?_set_self hiv]) r fun z => nomatch z
    | @ow a d r h1 h2 h3 =>
      rw [if_pos rfl]
      refine S0.setOw (by rw [List.getElem?_set_self hiv]) r h1 h2 (fun j q x ej evj => ?_) fun z => nomatch z
      rcases getElem?_set' ej with ⟨_, z⟩ | ⟨n, ej⟩
      · cases z
      · rw [List.getElem?_set_ne (Ne.symm n)] at evj
        exact h3 j q x ej evj
  · cases e
theorem wipe_set {x : Option V} : ∀ {is : List Nat} {i : Nat} {σ : St}, i ∈ is → wipe (σ.set i x) is = wipe σ is
  | j :: is, i, σ, h => by
    simp only [wipe]
    by_cases e : i ∈ is
    · rw [wipe_set e]
    · have ej : i = j := by
        rcases List.mem_cons.mp h with z | z
        · exact z
        · exact absurd z e
      subst ej
      have go : ∀ {is : List Nat}, i ∉ is → wipe (σ.set i x) is = (wipe σ is).set i x := by
        intro is
        induction is with
        | nil => intro _; rfl
        | cons k is ih =>
          intro hk
          simp only [wipe]
          rw [ih fun z => hk (List.mem_cons_of_mem _ z), List.set_comm _ _ (fun (z : i = k) => hk (by rw [z]; exact List.mem_cons_self))]
      rw [go e, List.set_set]
theorem wipe_wipe : ∀ {is : List Nat} {σ : St}, wipe (wipe σ is) is = wipe σ is := by
  have go : ∀ (js is : List Nat) (σ : St), (∀ j ∈ js, j ∈ is) → wipe (wipe σ js) is = wipe σ is := by
    intro js
    induction js with
    | nil => intro is σ _; rfl
    | cons j js ih =>
      intro is σ h
      simp only [wipe]
      rw [wipe_set (h j List.mem_cons_self), ih is σ fun k hk => h k (List.mem_cons_of_mem _ hk)]
  exact fun {is σ} => go is is σ fun _ h => h
def GG (t : Tg) (K : PySem.W.Frag) (g : TG) : Prop := ∀ G fr Fo H σv σd v d o σ2 (Q : St → Hp → Prop), Sim K G fr Fo H σv σd → RV K Fo fr H σv σd v d o → bindT σd t d o = some σ2 → (∀ σv2, wipe σv2 t.own = wipe σv t.own → Sim K G fr Fo H σv2 σ2 → Q σv2 H) → g v σv H Q
theorem gg_nm {i : Nat} : GG (.nm i) K (gName i) := fun G fr Fo H σv σd v d o σ2 Q S r e k => k _ (wipe_set (List.mem_singleton.mpr rfl)) (S.assign r e)
def gNames : List Nat → TGs
  | [] => gNil
  | i :: is => gCons (gName i) (gNames is)
theorem gg_puts {js : List Nat} : ∀ {is : List Nat} {vs : List V} {ds : List D} {σv : St} {σd σ2 : List Sl} {Q : St → Hp → Prop}, (∀ i ∈ is, i ∈ js) → Sim K G fr Fo H σv σd → Reps K fr H vs ds → puts σd is ds = some σ2 → (∀ σv2, wipe σv2 js = wipe σv js → Sim K G fr Fo H σv2 σ2 → Q σv2 H) → gNames is vs σv H Q
  | [], vs, ds, σv, σd, σ2, Q, hj, S, r, e, k => by
    cases ds with
    | cons _ _ => cases e
    | nil =>
      cases e
      cases r
      exact ⟨rfl, k _ rfl S⟩
  | i :: is, vs, ds, σv, σd, σ2, Q, hj, S, r, e, k => by
    cases ds with
    | nil => cases e
    | cons d ds =>
      cases r with
      | cons r1 r2 =>
        simp only [puts, Option.bind_eq_some_iff] at e
        obtain ⟨σ1, e1, e2⟩ := e
        exact ⟨_, _, rfl, gg_puts (fun x hx => hj x (List.mem_cons_of_mem _ hx)) (S.assign (.sh r1) e1) r2 e2 fun σv2 w2 S2 => k σv2 (w2.trans (wipe_set (hj i List.mem_cons_self))) S2⟩
theorem puts_length : ∀ {is : List Nat} {ds : List D} {σ σ2 : List Sl}, puts σ is ds = some σ2 → is.length = ds.length
  | [], [], _, _, _ => rfl
  | [], _ :: _, _, _, e => by cases e
  | _ :: _, [], _, _, e => by cases e
  | i :: is, d :: ds, σ, σ2, e => by
    simp only [puts, Option.bind_eq_some_iff] at e
    obtain ⟨σ1, _, e2⟩ := e
    simp [puts_length e2]
theorem gg_tp {is : List Nat} : GG (.tp is) K (gTup K is.length (gNames is)) := fun G fr Fo H σv σd v d o σ2 Q S r e k => by
  cases d with
  | tup ds =>
    cases o with
    | true => cases e
    | false =>
      cases r with
      | sh r =>
        cases r with
        | tup h z r => exact ⟨_, _, rfl, h.sq, by rw [r.length]; exact (puts_length e).symm, gg_puts (fun _ h => h) S r e k⟩
  | _ => cases e
theorem gs_asg {t : Tg} {e : E} {te : TE} {g : TG} (h : GE T K W cf e te) (hg : GG t K g) : GS T K W cf (.asg t e) (tAsg te g) := fun G fr Fo H σv σd D S hq => by
  refine h G fr Fo H σv σd _ S ?_
  simp only [exec, R.toFw] at hq
  cases ee : ev cf e σd with
  | bad => rw [ee] at hq; exact hq
  | ex c fs σ1 => rw [ee] at hq; exact hq σv
  | ok ts σ1 =>
    rw [ee] at hq
    intro vs fr1 H1 A1 S1 R1 v hv
    subst hv
    obtain ⟨t, rfl, r1⟩ := R1.one'
    simp only at hq
    split at hq
    · rename_i d o eg
      split at hq
      · rename_i σ2 eb
        exact hg G fr1 Fo H1 σv σ1 v d o σ2 _ S1 (r1.give S1 eg) eb fun σv2 _ S2 => hq σv2 fr1 H1 A1 S2
      · exact hq.elim
    · exact hq.elim

/-! ### loops -/
/-- the fresh things among the sources -/
def srcF (σd : List Sl) : List V → List Tok → AP
  | v :: vs, t :: ts => fun x => (((∃ d, t = .tf d) ∨ ∃ i p d, t = .br i ∧ σd[i]? = some (.ow p d)) ∧ v = .ref x) ∨ srcF σd vs ts x
  | _, _ => fun _ => False
/-- a tuple may be shared at any time: no name's own thing is one -/
def frT (fr : AP) (H : Hp) : AP := fun x => fr x ∨ ∃ xs, H x = some (.tup xs)
theorem Sim.tups (S : Sim K G fr Fo H σv σd) : Sim K G (frT fr H) Fo H σv σd := by
  have k : ∀ x, fr x → frT fr H x ∧ H x = H x := fun x f => ⟨.inl f, rfl⟩
  refine ⟨S.len, fun i s e => ?_, S.sep, fun x f => f.elim (S.frs x) fun ⟨xs, e⟩ => by rw [e]; simp, fun x f => ⟨(S.fos x f).1, fun z => z.elim (S.fos x f).2.1 fun ⟨xs, e⟩ => (S.fos x f).2.2 xs e, (S.fos x f).2.2⟩⟩
  have q := S.slot i s e
  cases s with
  | un => exact q
  | lk => exact q
  | fz b d => obtain ⟨v, h1, h2, h3⟩ := q; exact ⟨v, h1, h2.keep k, h3⟩
  | ow b d =>
    obtain ⟨x, h1, h2, h3, h4, h5⟩ := q
    exact ⟨x, h1, h2.keep k rfl, fun z => z.elim h3 fun ⟨xs, e⟩ => h2.nt xs e, h4, h5⟩
theorem Aft.tups (S : Sim K G fr Fo H σv σd) : Aft fr Fo H (frT fr H) H :=
  ⟨fun x f => ⟨.inl f, rfl⟩, fun x f => ⟨fun z => z.elim (S.fos x f).2.1 fun ⟨xs, e⟩ => (S.fos x f).2.2 xs e, rfl⟩⟩
/-- a walk over the items xs, while all shared things and those of L stay -/
def Walk (K : PySem.W.Frag) (J : It) (xs : List D) (fr1 : AP) (H1 : Hp) (L : AP) : Prop :=
  ∀ fr' H', (∀ a, fr1 a → fr' a ∧ H' a = H1 a) → (∀ a, L a → H' a = H1 a) → (∀ a, fr' a → H' a ≠ none) →
    (∀ i, i = xs.length → J.stop i H') ∧ ∀ i d, xs[i]? = some d → J.go i H' ∧ ∀ x H'', J.yld i H' x H'' →
      (H'' = H' ∧ Rep K fr' H' x d) ∨ (∃ p o, H' p = none ∧ H'' = upd H' p o ∧ x = .ref p ∧ Rep K (fun a => fr' a ∨ a = p) H'' x d) ∨
      (H'' = H' ∨ ∃ p o, H' p = none ∧ H'' = upd H' p o) ∧ Rep K (frT fr' H'') H'' x d
def IPost (T : XT) (K : PySem.W.Frag) (W : WX) (G : Nat → V) (fr Fo : AP) (H : Hp) (σv : St) (k : Ik) (r : R) (Q : It → Hp → Prop) : Prop :=
  match r with
  | .ok ts σ1 => match looks σ1 ts with
    | none => False
    | some ds => match items k ds with
      | none => False
      | some xs => ∀ vs fr1 H1 J, Aft fr Fo H fr1 H1 → Sim K G fr1 Fo H1 σv σ1 → TRs K fr1 H1 σv σ1 Fo vs ts → Walk K J xs fr1 H1 (srcF σ1 vs ts) → Q J H1
  | .ex c fs σd => ∀ cls dx fr' H', Aft fr Fo H fr' H' → Sim K G fr' Fo H' σv σd → ExR T K fr' H' cls dx c fs → W cls dx σv H'
  | .bad => False
def GI (T : XT) (K : PySem.W.Frag) (W : WX) (cf : Nat → List Sl → CR) (k : Ik) (es : E) (wi : TI) : Prop :=
  ∀ G fr Fo H σv σd (R : It → Hp → Prop), Sim K G fr Fo H σv σd → IPost T K W G fr Fo H σv k (ev cf es σd) R → wi σv H R
theorem hideS_get : ∀ {ts : List Tok} {σ : List Sl} {j : Nat} {s : Sl}, (hideS σ ts)[j]? = some s → (s = .un ∧ Tok.br j ∈ ts ∧ ∃ p d, σ[j]? = some (.ow p d)) ∨ (σ[j]? = some s ∧ ¬ (Tok.br j ∈ ts ∧ ∃ p d, s = .ow p d))
  | [], σ, j, s, h => .inr ⟨h, fun z => by simp at z⟩
  | .tv _ :: ts, σ, j, s, h => by
    rcases hideS_get (ts := ts) h with ⟨z1, z2, z3⟩ | ⟨z1, z2⟩
    · exact .inl ⟨z1, List.mem_cons_of_mem _ z2, z3⟩
    · exact .inr ⟨z1, fun z => z2 ⟨by simpa using z.1, z.2⟩⟩
  | .tf _ :: ts, σ, j, s, h => by
    rcases hideS_get (ts := ts) h with ⟨z1, z2, z3⟩ | ⟨z1, z2⟩
    · exact .inl ⟨z1, List.mem_cons_of_mem _ z2, z3⟩
    · exact .inr ⟨z1, fun z => z2 ⟨by simpa using z.1, z.2⟩⟩
  | .br i :: ts, σ, j, s, h => by
    have key : ∀ s, (hideS σ ts)[j]? = some s → (¬ ∃ p d, σ[i]? = some (.ow p d)) ∨ j ≠ i → (s = .un ∧ Tok.br j ∈ .br i :: ts ∧ ∃ p d, σ[j]? = some (.ow p d)) ∨ (σ[j]? = some s ∧ ¬ (Tok.br j ∈ .br i :: ts ∧ ∃ p d, s = .ow p d)) := by
      intro s h hn
      rcases hideS_get (ts := ts) h with ⟨z1, z2, z3⟩ | ⟨z1, z2⟩
      · exact .inl ⟨z1, List.mem_cons_of_mem _ z2, z3⟩
      · refine .inr ⟨z1, fun z => ?_⟩
        obtain ⟨m, p, d, rfl⟩ := z
        rcases List.mem_cons.mp m with e | m
        · cases e
          exact hn.elim (fun n => n ⟨p, d, z1⟩) fun n => n rfl
        · exact z2 ⟨m, p, d, rfl⟩
    unfold hideS at h
    split at h
    · rename_i p d e
      rcases getElem?_set' h with ⟨z1, z2⟩ | ⟨n, h⟩
      · subst z1
        exact .inl ⟨z2, by simp, p, d, e⟩
      · exact key s h (.inr n)
    · rename_i e
      exact key s h (.inl fun ⟨p, d, z⟩ => e p d z)
theorem hideS_length {σ : List Sl} : ∀ (ts : List Tok), (hideS σ ts).length = σ.length
  | [] => rfl
  | .tv _ :: ts => hideS_length ts
  | .tf _ :: ts => hideS_length ts
  | .br i :: ts => by
    unfold hideS
    split
    · rw [List.length_set]; exact hideS_length ts
    · exact hideS_length ts
theorem hideS_calm {σ : List Sl} : ∀ {ts : List Tok}, calmS σ ts = true → hideS σ ts = σ
  | [], _ => rfl
  | .tv _ :: ts, h => hideS_calm (ts := ts) h
  | .tf _ :: ts, h => hideS_calm (ts := ts) h
  | .br i :: ts, h => by
    simp only [calmS, Bool.and_eq_true] at h
    unfold hideS
    split
    · rename_i e
      rw [e] at h
      exact absurd h.1 (by simp)
    · exact hideS_calm h.2
theorem Sim.hide {ts : List Tok} (S : Sim K G fr Fo H σv σd) : Sim K G fr Fo H σv (hideS σd ts) := by
  refine ⟨by rw [hideS_length]; exact S.len, fun i s e => ?_, fun i j p q d e a h1 h2 h3 h4 => ?_, S.frs, S.fos⟩
  · rcases hideS_get e with ⟨rfl, _⟩ | ⟨e, _⟩
    · exact True.intro
    · exact S.slot i s e
  · rcases hideS_get h1 with ⟨z, _⟩ | ⟨h1, _⟩
    · cases z
    · rcases hideS_get h2 with ⟨z, _⟩ | ⟨h2, _⟩
      · cases z
      · exact S.sep i j p q d e a h1 h2 h3 h4
theorem srcF_none (S : Sim K G fr Fo H σv σd) {ts0 : List Tok} : ∀ {vs : List V} {ts : List Tok} {Fo' : AP}, (∀ x, Fo x → Fo' x) → (∀ i, Tok.br i ∈ ts → Tok.br i ∈ ts0) → TRs K fr H σv σd Fo' vs ts → ∀ x, srcF σd vs ts x → H x ≠ none ∧ ¬ fr x ∧ ¬ Fo x ∧ Apart σv (hideS σd ts0) x ∧ NT (H x)
  | [], _, _, _, _, _, _, h => h.elim
  | _ :: _, [], _, _, _, r, _, _ => r.elim
  | v :: vs, t :: ts, Fo', hF, hm, r, x, h => by
    rcases h with ⟨⟨d, rfl⟩ | ⟨i, p, d, rfl, e1⟩, e⟩ | h
    · cases r.1 with
      | tf q h1 h2 h3 =>
        cases e
        refine ⟨q.some, h1, fun f => h2 (hF _ f), fun j p e z => ?_, q.nt⟩
        rcases hideS_get z with ⟨z, _⟩ | ⟨z, _⟩
        · cases z
        · exact h3 j p e z
    · cases r.1 with
      | br h1 =>
        cases e
        obtain ⟨a, k1, k2, k3, k4, k5⟩ := S.slot i _ e1
        rw [h1] at k1
        cases k1
        refine ⟨k2.some, k3, k4, fun j q e z zz => ?_, k2.nt⟩
        rcases hideS_get z with ⟨z, _⟩ | ⟨z, n⟩
        · cases z
        · have := S.sep i j p q d e _ e1 z h1 zz
          subst this
          exact n ⟨hm i (by simp), q, e, rfl⟩
    · exact srcF_none S (fun x f => .inl (hF x f)) (fun i m => hm i (List.mem_cons_of_mem _ m)) r.2 x h
theorem Sim.moreA {L : AP} (S : Sim K G fr Fo H σv σd) (hL : ∀ x, L x → H x ≠ none ∧ ¬ fr x ∧ ¬ Fo x ∧ Apart σv σd x ∧ NT (H x)) : Sim K G fr (fun x => Fo x ∨ L x) H σv σd := by
  refine ⟨S.len, fun i s e => ?_, S.sep, S.frs, fun x f => f.elim (S.fos x) fun f => ⟨(hL x f).1, (hL x f).2.1, (hL x f).2.2.2.2⟩⟩
  have q := S.slot i s e
  cases s with
  | un => exact q
  | lk => exact q
  | fz p d => exact q
  | ow p d =>
    obtain ⟨b, h1, h2, h3, h4, h5⟩ := q
    exact ⟨b, h1, h2, h3, fun z => z.elim h4 fun z => (hL b z).2.2.2.1 i p d e h1, h5⟩
theorem Walk.at {J : It} {xs : List D} {fr1 FoX : AP} {H1 : Hp} {L : AP} (w : Walk K J xs fr1 H1 L) {fr' : AP} {H' : Hp} (k1 : ∀ a, fr1 a → fr' a ∧ H' a = H1 a) (k2 : ∀ a, L a → H' a = H1 a) (S : Sim K G fr' FoX H' σv σd) :
    (∀ i, i = xs.length → J.stop i H') ∧ ∀ i d, xs[i]? = some d → J.go i H' ∧ ∀ x H'', J.yld i H' x H'' → ∃ fr'', Aft fr' FoX H' fr'' H'' ∧ Sim K G fr'' FoX H'' σv σd ∧ Rep K fr'' H'' x d := by
  obtain ⟨h1, h2⟩ := w fr' H' k1 k2 S.frs
  refine ⟨h1, fun i d e => ⟨(h2 i d e).1, fun x H'' y => ?_⟩⟩
  rcases (h2 i d e).2 x H'' y with ⟨rfl, r⟩ | ⟨p, o, hp, rfl, rfl, r⟩ | ⟨rfl | ⟨p, o, hp, rfl⟩, r⟩
  · exact ⟨fr', .refl S, S, r⟩
  · exact ⟨_, .grow S hp (fun _ f => .inl f) fun _ f => f, S.grow hp (fun _ f => .inl f) fun _ f => f, r⟩
  · exact ⟨_, .tups S, S.tups, r⟩
  · have S1 := S.grow (o := o) hp (fun _ f => f) fun _ f => .inl f
    exact ⟨_, (Aft.grow S hp (fun _ f => f) fun _ f => .inl f).trans (.tups S1), S1.tups, r⟩

theorem forL_cons {bd : D → List Sl → Option (List Sl)} {b : List Sl → Fw} {x : D} {xs : List D} {σ : List Sl} : forL bd b (x :: xs) σ = (match bd x σ with
    | none => .bad
    | some σ1 => match b σ1 with
      | .nx σ2 => forL bd b xs σ2
      | .ct σ2 => forL bd b xs σ2
      | .bk σ2 => .nx σ2
      | r => r) := rfl
theorem gs_for {t : Tg} {k : Ik} {es : E} {b : S} {wi : TI} {g : TG} {tb : TS} (hi : GI T K W cf k es wi) (hg : GG t K g) (hb : GS T K W cf b tb) :
    GS T K W cf (.for t k es b) (tFor wi g tb) := fun G fr Fo H σv σd D S hq => by
  simp only [exec, R.toFw] at hq
  cases ee : ev cf es σd with
  | bad => rw [ee] at hq; exact hq.elim
  | ex c fs σ1 =>
    rw [ee] at hq
    exact hi G fr Fo H σv σd _ S (by rw [ee]; exact hq σv)
  | ok ts σ1 =>
    rw [ee] at hq
    simp only at hq
    split at hq
    · exact hq.elim
    · rename_i ds el
      split at hq
      · rename_i xs ei
        split at hq
        · rename_i ec
          refine hi G fr Fo H σv σd _ S ?_
          rw [ee]
          simp only [IPost, el, ei]
          refine fun vs fr1 H1 J A1 S1 R1 wk => ?_
          have hL := srcF_none S1 (ts0 := ts) (fun _ f => f) (fun _ m => m) R1
          rw [hideS_calm ec] at hL
          have S1' := S1.moreA hL
          have more : ∀ x, Fo x → (Fo x ∨ srcF σ1 vs ts x) := fun x f => .inl f
          refine ⟨fun i m σ H' => m = xs.length - i ∧ i ≤ xs.length ∧ ∃ fr' σd', Aft fr1 (fun x => Fo x ∨ srcF σ1 vs ts x) H1 fr' H' ∧ Sim K G fr' (fun x => Fo x ∨ srcF σ1 vs ts x) H' σ σd' ∧
            FPost T K W G fr' Fo H' (forL (fun x s => bindT s t x false) (fun s => exec cf b s) (xs.drop i) σd') D, ⟨xs.length, by simp, Nat.zero_le _, fr1, σ1, .refl S1', S1', by rw [List.drop_zero]; exact FPost.from hq A1⟩, ?_⟩
          rintro i m σ H2 ⟨rfl, hi2, fr2, σ2, A2, S2, F2⟩
          obtain ⟨w1, w2⟩ := wk.at A2.keep (fun a f => (A2.out a (.inr f)).2) S2
          by_cases hlt : i < xs.length
          · obtain ⟨g1, g2⟩ := w2 i xs[i] (List.getElem?_eq_getElem hlt)
            refine .inr ⟨g1, fun σ' H' => ∃ fr' σd', Aft fr1 (fun x => Fo x ∨ srcF σ1 vs ts x) H1 fr' H' ∧ Sim K G fr' (fun x => Fo x ∨ srcF σ1 vs ts x) H' σ' σd' ∧ FPost T K W G fr' Fo H' (forL (fun x s => bindT s t x false) (fun s => exec cf b s) (xs.drop (i + 1)) σd') D,
              fun σ' H' p => ⟨xs.length - (i + 1), by omega, rfl, hlt, p⟩, fun x H3 y => ?_⟩
            obtain ⟨fr3, A3, S3, r3⟩ := g2 x H3 y
            rw [List.drop_eq_getElem_cons hlt, forL_cons] at F2
            split at F2
            · exact F2.elim
            · rename_i σ4 eb
              refine hg G fr3 _ H3 σ σ2 x xs[i] false σ4 _ S3 (.sh r3) eb fun σv4 _ S4 => ?_
              refine hb G fr3 _ H3 σv4 σ4 _ S4 ?_
              have A23 := A2.trans A3
              have F3 : ∀ {r : Fw}, FPost T K W G fr2 Fo H2 r D → FPost T K W G fr3 Fo H3 r D := fun h => FPost.from h (A3.less more)
              cases eb2 : exec cf b σ4 with
              | nx σ5 =>
                rw [eb2] at F2
                exact fun σv5 fr5 H5 A5 S5 => ⟨fr5, σ5, A23.trans A5, S5, FPost.from (F3 F2) (A5.less more)⟩
              | ct σ5 =>
                rw [eb2] at F2
                exact fun σv5 fr5 H5 A5 S5 => ⟨fr5, σ5, A23.trans A5, S5, FPost.from (F3 F2) (A5.less more)⟩
              | bk σ5 =>
                rw [eb2] at F2
                exact fun σv5 fr5 H5 A5 S5 => (F3 F2) σv5 fr5 H5 (A5.less more) (S5.less more)
              | rt d o σ5 =>
                rw [eb2] at F2
                exact fun σv5 v fr5 H5 A5 S5 R5 => (F3 F2) σv5 v fr5 H5 (A5.less more) (S5.less more) (R5.less more)
              | ex c fs σ5 =>
                rw [eb2] at F2
                exact fun σv5 cls dx fr5 H5 A5 S5 R5 => (F3 F2) σv5 cls dx fr5 H5 (A5.less more) (S5.less more) R5
              | bad =>
                rw [eb2] at F2
                exact F2.elim
          · have e : i = xs.length := by omega
            subst e
            rw [List.drop_length] at F2
            exact .inl ⟨w1 _ rfl, F2 σ fr2 H2 ((Aft.refl S2).less more) (S2.less more)⟩
        · exact hq.elim
      · exact hq.elim
theorem gs_par2 {i j : Nat} {es : E} {t : TA} (h : GA T K W cf es t) : GS T K W cf (.par [i, j] es) (tPar i j t) := fun G fr Fo H σv σd D S hq => by
  refine h G fr Fo H σv σd _ S ?_
  simp only [exec, R.toFw] at hq
  cases ee : ev cf es σd with
  | bad => rw [ee] at hq; exact hq
  | ex c fs σ1 => rw [ee] at hq; exact hq σv
  | ok ts σ1 =>
    rw [ee] at hq
    intro vs fr1 H1 A1 S1 R1
    simp only at hq
    split at hq
    · rename_i ds el
      obtain ⟨fr2, A2, S2, R2⟩ := R1.vals S1 el
      split at hq
      · rename_i σ2 ep
        have el2 := puts_length ep
        match ds, R2, ep, el2 with
        | [d1, d2], .cons r1 (.cons r2 .nil), ep, _ =>
          simp only [puts, Option.bind_eq_some_iff, Option.some.injEq] at ep
          obtain ⟨σ3, e1, σ4, e2, rfl⟩ := ep
          exact ⟨_, _, rfl, hq _ fr2 _ (A1.trans A2) ((S2.assign (.sh r1) e1).assign (.sh r2) e2)⟩
      · exact hq.elim
    · exact hq.elim
theorem putsG_length {σ σ2 : List Sl} : ∀ {is : List Nat} {gs : List (_root_.Fly.D × Bool)}, putsG σ is gs = some σ2 → is.length = gs.length
  | [], [], _ => rfl
  | [], _ :: _, h => nomatch h
  | _ :: _, [], h => nomatch h
  | i :: is, g :: gs, h => by
    simp only [putsG, Option.bind_eq_some_iff] at h
    obtain ⟨σ1, _, h⟩ := h
    simp [putsG_length h]
/-- what another name is given stays fit when the first has been stored -/
theorem RV.next {i : Nat} {v1 v2 : V} {t1 : Tok} {d1 d2 : _root_.Fly.D} {o1 o2 : Bool} {σ3 : List Sl} (g1 : give σd t1 = some (d1, o1)) (r1 : TR K fr H σv σd Fo v1 t1) (e1 : put σd i d1 o1 = some σ3) (r2 : RV K (addF Fo v1 t1) fr H σv σd v2 d2 o2) : RV K Fo fr H (σv.set i (some v1)) σ3 v2 d2 o2 := by
  cases r2 with
  | sh r => exact .sh r
  | @ow a d r h1 h2 h3 =>
    refine .ow r h1 (fun f => h2 (.inl f)) fun k p d ek ev => ?_
    unfold put at e1
    split at e1
    · cases e1
      rcases getElem?_set' ek with ⟨rfl, z⟩ | ⟨n, ek⟩
      · have hk : k < σv.length := by
          rcases Nat.lt_or_ge k σv.length with q | q
          · exact q
          · rw [List.getElem?_eq_none (by rw [List.length_set]; exact q)] at ev
            cases ev
        rw [List.getElem?_set_self hk] at ev
        cases ev
        split at z
        · rename_i ho
          subst ho
          refine h2 (.inr ⟨?_, rfl⟩)
          cases r1 with
          | tv h => cases g1
          | tf h q1 q2 q3 => exact ⟨_, rfl⟩
          | br h =>
            simp only [Fly.give] at g1
            split at g1 <;> cases g1
        · cases z
      · rw [List.getElem?_set_ne (Ne.symm n)] at ev
        exact h3 k p d ek ev
    · cases e1
theorem gs_parG2 {i j : Nat} {es : E} {t : TA} (h : GA T K W cf es t) : GS T K W cf (.parG [i, j] es) (tPar i j t) := fun G fr Fo H σv σd D S hq => by
  refine h G fr Fo H σv σd _ S ?_
  simp only [exec, R.toFw] at hq
  cases ee : ev cf es σd with
  | bad => rw [ee] at hq; exact hq
  | ex c fs σ1 => rw [ee] at hq; exact hq σv
  | ok ts σ1 =>
    rw [ee] at hq
    intro vs fr1 H1 A1 S1 R1
    simp only at hq
    split at hq
    · rename_i gs eg
      split at hq
      · rename_i σ2 ep
        have el := putsG_length ep
        match ts, vs, R1, eg with
        | [t1, t2], [v1, v2], ⟨r1, r2, _⟩, eg =>
          simp only [gives] at eg
          split at eg
          · rename_i g1 gs1 e1 e2
            split at e2
            · rename_i g2 gs2 e3 e4
              cases e4
              cases e2
              cases eg
              simp only [putsG, Option.bind_eq_some_iff, Option.some.injEq] at ep
              obtain ⟨σ3, p1, σ4, p2, rfl⟩ := ep
              have rv1 := r1.give S1 e1
              have rv2 := r2.give (S1.addF r1) e3
              exact ⟨v1, v2, rfl, hq _ fr1 _ A1 ((S1.assign rv1 p1).assign (RV.next e1 r1 p1 rv2) p2)⟩
            · cases e2
          · cases eg
        | [], _, _, eg => cases eg; simp at el
        | [_], _, _, eg =>
          simp only [gives] at eg
          split at eg
          · rename_i g1 gs1 e1 e2
            cases e2
            cases eg
            simp at el
          · cases eg
        | _ :: _ :: _ :: _, _, _, eg =>
          have lg : ∀ (ts : List Tok) (gs : List (_root_.Fly.D × Bool)), gives σ1 ts = some gs → gs.length = ts.length := by
            intro ts
            induction ts with
            | nil => intro gs h; cases h; rfl
            | cons t ts ih =>
              intro gs h
              simp only [gives] at h
              split at h
              · rename_i g gs1 h1 h2
                cases h
                simp [ih _ h2]
              · cases h
          have := lg _ _ eg
          simp at el this
          omega
        | [_, _], [], r, _ => exact r.elim
        | [_, _], [_], r, _ => exact r.2.elim
        | [_, _], _ :: _ :: _ :: _, r, _ => exact r.2.2.elim
      · exact hq.elim
    · exact hq.elim
theorem gs_par3 {i j l : Nat} {es : E} {t : TA} (h : GA T K W cf es t) : GS T K W cf (.par [i, j, l] es) (tPar3 i j l t) := fun G fr Fo H σv σd D S hq => by
  refine h G fr Fo H σv σd _ S ?_
  simp only [exec, R.toFw] at hq
  cases ee : ev cf es σd with
  | bad => rw [ee] at hq; exact hq
  | ex c fs σ1 => rw [ee] at hq; exact hq σv
  | ok ts σ1 =>
    rw [ee] at hq
    intro vs fr1 H1 A1 S1 R1
    simp only at hq
    split at hq
    · rename_i ds el
      obtain ⟨fr2, A2, S2, R2⟩ := R1.vals S1 el
      split at hq
      · rename_i σ2 ep
        have el2 := puts_length ep
        match ds, R2, ep, el2 with
        | [d1, d2, d3], .cons r1 (.cons r2 (.cons r3 .nil)), ep, _ =>
          simp only [puts, Option.bind_eq_some_iff, Option.some.injEq] at ep
          obtain ⟨σ3, e1, σ4, e2, σ5, e3, rfl⟩ := ep
          exact ⟨_, _, _, rfl, hq _ fr2 _ (A1.trans A2) (((S2.assign (.sh r1) e1).assign (.sh r2) e2).assign (.sh r3) e3)⟩
      · exact hq.elim
    · exact hq.elim
theorem gs_tryR {b : S} {c : Nat} {d : D} {v cv : V} {cu : Value} {tb : WX → TS} (hb : ∀ W', GS T K W' cf b (tb W')) (hc : PySem.W.exmOne K (T.cls c) cu = some true) (hv : ∀ fr H, Rep K fr H v d) :
    GS T K W cf (.tryR b c d) (fun D σ H => tb (wOnly K cu (fun _ _ _ => tSeq (tRet (tC v)) tNext) W D) D σ H) := fun G fr Fo H σv σd D S hq => by
  refine hb _ G fr Fo H σv σd D S ?_
  simp only [exec] at hq
  cases e : exec cf b σd with
  | nx σ1 => rw [e] at hq; exact hq
  | rt d o σ1 => rw [e] at hq; exact hq
  | bk σ1 => rw [e] at hq; exact hq
  | ct σ1 => rw [e] at hq; exact hq
  | bad => rw [e] at hq; exact hq
  | ex c' fs σ1 =>
    rw [e] at hq
    simp only at hq
    intro σv1 cls dx fr1 H1 A1 S1 R1
    split at hq
    · rename_i ec
      subst ec
      refine ⟨true, ?_, fun _ a ha => ?_, fun z => nomatch z⟩
      · rw [R1.1]; exact hc
      · exact hq σv1 v fr1 H1 A1 S1 (.sh (hv _ _))
    · exact hq.elim
theorem gs_while {c : E} {b : S} {tc : TT} {tb : TS} (hc : GB T K W cf c tc) (hb : GS T K W cf b tb) : GS T K W cf (.whl c b) (tWhile tc tb) := fun G fr Fo H σv σd D S hq => by
  simp only [exec] at hq
  refine ⟨fun m σ H' => ∃ fr' σd', Aft fr Fo H fr' H' ∧ Sim K G fr' Fo H' σ σd' ∧ FPost T K W G fr' Fo H' (whlL (fun s => asB (ev cf c s)) (fun s => exec cf b s) m σd') D, ⟨turns, fr, σd, .refl S, S, hq⟩, ?_⟩
  rintro m σ H1 ⟨fr1, σ1, A1, S1, F1⟩
  cases m with
  | zero => exact F1.elim
  | succ n =>
    simp only [whlL, RB.toFw] at F1
    refine hc G fr1 Fo H1 σ σ1 _ S1 ?_
    cases e : asB (ev cf c σ1) with
    | bad => rw [e] at F1; exact F1
    | ex c fs σ2 => rw [e] at F1; exact F1 σ
    | ok x σ2 =>
      rw [e] at F1
      cases x with
      | false =>
        intro fr2 H2 A2 S2
        rw [if_neg (by decide)]
        exact (show FPost T K W G fr1 Fo H1 (.nx σ2) D from F1) σ fr2 H2 A2 S2
      | true =>
        intro fr2 H2 A2 S2
        rw [if_pos rfl]
        refine ⟨fun σ' H' => ∃ fr' σd', Aft fr Fo H fr' H' ∧ Sim K G fr' Fo H' σ' σd' ∧ FPost T K W G fr' Fo H' (whlL (fun s => asB (ev cf c s)) (fun s => exec cf b s) n σd') D, fun σ' H' p => ⟨n, Nat.lt_succ_self n, p⟩, ?_⟩
        refine hb G fr2 Fo H2 σ σ2 _ S2 ?_
        simp only [if_true] at F1
        have A12 := A1.trans A2
        have F2 : ∀ {r : Fw}, FPost T K W G fr1 Fo H1 r D → FPost T K W G fr2 Fo H2 r D := fun h => FPost.from h A2
        cases eb2 : exec cf b σ2 with
        | nx σ5 =>
          rw [eb2] at F1
          exact fun σv5 fr5 H5 A5 S5 => ⟨fr5, σ5, A12.trans A5, S5, FPost.from (F2 F1) A5⟩
        | ct σ5 =>
          rw [eb2] at F1
          exact fun σv5 fr5 H5 A5 S5 => ⟨fr5, σ5, A12.trans A5, S5, FPost.from (F2 F1) A5⟩
        | bk σ5 => rw [eb2] at F1; exact F2 F1
        | rt d o σ5 => rw [eb2] at F1; exact F2 F1
        | ex c fs σ5 => rw [eb2] at F1; exact F2 F1
        | bad => rw [eb2] at F1; exact F1
end
end Fly
end

section
set_option Elab.async false
set_option linter.all false
set_option maxRecDepth 100000
set_option maxHeartbeats 4000000
/-! zip of two sequences, each a list or a tuple (FlyZip): the library's zip over iterators of any kind, by name. -/
namespace Fly
open PySem PySem.Spec PyProof.Rows L2
/-- t: is it a tuple -/
def Sq (K : PySem.W.Frag) (t : Bool) (H : Hp) (a : Addr) (xs : List V) : Prop := if t then SqT K H a xs else SqL K H a xs
def itN (t : Bool) : String := if t then "tuple_iterator" else "list_iterator"
def isS (t : Bool) (h : Heap) (a : Addr) (xs : Array Value) : Prop := if t then h.IsTuple a xs else h.IsList a xs
def isI (t : Bool) (h : Heap) (it a : Addr) (i : Nat) : Prop := if t then h.IsTupleIter it a i else h.IsListIter it a i
def objI (t : Bool) (a : Addr) : Obj := { cls := .type (itN t), data := .fields #[.ref a, .int 0 0] }
theorem sq_items {X : Cx} {pins : List (Addr × Obj)} {σ : L2.St} {H : Hp} {s : Shared} {a : Addr} {xs : List V} {t : Bool} (I : Inv X pins σ H s) (h : Sq X.K t H a xs) :
    ∃ its : List Value, Vals xs its ∧ isS t s.heap a its.toArray ∧ a < s.heap.objs.size := by
  cases t with
  | false => obtain ⟨its, r, p, _⟩ := I.list h; exact ⟨its, r, p.isList, p.lt⟩
  | true => obtain ⟨its, r, p, _⟩ := I.tuple h; exact ⟨its, r, p, p.lt⟩
theorem sq_inj {X : Cx} {pins : List (Addr × Obj)} {σ : L2.St} {H : Hp} {s : Shared} {a : Addr} {xs ys : List V} {t : Bool} (I : Inv X pins σ H s) (h : Sq X.K t H a xs) (h' : Sq X.K t H a ys) : xs = ys := by
  cases t with
  | false => exact I.list_inj h h'
  | true => exact I.tuple_inj h h'
theorem isI_obj {t : Bool} {h : Heap} {it a : Addr} {i : Nat} (x : isI t h it a i) : ∃ o, h.get? it = some o ∧ ∀ v, o.data ≠ .cell v := by
  cases t <;> exact (let ⟨o, e, _, d⟩ := x; ⟨o, e, fun v z => by rw [d] at z; cases z⟩)
theorem isI_keep {t : Bool} {h h' : Heap} {it a : Addr} {i : Nat} (x : isI t h it a i) (k : ∀ o, h.get? it = some o → h'.get? it = some o) : isI t h' it a i := by
  cases t
  · exact Heap.IsListIter.at x k
  · exact Heap.IsTupleIter.at x k
theorem drawsS {prog : Program} {w : World} {A : Around} (hh : A.handled = none) (it l : Addr) (hne : l ≠ it) (items : Array Value) (t : Bool) :
    Draws prog w A it [it, l] items.size (fun i v => items[i]? = some v) (fun i h => isI t h it l i ∧ isS t h l items) := by
  cases t
  · exact Draws.list hh it l hne items
  · exact Draws.tuple hh it l hne items
/-- the heap behind zip(x, y) -/
def zipAll (t u : Bool) (h : Heap) (a b : Addr) : Heap :=
  ((((h.push (objI t a)).push (objI u b)).push { cls := .type "tuple", data := .seq #[.ref h.objs.size, .ref (h.objs.size + 1)] }).push { cls := .type "tuple", data := .seq #[.none, .none] }).push
    { cls := .type "zip", data := .fields #[.none, .bool false, .bool false, .ref (h.objs.size + 2), .ref (h.objs.size + 3)] }
theorem zip_made (t u : Bool) (a b : Addr) (xs ys : Array Value) :
    Meets (Builtin.«zip.__new__» ⟨[.type "zip", .ref a, .ref b], []⟩) (fun _ R s => isS t s.heap a xs ∧ isS u s.heap b ys ∧ R (.ok (.ret (.ref (s.heap.objs.size + 4)))) { s with heap := zipAll t u s.heap a b }) :=
  .of_wp fun prog w A R s h => by
    obtain ⟨hp, g, d, tk, os⟩ := s
    obtain ⟨hx, hy, h⟩ := h
    have hsub := sub_zip
    cases t <;> cases u
    · have q1 : Heap.IsList (Shared.heap ⟨hp, g, d, tk, os⟩) a xs := hx
      have q2 : Heap.IsList (Shared.heap ⟨hp.push { cls := .type "list_iterator", data := .fields #[.ref a, .int 0 0] }, g, d, tk, os⟩) b ys := Heap.IsList.push hy _
      wp_walk using wpAny_pyIter_list q1, wpAny_pyIter_list q2
      exact ⟨_, rfl, by
        have e := h
        simp only [zipAll, objI, itN, Bool.false_eq_true, if_false] at e
        simp only [Heap.size_push]
        exact e⟩
    · have q1 : Heap.IsList (Shared.heap ⟨hp, g, d, tk, os⟩) a xs := hx
      have q2 : Heap.IsTuple (Shared.heap ⟨hp.push { cls := .type "list_iterator", data := .fields #[.ref a, .int 0 0] }, g, d, tk, os⟩) b ys := Heap.IsTuple.push hy _
      wp_walk using wpAny_pyIter_list q1, wpAny_pyIter_tuple q2
      exact ⟨_, rfl, by
        have e := h
        simp only [zipAll, objI, itN, Bool.false_eq_true, if_false, if_true] at e
        simp only [Heap.size_push]
        exact e⟩
    · have q1 : Heap.IsTuple (Shared.heap ⟨hp, g, d, tk, os⟩) a xs := hx
      have q2 : Heap.IsList (Shared.heap ⟨hp.push { cls := .type "tuple_iterator", data := .fields #[.ref a, .int 0 0] }, g, d, tk, os⟩) b ys := Heap.IsList.push hy _
      wp_walk using wpAny_pyIter_tuple q1, wpAny_pyIter_list q2
      exact ⟨_, rfl, by
        have e := h
        simp only [zipAll, objI, itN, Bool.false_eq_true, if_false, if_true] at e
        simp only [Heap.size_push]
        exact e⟩
    · have q1 : Heap.IsTuple (Shared.heap ⟨hp, g, d, tk, os⟩) a xs := hx
      have q2 : Heap.IsTuple (Shared.heap ⟨hp.push { cls := .type "tuple_iterator", data := .fields #[.ref a, .int 0 0] }, g, d, tk, os⟩) b ys := Heap.IsTuple.push hy _
      wp_walk using wpAny_pyIter_tuple q1, wpAny_pyIter_tuple q2
      exact ⟨_, rfl, by
        have e := h
        simp only [zipAll, objI, itN, if_true] at e
        simp only [Heap.size_push]
        exact e⟩
theorem push_at {h : Heap} {o : Obj} {n : Nat} (e : n = h.objs.size) (hf : o.isFreed = false) : (h.push o).get? n = some o := by
  subst e
  exact Heap.get?_push_size _ hf
/-- the turns -/
def ItzG (K : PySem.W.Frag) (t u : Bool) (a b : Addr) : It :=
  ⟨fun i H => ∃ (xs ys : List V) (x y : V), Sq K t H a xs ∧ Sq K u H b ys ∧ xs[i]? = some x ∧ ys[i]? = some y,
    fun i H v H' => ∃ T x y, v = .ref T ∧ H T = none ∧ H' = upd H T (.tup [x, y]) ∧ (∀ xs, Sq K t H a xs → xs[i]? = some x) ∧ ∀ ys, Sq K u H b ys → ys[i]? = some y,
    fun i H => ∃ xs ys : List V, Sq K t H a xs ∧ Sq K u H b ys ∧ i ≤ xs.length ∧ i ≤ ys.length ∧ (i = xs.length ∨ i = ys.length)⟩
def zipTn (t u : Bool) (a b z TI TO i1 i2 : Addr) (i : Nat) (h : Heap) : Prop :=
  (IsZip h z TI TO .none ∧ IsTupOf2 h TI (.ref i1) (.ref i2) ∧ ∃ x y, IsTupOf2 h TO x y) ∧ isI t h i1 a i ∧ isI u h i2 b i
theorem five {α : Type} {c z TI TO i1 i2 : α} (h : c ∈ [z, TI, TO, i1, i2]) : c = z ∨ c = TI ∨ c = TO ∨ c = i1 ∨ c = i2 := by simpa using h
theorem turn_zipG {P : Program} {w : World} {K : PySem.W.Frag} {elts : List Expr} {kk : Nat} {tpos : Pos} {t u : Bool} {a b z TI TO i1 i2 : Addr} (D : ZipSep2 z TI TO i1 i2 [i1, a] [i2, b]) (na : a ≠ i1) (nb : b ≠ i2) :
    Turn P w K (.Tuple elts kk tpos) (ItzG K t u a b) [z, TI, TO, i1, i2] z (zipTn t u a b z TI TO i1 i2) where
  mem := by simp
  obj := fun i h st c hc => by
    obtain ⟨⟨hz, hTI, x, y, hTO⟩, h1, h2⟩ := st
    rcases five hc with rfl | rfl | rfl | rfl | rfl
    · exact ⟨_, hz, fun v q => nomatch q⟩
    · exact ⟨_, hTI, fun v q => nomatch q⟩
    · exact ⟨_, hTO, fun v q => nomatch q⟩
    · exact isI_obj h1
    · exact isI_obj h2
  keep := fun i h h' st k => by
    obtain ⟨⟨hz, hTI, x, y, hTO⟩, h1, h2⟩ := st
    exact ⟨⟨k z (by simp) _ hz, k TI (by simp) _ hTI, x, y, k TO (by simp) _ hTO⟩, isI_keep h1 (k i1 (by simp)), isI_keep h2 (k i2 (by simp))⟩
  item := by
    intro X hP hw hK hc i pins s σ H E I hf st hg
    subst hP hw hK
    obtain ⟨⟨hz, hTI, x0, y0, hTO⟩, h1, h2⟩ := st
    obtain ⟨xs, ys, x, y, sx, sy, ex, ey⟩ := hg
    obtain ⟨its, rx, px, _⟩ := sq_items I sx
    obtain ⟨jts, ry, py, _⟩ := sq_items I sy
    obtain ⟨u1, eu, ru⟩ := rx.get ex
    obtain ⟨u2, ev, rv⟩ := ry.get ey
    have lx : i < its.toArray.size := by rw [List.size_toArray]; exact (List.getElem?_eq_some_iff.mp eu).1
    have ly : i < jts.toArray.size := by rw [List.size_toArray]; exact (List.getElem?_eq_some_iff.mp ev).1
    refine wpAny_pyNext_zipD2_item D (drawsS (A := X.A.in1) (I.ok.hd hc) i1 a na its.toArray t) (drawsS (A := X.A.in1) (I.ok.hd hc) i2 b nb jts.toArray u) hz hTI hTO ⟨h1, px⟩ ⟨h2, py⟩ lx ly fun w1 w2 h' tk e1 e2 z' TO' st1 st2 hT _ hk => ?_
    have e1 : w1 = u1 := by rw [List.getElem?_toArray, eu] at e1; exact (Option.some.inj e1).symm
    have e2 : w2 = u2 := by rw [List.getElem?_toArray, ev] at e2; exact (Option.some.inj e2).symm
    subst e1 e2
    have big : ∀ {c : Addr} {o : Obj}, s.heap.get? c = some o → c ≠ s.heap.objs.size := fun e => Nat.ne_of_lt (Heap.lt_size e)
    have kch : ∀ c o, c ∉ [z, TI, TO, i1, i2] → s.heap.get? c = some o → h'.get? c = some o := fun c o q e =>
      hk c o (fun z => q (by simp [z])) (fun z => q (by simp [z])) (fun z => q (by simp [z])) (fun z => q (by simp [z])) e
    refine ⟨_, rfl, wpAny_letOwnedTupleGo_zip (s := { s with heap := h', toks := tk }) z' fun h'' z'' sb => ?_⟩
    have kc : ∀ c o, c ∉ [z, TI, TO, i1, i2] → s.heap.get? c = some o → h''.get? c = some o := fun c o q e => (sb.2 c fun z => q (by simp [z])).trans (kch c o q e)
    have new : ObjOk X.prog X.w (upd H s.heap.objs.size (.tup [x, y])) h'' s.heap.objs.size (.tup [x, y]) :=
      ⟨by show 2 ≤ sizeLine; decide, [w1, w2], .cons ru (.cons rv .nil), ⟨_, (sb.2 _ (big hz).symm).trans hT, rfl, _, rfl⟩⟩
    refine ⟨.ref s.heap.objs.size, _, I.turnedNew (t' := tk) kc hf (Nat.le_refl _) new, rfl, ⟨_, x, y, rfl, I.hok.fresh (Nat.le_refl _), rfl, fun l hl => by rw [sq_inj I hl sx]; exact ex, fun l hl => by rw [sq_inj I hl sy]; exact ey⟩,
      ⟨⟨z'', ?_, w1, w2, ?_⟩, isI_keep st1.1 fun o q => (sb.2 _ D.zi1.symm).trans q, isI_keep st2.1 fun o q => (sb.2 _ D.zi2.symm).trans q⟩, fun c hcm => ?_⟩
    · exact (sb.2 _ D.TIz).trans (hk _ _ D.TIz D.TITO D.TIi1 D.TIi2 hTI)
    · exact (sb.2 _ D.TOz).trans TO'
    · have ne : c ≠ s.heap.objs.size := by
        rcases five hcm with rfl | rfl | rfl | rfl | rfl
        · exact big hz
        · exact big hTI
        · exact big hTO
        · exact big (isI_obj h1).choose_spec.1
        · exact big (isI_obj h2).choose_spec.1
      rw [upd_ne ne]
      exact (hf c hcm).1
  done := by
    intro X hP hw hK hc i pins s σ H E I hf st hg
    subst hP hw hK
    obtain ⟨⟨hz, hTI, x0, y0, hTO⟩, h1, h2⟩ := st
    obtain ⟨xs, ys, sx, sy, hx, hy, hend⟩ := hg
    obtain ⟨its, rx, px, _⟩ := sq_items I sx
    obtain ⟨jts, ry, py, _⟩ := sq_items I sy
    have l1 := rx.length
    have l2 := ry.length
    have s1 : its.toArray.size = xs.length := by rw [List.size_toArray]; exact l1.symm
    have s2 : jts.toArray.size = ys.length := by rw [List.size_toArray]; exact l2.symm
    refine wpAny_pyNext_zipD2_end D (drawsS (A := X.A.in1) (I.ok.hd hc) i1 a na its.toArray t) (drawsS (A := X.A.in1) (I.ok.hd hc) i2 b nb jts.toArray u) hz hTI hTO ⟨h1, px⟩ ⟨h2, py⟩ (by omega) (by omega) (by omega) fun h' tk hk => ⟨rfl, ?_⟩
    exact I.turnedL (ch := [z, TI, TO, i1, i2]) (fun c o q e => hk c o (fun z => q (by simp [z])) (fun z => q (by simp [z])) (fun z => q (by simp [z])) (fun z => q (by simp [z])) e) hf
  self := fun A i s Q E st h => wpAny_pyIter_zip st.1.1 h
/-- the new zip -/
theorem zip_new {prog : Program} {w : World} {A : Around} {E : Value → Shared → Prop} {s : Shared} {t u : Bool} {a b : Addr} {xs ys : Array Value} {Q : Value → Shared → Prop} (hx : isS t s.heap a xs) (hy : isS u s.heap b ys)
    (h : Q (.ref (s.heap.objs.size + 4)) { s with heap := zipAll t u s.heap a b }) : wpAny (model prog w) A (call (.type "zip") [.ref a, .ref b]) Q E s :=
  callType_new F.called_zip (by decide) (F.typeCall_zip_2 _ _) (F.newCall_zip_2 _ _) (fun obj => F.args_object_init_3 obj _ _) F.entry_zip_new (zip_made t u a b xs ys)
    ⟨hx, hy, ⟨_, push_at (by simp [Heap.size_push]) rfl, rfl⟩, h⟩
theorem isI_new (t : Bool) {h : Heap} {it a : Addr} (e : h.get? it = some (objI t a)) : isI t h it a 0 := by
  cases t <;> exact ⟨_, e, rfl, rfl⟩
def iZipG (K : PySem.W.Frag) (ta : TA) : TI := fun σ H R => ta σ H fun vs H1 => ∃ a b, vs = [.ref a, .ref b] ∧ ∃ t u xs ys, Sq K t H1 a xs ∧ Sq K u H1 b ys ∧ R (ItzG K t u a b) H1
theorem pi_zipG {X : Cx} {e e2 : Expr} {ta : TA} {p pos tpos : Pos} {elts : List Expr} {kk : Nat} (hg : Gl X "zip") (hm : X.mg "zip" = none) (ha : PA X [e, e2] ta)
    (hs : starEach [e, e2] X.env = (false, eval e X.env) :: starEach [e2] X.env := by rfl) (hpl : (backTo pos (starEach [e2] X.env)).any (·.1) = false := by rfl) :
    PI X (.Tuple elts kk tpos) (.Call (.Name "zip" p) [e, e2] [] pos) (iZipG X.K ta) := by
  refine ⟨fun pins s σ H R I h => ?_⟩
  refine Call_ (ld_blt I hg hm PyProof.Rows.boot_zip (PyProof.Rows.callWith_type1 (thn (ha.run pos pins s σ H _ I h) fun us s1 ⟨vs, H1, I1, r1, a, b, ex, t, u, xs, ys, sx, sy, q⟩ => ?_) hs hpl))
  subst ex
  obtain ⟨v1, v2, rfl, r2, r3⟩ := vals2 r1
  cases r2
  cases r3
  obtain ⟨its, rx, px, la⟩ := sq_items I1 sx
  obtain ⟨jts, ry, py, lb⟩ := sq_items I1 sy
  have k : ∀ c o, s1.heap.get? c = some o → (zipAll t u s1.heap a b).get? c = some o := fun c o e => by
    unfold zipAll
    iterate 5 refine Heap.get?_push_of_some _ ?_
    exact e
  have hz : IsZip (zipAll t u s1.heap a b) (s1.heap.objs.size + 4) (s1.heap.objs.size + 2) (s1.heap.objs.size + 3) .none := push_at (by simp [Heap.size_push]) rfl
  have g3 : (zipAll t u s1.heap a b).get? (s1.heap.objs.size + 3) = some _ := Heap.get?_push_of_some _ (push_at (by simp [Heap.size_push]) rfl)
  have g2 : (zipAll t u s1.heap a b).get? (s1.heap.objs.size + 2) = some _ := Heap.get?_push_of_some _ (Heap.get?_push_of_some _ (push_at (by simp [Heap.size_push]) rfl))
  have g1 : (zipAll t u s1.heap a b).get? (s1.heap.objs.size + 1) = some (objI u b) := Heap.get?_push_of_some _ (Heap.get?_push_of_some _ (Heap.get?_push_of_some _ (push_at (by simp [Heap.size_push]) rfl)))
  have g0 : (zipAll t u s1.heap a b).get? s1.heap.objs.size = some (objI t a) := Heap.get?_push_of_some _ (Heap.get?_push_of_some _ (Heap.get?_push_of_some _ (Heap.get?_push_of_some _ (push_at rfl rfl))))
  have na : ∀ k : Nat, s1.heap.objs.size + k ≠ a := fun k z => absurd la (by rw [← z]; exact Nat.not_lt.mpr (Nat.le_add_right _ _))
  have nb : ∀ k : Nat, s1.heap.objs.size + k ≠ b := fun k z => absurd lb (by rw [← z]; exact Nat.not_lt.mpr (Nat.le_add_right _ _))
  have nn : ∀ {k l : Nat}, k ≠ l → s1.heap.objs.size + k ≠ s1.heap.objs.size + l := fun h z => h (Nat.add_left_cancel z)
  have nn0 : ∀ {k : Nat}, k ≠ 0 → s1.heap.objs.size + k ≠ s1.heap.objs.size := fun h z => h (by omega)
  have nn1 : ∀ {k : Nat}, k ≠ 0 → s1.heap.objs.size ≠ s1.heap.objs.size + k := fun h z => nn0 h z.symm
  refine zip_new px py (wpAny_pyIter_zip hz ?_)
  refine ⟨_, [s1.heap.objs.size + 4, s1.heap.objs.size + 2, s1.heap.objs.size + 3, s1.heap.objs.size, s1.heap.objs.size + 1], _, _, H1, rfl, I1.kept (t' := s1.toks) k, turn_zipG (t := t) (u := u) (a := a) (b := b) (z := s1.heap.objs.size + 4) (TI := s1.heap.objs.size + 2) (TO := s1.heap.objs.size + 3) (i1 := s1.heap.objs.size) (i2 := s1.heap.objs.size + 1) ⟨?_, ?_, ?_, ?_, ?_, ?_, ?_, ?_, ?_, ?_, ?_, ?_, ?_⟩ ?_ ?_, ⟨⟨hz, g2, _, _, g3⟩, isI_new t g0, isI_new u g1⟩, fun c hc => ?fp, q⟩
  case fp =>
   have hle : s1.heap.objs.size ≤ c := by
    rcases five hc with rfl | rfl | rfl | rfl | rfl <;> omega
   exact I1.fpOk hle (I1.hok.fresh hle)
  all_goals first
    | exact List.mem_cons_self
    | (simp only [List.mem_cons, List.not_mem_nil, or_false, not_or]
       refine ⟨?_, ?_⟩ <;> first
         | exact na _
         | exact nb _
         | exact na 0
         | exact nb 0
         | exact (na 0).symm
         | exact (nb _).symm
         | exact nn (by decide)
         | exact nn0 (by decide)
         | exact nn1 (by decide))
    | exact nn (by decide)
    | exact nn0 (by decide)
    | exact nn1 (by decide)
    | exact (na 0).symm
    | exact (nb 1).symm
end Fly
end

section
set_option Elab.async false
set_option linter.all false
set_option maxRecDepth 100000
set_option maxHeartbeats 4000000
/-! Sources of loops, comprehensions, methods, stores (FlyLc). -/
namespace Fly
open PySem L2
section
variable {T : XT} {K : PySem.W.Frag} {W : WX} {cf : Nat → List Sl → CR} {G : Nat → V} {fr fr' Fo Fo' : AP} {H H' : Hp} {σv : St} {σd σd' : List Sl}

/-! ### sources -/
/-- data whose thing stays while a loop goes -/
inductive Rep1 (K : PySem.W.Frag) (fr : AP) (H : Hp) (L : AP) : V → D → Prop
  | sh {v d} : Rep K fr H v d → Rep1 K fr H L v d
  | ow {a d} : RepO K fr H a d → L a → Rep1 K fr H L (.ref a) d
inductive Rep1s (K : PySem.W.Frag) (fr : AP) (H : Hp) (L : AP) : List V → List D → Prop
  | nil : Rep1s K fr H L [] []
  | cons {v vs d ds} : Rep1 K fr H L v d → Rep1s K fr H L vs ds → Rep1s K fr H L (v :: vs) (d :: ds)
theorem Rep1s.more {L L' : AP} (h : ∀ x, L x → L' x) {vs : List V} {ds : List D} (r : Rep1s K fr H L vs ds) : Rep1s K fr H L' vs ds := by
  induction r with
  | nil => exact .nil
  | cons r _ ih =>
    refine .cons ?_ ih
    cases r with
    | sh r => exact .sh r
    | ow r l => exact .ow r (h _ l)
theorem TRs.src : ∀ {Fo' : AP} {vs : List V} {ts : List Tok} {ds : List D}, Sim K G fr Fo H σv σd → TRs K fr H σv σd Fo' vs ts → Fly.looks σd ts = some ds → Rep1s K fr H (srcF σd vs ts) vs ds
  | _, [], [], ds, S, _, e => by simp [Fly.looks] at e; subst e; exact .nil
  | Fo', v :: vs, t :: ts, ds, S, r, e => by
    unfold Fly.looks at e
    split at e
    · rename_i d ds' e1 e2
      cases e
      refine .cons ?_ ((TRs.src S r.2 e2).more fun x h => .inr h)
      cases r.1 with
      | tv h => cases e1; exact .sh h
      | tf h _ _ _ => cases e1; exact .ow h (.inl ⟨.inl ⟨_, rfl⟩, rfl⟩)
      | @br i v h =>
        simp only [Fly.look] at e1
        split at e1
        · rename_i q
          cases e1
          obtain ⟨u, h1, h2, _⟩ := S.slot i _ q
          rw [h] at h1; cases h1
          exact .sh h2
        · rename_i q
          cases e1
          obtain ⟨a, h1, h2, _⟩ := S.slot i _ q
          rw [h] at h1; cases h1
          exact .ow h2 (.inl ⟨.inr ⟨_, _, _, rfl, q⟩, rfl⟩)
        · cases e1
    · cases e
  | _, [], _ :: _, _, _, r, _ => r.elim
  | _, _ :: _, [], _, _, r, _ => r.elim
/-- a list that stays -/
theorem Rep1.sql {L : AP} {v : V} {ds : List D} (r : Rep1 K fr H L v (.lst ds)) : ∃ a xs, v = .ref a ∧ Reps K fr H xs ds ∧ xs.length ≤ sizeLine ∧ ∀ H', (∀ x, fr x → H' x = H x) → (∀ x, L x → H' x = H x) → SqL K H' a xs := by
  cases r with
  | sh r => cases r with | lst f h z r => exact ⟨_, _, rfl, r, z, fun H' k1 k2 => .of ((k1 _ f).trans h)⟩
  | ow r l => cases r with | lst h z r => exact ⟨_, _, rfl, r, z, fun H' k1 k2 => .of ((k2 _ l).trans h)⟩
theorem Rep1.sqt {L : AP} {v : V} {ds : List D} (r : Rep1 K fr H L v (.tup ds)) : ∃ a xs, v = .ref a ∧ Reps K fr H xs ds ∧ xs.length ≤ sizeLine ∧ ∀ H', (∀ x, fr x → H' x = H x) → (∀ x, L x → H' x = H x) → SqT K H' a xs := by
  cases r with
  | sh r =>
    cases r with
    | tup h z r =>
      refine ⟨_, _, rfl, r, z, fun H' k1 k2 => ?_⟩
      exact .inl (.inl ((k1 _ h.1).trans h.2))
  | ow r l => cases r
theorem Rep1.sqk {L : AP} {v : V} {ds : List D} (r : Rep1 K fr H L v (.kt ds)) : ∃ a xs, v = .ref a ∧ Reps K fr H xs ds ∧ xs.length ≤ sizeLine ∧ ∀ H', (∀ x, fr x → H' x = H x) → (∀ x, L x → H' x = H x) → SqT K H' a xs := by
  cases r with
  | sh r => cases r with | kt f n h z r => exact ⟨_, _, rfl, r, z, fun H' k1 k2 => .inl (.inr ⟨_, (k1 _ f).trans h⟩)⟩
  | ow r l => cases r
theorem Rep1.int {L : AP} {v : V} {i : Int} (r : Rep1 K fr H L v (.int i)) : v = .int i := by
  cases r with
  | sh r => cases r; rfl
  | ow r l => cases r
theorem gi_of {k : Ik} {es : E} {t : TA} {w : List V → Hp → (It → Hp → Prop) → Prop} (h : GA T K W cf es t)
    (hw : ∀ fr H L vs ds xs (R : It → Hp → Prop), (∀ a, fr a → H a ≠ none) → Rep1s K fr H L vs ds → items k ds = some xs → (∀ J, Walk K J xs fr H L → R J H) → w vs H R) :
    GI T K W cf k es (fun σ H R => t σ H fun vs H1 => w vs H1 R) := fun G fr Fo H σv σd R S hq => by
  refine h G fr Fo H σv σd _ S ?_
  cases ee : ev cf es σd with
  | bad => rw [ee] at hq; exact hq.elim
  | ex c fs σ1 => rw [ee] at hq; exact hq
  | ok ts σ1 =>
    rw [ee] at hq
    simp only [IPost] at hq
    split at hq
    · exact hq.elim
    · rename_i ds el
      split at hq
      · exact hq.elim
      · rename_i xs ei
        intro vs fr1 H1 A1 S1 R1
        exact hw fr1 H1 (srcF σ1 vs ts) vs ds xs R S1.frs (R1.src S1 el) ei fun J wk => hq vs fr1 H1 J A1 S1 R1 wk

theorem walk_itl {a : Addr} {xs : List V} {ds : List D} {L : AP} (r : Reps K fr H xs ds) (h : ∀ H', (∀ x, fr x → H' x = H x) → (∀ x, L x → H' x = H x) → SqL K H' a xs) : Walk K (Itl K a) ds fr H L := by
  intro fr' H' k1 k2 k3
  have q := h H' (fun x f => (k1 x f).2) k2
  refine ⟨fun i hj => have hi := Nat.le_of_eq hj.symm; ⟨xs, q, by rw [r.length]; exact hi⟩, fun i d e => ?_⟩
  obtain ⟨v, h1, h2⟩ := r.get e
  exact ⟨⟨xs, v, q, h1⟩, fun x H'' ⟨e1, y⟩ => .inl ⟨e1, by
    have e2 := y xs q
    rw [h1] at e2; cases e2
    exact h2.keep k1⟩⟩
theorem walk_itt {a : Addr} {xs : List V} {ds : List D} {L : AP} (r : Reps K fr H xs ds) (h : ∀ H', (∀ x, fr x → H' x = H x) → (∀ x, L x → H' x = H x) → SqT K H' a xs) : Walk K (Itt K a) ds fr H L := by
  intro fr' H' k1 k2 k3
  have q := h H' (fun x f => (k1 x f).2) k2
  refine ⟨fun i hj => have hi := Nat.le_of_eq hj.symm; ⟨xs, q, by rw [r.length]; exact hi⟩, fun i d e => ?_⟩
  obtain ⟨v, h1, h2⟩ := r.get e
  exact ⟨⟨xs, v, q, h1⟩, fun x H'' ⟨e1, y⟩ => .inl ⟨e1, by
    have e2 := y xs q
    rw [h1] at e2; cases e2
    exact h2.keep k1⟩⟩
theorem walk_itr {lo : Int} {n : Nat} {L : AP} : Walk K (Itr lo n) ((List.range n).map fun k => .int (lo + (k : Nat))) fr H L := by
  intro fr' H' k1 k2 k3
  refine ⟨fun i hj => have hi := Nat.le_of_eq hj.symm; (show n ≤ i by simpa using hi), fun i d e => ?_⟩
  have hi : i < n := by
    have := (List.getElem?_eq_some_iff.mp e).1
    simpa using this
  rw [List.getElem?_map, List.getElem?_range hi] at e
  cases e
  exact ⟨hi, fun x H'' ⟨e1, e2⟩ => .inl ⟨e1, by rw [e2]; exact .int _⟩⟩
/-- a list or a tuple -/
def iSeq (K : PySem.W.Frag) (ta : TA) : TI := fun σ H R => ta σ H fun vs H1 => ∃ a, vs = [.ref a] ∧ ((∃ xs, SqL K H1 a xs ∧ R (Itl K a) H1) ∨ (∃ xs, SqT K H1 a xs ∧ R (Itt K a) H1))
theorem gi_seq {es : E} {t : TA} (h : GA T K W cf es t) : GI T K W cf .seq es (iSeq K t) := by
  refine gi_of h fun fr H L vs ds xs R hf r ei hR => ?_
  match ds, r, ei with
  | [.tup l], .cons r1 .nil, e =>
    simp only [items, Option.some.injEq] at e
    subst e
    obtain ⟨a, ws, rfl, r2, z, q⟩ := r1.sqt
    exact ⟨a, rfl, .inr ⟨ws, q H (fun _ _ => rfl) (fun _ _ => rfl), hR _ (walk_itt r2 q)⟩⟩
  | [.lst l], .cons r1 .nil, e =>
    simp only [items, Option.some.injEq] at e
    subst e
    obtain ⟨a, ws, rfl, r2, z, q⟩ := r1.sql
    exact ⟨a, rfl, .inl ⟨ws, q H (fun _ _ => rfl) (fun _ _ => rfl), hR _ (walk_itl r2 q)⟩⟩
  | [.kt l], .cons r1 .nil, e =>
    simp only [items, Option.some.injEq] at e
    subst e
    obtain ⟨a, ws, rfl, r2, z, q⟩ := r1.sqk
    exact ⟨a, rfl, .inr ⟨ws, q H (fun _ _ => rfl) (fun _ _ => rfl), hR _ (walk_itt r2 q)⟩⟩
theorem smallI_iff {i : Int} (h : smallI i = true) : -(2 ^ 62) ≤ i ∧ i < 2 ^ 62 := by
  simpa [smallI] using h
theorem gi_range1 {es : E} {t : TA} (h : GA T K W cf es t) : GI T K W cf .range1 es (iRng1 t) := by
  refine gi_of h fun fr H L vs ds xs R hf r ei hR => ?_
  match ds, r, ei with
  | [.int n], .cons r1 .nil, e =>
    simp only [items] at e
    split at e
    · rename_i s
      cases e
      obtain ⟨h1, h2⟩ := smallI_iff s
      rw [r1.int]
      have wk : Walk K (Itr 0 n.toNat) ((List.range n.toNat).map fun k => .int (k : Nat)) fr H L := by
        have w := walk_itr (K := K) (fr := fr) (H := H) (L := L) (lo := 0) (n := n.toNat)
        simpa using w
      exact ⟨n, rfl, h1, h2, hR _ wk⟩
    · cases e
theorem gi_range2 {es : E} {t : TA} (h : GA T K W cf es t) : GI T K W cf .range2 es (iRng2 t) := by
  refine gi_of h fun fr H L vs ds xs R hf r ei hR => ?_
  match ds, r, ei with
  | [.int a, .int b], .cons r1 (.cons r2 .nil), e =>
    simp only [items] at e
    split at e
    · rename_i s
      cases e
      simp only [Bool.and_eq_true] at s
      obtain ⟨h1, h2⟩ := smallI_iff s.1
      obtain ⟨h3, h4⟩ := smallI_iff s.2
      rw [r1.int, r2.int]
      exact ⟨a, b, rfl, ⟨h1, h2, h3, h4⟩, hR _ walk_itr⟩
    · cases e
theorem walk_pair {v w : V} {d e : D} {fr' : AP} {H' : Hp} {p : Addr} (r1 : Rep K fr' H' v d) (r2 : Rep K fr' H' w e) (k3 : ∀ a, fr' a → H' a ≠ none) (hp : H' p = none) :
    Rep K (fun a => fr' a ∨ a = p) (upd H' p (.tup [v, w])) (.ref p) (.tup [d, e]) := by
  have k : ∀ a, fr' a → (fr' a ∨ a = p) ∧ upd H' p (.tup [v, w]) a = H' a := fun a f => ⟨.inl f, upd_ne fun z => k3 a f (z ▸ hp)⟩
  exact .tup ⟨.inr rfl, upd_same⟩ (by show 2 ≤ sizeLine; decide) (.cons (r1.keep k) (.cons (r2.keep k) .nil))
/-- one of the two that a zip walks -/
def SqAll (K : PySem.W.Frag) (t : Bool) (fr : AP) (H : Hp) (L : AP) (a : Addr) (xs : List V) : Prop := ∀ H', (∀ x, fr x → H' x = H x) → (∀ x, L x → H' x = H x) → Sq K t H' a xs
theorem zip_walk {t u : Bool} {a b : Addr} {xs ys : List V} {l m : List D} {L : AP} (x1 : Reps K fr H xs l) (x2 : Reps K fr H ys m) (q1 : SqAll K t fr H L a xs) (q2 : SqAll K u fr H L b ys) :
    Walk K (ItzG K t u a b) ((l.zip m).map fun p => .tup [p.1, p.2]) fr H L := by
  intro fr' H' k1 k2 k3
  have s1 := q1 H' (fun x f => (k1 x f).2) k2
  have s2 := q2 H' (fun x f => (k1 x f).2) k2
  refine ⟨fun i hi => ⟨xs, ys, s1, s2, ?_⟩, fun i d e => ?_⟩
  · rw [List.length_map, List.length_zip, ← x1.length, ← x2.length] at hi
    omega
  · simp only [List.getElem?_map, Option.map_eq_some_iff] at e
    obtain ⟨⟨d1, d2⟩, e1, rfl⟩ := e
    obtain ⟨g1, g2⟩ := List.getElem?_zip_eq_some.mp e1
    obtain ⟨v1, f1, f2⟩ := x1.get g1
    obtain ⟨v2, f3, f4⟩ := x2.get g2
    refine ⟨⟨xs, ys, v1, v2, s1, s2, f1, f3⟩, fun x H'' ⟨p, y1, y2, e2, hp, e3, y3, y4⟩ => .inr (.inl ⟨p, _, hp, e3, e2, ?_⟩)⟩
    have z1 := y3 xs s1
    have z2 := y4 ys s2
    rw [f1] at z1; cases z1
    rw [f3] at z2; cases z2
    rw [e2, e3]
    exact walk_pair (f2.keep k1) (f4.keep k1) k3 hp
theorem gi_zip {es : E} {t : TA} (h : GA T K W cf es t) : GI T K W cf .zip es (iZipG K t) := by
  refine gi_of h fun fr H L vs ds xs R hf r ei hR => ?_
  have go : ∀ {t u : Bool} {a b : Addr} {xs ys : List V} {l m : List D}, Reps K fr H xs l → Reps K fr H ys m → SqAll K t fr H L a xs → SqAll K u fr H L b ys → (∀ J, Walk K J ((l.zip m).map fun p => .tup [p.1, p.2]) fr H L → R J H) →
      ∃ a' b', [V.ref a, V.ref b] = [.ref a', .ref b'] ∧ ∃ t u xs ys, Sq K t H a' xs ∧ Sq K u H b' ys ∧ R (ItzG K t u a' b') H := fun {t u a b xs ys l m} x1 x2 q1 q2 hR =>
    ⟨a, b, rfl, t, u, xs, ys, q1 H (fun _ _ => rfl) (fun _ _ => rfl), q2 H (fun _ _ => rfl) (fun _ _ => rfl), hR _ (zip_walk x1 x2 q1 q2)⟩
  match ds, r, ei with
  | [.lst l, .lst m], .cons r1 (.cons r2 .nil), e =>
    cases e
    obtain ⟨a, xs, rfl, x1, z1, q1⟩ := r1.sql
    obtain ⟨b, ys, rfl, x2, z2, q2⟩ := r2.sql
    exact go (t := false) (u := false) x1 x2 q1 q2 hR
  | [.lst l, .tup m], .cons r1 (.cons r2 .nil), e =>
    cases e
    obtain ⟨a, xs, rfl, x1, z1, q1⟩ := r1.sql
    obtain ⟨b, ys, rfl, x2, z2, q2⟩ := r2.sqt
    exact go (t := false) (u := true) x1 x2 q1 q2 hR
  | [.tup l, .lst m], .cons r1 (.cons r2 .nil), e =>
    cases e
    obtain ⟨a, xs, rfl, x1, z1, q1⟩ := r1.sqt
    obtain ⟨b, ys, rfl, x2, z2, q2⟩ := r2.sql
    exact go (t := true) (u := false) x1 x2 q1 q2 hR
  | [.tup l, .tup m], .cons r1 (.cons r2 .nil), e =>
    cases e
    obtain ⟨a, xs, rfl, x1, z1, q1⟩ := r1.sqt
    obtain ⟨b, ys, rfl, x2, z2, q2⟩ := r2.sqt
    exact go (t := true) (u := true) x1 x2 q1 q2 hR
  | [.kt l, .tup m], .cons r1 (.cons r2 .nil), e =>
    cases e
    obtain ⟨a, xs, rfl, x1, z1, q1⟩ := r1.sqk
    obtain ⟨b, ys, rfl, x2, z2, q2⟩ := r2.sqt
    exact go (t := true) (u := true) x1 x2 q1 q2 hR
  | [.kt l, .kt m], .cons r1 (.cons r2 .nil), e =>
    cases e
    obtain ⟨a, xs, rfl, x1, z1, q1⟩ := r1.sqk
    obtain ⟨b, ys, rfl, x2, z2, q2⟩ := r2.sqk
    exact go (t := true) (u := true) x1 x2 q1 q2 hR

theorem gi_enum {es : E} {t : TA} (h : GA T K W cf es t) : GI T K W cf .enum es (iEnumA K t) := by
  refine gi_of h fun fr H L vs ds xs R hf r ei hR => ?_
  have at_ : ∀ {l : List D} {i : Nat} {d : D}, (((List.range l.length).zip l).map fun p => D.tup [.int (p.1 : Nat), p.2])[i]? = some d → ∃ x, l[i]? = some x ∧ d = .tup [.int (i : Nat), x] := by
    intro l i d e
    simp only [List.getElem?_map, Option.map_eq_some_iff] at e
    obtain ⟨⟨j, x⟩, e1, rfl⟩ := e
    obtain ⟨g1, g2⟩ := List.getElem?_zip_eq_some.mp e1
    have hi : i < l.length := (List.getElem?_eq_some_iff.mp g2).1
    rw [List.getElem?_range hi] at g1
    cases g1
    exact ⟨x, g2, rfl⟩
  match ds, r, ei with
  | [.lst l], .cons r1 .nil, e =>
    simp only [items, Option.some.injEq] at e
    subst e
    obtain ⟨a, ws, rfl, x1, z1, q1⟩ := r1.sql
    refine ⟨a, rfl, .inl ⟨ws, q1 H (fun _ _ => rfl) (fun _ _ => rfl), hR _ fun fr' H' k1 k2 k3 => ?_⟩⟩
    have s1 := q1 H' (fun x f => (k1 x f).2) k2
    refine ⟨fun i hj => have hi := Nat.le_of_eq hj.symm; ⟨ws, s1, ?_⟩, fun i d e => ?_⟩
    · rw [List.length_map, List.length_zip, List.length_range, Nat.min_self] at hi
      rw [x1.length]
      exact hi
    · obtain ⟨x, g2, rfl⟩ := at_ e
      obtain ⟨v2, f3, f4⟩ := x1.get g2
      refine ⟨⟨ws, v2, s1, f3⟩, fun x H'' ⟨p, y2, e2, hp, e3, y4⟩ => .inr (.inl ⟨p, _, hp, e3, e2, ?_⟩)⟩
      have z2 := y4 ws s1
      rw [f3] at z2; cases z2
      rw [e2, e3]
      exact walk_pair (.int _) (f4.keep k1) k3 hp
  | [.tup l], .cons r1 .nil, e =>
    simp only [items, Option.some.injEq] at e
    subst e
    obtain ⟨a, ws, rfl, x1, z1, q1⟩ := r1.sqt
    refine ⟨a, rfl, .inr ⟨ws, q1 H (fun _ _ => rfl) (fun _ _ => rfl), hR _ fun fr' H' k1 k2 k3 => ?_⟩⟩
    have s1 := q1 H' (fun x f => (k1 x f).2) k2
    refine ⟨fun i hj => have hi := Nat.le_of_eq hj.symm; ⟨ws, s1, ?_⟩, fun i d e => ?_⟩
    · rw [List.length_map, List.length_zip, List.length_range, Nat.min_self] at hi
      rw [x1.length]
      exact hi
    · obtain ⟨x, g2, rfl⟩ := at_ e
      obtain ⟨v2, f3, f4⟩ := x1.get g2
      refine ⟨⟨ws, v2, s1, f3⟩, fun x H'' ⟨p, y2, e2, hp, e3, y4⟩ => .inr (.inl ⟨p, _, hp, e3, e2, ?_⟩)⟩
      have z2 := y4 ws s1
      rw [f3] at z2; cases z2
      rw [e2, e3]
      exact walk_pair (.int _) (f4.keep k1) k3 hp
theorem walk_itc {lo : Int} {n : Nat} {L : AP} : Walk K (Itc lo (-1) n) ((List.range n).map fun k => .int (lo - (k : Nat))) fr H L := by
  intro fr' H' k1 k2 k3
  refine ⟨fun i hj => have hi := Nat.le_of_eq hj.symm; (show n ≤ i by simpa using hi), fun i d e => ?_⟩
  have hi : i < n := by
    have := (List.getElem?_eq_some_iff.mp e).1
    simpa using this
  rw [List.getElem?_map, List.getElem?_range hi] at e
  cases e
  refine ⟨hi, fun x H'' ⟨e1, e2⟩ => .inl ⟨e1, ?_⟩⟩
  rw [e2, show lo + ((i : Nat) : Int) * -1 = lo - (i : Nat) by omega]
  exact .int _
theorem walk_upc {lo c : Int} {n : Nat} {L : AP} : Walk K (Itc lo c n) ((List.range n).map fun k => .int (lo + (k : Nat) * c)) fr H L := by
  intro fr' H' k1 k2 k3
  refine ⟨fun i hj => have hi := Nat.le_of_eq hj.symm; (show n ≤ i by simpa using hi), fun i d e => ?_⟩
  have hi : i < n := by
    have := (List.getElem?_eq_some_iff.mp e).1
    simpa using this
  rw [List.getElem?_map, List.getElem?_range hi] at e
  cases e
  refine ⟨hi, fun x H'' ⟨e1, e2⟩ => .inl ⟨e1, ?_⟩⟩
  rw [e2]
  exact .int _
theorem rgc_up {a b c : Int} (h1 : -(2 ^ 62) ≤ a) (h2 : a < 2 ^ 62) (h3 : -(2 ^ 62) ≤ b) (h4 : b < 2 ^ 62) (h5 : 1 ≤ c) (h6 : c < 1073741824) : RgC a b c (upSz a b c) := by
  have z : Builtin.Range.rangeSize a b c = (upSz a b c : Int) := by
    unfold Builtin.Range.rangeSize upSz
    rw [if_pos (by omega)]
    split
    · have : 0 ≤ (b - a - 1) / c := Int.ediv_nonneg (by omega) (by omega)
      omega
    · rfl
  have le : (upSz a b c : Int) ≤ 9223372036854775807 := by
    unfold upSz
    split
    · have q1 : 0 ≤ (b - a - 1) / c := Int.ediv_nonneg (by omega) (by omega)
      have q2 : (b - a - 1) / c ≤ b - a - 1 := Int.ediv_le_self _ (by omega)
      omega
    · decide
  refine ⟨by omega, by omega, ?_, z⟩
  unfold Builtin.Range.small
  rw [z]
  simp only [Builtin.Range.rangeFitsLong, Bool.and_eq_true, Bool.or_eq_true, decide_eq_true_eq, beq_iff_eq]
  refine ⟨⟨⟨⟨by omega, by omega⟩, by omega⟩, by omega⟩, .inr ?_⟩
  rw [if_pos (by omega), Bool.and_eq_true, decide_eq_true_eq, decide_eq_true_eq]
  omega
theorem gi_range3 {es : E} {t : TA} (h : GA T K W cf es t) : GI T K W cf .range3 es (iRng3 t) := by
  refine gi_of h fun fr H L vs ds xs R hf r ei hR => ?_
  match ds, r, ei with
  | [.int a, .int b, .int c], .cons r1 (.cons r2 (.cons r3 .nil)), e =>
    simp only [items] at e
    split at e
    · rename_i s
      cases e
      simp only [Bool.and_eq_true, decide_eq_true_eq] at s
      obtain ⟨h1, h2⟩ := smallI_iff s.1.1
      obtain ⟨h3, h4⟩ := smallI_iff s.1.2
      rw [r1.int, r2.int, r3.int, s.2]
      exact ⟨a, b, -1, (a - b).toNat, rfl, .neg h1 h2 h3 h4, hR _ walk_itc⟩
    · split at e
      · rename_i s
        cases e
        simp only [Bool.and_eq_true, decide_eq_true_eq] at s
        obtain ⟨h1, h2⟩ := smallI_iff s.1.1
        obtain ⟨h3, h4⟩ := smallI_iff s.1.2
        rw [r1.int, r2.int, r3.int]
        exact ⟨a, b, c, upSz a b c, rfl, rgc_up h1 h2 h3 h4 s.2.1 s.2.2, hR _ walk_upc⟩
      · cases e

/-! ### comprehensions -/
theorem dropS_get : ∀ {is : List Nat} {σ : List Sl} {j : Nat} {s : Sl}, (dropS σ is)[j]? = some s → (j ∈ is ∧ s = .un) ∨ (j ∉ is ∧ σ[j]? = some s)
  | [], σ, j, s, h => .inr ⟨by simp, h⟩
  | i :: is, σ, j, s, h => by
    simp only [dropS] at h
    rcases getElem?_set' h with ⟨z1, z2⟩ | ⟨n, h⟩
    · exact .inl ⟨by simp [z1], z2⟩
    · rcases dropS_get h with ⟨z1, z2⟩ | ⟨z1, z2⟩
      · exact .inl ⟨List.mem_cons_of_mem _ z1, z2⟩
      · exact .inr ⟨by simp [n, z1], z2⟩
theorem dropS_at : ∀ {is : List Nat} {σ : List Sl} {j : Nat} {s : Sl}, j ∉ is → σ[j]? = some s → (dropS σ is)[j]? = some s
  | [], _, _, _, _, e => e
  | i :: is, σ, j, s, h, e => by
    simp only [List.mem_cons, not_or] at h
    simp only [dropS]
    rw [List.getElem?_set_ne (Ne.symm h.1)]
    exact dropS_at h.2 e
theorem dropS_length : ∀ {is : List Nat} {σ : List Sl}, (dropS σ is).length = σ.length
  | [], _ => rfl
  | i :: is, σ => by simp only [dropS, List.length_set]; exact dropS_length
theorem wipe_get : ∀ {is : List Nat} {σ : St} {j : Nat}, j ∉ is → (wipe σ is)[j]? = σ[j]?
  | [], _, _, _ => rfl
  | i :: is, σ, j, h => by
    simp only [List.mem_cons, not_or] at h
    simp only [wipe]
    rw [List.getElem?_set_ne (Ne.symm h.1)]
    exact wipe_get h.2
theorem Sim.block {is : List Nat} (S : Sim K G fr Fo H σv σd) : Sim K G fr Fo H (wipe σv is) (dropS σd is) := by
  refine ⟨by rw [dropS_length, wipe_length]; exact S.len, fun j s e => ?_, fun i j p q d e a h1 h2 h3 h4 => ?_, S.frs, S.fos⟩
  · rcases dropS_get e with ⟨_, rfl⟩ | ⟨n, e⟩
    · exact True.intro
    · rw [wipe_get n]; exact S.slot j s e
  · rcases dropS_get h1 with ⟨_, z⟩ | ⟨n1, h1⟩
    · cases z
    · rcases dropS_get h2 with ⟨_, z⟩ | ⟨n2, h2⟩
      · cases z
      · rw [wipe_get n1] at h3
        rw [wipe_get n2] at h4
        exact S.sep i j p q d e a h1 h2 h3 h4
/-- from one turn to the next -/
theorem Sim.turn {is : List Nat} {σ2 : St} (S : Sim K G fr Fo H σ2 σd) (e : wipe σ2 is = wipe σv is) : Sim K G fr Fo H (wipe σv is) (dropS σd is) := e ▸ S.block
theorem unwipe_get {σ0 : List Sl} : ∀ {is : List Nat} {σ : List Sl} {j : Nat} {s : Sl}, σ.length = σ0.length → (unwipeS σ0 σ is)[j]? = some s → (j ∈ is ∧ σ0[j]? = some s) ∨ (j ∉ is ∧ σ[j]? = some s)
  | [], σ, j, s, _, h => .inr ⟨by simp, h⟩
  | i :: is, σ, j, s, hl, h => by
    simp only [unwipeS] at h
    by_cases hj : i = j
    · subst hj
      refine .inl ⟨by simp, ?_⟩
      rw [List.getElem?_set_self'] at h
      have hlt : i < σ0.length := by
        cases q : (unwipeS σ0 σ is)[i]? with
        | none => rw [q] at h; cases h
        | some y =>
          have hlen : ∀ (is : List Nat), (unwipeS σ0 σ is).length = σ.length := by
            intro is
            induction is with
            | nil => rfl
            | cons k ks ih => simp only [unwipeS, List.length_set]; exact ih
          have := (List.getElem?_eq_some_iff.mp q).1
          rw [hlen] at this
          omega
      cases q : (unwipeS σ0 σ is)[i]? with
      | none => rw [q] at h; cases h
      | some y =>
        rw [q] at h
        cases h
        rw [List.getElem?_eq_getElem hlt, List.getD_eq_getElem?_getD, List.getElem?_eq_getElem hlt]
        rfl
    · rw [List.getElem?_set_ne hj] at h
      rcases unwipe_get hl h with ⟨z1, z2⟩ | ⟨z1, z2⟩
      · exact .inl ⟨List.mem_cons_of_mem _ z1, z2⟩
      · exact .inr ⟨by simp [Ne.symm hj, z1], z2⟩
theorem unwipe_length {σ0 σ : List Sl} : ∀ (is : List Nat), (unwipeS σ0 σ is).length = σ.length
  | [] => rfl
  | i :: is => by simp only [unwipeS, List.length_set]; exact unwipe_length is
theorem calmO_get : ∀ {is : List Nat} {j : Nat} {s : Sl}, calmO σd is = true → j ∈ is → σd[j]? = some s → s = .un ∨ ∃ p d, s = .fz p d
  | i :: is, j, s, h, hj, e => by
    simp only [calmO, Bool.and_eq_true] at h
    rcases List.mem_cons.mp hj with z | z
    · subst z
      rw [e] at h
      cases s with
      | un => exact .inl rfl
      | fz p d => exact .inr ⟨p, d, rfl⟩
      | lk => exact absurd h.1 (by simp)
      | ow p d => exact absurd h.1 (by simp)
    · exact calmO_get h.2 z e
theorem Sim.unblock {is : List Nat} {σ3 : List Sl} (S : Sim K G fr Fo H σv σd) (A : Aft fr Fo H fr' H') (hc : calmO σd is = true) (S3 : Sim K G fr' Fo H' (wipe σv is) (dropS σ3 is)) : Sim K G fr' Fo H' σv (unwipeS σd σ3 is) := by
  have hl : σ3.length = σd.length := by
    have := S3.len
    rw [dropS_length, wipe_length] at this
    rw [this, S.len]
  have d3 : ∀ {j s}, j ∉ is → σ3[j]? = some s → (dropS σ3 is)[j]? = some s := by
    have go : ∀ (is : List Nat) (j : Nat), j ∉ is → (dropS σ3 is)[j]? = σ3[j]? := by
      intro is
      induction is with
      | nil => intro j _; rfl
      | cons k ks ih =>
        intro j h
        simp only [List.mem_cons, not_or] at h
        simp only [dropS]
        rw [List.getElem?_set_ne (Ne.symm h.1)]
        exact ih j h.2
    intro j s h e
    rw [go is j h]; exact e
  refine ⟨by rw [unwipe_length, hl]; exact S.len, fun j s e => ?_, fun i j p q d e a h1 h2 h3 h4 => ?_, S3.frs, S3.fos⟩
  · rcases unwipe_get hl e with ⟨m, e⟩ | ⟨n, e⟩
    · rcases calmO_get hc m e with rfl | ⟨p, d, rfl⟩
      · exact True.intro
      · obtain ⟨v, h1, h2, h3⟩ := S.slot j _ e
        exact ⟨v, h1, h2.keep A.keep, h3⟩
    · have q := S3.slot j s (d3 n e)
      rw [wipe_get n] at q
      exact q
  · rcases unwipe_get hl h1 with ⟨m, h1⟩ | ⟨n1, h1⟩
    · rcases calmO_get hc m h1 with z | ⟨_, _, z⟩ <;> cases z
    · rcases unwipe_get hl h2 with ⟨m, h2⟩ | ⟨n2, h2⟩
      · rcases calmO_get hc m h2 with z | ⟨_, _, z⟩ <;> cases z
      · exact S3.sep i j p q d e a (d3 n1 h1) (d3 n2 h2) (by rw [wipe_get n1]; exact h3) (by rw [wipe_get n2]; exact h4)
/-- a thing outside is turned -/
theorem Sim.poke {D0 : Addr} {o : HO} (S : Sim K G fr Fo H σv σd) (hf : Fo D0) (hn : NT (some o)) : Sim K G fr Fo (upd H D0 o) σv σd := by
  have ne : ∀ a, fr a → a ≠ D0 := fun a f e => (S.fos D0 hf).2.1 (e ▸ f)
  have k : ∀ a, fr a → fr a ∧ upd H D0 o a = H a := fun a f => ⟨f, upd_ne (ne a f)⟩
  refine ⟨S.len, fun i s e => ?_, S.sep, fun a f => by rw [upd_ne (ne a f)]; exact S.frs a f, fun a f => ⟨?_, (S.fos a f).2.1, ?_⟩⟩
  · have q := S.slot i s e
    cases s with
    | un => exact q
    | lk => exact q
    | fz b d => obtain ⟨v, h1, h2, h3⟩ := q; exact ⟨v, h1, h2.keep k, h3⟩
    | ow b d =>
      obtain ⟨a, h1, h2, h3, h4, h5⟩ := q
      exact ⟨a, h1, h2.keep k (upd_ne fun z => h4 (z ▸ hf)), h3, h4, h5⟩
  · by_cases e : a = D0
    · subst e; rw [upd_same]; simp
    · rw [upd_ne e]; exact (S.fos a f).1
  · by_cases e : a = D0
    · subst e; rw [upd_same]; exact hn
    · rw [upd_ne e]; exact (S.fos a f).2.2
abbrev WF : WX := fun _ _ _ _ => False
theorem lcL_cons {own : List Nat} {bd : D → List Sl → Option (List Sl)} {cnd : List Sl → RB} {el : List Sl → R} {x : D} {xs : List D} {σ : List Sl} {acc : List D} : lcL own bd cnd el (x :: xs) σ acc = (match bd x (dropS σ own) with
    | none => .bad
    | some σ1 => match cnd σ1 with
      | .ok true σ2 => match el σ2 with
        | .ok [t] σ3 => match val σ3 t with
          | some d => if acc.length < szLine then lcL own bd cnd el xs σ3 (acc ++ [d]) else .bad
          | none => .bad
        | _ => .bad
      | .ok false σ2 => lcL own bd cnd el xs σ2 acc
      | _ => .bad) := rfl
theorem showS_get {σ0 σ : List Sl} : ∀ {ts : List Tok} {j : Nat} {s : Sl}, (showS σ0 σ ts)[j]? = some s → (Tok.br j ∈ ts ∧ ∃ p d, σ0[j]? = some (.ow p d) ∧ s = .ow p d) ∨ (σ[j]? = some s ∧ ¬ (Tok.br j ∈ ts ∧ ∃ p d, σ0[j]? = some (.ow p d)))
  | [], j, s, h => .inr ⟨h, fun z => by simp at z⟩
  | .tv _ :: ts, j, s, h => by
    rcases showS_get (ts := ts) h with ⟨z1, z2⟩ | ⟨z1, z2⟩
    · exact .inl ⟨List.mem_cons_of_mem _ z1, z2⟩
    · exact .inr ⟨z1, fun z => z2 ⟨by simpa using z.1, z.2⟩⟩
  | .tf _ :: ts, j, s, h => by
    rcases showS_get (ts := ts) h with ⟨z1, z2⟩ | ⟨z1, z2⟩
    · exact .inl ⟨List.mem_cons_of_mem _ z1, z2⟩
    · exact .inr ⟨z1, fun z => z2 ⟨by simpa using z.1, z.2⟩⟩
  | .br i :: ts, j, s, h => by
    have key : ∀ s, (showS σ0 σ ts)[j]? = some s → (¬ ∃ p d, σ0[i]? = some (.ow p d)) ∨ j ≠ i → (Tok.br j ∈ .br i :: ts ∧ ∃ p d, σ0[j]? = some (.ow p d) ∧ s = .ow p d) ∨ (σ[j]? = some s ∧ ¬ (Tok.br j ∈ .br i :: ts ∧ ∃ p d, σ0[j]? = some (.ow p d))) := by
      intro s h hn
      rcases showS_get (ts := ts) h with ⟨z1, z2⟩ | ⟨z1, z2⟩
      · exact .inl ⟨List.mem_cons_of_mem _ z1, z2⟩
      · refine .inr ⟨z1, fun z => ?_⟩
        obtain ⟨m, p, d, e⟩ := z
        rcases List.mem_cons.mp m with e2 | m
        · cases e2
          exact hn.elim (fun n => n ⟨p, d, e⟩) fun n => n rfl
        · exact z2 ⟨m, p, d, e⟩
    unfold showS at h
    split at h
    · rename_i p d e
      rcases getElem?_set' h with ⟨z1, z2⟩ | ⟨n, h⟩
      · subst z1
        exact .inl ⟨by simp, p, d, e, z2⟩
      · exact key s h (.inr n)
    · rename_i e
      exact key s h (.inl fun ⟨p, d, z⟩ => e p d z)
theorem showS_length {σ0 σ : List Sl} : ∀ (ts : List Tok), (showS σ0 σ ts).length = σ.length
  | [] => rfl
  | .tv _ :: ts => showS_length ts
  | .tf _ :: ts => showS_length ts
  | .br i :: ts => by
    unfold showS
    split
    · rw [List.length_set]; exact showS_length ts
    · exact showS_length ts
theorem srcF_br : ∀ {vs : List V} {ts : List Tok} {Fo' : AP} {j : Nat} {p : Bool} {d : D} {a : Addr}, TRs K fr H σv σd Fo' vs ts → Tok.br j ∈ ts → σd[j]? = some (.ow p d) → σv[j]? = some (some (.ref a)) → srcF σd vs ts a
  | [], [], _, _, _, _, _, _, m, _, _ => by simp at m
  | [], _ :: _, _, _, _, _, _, r, _, _, _ => r.elim
  | _ :: _, [], _, _, _, _, _, r, _, _, _ => r.elim
  | v :: vs, t :: ts, Fo', j, p, d, a, r, m, e, ev => by
    rcases List.mem_cons.mp m with rfl | m
    · cases r.1 with
      | br h =>
        rw [ev] at h
        cases h
        exact .inl ⟨.inr ⟨j, p, d, rfl, e⟩, rfl⟩
    · exact .inr (srcF_br r.2 m e ev)
/-- what was away comes back -/
theorem Sim.unhide {vs : List V} {ts : List Tok} {fr1 fr2 : AP} {H1 H2 : Hp} {σ5 : List Sl} (S1 : Sim K G fr1 Fo H1 σv σd) (R1 : TRs K fr1 H1 σv σd Fo vs ts)
    (S5 : Sim K G fr2 (fun x => Fo x ∨ srcF σd vs ts x) H2 σv σ5) (k : ∀ a, fr1 a → fr2 a ∧ H2 a = H1 a) (ou : ∀ a, srcF σd vs ts a → H2 a = H1 a) : Sim K G fr2 Fo H2 σv (showS σd σ5 ts) := by
  refine ⟨by rw [showS_length]; exact S5.len, fun i s e => ?_, fun i j p q d e a h1 h2 h3 h4 => ?_, S5.frs, fun a f => S5.fos a (.inl f)⟩
  · rcases showS_get e with ⟨m, p, d, e0, rfl⟩ | ⟨e, _⟩
    · obtain ⟨a, k1, k2, k3, k4, k5⟩ := S1.slot i _ e0
      have sa := srcF_br R1 m e0 k1
      exact ⟨a, k1, k2.keep k (ou a sa), (S5.fos a (.inr sa)).2.1, k4, k5⟩
    · have q := S5.slot i s e
      cases s with
      | un => exact q
      | lk => exact q
      | fz b d => exact q
      | ow b d =>
        obtain ⟨a, k1, k2, k3, k4, k5⟩ := q
        exact ⟨a, k1, k2, k3, fun f => k4 (.inl f), k5⟩
  · have none : ∀ {i j : Nat} {p q : Bool} {d e : D}, Tok.br i ∈ ts → σd[i]? = some (.ow p d) → σ5[j]? = some (.ow q e) → σv[i]? = some (some (.ref a)) → σv[j]? = some (some (.ref a)) → False := by
      intro i j p q d e m e0 e5 v1 v2
      obtain ⟨b, k1, _, _, k4, _⟩ := S5.slot j _ e5
      rw [v2] at k1
      cases k1
      exact k4 (.inr (srcF_br R1 m e0 v1))
    rcases showS_get h1 with ⟨m1, p1, d1, e1, z1⟩ | ⟨h1, _⟩
    · rcases showS_get h2 with ⟨m2, p2, d2, e2, z2⟩ | ⟨h2, _⟩
      · exact S1.sep i j _ _ _ _ a e1 e2 h3 h4
      · exact (none m1 e1 h2 h3 h4).elim
    · rcases showS_get h2 with ⟨m2, p2, d2, e2, z2⟩ | ⟨h2, _⟩
      · exact (none m2 e2 h1 h4 h3).elim
      · exact S5.sep i j p q d e a h1 h2 h3 h4
theorem ge_lc {elt cnd : E} {t : Tg} {k : Ik} {es : E} {wi : TI} {g : TG} {tt : TT} {te : TE} (hi : GI T K W cf k es wi) (hg : GG t K g) (hc : GB T K WF cf cnd tt) (he : GE T K WF cf elt te) :
    GE T K W cf (.lc elt t k es cnd) (tLc wi g tt te t.own) := fun G fr Fo H σv σd Q S hq => by
  simp only [ev, R.andThen] at hq
  refine hi G fr Fo H σv σd _ S ?_
  cases ee : ev cf es σd with
  | bad => rw [ee] at hq; exact hq.elim
  | ex c fs σ1 => rw [ee] at hq; exact hq
  | ok ts σ1 =>
    rw [ee] at hq
    simp only at hq
    simp only [IPost]
    split at hq
    · exact hq.elim
    · rename_i ds el
      split at hq
      · rename_i xs ei
        split at hq
        · rename_i ec
          try rw [el]
          simp only [ei]
          refine fun vs fr1 H1 J A1 S1 R1 wk => fun D0 hD => ?_
          have SL := (S1.hide (ts := ts)).moreA (srcF_none S1 (ts0 := ts) (fun _ f => f) (fun _ m => m) R1)
          have more : ∀ x, Fo x → (Fo x ∨ srcF σ1 vs ts x) := fun x f => .inl f
          have more3 : ∀ x, (Fo x ∨ srcF σ1 vs ts x) → ((Fo x ∨ srcF σ1 vs ts x) ∨ x = D0) := fun x f => .inl f
          have nD : ¬ (Fo D0 ∨ srcF σ1 vs ts D0) := fun f => (SL.fos _ f).1 hD
          have nF : ¬ fr1 D0 := fun f => S1.frs _ f hD
          refine ⟨fun i m H2 => m = xs.length - i ∧ i ≤ xs.length ∧ ∃ fr2 σ2 acc accV, Aft fr1 (fun x => Fo x ∨ srcF σ1 vs ts x) H1 fr2 H2 ∧ Sim K G fr2 (fun x => (Fo x ∨ srcF σ1 vs ts x) ∨ x = D0) H2 (wipe σv t.own) (dropS σ2 t.own) ∧
              H2 D0 = some (.lst accV) ∧ accV.length ≤ sizeLine ∧ Reps K fr2 H2 accV acc ∧ RPost T K W G fr Fo H σv ((lcL t.own (fun x s => bindT s t x false) (fun s => asB (ev cf cnd s)) (fun s => ev cf elt s) (xs.drop i) σ2 acc).andThen fun us σ3 => .ok us (showS σ1 (unwipeS (hideS σ1 ts) σ3 t.own) ts)) (fun vs H' => ∀ v, vs = [v] → Q v H'),
            ⟨xs.length, by simp, Nat.zero_le _, fr1, hideS σ1 ts, [], [], .grow SL hD (fun _ f => f) fun _ f => .inl f, ?_, upd_same, Nat.zero_le _, .nil, by rw [List.drop_zero]; exact hq⟩, ?_⟩
          · exact ((SL.grow hD (fun _ f => f) fun _ f => .inl f).block).more (by rw [upd_same]; simp) nF (SL.block.apart_new hD) (fun xs z => by rw [upd_same] at z; cases z)
          rintro i m H2 ⟨rfl, hi2, fr2, σ2, acc, accV, A2, S2, hD2, hz2, r2, F2⟩
          obtain ⟨w1, w2⟩ := wk.at A2.keep (fun a f => (A2.out a (.inr f)).2) S2
          by_cases hlt : i < xs.length
          · obtain ⟨g1, g2⟩ := w2 i xs[i] (List.getElem?_eq_getElem hlt)
            refine .inr ⟨g1, fun H2 => ∃ fr2 σ2 acc accV, Aft fr1 (fun x => Fo x ∨ srcF σ1 vs ts x) H1 fr2 H2 ∧ Sim K G fr2 (fun x => (Fo x ∨ srcF σ1 vs ts x) ∨ x = D0) H2 (wipe σv t.own) (dropS σ2 t.own) ∧
              H2 D0 = some (.lst accV) ∧ accV.length ≤ sizeLine ∧ Reps K fr2 H2 accV acc ∧ RPost T K W G fr Fo H σv ((lcL t.own (fun x s => bindT s t x false) (fun s => asB (ev cf cnd s)) (fun s => ev cf elt s) (xs.drop (i + 1)) σ2 acc).andThen fun us σ3 => .ok us (showS σ1 (unwipeS (hideS σ1 ts) σ3 t.own) ts)) (fun vs H' => ∀ v, vs = [v] → Q v H'),
              fun H' p => ⟨xs.length - (i + 1), by omega, rfl, hlt, p⟩, fun x H3 y => ?_⟩
            obtain ⟨fr3, A3, S3, r3⟩ := g2 x H3 y
            rw [List.drop_eq_getElem_cons hlt, lcL_cons] at F2
            split at F2
            · exact F2.elim
            rename_i σ4 eb
            refine hg G fr3 _ H3 _ _ x xs[i] false σ4 _ S3 (.sh r3) eb fun σv4 hw4 S4 => ?_
            rw [wipe_wipe] at hw4
            refine ⟨hw4, ?_⟩
            refine hc G fr3 _ H3 σv4 σ4 _ S4 ?_
            cases ec2 : asB (ev cf cnd σ4) with
            | bad => rw [ec2] at F2; exact F2.elim
            | ex c fs σ5 => rw [ec2] at F2; exact F2.elim
            | ok b σ5 =>
              rw [ec2] at F2
              intro fr5 H5 A5 S5
              have A25 := A2.trans ((A3.trans A5).less more3)
              have hD5 : H5 D0 = some (.lst accV) := ((A3.trans A5).out D0 (.inr rfl)).2.trans hD2
              have r5 : Reps K fr5 H5 accV acc := r2.keep (A3.trans A5).keep
              cases b with
              | false =>
                rw [if_neg (by decide)]
                exact ⟨fr5, σ5, acc, accV, A25, S5.turn (hw4), hD5, hz2, r5, F2⟩
              | true =>
                rw [if_pos rfl]
                refine he G fr5 _ H5 σv4 σ5 _ S5 ?_
                simp only at F2
                cases e6 : ev cf elt σ5 with
                | bad => rw [e6] at F2; exact F2.elim
                | ex c fs σ6 => rw [e6] at F2; exact F2.elim
                | ok us σ6 =>
                  rw [e6] at F2
                  intro vs6 fr6 H6 A6 S6 R6 v hv
                  subst hv
                  obtain ⟨t6, rfl, r6⟩ := R6.one'
                  simp only at F2
                  split at F2
                  · rename_i d ev6
                    obtain ⟨fr7, A7, S7, R7⟩ := R6.vals (ds := [d]) S6 (by simp [Fly.vals, ev6])
                    split at F2
                    · rename_i hz
                      have A67 := A6.trans A7
                      have A27 := A25.trans (A67.less more3)
                      have hD7 : H6 D0 = some (.lst accV) := (A67.out D0 (.inr rfl)).2.trans hD5
                      have nf7 : ¬ fr7 D0 := (S7.fos D0 (.inr rfl)).2.1
                      refine ⟨accV, hD7, by rw [(r5.length), ← szLine_eq]; exact hz, fr7, σ6, acc ++ [d], accV ++ [v], ⟨fun a f => ⟨(A27.keep a f).1, by rw [upd_ne fun (z : a = D0) => nF (z ▸ f)]; exact (A27.keep a f).2⟩, fun a f => ⟨(A27.out a f).1, by rw [upd_ne fun (z : a = D0) => nD (z ▸ f)]; exact (A27.out a f).2⟩⟩, (S7.poke (.inr rfl) fun _ z => by cases z).turn hw4, upd_same, (by have q := r5.length; rw [szLine_eq] at hz; rw [List.length_append, List.length_singleton, q]; exact hz), ?_, F2⟩
                      exact ((r5.keep A67.keep).append R7).keep fun a f => ⟨f, upd_ne fun (z : a = D0) => nf7 (z ▸ f)⟩
                    · exact F2.elim
                  · exact F2.elim
          · have e : i = xs.length := by omega
            subst e
            rw [List.drop_length] at F2
            refine .inl ⟨w1 _ rfl, ?_⟩
            have S2' : Sim K G fr2 (fun x => Fo x ∨ srcF σ1 vs ts x) H2 (wipe σv t.own) (dropS σ2 t.own) := S2.less fun x f => .inl f
            have Su := S1.unhide R1 (SL.unblock A2 ec S2') A2.keep fun a f => (A2.out a (.inr f)).2
            refine (show RPost T K W G fr Fo H σv (.ok [.tf (.lst acc)] (showS σ1 (unwipeS (hideS σ1 ts) σ2 t.own) ts)) _ from F2) [.ref D0] fr2 H2 (A1.trans (A2.less more)) Su ⟨.tf (.lst hD2 ?_ r2) (S2.fos D0 (.inr rfl)).2.1 (fun f => nD (.inl f)) ?_, True.intro⟩ _ rfl
            · exact hz2
            · intro j p e ej evj
              rcases showS_get ej with ⟨m, p1, d1, e0, _⟩ | ⟨ej, _⟩
              · exact nD (.inr (srcF_br R1 m e0 evj))
              · have hl : σ2.length = (hideS σ1 ts).length := by
                  have := S2.len
                  rw [dropS_length, wipe_length] at this
                  rw [this, SL.len]
                rcases unwipe_get hl ej with ⟨m, z⟩ | ⟨n, z⟩
                · rcases calmO_get ec m z with z | ⟨_, _, z⟩ <;> cases z
                · obtain ⟨b, k1, _, _, k4, _⟩ := S2.slot j _ (dropS_at n z)
                  rw [wipe_get n, evj] at k1
                  cases k1
                  exact k4 (.inr rfl)
        · exact hq.elim
      · exact hq.elim
end
end Fly
end

section
set_option Elab.async false
set_option linter.all false
set_option maxRecDepth 100000
set_option maxHeartbeats 4000000
/-! Dicts whose keys are rows of numbers (FlyDic). -/
namespace Fly
open PySem L2
section
variable {T : XT} {K : PySem.W.Frag} {W : WX} {cf : Nat → List Sl → CR} {G : Nat → V} {fr fr' Fo Fo' : AP} {H H' : Hp} {σv : St} {σd σd' : List Sl}
theorem Rep0.dic {v : V} {ks : List (List Int)} {ds : List D} (h : Rep0 K fr H v (.dic ks ds)) : ∃ a kvs, v = .ref a ∧ Rd H a (.dT kvs) ∧ kvs.length ≤ sizeLine ∧ kvs.map (·.1) = keysI ks ∧ Reps K fr H (kvs.map (·.2)) ds := by
  cases h with
  | sh h => cases h with | dic f h z q r => exact ⟨_, _, rfl, .inl h, z, q, r⟩
  | ow h => cases h with | dic h z q r => exact ⟨_, _, rfl, .inl h, z, q, r⟩
theorem Rep0.kd {v : V} {ks : List (List Int)} {ds : List D} (h : Rep0 K fr H v (.kd ks ds)) : ∃ a kvs, v = .ref a ∧ Rd H a (.dT kvs) ∧ kvs.length ≤ sizeLine ∧ kvs.map (·.1) = keysI ks ∧ Reps K fr H (kvs.map (·.2)) ds := by
  cases h with
  | sh h => cases h with | kd f h z q r => exact ⟨_, _, rfl, .inr ⟨_, h⟩, z, q, r⟩
  | ow h => cases h
/-- a dict of one of the two kinds -/
theorem Rep0.dprt {v : V} {x : D} {p : List (List Int) × List D} (h : Rep0 K fr H v x) (e : Fly.dprt x = some p) : ∃ a kvs, v = .ref a ∧ Rd H a (.dT kvs) ∧ kvs.length ≤ sizeLine ∧ kvs.map (·.1) = keysI p.1 ∧ Reps K fr H (kvs.map (·.2)) p.2 := by
  unfold Fly.dprt at e
  split at e
  · cases e; exact h.dic
  · cases e; exact h.kd
  · cases e
/-- a dict that is only looked at -/
theorem dget_rd {a b : Addr} {kvs : List (List Key × V)} {k : List Key} (e : Rd H a (.dT kvs)) (eb : H b = some (.tup (k.map kV))) : DGet H a (.ref b) (valV kvs k) := .inr ⟨kvs, k, b, e, rfl, eb, rfl⟩
theorem Rep0.key {v : V} {l : List D} {k : List Int} (h : Rep0 K fr H v (.tup l)) (e : Fly.toInts l = some k) : ∃ b, v = .ref b ∧ H b = some (.tup ((keyI k).map kV)) := by
  cases h with
  | ow h => cases h
  | sh h =>
    cases h with
    | tup h z r =>
      refine ⟨_, rfl, ?_⟩
      rw [keyI_kV, ← Reps.of_ints r e]
      exact h.2
/-- a look into a dict -/
theorem dic_val {k : List Int} : ∀ {kvs : List (List Key × V)} {ks : List (List Int)} {ds : List D}, kvs.map (·.1) = keysI ks → Reps K fr H (kvs.map (·.2)) ds →
    (∀ d, dget ks ds k = some d → ∃ v, valV kvs (keyI k) = some v ∧ Rep K fr H v d) ∧ (valV kvs (keyI k)).isSome = decide (k ∈ ks)
  | [], ks, ds, e, r => by
    cases ks with
    | cons x ks => exact nomatch e
    | nil =>
      refine ⟨fun d hd => ?_, rfl⟩
      cases ds with
      | nil => exact nomatch hd
      | cons _ _ => exact nomatch hd
  | p :: kvs, ks, ds, e, r => by
    cases ks with
    | nil => exact nomatch e
    | cons x ks =>
      simp only [keysI, List.map_cons, List.cons.injEq] at e
      rw [List.map_cons] at r
      cases r with
      | @cons v vs d ds r1 r2 =>
        obtain ⟨h1, h2⟩ := dic_val (k := k) e.2 r2
        by_cases q : x = k
        · have pk : p.1 = keyI k := by rw [e.1, q]
          rw [valV_pos pk]
          refine ⟨fun d' hd => ?_, ?_⟩
          · rw [dget, if_pos q] at hd
            cases hd
            exact ⟨_, rfl, r1⟩
          · simp [q]
        · have pk : ¬ p.1 = keyI k := fun z => q (keyI_inj (e.1.symm.trans z))
          rw [valV_neg pk]
          refine ⟨fun d' hd => ?_, ?_⟩
          · rw [dget, if_neg q] at hd
            exact h1 d' hd
          · rw [h2]
            have : ¬ k = x := fun z => q z.symm
            simp [this]
theorem dic_set {k : List Int} {v : V} {d : D} (rd : Rep K fr H v d) : ∀ {kvs : List (List Key × V)} {ks : List (List Int)} {ds : List D}, kvs.map (·.1) = keysI ks → Reps K fr H (kvs.map (·.2)) ds →
    (kvs.map fun kv => if kv.1 = keyI k then (kv.1, v) else kv).map (·.1) = keysI ks ∧ Reps K fr H ((kvs.map fun kv => if kv.1 = keyI k then (kv.1, v) else kv).map (·.2)) (dset ks ds k d)
  | [], ks, ds, e, r => by
    cases ks with
    | cons x ks => exact nomatch e
    | nil =>
      rw [List.map_nil] at r
      cases r
      exact ⟨rfl, .nil⟩
  | p :: kvs, ks, ds, e, r => by
    cases ks with
    | nil => exact nomatch e
    | cons x ks =>
      simp only [keysI, List.map_cons, List.cons.injEq] at e
      rw [List.map_cons] at r
      cases r with
      | @cons w vs d0 ds r1 r2 =>
        obtain ⟨h1, h2⟩ := dic_set (k := k) rd e.2 r2
        by_cases q : x = k
        · have pk : p.1 = keyI k := by rw [e.1, q]
          simp only [List.map_cons, if_pos pk, dset, if_pos q, keysI, List.cons.injEq]
          exact ⟨⟨e.1, h1⟩, .cons rd h2⟩
        · have pk : ¬ p.1 = keyI k := fun z => q (keyI_inj (e.1.symm.trans z))
          simp only [List.map_cons, if_neg pk, dset, if_neg q, keysI, List.cons.injEq]
          exact ⟨⟨e.1, h1⟩, .cons r1 h2⟩
theorem dic_len {kvs : List (List Key × V)} {ks : List (List Int)} (e : kvs.map (·.1) = keysI ks) : kvs.length = ks.length := by
  have := congrArg List.length e
  simpa [keysI] using this
theorem dic_put {a : Addr} {k : List Int} {v : V} {d : D} {kvs : List (List Key × V)} {ks : List (List Int)} {ds : List D} {o : HO} (rd : Rep K fr H v d) (e : kvs.map (·.1) = keysI ks) (r : Reps K fr H (kvs.map (·.2)) ds) (z : kvs.length < sizeLine) (nf : ¬ fr a) :
    RepO K fr (upd H a (.dT (putK kvs (keyI k) v))) a (dput ks ds k d) := by
  have kp : ∀ o x, fr x → fr x ∧ upd H a o x = H x := fun o x f => ⟨f, upd_ne fun z => nf (z ▸ f)⟩
  have hs := (dic_val (k := k) e r).2
  have hl : (putK kvs (keyI k) v).length ≤ sizeLine := by
    have := length_putK kvs (keyI k) v
    omega
  have hd : putK kvs (keyI k) v = if (valV kvs (keyI k)).isSome = true then kvs.map fun kv => if kv.1 = keyI k then (kv.1, v) else kv else kvs ++ [(keyI k, v)] := by
    unfold putK
    rw [valV_any]
  unfold dput
  by_cases q : k ∈ ks
  · rw [if_pos q]
    rw [if_pos (by rw [hs]; simpa using q)] at hd
    obtain ⟨h1, h2⟩ := dic_set (k := k) rd e r
    rw [← hd] at h1 h2
    exact .dic upd_same hl h1 (h2.keep (kp _))
  · rw [if_neg q]
    rw [if_neg (by rw [hs]; simpa using q)] at hd
    refine .dic upd_same hl ?_ ?_
    · rw [hd, List.map_append, e]
      simp [keysI]
    · refine Reps.keep (kp _) ?_
      rw [hd, List.map_append]
      exact r.append (.cons rd .nil)
/-! ### stores -/
def rPutD : TSet := fun x y v H Q => ∃ a H', x = .ref a ∧ DPut H a y v H' ∧ Q H'
theorem set_putD {X : Cx} (hu : X.A.units + 1 < cLine) : PSet X rPutD := by
  intro pins s σ H x y v ov iv u Q I ro ri rv h
  obtain ⟨a, H', rfl, g, q⟩ := h
  cases ro
  exact d_setItem hu I g ri rv fun s' I' => ⟨H', I', q⟩
def rSetA : TSet := fun x y v H Q => rSetL x y v H Q ∨ rPutD x y v H Q
theorem set_A {X : Cx} (hu : X.A.units + 1 < cLine) : PSet X rSetA := by
  intro pins s σ H x y v ov iv u Q I ro ri rv h
  rcases h with h | h
  · exact set_list pins s σ H x y v ov iv u Q I ro ri rv h
  · exact set_putD hu pins s σ H x y v ov iv u Q I ro ri rv h
/-! ### looks -/
def rGetD : V → V → Hp → VK → Prop := fun x y H Q => ∃ a v, x = .ref a ∧ DGet H a y (some v) ∧ Q v H
theorem get_D {X : Cx} (hu : X.A.units + 1 < cLine) : PGet X rGetD := by
  intro pins s σ H x y ov iv Q I ro ri h
  obtain ⟨a, v, rfl, g, q⟩ := h
  cases ro
  exact d_getItem hu I g ri fun w' s' I' rw' => ⟨v, H, I', rw', q⟩
/-! ### displays -/
/-- the pairs of a display, a key's tuple, its value -/
abbrev KB := List (List Key × Addr × V)
def putsK (kvs : List (List Key × V)) (es : KB) : List (List Key × V) := es.foldl (fun acc e => putK acc e.1 e.2.2) kvs
def tDispD (trs : List (TE × TE)) : TE := fun σ H Q => ∀ p, H p = none → tPairs trs σ (upd H p (.dT [])) fun ps H2 => H2 p = some (.dT []) ∧ ∃ es : KB,
  ps = es.map (fun e => (.ref e.2.1, e.2.2)) ∧ (∀ e ∈ es, H2 e.2.1 = some (.tup (e.1.map kV))) ∧ es.length ≤ 15 ∧ Q (.ref p) (upd H2 p (.dT (putsK [] es)))
theorem KT.puts {H : Hp} : ∀ {es : KB} {ws : List (Value × Value)} {kvs : List (List Key × V)} {xs : List (List Key × Addr × Value)}, VV (es.map fun e => (.ref e.2.1, e.2.2)) ws → (∀ e ∈ es, H e.2.1 = some (.tup (e.1.map kV))) → KT H kvs xs →
    KT H (putsK kvs es) (storedAllH xs ((es.zip ws).map fun p => (p.1.1, p.1.2.1, p.2.2)))
  | [], _, kvs, xs, _, _, r => r
  | e :: es, ws, kvs, xs, vv, hk, r => by
    rw [List.map_cons] at vv
    cases vv with
    | @cons _ w _ ws h t =>
      have := r.put e.1 (hk e (by simp)) h.2
      exact KT.puts (es := es) (ws := ws) t (fun x hx => hk x (by simp [hx])) this
theorem kb_carries {P : Program} {w : World} {H : Hp} {h : Heap} (ok : HOk P w H h) : ∀ {es : KB} {ws : List (Value × Value)}, VV (es.map fun e => (.ref e.2.1, e.2.2)) ws → (∀ e ∈ es, H e.2.1 = some (.tup (e.1.map kV))) →
    CarriesH (tupleKind (mixKind P w)) h ws ((es.zip ws).map fun p => (p.1.1, p.1.2.1, p.2.2))
  | [], _, vv, _ => by
    rw [List.map_nil] at vv
    cases vv
    exact True.intro
  | e :: es, ws, vv, hk => by
    rw [List.map_cons] at vv
    cases vv with
    | @cons _ w _ ws h t =>
      obtain ⟨w1, w2⟩ := w
      have h1 : w1 = Value.ref e.2.1 := h.1
      exact ⟨h1, rfl, key_of ok (hk e (by simp)), kb_carries ok t fun x hx => hk x (by simp [hx])⟩
theorem putsK_len : ∀ (es : KB) (kvs : List (List Key × V)), (putsK kvs es).length ≤ kvs.length + es.length
  | [], kvs => Nat.le_refl _
  | e :: es, kvs => by
    have h1 := putsK_len es (putK kvs e.1 e.2.2)
    have h2 := length_putK kvs e.1 e.2.2
    have h3 : putsK kvs (e :: es) = putsK (putK kvs e.1 e.2.2) es := rfl
    rw [h3, List.length_cons]
    omega
theorem pe_dispD {X : Cx} {pos : Pos} {keys : List (Option Expr)} {values : List Expr} {trs : List (TE × TE)} (hu : X.A.units + 2 < cLine) (h : PPs X pos keys values trs) (ha : keys.all (·.isSome) = true) (hl : keys.length = values.length) (h0 : keys ≠ [])
    (h15 : keys.length ≤ 15) : PE X (.Dict keys values pos) (tDispD trs) := by
  refine ⟨fun pins s σ H Q I q => ?_⟩
  have nn : (pairTrees keys values X.env pos).length = keys.length := pairTrees_length keys values X.env pos ha hl
  have n0 : pairTrees keys values X.env pos ≠ [] := fun z => h0 (List.length_eq_zero_iff.mp (by rw [← nn, z]; rfl))
  have fresh := I.hok.fresh (Nat.le_refl s.heap.objs.size)
  have J := I.laid (a := s.heap.objs.size) (o := .dT []) (h' := s.heap.push { cls := .type "dict", data := .dict #[] }) (t' := s.toks) (fun _ _ q => Heap.get?_push_of_some _ q) (Nat.le_refl _) (dt_empty s.heap I.big)
  rw [arm_eval_Dict, zip_pairTrees keys values X.env pos ha hl, dictDisplay_pairs _ n0 (by omega)]
  refine wpAny_bind (wpAny_standAt (wpAny_bind (wpAny_subDictH (knd := tupleKind (mixKind X.prog X.w)) (Q := fun d s' => wpAny (model X.prog X.w) X.A (pure (Value.ref d)) (EP X pins σ Q) X.xe s') ?_ (by omega) ?_)))
  · show X.A.units < cLine
    omega
  · refine thn (h.run pins _ σ _ _ J (q _ fresh)) fun ws s2 ⟨ps, H2, I2, rel, e, es, ep, hk, l15, q2⟩ => ?_
    subst ep
    obtain ⟨z, y, xs0, r0, dd⟩ := dt_of I2.hok e
    cases r0
    refine ⟨_, kb_carries I2.hok rel hk, dd, fun h' tk dd' hs => wpAny_pure ⟨.ref s.heap.objs.size, _, ?_, rfl, q2⟩⟩
    obtain ⟨o, ees, epp, hq, g2, g3, g4, _, g5⟩ := dd'
    have hz : (putsK [] es).length ≤ sizeLine := by
      have h1 := putsK_len es []
      rw [List.length_nil] at h1
      rw [sizeLine_eq]; omega
    refine d_write I2 (by rw [e]; exact True.intro) hs ⟨o, hq⟩ ⟨hz, y, _, (KT.puts rel hk .nil).keeps fun c ys ec => ?_, o, ees, epp, hq, g2, g3, g4, g5⟩
    rw [upd_ne (ne_of ec e (fun z => nomatch z))]
    exact ec
/-! ### the run of a display -/
def taOf : List (TE × TE) → TA
  | [] => tNil
  | (tk, tv) :: r => tCons tk (tCons tv (taOf r))
def pairUp : List V → List (V × V)
  | x :: y :: r => (x, y) :: pairUp r
  | _ => []
theorem tPairs_eq : ∀ (trs : List (TE × TE)) (σ : St) (H : Hp) (Q : List (V × V) → Hp → Prop), tPairs trs σ H Q = taOf trs σ H (fun vs H' => Q (pairUp vs) H')
  | [], _, _, _ => rfl
  | (tk, tv) :: r, σ, H, Q => by
    have e : ∀ x y H2, tPairs r σ H2 (fun ps H3 => Q ((x, y) :: ps) H3) = taOf r σ H2 (fun vs H3 => Q ((x, y) :: pairUp vs) H3) := fun x y H2 => tPairs_eq r σ H2 _
    simp only [tPairs, taOf, tCons, e]
    rfl
/-- the pairs that a display's data make -/
theorem dmake_ok : ∀ (ds : List D) (vs : List V) (kvs : List (List Key × V)) (ks : List (List Int)) (xs : List D) (d : D), Reps K fr H vs ds → kvs.map (·.1) = keysI ks → Reps K fr H (kvs.map (·.2)) xs → dmake ds ks xs = some d → kvs.length + ds.length ≤ 30 →
    ∃ (es : KB) (ks' : List (List Int)) (xs' : List D), pairUp vs = es.map (fun e => (.ref e.2.1, e.2.2)) ∧ (∀ e ∈ es, H e.2.1 = some (.tup (e.1.map kV))) ∧ 2 * es.length ≤ ds.length ∧ d = .dic ks' xs' ∧ (putsK kvs es).map (·.1) = keysI ks' ∧ Reps K fr H ((putsK kvs es).map (·.2)) xs'
  | [], vs, kvs, ks, xs, d, r, e, rx, h, hl => by
    cases r
    rw [dmake] at h
    cases h
    exact ⟨[], ks, xs, rfl, (fun e he => by cases he), Nat.le_refl _, rfl, e, rx⟩
  | [x], vs, kvs, ks, xs, d, r, e, rx, h, hl => by
    cases x <;> exact nomatch h
  | x :: y :: ds, vs, kvs, ks, xs, d, r, e, rx, h, hl => by
    cases r with
    | @cons v vs _ _ r1 r2 =>
    cases r2 with
    | @cons w vs _ _ r2 r3 =>
    cases x with
    | tup l =>
      simp only [dmake, Option.bind_eq_some_iff] at h
      obtain ⟨k, hk, h⟩ := h
      obtain ⟨b, rfl, hb⟩ := (Rep0.sh r1).key hk
      have hs := (dic_val (k := k) e rx).2
      have hd : putK kvs (keyI k) w = if (valV kvs (keyI k)).isSome = true then kvs.map fun kv => if kv.1 = keyI k then (kv.1, w) else kv else kvs ++ [(keyI k, w)] := by
        unfold putK
        rw [valV_any]
      have lp := length_putK kvs (keyI k) w
      simp only [List.length_cons] at hl
      unfold dput at h
      by_cases q : k ∈ ks
      · rw [if_pos q] at h
        rw [if_pos (by rw [hs]; simpa using q)] at hd
        obtain ⟨h1, h2⟩ := dic_set (k := k) r2 e rx
        rw [← hd] at h1 h2
        obtain ⟨es, ks', xs', g1, g2, g3, g4, g5, g6⟩ := dmake_ok ds vs (putK kvs (keyI k) w) _ _ d r3 h1 h2 h (by omega)
        refine ⟨(keyI k, b, w) :: es, ks', xs', ?_, fun z hz => ?_, ?_, g4, g5, g6⟩
        · rw [pairUp, g1, List.map_cons]
        · rcases List.mem_cons.mp hz with rfl | hz
          · exact hb
          · exact g2 z hz
        · simp only [List.length_cons]
          omega
      · rw [if_neg q] at h
        rw [if_neg (by rw [hs]; simpa using q)] at hd
        have h1 : (putK kvs (keyI k) w).map (·.1) = keysI (ks ++ [k]) := by
          rw [hd, List.map_append, e]
          simp [keysI]
        have h2 : Reps K fr H ((putK kvs (keyI k) w).map (·.2)) (xs ++ [y]) := by
          rw [hd, List.map_append]
          exact rx.append (.cons r2 .nil)
        obtain ⟨es, ks', xs', g1, g2, g3, g4, g5, g6⟩ := dmake_ok ds vs (putK kvs (keyI k) w) _ _ d r3 h1 h2 h (by omega)
        refine ⟨(keyI k, b, w) :: es, ks', xs', ?_, fun z hz => ?_, ?_, g4, g5, g6⟩
        · rw [pairUp, g1, List.map_cons]
        · rcases List.mem_cons.mp hz with rfl | hz
          · exact hb
          · exact g2 z hz
        · simp only [List.length_cons]
          omega
    | _ => exact nomatch h
theorem ge_dct {es : E} {trs : List (TE × TE)} (h : GA T K W cf es (taOf trs)) : GE T K W cf (.dct es) (tDispD trs) := fun G fr Fo H σv σd Q S hq p hp => by
  rw [tPairs_eq]
  simp only [ev, R.andThen] at hq
  have S1 : Sim K G fr Fo (upd H p (.dT [])) σv σd := S.grow hp (fun _ f => f) fun _ f => .inl f
  have A1 : Aft fr Fo H fr (upd H p (.dT [])) := .grow S hp (fun _ f => f) fun _ f => .inl f
  have nf : ¬ fr p := fun f => S.frs p f hp
  have S2 := S1.more (a := p) (by rw [upd_same]; simp) nf (S.apart_new hp) (fun xs z => by rw [upd_same] at z; cases z)
  refine h G fr (fun x => Fo x ∨ x = p) _ σv σd _ S2 ?_
  cases e : ev cf es σd with
  | bad => rw [e] at hq; exact hq
  | ex c fs σ1 =>
    rw [e] at hq
    exact fun cls dx fr2 H2 A2 S3 => hq cls dx fr2 H2 (A1.trans (A2.less fun _ f => .inl f)) (S3.less fun _ f => .inl f)
  | ok ts σ1 =>
    rw [e] at hq
    intro vs fr1 H1 A2 S3 R1
    simp only at hq
    split at hq
    · rename_i ds el
      split at hq
      · rename_i d hd
        split at hq
        · rename_i hl
          obtain ⟨fr2, A3, S4, R2⟩ := R1.vals S3 el
          have hp2 : H1 p = some (.dT []) := by
            have := (A2.out p (.inr rfl)).2
            rw [this, upd_same]
          obtain ⟨es', ks', xs', g1, g2, g3, g4, g5, g6⟩ := dmake_ok ds vs [] [] [] d R2 rfl .nil hd (by simpa using hl)
          refine ⟨hp2, es', g1, g2, by omega, ?_⟩
          subst g4
          have z : (putsK [] es').length ≤ sizeLine := by
            have h1 := putsK_len es' []
            rw [List.length_nil] at h1
            rw [sizeLine_eq]; omega
          have n2 : ¬ fr2 p := (A3.out p (.inr rfl)).1
          have kp : ∀ x, fr2 x → fr2 x ∧ upd H1 p (.dT (putsK [] es')) x = H1 x := fun x f => ⟨f, upd_ne fun z => n2 (z ▸ f)⟩
          have ap : Apart σv σ1 p := fun j b e ej ev => by
            obtain ⟨a, k1, k2, k3, k4, k5⟩ := S4.slot j _ ej
            rw [ev] at k1
            cases k1
            exact k4 (.inr rfl)
          have kF : ∀ x, Fo x → upd H1 p (.dT (putsK [] es')) x = H1 x := fun x f => upd_ne fun z => (S.fos x f).1 (z ▸ hp)
          have S5 : Sim K G fr2 Fo (upd H1 p (.dT (putsK [] es'))) σv σ1 := by
            have S5 := S4.less (Fo := Fo) fun _ f => .inl f
            refine ⟨S5.len, fun i s ei => ?_, S5.sep, fun a f => by rw [(kp a f).2]; exact S5.frs a f, fun a f => ⟨by rw [kF a f]; exact (S5.fos a f).1, (S5.fos a f).2.1, by rw [kF a f]; exact (S5.fos a f).2.2⟩⟩
            have q := S5.slot i s ei
            cases s with
            | un => exact q
            | lk => exact q
            | fz b d => obtain ⟨v, k1, k2, k3⟩ := q; exact ⟨v, k1, k2.keep kp, k3⟩
            | ow b d =>
              obtain ⟨a, k1, k2, k3, k4, k5⟩ := q
              have na : a ≠ p := fun z => ap i b d ei (z ▸ k1)
              exact ⟨a, k1, k2.keep kp (upd_ne na), k3, k4, k5⟩
          refine hq [.ref p] fr2 _ ⟨fun a f => ?_, fun a f => ?_⟩ S5 ⟨.tf (.dic upd_same z g5 (g6.keep kp)) n2 (fun f => (S.fos p f).1 hp) ap, True.intro⟩ _ rfl
          · have q1 := (A1.trans (A2.less (Fo := Fo) fun _ f => .inl f)).trans (A3.less (Fo := Fo) fun _ f => .inl f)
            have q2 := q1.keep a f
            exact ⟨q2.1, by rw [(kp a q2.1).2]; exact q2.2⟩
          · have q1 := (A1.trans (A2.less (Fo := Fo) fun _ f => .inl f)).trans (A3.less (Fo := Fo) fun _ f => .inl f)
            have q2 := q1.out a f
            exact ⟨q2.1, by rw [kF a f]; exact q2.2⟩
        · exact hq.elim
      · exact hq.elim
    · exact hq.elim
end
end Fly
end

section
set_option Elab.async false
set_option linter.all false
set_option maxRecDepth 100000
set_option maxHeartbeats 4000000
/-! Methods, stores, raises (FlyMe). -/
namespace Fly
open PySem L2
section
variable {T : XT} {K : PySem.W.Frag} {W : WX} {cf : Nat → List Sl → CR} {G : Nat → V} {fr fr' Fo Fo' : AP} {H H' : Hp} {σv : St} {σd σd' : List Sl}

/-- a name's own thing is turned -/
theorem Sim.write {i : Nat} {p : Bool} {d d' : D} {a : Addr} {o : HO} (S : Sim K G fr Fo H σv σd) (e : σd[i]? = some (.ow p d)) (ev : σv[i]? = some (some (.ref a))) (r : RepO K fr (upd H a o) a d') :
    Sim K G fr Fo (upd H a o) σv (σd.set i (.ow p d')) ∧ Aft fr Fo H fr (upd H a o) := by
  obtain ⟨b, h1, h2, h3, h4, h5⟩ := S.slot i _ e
  rw [ev] at h1; cases h1
  have ap := S.leave e ev
  have nf : ∀ x, fr x → x ≠ a := fun x f z => h3 (z ▸ f)
  have nF : ∀ x, Fo x → x ≠ a := fun x f z => h4 (z ▸ f)
  have k : ∀ x, fr x → fr x ∧ upd H a o x = H x := fun x f => ⟨f, upd_ne (nf x f)⟩
  have S0 : Sim K G fr Fo (upd H a o) σv (σd.set i .un) := by
    have S1 := S.drop (i := i)
    refine ⟨S1.len, fun j s ej => ?_, S1.sep, fun x f => by rw [upd_ne (nf x f)]; exact S.frs x f, fun x f => ⟨by rw [upd_ne (nF x f)]; exact (S.fos x f).1, (S.fos x f).2.1, by rw [upd_ne (nF x f)]; exact (S.fos x f).2.2⟩⟩
    have q := S1.slot j s ej
    cases s with
    | un => exact q
    | lk => exact q
    | fz b d => obtain ⟨v, h1, h2, h3⟩ := q; exact ⟨v, h1, h2.keep k, h3⟩
    | ow b d =>
      obtain ⟨x, g1, g2, g3, g4, g5⟩ := q
      exact ⟨x, g1, g2.keep k (upd_ne fun z => ap j b d ej (z ▸ g1)), g3, g4, g5⟩
  exact ⟨S0.setOw ev r h3 h4 ap h5, ⟨fun x f => k x f, fun x f => ⟨(S.fos x f).2.1, upd_ne (nF x f)⟩⟩⟩

/-- what a method asks: of the thing at a, of the arguments -/
def MeOk (K : PySem.W.Frag) (m : Me) (r : V → List V → Hp → VK → Prop) : Prop :=
  ∀ fr H a x vs ds d x' Q, (∀ a, fr a → H a ≠ none) → ¬ fr a → RepO K fr H a x → (if m = .extend then Rep0s K fr H vs ds else Reps K fr H vs ds) → mef m x ds = some (d, x') →
    (∀ v o, Rep K fr (upd H a o) v d → RepO K fr (upd H a o) a x' → Q v (upd H a o)) → r (.ref a) vs H Q
theorem ge_bm {m : Me} {i : Nat} {es : E} {r : V → List V → Hp → VK → Prop} {t : TA} (hm : MeOk K m r) (h : GA T K W cf es t) : GE T K W cf (.bm m i es) (tBM K "list" r (tVar i) t) := fun G fr Fo H σv σd Q S hq => by
  simp only [ev] at hq
  split at hq
  · rename_i p0 l0 e0
    obtain ⟨a, h1, h2, _⟩ := S.slot i _ e0
    refine ⟨.ref a, h1, .inl ⟨rfl, ?_⟩, ?_⟩
    · cases h2 with
      | lst h z r => exact ⟨_, .of h⟩
    refine h G fr Fo H σv σd _ S ?_
    simp only [R.andThen] at hq
    cases ee : ev cf es σd with
    | bad => rw [ee] at hq; exact hq
    | ex c fs σ1 => rw [ee] at hq; exact hq
    | ok ts σ1 =>
      rw [ee] at hq
      intro vs fr1 H1 A1 S1 R1
      simp only at hq
      split at hq
      · rename_i p x ds ei el
        split at hq
        · rename_i d x' em
          have go : ∀ fr2, Aft fr1 Fo H1 fr2 H1 → Sim K G fr2 Fo H1 σv σ1 → (if m = .extend then Rep0s K fr2 H1 vs ds else Reps K fr2 H1 vs ds) → r (.ref a) vs H1 Q := by
            intro fr2 A2 S2 R2
            obtain ⟨b, g1, g2, g3, g4, _⟩ := S2.slot i _ ei
            rw [h1] at g1; cases g1
            refine hm fr2 H1 a x vs ds d x' Q S2.frs g3 g2 R2 em fun v o rv ro => ?_
            obtain ⟨S3, A3⟩ := S2.write (o := o) ei h1 ro
            exact hq [v] fr2 _ ((A1.trans A2).trans A3) S3 ⟨.tv rv, True.intro⟩ v rfl
          by_cases hx : m = .extend
          · rw [if_pos hx] at el
            exact go fr1 (.refl S1) S1 (by rw [if_pos hx]; exact R1.looks (fun _ f => f) S1 el)
          · rw [if_neg hx] at el
            obtain ⟨fr2, A2, S2, R2⟩ := R1.vals S1 el
            exact go fr2 A2 S2 (by rw [if_neg hx]; exact R2)
        · exact hq.elim
      · exact hq.elim
  · exact hq.elim
theorem upd_keep {a : Addr} {o : HO} (h : ¬ fr a) : ∀ x, fr x → fr x ∧ upd H a o x = H x := fun x f => ⟨f, upd_ne fun z => h (z ▸ f)⟩
theorem me_append : MeOk K .append rAppend := by
  intro fr H a x vs ds d x' Q hf nf r rs e k
  rw [if_neg (by decide)] at rs
  cases r with
  | dic h z q r => simp [mef] at e
  | ins h z r => simp [mef] at e
  | @lst xs l h z r =>
  match ds, rs, e with
  | [d1], .cons r1 .nil, e =>
    simp only [mef] at e
    split at e
    · rename_i hz
      cases e
      have hz' : xs.length < sizeLine := by rw [r.length, ← szLine_eq]; exact hz
      exact ⟨a, xs, _, rfl, rfl, h, hz', k .non _ .non (.lst upd_same (by rw [List.length_append, List.length_singleton]; exact hz') ((r.append (.cons r1 .nil)).keep (upd_keep nf)))⟩
    · cases e
theorem Rep0.lst {v : V} {l : List D} (h : Rep0 K fr H v (.lst l)) : ∃ a xs, v = .ref a ∧ H a = some (.lst xs) ∧ xs.length ≤ sizeLine ∧ Reps K fr H xs l := by
  cases h with
  | sh h => cases h with | lst f h z r => exact ⟨_, _, rfl, h, z, r⟩
  | ow h => cases h with | lst h z r => exact ⟨_, _, rfl, h, z, r⟩
theorem Rep0.tup {v : V} {l : List D} (h : Rep0 K fr H v (.tup l)) : ∃ a xs, v = .ref a ∧ SqT K H a xs ∧ xs.length ≤ sizeLine ∧ Reps K fr H xs l ∧ Rep K fr H v (.tup l) := by
  cases h with
  | sh h => cases h with | tup h z r => exact ⟨_, _, rfl, h.sq, z, r, .tup h z r⟩
  | ow h => cases h
theorem me_extend : MeOk K .extend rExtend := by
  intro fr H a x vs ds d x' Q hf nf r rs e k
  rw [if_pos rfl] at rs
  cases r with
  | dic h z q r => simp [mef] at e
  | ins h z r => simp [mef] at e
  | @lst xs l h z r =>
  match ds, rs, e with
  | [.lst m], .cons r1 .nil, e =>
    simp only [mef] at e
    split at e
    · rename_i hz
      cases e
      obtain ⟨b, zs, rfl, hb, zb, rb⟩ := r1.lst
      have hz' : xs.length + zs.length ≤ sizeLine := by rw [r.length, rb.length, ← szLine_eq]; exact hz
      exact ⟨a, b, xs, zs, rfl, rfl, h, hb, hz', k .non _ .non (.lst upd_same (by rw [List.length_append]; exact hz') ((r.append rb).keep (upd_keep nf)))⟩
    · cases e
theorem me_pop : MeOk K .pop rPop := by
  intro fr H a x vs ds d x' Q hf nf r rs e k
  rw [if_neg (by decide)] at rs
  cases r with
  | dic h z q r => simp [mef] at e
  | ins h z r => simp [mef] at e
  | @lst xs l h z r =>
  match ds, rs, e with
  | [], .nil, e =>
    simp only [mef, Option.map_eq_some_iff, Prod.mk.injEq] at e
    obtain ⟨d0, e1, rfl, rfl⟩ := e
    rw [← r.length] at e1
    obtain ⟨v, g1, g2⟩ := r.get e1
    refine ⟨a, xs, v, rfl, rfl, h, g1, k v _ (g2.keep (upd_keep nf)) (.lst upd_same (Nat.le_trans (by rw [List.length_dropLast]; omega) z) ?_)⟩
    rw [List.dropLast_eq_take, List.dropLast_eq_take, ← r.length]
    exact (r.take _).keep (upd_keep nf)
theorem place_seq {n k : Nat} {i : Int} (h : place n i = some k) : seqIndex? i n = some k := by
  unfold place at h
  simp only [seqIndex?]
  split at h
  · rename_i z
    cases h
    rw [if_neg (show ¬ i < 0 by omega)]
    exact if_pos (by simp only [Bool.and_eq_true, decide_eq_true_eq]; exact z)
  · split at h
    · rename_i z
      cases h
      rw [if_pos z.2]
      exact if_pos (by simp only [Bool.and_eq_true, decide_eq_true_eq]; omega)
    · cases h
theorem me_popAt : MeOk K .popAt rPopAt := by
  intro fr H a x vs ds d x' Q hf nf r rs e k
  rw [if_neg (by decide)] at rs
  cases r with
  | dic h z q r => simp [mef] at e
  | ins h z r => simp [mef] at e
  | @lst xs l h z r =>
  match ds, rs, e with
  | [.int i], .cons ri .nil, e =>
    simp only [mef] at e
    split at e
    · rename_i sm
      simp only [Option.bind_eq_some_iff, Option.map_eq_some_iff, Prod.mk.injEq] at e
      obtain ⟨j, e0, d0, e1, rfl, rfl⟩ := e
      obtain ⟨v, g1, g2⟩ := r.get e1
      cases ri
      have sm := smallI_iff sm
      refine ⟨a, xs, _, j, v, rfl, rfl, h, by omega, by omega, by rw [r.length]; exact place_seq e0, g1, k v _ (g2.keep (upd_keep nf)) (.lst upd_same (Nat.le_trans ?_ z) ((r.eraseIdx j).keep (upd_keep nf)))⟩
      exact List.length_eraseIdx_le ..
    · cases e
def rInsA : V → List V → Hp → VK → Prop := fun x vs H Q => ∃ (l : Addr) (xs : List V) (i : Int) (y : V), x = .ref l ∧ vs = [.int i, y] ∧ H l = some (.lst xs) ∧ xs.length < sizeLine ∧ 0 ≤ i ∧ i < 2 ^ 63 ∧
    Q .non (upd H l (.lst (xs.take i.toNat ++ [y] ++ xs.drop i.toNat)))
theorem me_insert : MeOk K .insert rInsA := by
  intro fr H a x vs ds d x' Q hf nf r rs e k
  rw [if_neg (by decide)] at rs
  cases r with
  | dic h z q r => simp [mef] at e
  | ins h z r => simp [mef] at e
  | @lst xs l h z r =>
  match ds, rs, e with
  | [.int i, d1], .cons ri (.cons r1 .nil), e =>
    simp only [mef] at e
    split at e
    · rename_i hz
      cases e
      cases ri
      have hz' : xs.length < sizeLine := by rw [r.length, ← szLine_eq]; exact hz.1
      refine ⟨a, xs, _, _, rfl, rfl, h, hz', hz.2.1, by have := hz.2.2; omega, k .non _ .non (.lst upd_same ?_ ((((r.take _).append (.cons r1 .nil)).append (r.drop _)).keep (upd_keep nf)))⟩
      rw [List.length_append, List.length_append, List.length_take, List.length_drop, List.length_singleton]
      omega
    · cases e
theorem me_reverse : MeOk K .reverse rReverse := by
  intro fr H a x vs ds d x' Q hf nf r rs e k
  rw [if_neg (by decide)] at rs
  cases r with
  | dic h z q r => simp [mef] at e
  | ins h z r => simp [mef] at e
  | @lst xs l h z r =>
  match ds, rs, e with
  | [], .nil, e =>
    simp only [mef, Option.some.injEq, Prod.mk.injEq] at e
    obtain ⟨rfl, rfl⟩ := e
    exact ⟨a, xs, rfl, rfl, h, k .non _ .non (.lst upd_same (by rw [List.length_reverse]; exact z) (r.reverse.keep (upd_keep nf)))⟩
theorem me_clear : MeOk K .clear rClear := by
  intro fr H a x vs ds d x' Q hf nf r rs e k
  rw [if_neg (by decide)] at rs
  cases r with
  | dic h z q r => simp [mef] at e
  | ins h z r => simp [mef] at e
  | @lst xs l h z r =>
  match ds, rs, e with
  | [], .nil, e =>
    simp only [mef, Option.some.injEq, Prod.mk.injEq] at e
    obtain ⟨rfl, rfl⟩ := e
    exact ⟨a, xs, rfl, rfl, h, k .non _ .non (.lst upd_same (Nat.zero_le _) .nil)⟩
theorem place_ixN {n : Nat} {i : Int} {j : Nat} (h : place n i = some j) : ixN n i = some j := by
  unfold place at h
  unfold ixN
  by_cases h1 : 0 ≤ i
  · rw [if_pos h1]
    by_cases h2 : i < n
    · rw [if_pos ⟨h1, h2⟩] at h; rw [if_pos h2]; exact h
    · rw [if_neg (fun z => h2 z.2), if_neg (fun z => absurd z.2 (by omega))] at h; cases h
  · rw [if_neg h1]
    rw [if_neg (fun z => h1 z.1)] at h
    by_cases h2 : -(n : Int) ≤ i
    · rw [if_pos ⟨h2, by omega⟩] at h; rw [if_pos h2]; exact h
    · rw [if_neg (fun z => h2 z.1)] at h; cases h
/-- name[k] = e -/
theorem gs_setI {i : Nat} {k e : E} {tk te : TE} (h : GE T K W cf e te) (hk : GE T K W cf k tk) : GS T K W cf (.setI i k e) (tAsg te (gSub (tVar i) tk rSetA)) := fun G fr Fo H σv σd D S hq => by
  refine h G fr Fo H σv σd _ S ?_
  simp only [exec, R.toFw] at hq
  cases ee : ev cf e σd with
  | bad => rw [ee] at hq; exact hq
  | ex c fs σ1 => rw [ee] at hq; exact hq σv
  | ok ts σ1 =>
    rw [ee] at hq
    intro vs fr1 H1 A1 S1 R1 v hv
    subst hv
    obtain ⟨t, rfl, r1⟩ := R1.one'
    simp only at hq
    split at hq
    rotate_left
    · exact hq.elim
    rename_i p0 x0 ei0
    obtain ⟨a, h1, h2, h3, h4, h5⟩ := S1.slot i _ ei0
    refine ⟨.ref a, h1, ?_⟩
    refine hk G fr1 (addF Fo v t) H1 σv σ1 _ (S1.addF r1) ?_
    cases ek : ev cf k σ1 with
    | bad => rw [ek] at hq; exact hq
    | ex c fs σ2 => rw [ek] at hq; exact fun cls dx fr2 H2 A2 S2 => hq σv cls dx fr2 H2 (A1.trans (A2.less addF_sub)) (S2.less addF_sub)
    | ok ks σ2 =>
      rw [ek] at hq
      intro ws fr2 H2 A2 S2 R2 w hw
      subst hw
      obtain ⟨kt, rfl, r2⟩ := R2.one'
      simp only at hq
      split at hq
      · rename_i d kd p x ed ekd ei
        split at hq
        · rename_i x' es
          have kR := r2.look S2 ekd
          have r1' := r1.keep A2 S2
          have S2' := S2.less addF_sub
          obtain ⟨fr3, A3, S3, R3⟩ := TRs.vals (vs := [v]) (ts := [t]) (ds := [d]) S2' ⟨r1', True.intro⟩ (by simp [Fly.vals, ed])
          obtain ⟨b, g1, g2, g3, g4, g5⟩ := S3.slot i _ ei
          rw [h1] at g1; cases g1
          cases g2 with
          | ins hh z r => cases kd <;> simp [setf] at es
          | @dic kvs ks l hh z q r =>
            cases R3 with
            | cons rd _ =>
            cases kd with
            | tup kl =>
              simp only [setf] at es
              split at es
              · rename_i hz
                simp only [Option.map_eq_some_iff] at es
                obtain ⟨kk, ek, rfl⟩ := es
                obtain ⟨b, rfl, hb⟩ := kR.key ek
                have hz' : kvs.length < sizeLine := by rw [dic_len q, ← szLine_eq]; exact hz
                obtain ⟨S4, A4⟩ := S3.write (o := .dT (putK kvs (keyI kk) v)) ei h1 (dic_put (o := .dT []) rd q r hz' g3)
                exact .inr ⟨a, _, rfl, DPut.t hh hb hz', hq σv fr3 _ (((A1.trans (A2.less addF_sub)).trans A3).trans A4) S4⟩
              · cases es
            | _ => cases es
          | @lst xs l hh z r =>
            cases R3 with
            | cons rd _ =>
            cases kd with
            | int ki =>
              simp only [setf] at es
              split at es
              · simp only [Option.map_eq_some_iff] at es
                obtain ⟨j, ej, rfl⟩ := es
                rw [kR.int]
                obtain ⟨S4, A4⟩ := S3.write (o := .lst (xs.set j v)) ei h1 (.lst upd_same (by rw [List.length_set]; exact z) ((r.set rd j).keep (upd_keep g3)))
                exact .inl ⟨a, xs, ki, j, rfl, rfl, hh, by rw [r.length]; exact place_ixN ej, hq σv fr3 _ (((A1.trans (A2.less addF_sub)).trans A3).trans A4) S4⟩
              · cases es
            | _ => cases es
        · exact hq.elim
      · exact hq.elim
/-- the int steps in place -/
def rIop (o : Op) : TIp := fun x y H Q => ∃ i j z, x = .int i ∧ y = .int j ∧ opf o [.int i, .int j] = some (false, .int z) ∧ Q (.int z) H
theorem gs_aug {i : Nat} {o : Op} {e : E} {te : TE} (ho : ∀ i j b d, opf o [.int i, .int j] = some (b, d) → ∃ z, b = false ∧ d = .int z) (h : GE T K W cf e te) : GS T K W cf (.aug i o e) (tAug i te (rIop o)) := fun G fr Fo H σv σd D S hq => by
  simp only [exec] at hq
  split at hq
  · rename_i x ex
    obtain ⟨v, h1, h2, _⟩ := S.slot i _ ex
    cases h2
    refine ⟨_, h1, ?_⟩
    refine h G fr Fo H σv σd _ S ?_
    simp only [R.toFw] at hq
    cases ee : ev cf e σd with
    | bad => rw [ee] at hq; exact hq
    | ex c fs σ1 => rw [ee] at hq; exact hq σv
    | ok ts σ1 =>
      rw [ee] at hq
      intro vs fr1 H1 A1 S1 R1 w hv
      subst hv
      obtain ⟨t, rfl, r1⟩ := R1.one'
      simp only at hq
      split at hq
      · rename_i y el
        split at hq
        · rename_i d _ eo ep
          obtain ⟨z, _, rfl⟩ := ho _ _ _ _ eo
          rw [(r1.look S1 el).int]
          have ep' : put σ1 i (.int z) false = some (σ1.set i (.fz false (.int z))) := by
            unfold put at ep ⊢
            split at ep
            · rename_i q; rw [if_pos q]; rfl
            · cases ep
          exact ⟨x, y, z, rfl, rfl, eo, hq _ fr1 H1 A1 (S1.assign (.sh (.int z)) ep')⟩
        · exact hq.elim
      · exact hq.elim
  · exact hq.elim
end
end Fly
end

section
set_option Elab.async false
set_option linter.all false
set_option maxRecDepth 100000
set_option maxHeartbeats 4000000
/-! Things of the program's own classes (FlyCls). -/
namespace Fly
open PySem L2 PyProof.Rows
section
variable {T : XT} {K : PySem.W.Frag} {W : WX} {cf : Nat → List Sl → CR} {G : Nat → V} {fr fr' Fo Fo' : AP} {H H' : Hp} {σv : L2.St} {σd σd' : List Sl}
/-! ### attributes in the heap -/
theorem fld_look {f : List Nat} : ∀ {ns : List (List Nat)} {vs : List V} {ds : List D} {d : D}, ns.length = vs.length → Reps K fr H vs ds → flook ns ds f = some d → ∃ v, (fldV ns vs).lookup (toS f) = some v ∧ Rep K fr H v d
  | [], _, _, _, _, _, e => nomatch e
  | n :: ns, [], _, _, h, _, _ => by simp at h
  | n :: ns, v :: vs, ds, d, h, r, e => by
    cases r with
    | @cons _ _ d0 ds r t =>
      simp only [flook] at e
      by_cases q : n = f
      · rw [if_pos q] at e
        cases e
        refine ⟨v, ?_, r⟩
        subst q
        simp [fldV, List.lookup]
      · rw [if_neg q] at e
        obtain ⟨u, h1, h2⟩ := fld_look (ns := ns) (by simpa using h) t e
        refine ⟨u, ?_, h2⟩
        have ne : (toS f == toS n) = false := beq_eq_false_iff_ne.mpr fun z => q (toS_inj z).symm
        show List.lookup (toS f) ((toS n, v) :: fldV ns vs) = some u
        rw [List.lookup_cons, ne]
        exact h1
theorem fld_none {f : List Nat} : ∀ {ns : List (List Nat)} {vs : List V}, f ∉ ns → (fldV ns vs).lookup (toS f) = none
  | [], _, _ => rfl
  | n :: ns, [], _ => rfl
  | n :: ns, v :: vs, h => by
    have ne : (toS f == toS n) = false := beq_eq_false_iff_ne.mpr fun z => h (by rw [toS_inj z]; simp)
    show List.lookup (toS f) ((toS n, v) :: fldV ns vs) = none
    rw [List.lookup_cons, ne]
    exact fld_none fun z => h (by simp [z])
theorem fld_put {f : List Nat} {v : V} : ∀ {ns : List (List Nat)} {vs : List V}, ns.length = vs.length → putF (toS f) v (fldV ns vs) = fldV (fputN ns f) (fputV ns vs f v) ∧ (fputN ns f).length = (fputV ns vs f v).length
  | [], [], _ => ⟨rfl, rfl⟩
  | [], _ :: _, h => by simp at h
  | _ :: _, [], h => by simp at h
  | n :: ns, x :: vs, h => by
    obtain ⟨h1, h2⟩ := fld_put (f := f) (v := v) (ns := ns) (vs := vs) (by simpa using h)
    have hp : fldV (n :: ns) (x :: vs) = (toS n, x) :: fldV ns vs := rfl
    by_cases q : n = f
    · subst q
      rw [hp]
      have e1 : fputN (n :: ns) n = n :: ns := by simp [fputN]
      have e2 : fputV (n :: ns) (x :: vs) n v = v :: vs := by simp [fputV]
      rw [e1, e2]
      refine ⟨?_, by simpa using h⟩
      simp [putF, fldV]
    · have ne : ¬ toS n = toS f := fun z => q (toS_inj z)
      have e1 : fputN (n :: ns) f = n :: fputN ns f := by
        unfold fputN
        by_cases m : f ∈ ns
        · rw [if_pos m, if_pos (by simp [m])]
        · rw [if_neg m, if_neg (by simp [m]; exact fun z => q z.symm)]
          rfl
      have e2 : fputV (n :: ns) (x :: vs) f v = x :: fputV ns vs f v := by simp [fputV, q]
      rw [hp, e1, e2]
      refine ⟨?_, by simp [h2]⟩
      show (if toS n = toS f then _ else _) = _
      rw [if_neg ne, h1]
      rfl
theorem fld_reps {f : List Nat} {v : V} {d : D} (rd : Rep K fr H v d) : ∀ {ns : List (List Nat)} {vs : List V} {ds : List D}, ns.length = vs.length → Reps K fr H vs ds → Reps K fr H (fputV ns vs f v) (fputV ns ds f d)
  | [], [], _, _, r => by
    cases r
    exact .cons rd .nil
  | [], _ :: _, _, h, _ => by simp at h
  | _ :: _, [], _, h, _ => by simp at h
  | n :: ns, x :: vs, _, h, r => by
    cases r with
    | @cons _ _ d0 ds r t =>
      by_cases q : n = f
      · simp only [fputV, if_pos q]
        exact .cons rd t
      · simp only [fputV, if_neg q]
        exact .cons r (fld_reps rd (by simpa using h) t)
theorem Rep0.ins {v : V} {c : List Nat} {ns : List (List Nat)} {ds : List D} (h : Rep0 K fr H v (.ins c ns ds)) : ∃ a dx vs, v = .ref a ∧ H a = some (.ins (He.ga K (toS c)) dx (fldV ns vs)) ∧ ns.length = vs.length ∧ Reps K fr H vs ds := by
  cases h with
  | sh h => cases h with | ins f h z r => exact ⟨_, _, _, rfl, h, z, r⟩
  | ow h => cases h with | ins h z r => exact ⟨_, _, _, rfl, h, z, r⟩
/-! ### o.f -/
def rAtt (K : PySem.W.Frag) (c f : List Nat) : V → Hp → VK → Prop := fun x H Q => ∃ a dx fs v, x = .ref a ∧ H a = some (.ins (He.ga K (toS c)) dx fs) ∧ fs.lookup (toS f) = some v ∧ Q v H
theorem ok_att {c f : List Nat} : OpOk K (.att c f) (fun vs H Q => match vs with | [x] => rAtt K c f x H Q | _ => False) := by
  intro fr H vs ds b d Q hf r e q
  cases r with
  | nil => exact nomatch e
  | @cons _ _ x0 ds r1 r2 =>
  cases r2 with
  | @cons _ _ y0 ds _ _ =>
    have e0 : (fAtt c f) (x0 :: y0 :: ds) = none := by first | rfl | (cases x0 <;> rfl)
    exact nomatch e0.symm.trans e
  | nil =>
    cases x0 with
    | ins c' ns fs =>
      simp only [opf, fAtt] at e
      split at e
      · rename_i hc
        simp only [Option.map_eq_some_iff, Prod.mk.injEq] at e
        obtain ⟨d', e1, rfl, rfl⟩ := e
        obtain ⟨a, dx, vs, rfl, h1, z1, x1⟩ := r1.ins
        subst hc
        obtain ⟨v, g1, g2⟩ := fld_look z1 x1 e1
        exact ⟨a, dx, _, v, rfl, h1, g1, q.1 rfl _ g2⟩
      · cases e
    | _ => exact nomatch e
theorem pe_att {X : Cx} {e : Expr} {f : Str} {pos : Pos} {c fc : List Nat} {ta : TE} (ef : f = toS fc) (he : PE X e ta) (hc : Cls X.K (He.ga X.K (toS c))) (hn : NoAttr X.K (He.ga X.K (toS c)) f) (hb : attributeBase e f X.env (eval e X.env) = eval e X.env) :
    PE X (.Attribute e f pos) (tCB (fun vs H Q => match vs with | [x] => rAtt X.K c fc x H Q | _ => False) (tCons ta tNil)) := by
  subst ef
  refine ⟨fun pins s σ H Q I h => ?_⟩
  have h : ta σ H fun x H1 => rAtt X.K c fc x H1 Q := h
  refine attr_of hb (thn (he.run pins s σ H _ I h) fun u s1 ⟨x, H1, I1, rx, a, dx, fs, v, ex, ea, l, q⟩ => ?_)
  subst ex
  obtain rfl : u = Value.ref a := rx
  exact getattr_ok I1 ea hc hn l fun u' s2 I2 ru => ⟨v, H1, I2, ru, q⟩
/-! ### name.f = e -/
def sFldA (K : PySem.W.Frag) (c f : List Nat) (ta tv : TE) : TS := fun D σ H => tv σ H fun y H1 => ta σ H1 fun x H2 => ∃ a dx fs, x = .ref a ∧ H2 a = some (.ins (He.ga K (toS c)) dx fs) ∧ fs.length < 1000 ∧ D.nx σ (upd H2 a (.ins (He.ga K (toS c)) dx (putF (toS f) y fs)))
theorem ps_fldA {X : Cx} {o value : Expr} {f : Str} {pos pos' : Pos} {c fc : List Nat} {ta tv : TE} (ef : f = toS fc) (ha : PE X o ta) (hv : PE X value tv) (hc : Cls X.K (He.ga X.K (toS c))) (hn : NoAttr X.K (He.ga X.K (toS c)) f) (hs : swapsWith value (some (.Attribute o f pos')) pos.line X.env = pure false) :
    PS X (.Assign [.Attribute o f pos'] value pos) (sFldA X.K c fc ta tv) := by
  subst ef
  refine ⟨fun pins s σ H D I h => ?_⟩
  refine plainObj_wpAny_Assign_Attribute (thn (hv.run pins s σ H _ I h) fun u s1 ⟨y, H1, I1, ry, q⟩ => thn (ha.run pins s1 σ H1 _ I1 q) fun ov s2 ⟨x, H2, I2, rx, a, dx, fs, ex, ea, l, q2⟩ => ?_) hs
  subst ex
  obtain rfl : ov = Value.ref a := rx
  exact setattr_ok I2 ea hc hn l ry fun s3 I3 => ⟨σ, _, I3, q2⟩
theorem gs_setF {i : Nat} {c f : List Nat} {e : E} {te : TE} (h : GE T K W cf e te) : GS T K W cf (.setF i c f e) (sFldA K c f (tVar i) te) := fun G fr Fo H σv σd D S hq => by
  refine h G fr Fo H σv σd _ S ?_
  simp only [exec, R.toFw] at hq
  cases ee : ev cf e σd with
  | bad => rw [ee] at hq; exact hq
  | ex k fs σ1 => rw [ee] at hq; exact hq σv
  | ok ts σ1 =>
    rw [ee] at hq
    intro vs fr1 H1 A1 S1 R1 v hv
    subst hv
    obtain ⟨t, rfl, r1⟩ := R1.one'
    simp only at hq
    split at hq
    rotate_left
    · exact hq.elim
    rename_i d p c' ns fs ed ei
    split at hq
    rotate_left
    · exact hq.elim
    rename_i hc
    obtain ⟨hc, hn⟩ := hc
    obtain ⟨fr3, A3, S3, R3⟩ := TRs.vals (vs := [v]) (ts := [t]) (ds := [d]) S1 ⟨r1, True.intro⟩ (by simp [Fly.vals, ed])
    obtain ⟨a, g1, g2, g3, g4, g5⟩ := S3.slot i _ ei
    refine ⟨.ref a, g1, ?_⟩
    cases g2 with
    | @ins dx _ _ us _ hh z r =>
      cases R3 with
      | cons rd _ =>
        subst hc
        obtain ⟨p1, p2⟩ := fld_put (f := f) (v := v) z
        obtain ⟨S4, A4⟩ := S3.write (o := .ins (He.ga K (toS c')) dx (putF (toS f) v (fldV ns us))) ei g1 (.ins (by rw [upd_same, p1]) p2 ((fld_reps rd z r).keep (upd_keep g3)))
        refine ⟨a, dx, _, rfl, hh, ?_, hq σv fr3 _ ((A1.trans A3).trans A4) S4⟩
        unfold fldV
        rw [List.length_zip, List.length_map, ← z]
        omega
/-! ### a.m(..) -/
def tMethE (K : PySem.W.Frag) (c m : List Nat) (sp : Sp) (E : L2.St → XK) (ta : TE) (t : TA) : TE := fun σ H Q => ta σ H fun x H1 => ∃ a dx fs, x = .ref a ∧ H1 a = some (.ins (He.ga K (toS c)) dx fs) ∧ fs.lookup (toS m) = none ∧
  t σ H1 fun vs H2 => sp (x :: vs) H2 Q (E σ)
theorem pe_methE {X : Cx} {CX : CXT} {k : Nat} {f : Addr} {fd : FuncData} {ps : List Str} {sp : Sp} {E : L2.St → XK} {m : Str} {pos apos : Pos} {e o : Expr} {es : List Expr} {ta : TE} {t : TA} {c mc : List Nat} {pl : Sem Bool} (em : m = toS mc) (he : PE X o ta) (hc : Cls X.K (He.ga X.K (toS c))) (hm : Meth X.K (He.ga X.K (toS c)) m f)
    (F : FnOk X.prog X.w X.K X.mg X.base CX k f fd ps sp) (hr : Room k X.A) (hb : Binds X.K fd ps []) (hx : ∀ σ, PassesAt CX X σ (E σ)) (ha : PA X (e :: es) t)
    (hst : starEach (e :: es) X.env = (false, eval e X.env) :: starEach es X.env) (hpl : (backTo pos (starEach es X.env)).any (·.1) = false)
    (ht : eval (.Call (.Attribute o m apos) (e :: es) [] pos) X.env = (do
      let ov ← eval o X.env
      standAt apos.atName
      let (g, first) ← holding [ov] (getMethod ov m pl)
      callWith pos g first (backTo pos (starEach (e :: es) X.env)) (backToKw pos (keywordEach [] X.env)))) :
    PE X (.Call (.Attribute o m apos) (e :: es) [] pos) (tMethE X.K c mc sp E ta t) := by
  subst em
  refine ⟨fun pins s σ H Q I h => ?_⟩
  refine PySem.W.methodCall_KW (pl := pl) (thn (he.run pins s σ H _ I h) fun u s1 ⟨x, H1, I1, rx, a, dx, fs, ex, ea, l, q⟩ => ?_) ht
  subst ex
  obtain rfl : u = Value.ref a := rx
  refine getmeth_ok I1 ea hc hm l ?_
  refine PySem.W.callWith_K (first := [.ref a]) (h₀ := X.base) I.ok.mod.kin hm.kp (thn (ha.run pos pins s1 σ H1 _ I1 q) fun us s2 ⟨vs, H2, I2, r, q2⟩ => ⟨I2.kIn, ?_⟩) hst hpl
  exact run_fnS (us := .ref a :: us) (vs := .ref a :: vs) F hr hb (hx σ) I2 (.cons rfl r) q2
theorem pe_methE0 {X : Cx} {CX : CXT} {k : Nat} {f : Addr} {fd : FuncData} {ps : List Str} {sp : Sp} {E : L2.St → XK} {m : Str} {pos apos : Pos} {o : Expr} {ta : TE} {c mc : List Nat} {pl : Sem Bool} (em : m = toS mc) (he : PE X o ta) (hc : Cls X.K (He.ga X.K (toS c))) (hm : Meth X.K (He.ga X.K (toS c)) m f)
    (F : FnOk X.prog X.w X.K X.mg X.base CX k f fd ps sp) (hr : Room k X.A) (hb : Binds X.K fd ps []) (hx : ∀ σ, PassesAt CX X σ (E σ))
    (ht : eval (.Call (.Attribute o m apos) [] [] pos) X.env = (do
      let ov ← eval o X.env
      standAt apos.atName
      let (g, first) ← holding [ov] (getMethod ov m pl)
      callWith pos g first (backTo pos (starEach [] X.env)) (backToKw pos (keywordEach [] X.env)))) :
    PE X (.Call (.Attribute o m apos) [] [] pos) (tMethE X.K c mc sp E ta tNil) := by
  subst em
  refine ⟨fun pins s σ H Q I h => ?_⟩
  refine PySem.W.methodCall_KW (pl := pl) (thn (he.run pins s σ H _ I h) fun u s1 ⟨x, H1, I1, rx, a, dx, fs, ex, ea, l, q⟩ => ?_) ht
  subst ex
  obtain rfl : u = Value.ref a := rx
  refine getmeth_ok I1 ea hc hm l ?_
  exact PySem.W.callWith_K0 (first := [.ref a]) I1.kIn hm.kp (run_fnS (us := [.ref a]) (vs := [.ref a]) F hr hb (hx σ) I1 (.cons rfl .nil) q)
/-- behind the arguments of a call -/
theorem called_ok {f np : Nat} {ts : List Tok} {vs : List V} {Q : VK} (hn : ∀ args, (cf f args = .bad ∨ args.length = np)) (S1 : Sim K G fr Fo H σv σd) (R1 : TRs K fr H σv σd Fo vs ts)
    (hq : RPost T K W G fr Fo H σv (called cf f ts σd) (fun vs H' => ∀ v, vs = [v] → Q v H')) : SpF T K cf np f vs H Q (WE W σv) := by
  simp only [called] at hq
  split at hq
  · exact hq.elim
  · rename_i args σL el
    obtain ⟨AR1, sub, SL⟩ := lend_ok S1 R1 el
    have hl : vs.length = np := by
      rcases hn args with z | z
      · rw [z] at hq; exact hq.elim
      · rw [AR1.length]; exact z
    have fo1 : ∀ a, (Fo a ∨ OwA σv σL a) → H a ≠ none ∧ ¬ fr a ∧ NT (H a) := fun a f => f.elim (SL.fos a) fun ⟨j, p, d, k1, k2⟩ => by
      obtain ⟨b, g1, g2, g3, _⟩ := SL.slot j _ k1
      rw [k2] at g1; cases g1
      exact ⟨g2.some, g3, g2.nt⟩
    have hG : ∀ (i : Nat) (p : Bool) (d : D), σd[i]? = some (.ow p d) → ∀ v : V, σv[i]? = some (some v) → p = true → v = G i := fun i p d e0 v e1 hp => by
      obtain ⟨b, g1, _, _, _, g5⟩ := S1.slot i _ e0
      rw [e1] at g1; cases g1
      exact g5 hp
    refine ⟨hl, fr, _, args, S1.frs, fo1, AR1, ?_⟩
    cases ec : cf f args with
    | bad => rw [ec] at hq; exact hq
    | ret d o outs =>
      rw [ec] at hq
      intro v fr2 H2 A2 g1 g2 O2 R2
      simp only at hq
      split at hq
      · rename_i σ2 eb
        obtain ⟨S2, hO⟩ := back_ok (Fo' := fun x => Fo x ∨ OwA σv σL x) el (fun i s z => .inr z) O2 R1.brv AR1.ad (fun x f => .inr f) (fun x f => .inl f) hG (SL.aft A2 g1) eb
        have A12 : Aft fr Fo H fr2 H2 := A2.less fun x f => .inl f
        cases R2 with
        | sh r => exact hq [v] fr2 H2 A12 S2 ⟨.tv r, True.intro⟩ v rfl
        | @ow a d r k1 k2 k3 =>
          refine hq [.ref a] fr2 H2 A12 S2 ⟨.tf r k1 (fun f => k2 (.inl f)) fun j p x ej evj => ?_, True.intro⟩ _ rfl
          rcases hO a ⟨j, p, x, ej, evj⟩ with z | ⟨k, d', z1, z2⟩
          · exact k2 z
          · exact k3 k d' z1 z2
      · exact hq.elim
    | ex c fs outs =>
      rw [ec] at hq
      intro cls dx fr2 H2 A2 g1 g2 O2 R2
      simp only at hq
      split at hq
      · rename_i σ2 eb
        obtain ⟨S2, hO⟩ := back_ok (Fo' := fun x => Fo x ∨ OwA σv σL x) el (fun i s z => .inr z) O2 R1.brv AR1.ad (fun x f => .inr f) (fun x f => .inl f) hG (SL.aft A2 g1) eb
        exact hq cls dx fr2 H2 (A2.less fun x f => .inl f) S2 R2
      · exact hq.elim
theorem ge_meth {c m : List Nat} {f np : Nat} {a es : E} {ta : TE} {t : TA} (hn : ∀ args, (cf f args = .bad ∨ args.length = np)) (ha : GE T K W cf a ta) (h : GA T K W cf es t) : GE T K W cf (.meth c m f a es) (tMethE K c m (SpF T K cf np f) (WE W) ta t) := fun G fr Fo H σv σd Q S hq => by
  refine ha G fr Fo H σv σd _ S ?_
  simp only [ev, R.andThen] at hq
  cases e : ev cf a σd with
  | bad => rw [e] at hq; exact hq
  | ex k fs σ1 => rw [e] at hq; exact hq
  | ok ts σ1 =>
    rw [e] at hq
    intro vs fr1 H1 A1 S1 R1 v hv
    subst hv
    obtain ⟨tk, rfl, r1⟩ := R1.one'
    simp only at hq
    split at hq
    rotate_left
    · exact hq.elim
    rename_i c' ns ds el
    split at hq
    rotate_left
    · exact hq.elim
    rename_i hc
    obtain ⟨hc, hm⟩ := hc
    obtain ⟨p, dx, us, rfl, h1, z1, x1⟩ := (r1.look S1 el).ins
    subst hc
    refine ⟨p, dx, _, rfl, h1, fld_none hm, ?_⟩
    refine h G fr1 (addF Fo (.ref p) tk) H1 σv σ1 _ (S1.addF r1) ?_
    cases e2 : ev cf es σ1 with
    | bad => rw [e2] at hq; exact hq
    | ex k fs σ2 => rw [e2] at hq; exact fun cls dx fr2 H2 A2 S2 => hq cls dx fr2 H2 (A1.trans (A2.less addF_sub)) (S2.less addF_sub)
    | ok us2 σ2 =>
      rw [e2] at hq
      intro ws fr2 H2 A2 S2 R2
      have r1' := r1.keep A2 S2
      refine called_ok (W := W) hn (S2.less addF_sub) (vs := .ref p :: ws) (ts := tk :: us2) ⟨r1', R2⟩ ?_
      exact RPost.from hq (A1.trans (A2.less addF_sub))
/-! ### C(..) -/
def tMakeE (K : PySem.W.Frag) (c : List Nat) (sp : Sp) (E : L2.St → XK) (t : TA) : TE := fun σ H Q => t σ H fun vs H1 => ∀ x dx, H1 x = none → H1 dx = none → dx ≠ x →
  sp (.ref x :: vs) (upd (upd H1 dx (.own x)) x (.ins (He.ga K (toS c)) dx [])) (fun v H2 => v = .non ∧ Q (.ref x) H2) (E σ)
theorem pe_makeE {X : Cx} {CX : CXT} {k : Nat} {f : Addr} {fd : FuncData} {ps : List Str} {sp : Sp} {E : L2.St → XK} {x : Str} {p pos : Pos} {e : Expr} {es : List Expr} {t : TA} {c : List Nat} (M : Mk X.K (He.ga X.K (toS c)) f) (F : FnOk X.prog X.w X.K X.mg X.base CX k f fd ps sp) (hr : Room (k + 1) X.A) (hg : Gl X x) (hm : X.mg x = some (.ref (He.ga X.K (toS c))))
    (hb : Binds X.K fd ps []) (hx : ∀ σ, PassesAt CX X σ (E σ)) (ha : PA X (e :: es) t) (hdb : (x == ("__debug__" : Str)) = false) (he : starEach (e :: es) X.env = (false, eval e X.env) :: starEach es X.env) (hpl : (backTo pos (starEach es X.env)).any (·.1) = false) :
    PE X (.Call (.Name x p) (e :: es) [] pos) (tMakeE X.K c sp E t) := by
  refine ⟨fun pins s σ H Q I h => ?_⟩
  refine wpAny_Call_Name_kw (ld_glob I hg hm ?_ hdb)
  refine PySem.W.callWith_K (h₀ := X.base) I.ok.mod.kin M.kp (thn (ha.run pos pins s σ H _ I h) fun us s1 ⟨vs, H1, I1, r, q⟩ => ⟨I1.kIn, ?_⟩) he hpl
  have fresh1 := I1.hok.fresh (Nat.le_succ s1.heap.objs.size)
  have fresh0 := I1.hok.fresh (Nat.le_refl s1.heap.objs.size)
  have hq := q (s1.heap.objs.size + 1) s1.heap.objs.size fresh1 fresh0 (Nat.ne_of_lt (Nat.lt_succ_self _))
  have J := Inv.made (C := He.ga X.K (toS c)) I1
  have rr : Vals (V.ref (s1.heap.objs.size + 1) :: vs) (Value.ref (s1.heap.objs.size + 1) :: us) := .cons rfl r
  have len : (Value.ref (s1.heap.objs.size + 1) :: us).length = ps.length := rr.length.symm.trans (F.len _ _ _ _ hq)
  have bi := hb _ (Value.ref (s1.heap.objs.size + 1) :: us) J.kIn (by rw [List.append_nil]; exact len)
  rw [List.append_nil] at bi
  refine wpAny_call (make_map (f := f) I1.kIn M.makes M.init (beq_iff_eq.mp M.fn) (codeAny_mono (F.run _ X.stack _ _ ⟨Value.ref (s1.heap.objs.size + 1) :: us, []⟩ _ _ _ (E σ) (hr.make _ us []) (J.env0.make _ us []) bi rr hq) fun r' s' hq' => ?_))
  cases r' with
  | error er => exact hx σ pins _ _ er s' J hq'
  | ok fl =>
    cases fl with
    | ret u =>
      obtain ⟨v, H', I3, rv, ev, q3⟩ := J.after hq'
      subst ev
      exact ⟨rv, ⟨V.ref (s1.heap.objs.size + 1), H', I3, rfl, q3⟩⟩
    | next => exact hq'.elim
    | brk => exact hq'.elim
    | cont => exact hq'.elim
theorem rep_newP {p : Addr} {o : HO} (hf : ∀ a, fr a → H a ≠ none) (hp : H p = none) : ∀ a, fr a → fr a ∧ upd H p o a = H a := fun a f => ⟨f, upd_ne fun z => hf a f (by rw [z]; exact hp)⟩
/-- the parameters' places, the heap grown by p -/
theorem AR.grow {p : Addr} {o : HO} {vs : List V} {as : List Sl} (r : AR K fr H Fo vs as) (hf : ∀ a, fr a → H a ≠ none) (hp : H p = none) : AR K fr (upd H p o) (fun x => Fo x ∨ x = p) vs as := by
  induction r with
  | nil => exact .nil
  | fz h _ ih => exact .fz (h.keep (rep_newP hf hp)) ih
  | @ow Fo a vs q d as h h1 h2 _ ih =>
    have na : a ≠ p := fun z => h.some (by rw [z]; exact hp)
    refine .ow (h.keep (rep_newP hf hp) (upd_ne na)) h1 (fun z => z.elim h2 na) (ih.less (Fo := fun x => (Fo x ∨ x = p) ∨ x = a) fun x f => ?_)
    rcases f with (f | f) | f
    · exact .inl (.inl f)
    · exact .inr f
    · exact .inl (.inr f)
theorem lend_ow : ∀ {ts : List Tok} {σ as σ' : List Sl}, lend ts σ = some (as, σ') → ∀ (j : Nat) (p : Bool) (d : D), σ'[j]? = some (.ow p d) → σ[j]? = some (.ow p d)
  | [], σ, as, σ', e => by
    simp only [lend, Option.some.injEq, Prod.mk.injEq] at e
    obtain ⟨_, rfl⟩ := e
    exact fun _ _ _ h => h
  | .tv d :: ts, σ, as, σ', e => by
    simp only [lend, Option.map_eq_some_iff, Prod.mk.injEq] at e
    obtain ⟨⟨as', s⟩, e1, _, rfl⟩ := e
    exact lend_ow e1
  | .tf d :: ts, σ, as, σ', e => by
    simp only [lend, Option.map_eq_some_iff, Prod.mk.injEq] at e
    obtain ⟨⟨as', s⟩, e1, _, rfl⟩ := e
    exact lend_ow e1
  | .br i :: ts, σ, as, σ', e => by
    simp only [lend] at e
    split at e
    · simp only [Option.map_eq_some_iff, Prod.mk.injEq] at e
      obtain ⟨⟨as', s⟩, e1, _, rfl⟩ := e
      exact lend_ow e1
    · simp only [Option.map_eq_some_iff, Prod.mk.injEq] at e
      obtain ⟨⟨as', s⟩, e1, _, rfl⟩ := e
      intro j p d h
      have := lend_ow e1 j p d h
      rcases getElem?_set' this with ⟨_, z⟩ | ⟨_, z⟩
      · cases z
      · exact z
    · cases e
theorem back_ow : ∀ {ts : List Tok} {outs σ0 σ σ2 : List Sl}, back ts outs σ0 σ = some σ2 → (∀ (j : Nat) (p : Bool) (d : D), σ[j]? = some (.ow p d) → ∃ p' d', σ0[j]? = some (.ow p' d')) →
    ∀ (j : Nat) (p : Bool) (d : D), σ2[j]? = some (.ow p d) → ∃ p' d', σ0[j]? = some (.ow p' d')
  | [], outs, σ0, σ, σ2, e, h => by
    simp only [back, Option.some.injEq] at e
    subst e
    exact h
  | .tv d :: ts, [], σ0, σ, σ2, e, h => by simp [back] at e
  | .tf d :: ts, [], σ0, σ, σ2, e, h => by simp [back] at e
  | .br i :: ts, [], σ0, σ, σ2, e, h => by simp [back] at e
  | .tv d :: ts, o :: outs, σ0, σ, σ2, e, h => by
    simp only [back] at e
    exact back_ow e h
  | .tf d :: ts, o :: outs, σ0, σ, σ2, e, h => by
    simp only [back] at e
    exact back_ow e h
  | .br i :: ts, o :: outs, σ0, σ, σ2, e, h => by
    simp only [back] at e
    split at e
    · rename_i p d e0
      split at e
      · refine back_ow e fun j p2 d2 ej => ?_
        rcases getElem?_set' ej with ⟨z, _⟩ | ⟨_, z⟩
        · subst z; exact ⟨_, _, e0⟩
        · exact h j p2 d2 z
      · refine back_ow e fun j p2 d2 ej => ?_
        rcases getElem?_set' ej with ⟨_, z⟩ | ⟨_, z⟩
        · cases z
        · exact h j p2 d2 z
      · cases e
    · exact back_ow e h
theorem ge_mk {c : List Nat} {f np : Nat} {es : E} {t : TA} (hn : ∀ args, (cf f args = .bad ∨ args.length = np)) (h : GA T K W cf es t) : GE T K W cf (.mk c f es) (tMakeE K c (SpF T K cf np f) (WE W) t) := fun G fr Fo H σv σd Q S hq => by
  refine h G fr Fo H σv σd _ S ?_
  simp only [ev, R.andThen] at hq
  cases e : ev cf es σd with
  | bad => rw [e] at hq; exact hq
  | ex k fs σ1 => rw [e] at hq; exact hq
  | ok ts σ1 =>
    rw [e] at hq
    intro vs fr1 H1 A1 S1 R1 x dx hx hdx ne
    simp only [made] at hq
    split at hq
    · exact hq.elim
    rename_i args σL el
    obtain ⟨AR1, sub, SL⟩ := lend_ok S1 R1 el
    -- the heap with the new thing
    have gd := Aft.grow (o := .own x) (fr' := fr1) S1 hdx (fun _ f => f) fun _ f => .inl f
    have Sd := SL.grow (o := .own x) (fr' := fr1) hdx (fun _ f => f) fun _ f => .inl f
    have Sd1 := S1.grow (o := .own x) (fr' := fr1) hdx (fun _ f => f) fun _ f => .inl f
    have hx' : upd H1 dx (.own x) x = none := by rw [upd_ne (Ne.symm ne)]; exact hx
    have gx := Aft.grow (o := .ins (He.ga K (toS c)) dx []) (fr' := fr1) Sd1 hx' (fun _ f => f) fun _ f => .inl f
    have Sx := Sd.grow (o := .ins (He.ga K (toS c)) dx []) (fr' := fr1) hx' (fun _ f => f) fun _ f => .inl f
    have ARx := (AR1.grow (o := .own x) S1.frs hdx).grow (o := .ins (He.ga K (toS c)) dx []) Sd1.frs hx'
    have nfx : ¬ fr1 x := fun f => S1.frs x f hx
    have nFx : ¬ (Fo x ∨ OwA σv σL x) := fun z => z.elim (fun f => (S1.fos x f).1 hx) fun ⟨j, p, d, k1, k2⟩ => by
      obtain ⟨b, g1, g2, _⟩ := SL.slot j _ k1
      rw [k2] at g1; cases g1
      exact g2.some hx
    have fox : ∀ a, (Fo a ∨ OwA σv σL a) → upd (upd H1 dx (.own x)) x (.ins (He.ga K (toS c)) dx []) a ≠ none ∧ ¬ fr1 a ∧ NT (upd (upd H1 dx (.own x)) x (.ins (He.ga K (toS c)) dx []) a) := fun a f => f.elim (Sx.fos a) fun ⟨j, p, d, k1, k2⟩ => by
      obtain ⟨b, g1, g2, g3, _⟩ := Sx.slot j _ k1
      rw [k2] at g1; cases g1
      exact ⟨g2.some, g3, g2.nt⟩
    have ARn : AR K fr1 (upd (upd H1 dx (.own x)) x (.ins (He.ga K (toS c)) dx [])) (fun a => Fo a ∨ OwA σv σL a) (.ref x :: vs) (.ow true (.ins c [] []) :: args) := by
      refine .ow (.ins (vs := []) upd_same rfl .nil) nfx nFx (ARx.less (Fo := fun a => (Fo a ∨ OwA σv σL a) ∨ a = x) fun a f => ?_)
      rcases f with f | f
      · exact .inl (.inl f)
      · exact .inr f
    have hl : (V.ref x :: vs).length = np := by
      rcases hn (.ow true (.ins c [] []) :: args) with z | z
      · rw [z] at hq; exact hq.elim
      · rw [ARn.length]; exact z
    have hG : ∀ (i : Nat) (p : Bool) (d : D), σ1[i]? = some (.ow p d) → ∀ v : V, σv[i]? = some (some v) → p = true → v = G i := fun i p d e0 v e1 hp => by
      obtain ⟨b, g1, _, _, _, g5⟩ := S1.slot i _ e0
      rw [e1] at g1; cases g1
      exact g5 hp
    refine ⟨hl, fr1, _, _, Sx.frs, fox, ARn, ?_⟩
    cases ec : cf f (.ow true (.ins c [] []) :: args) with
    | bad => rw [ec] at hq; exact hq
    | ret d o outs0 =>
      rw [ec] at hq
      intro v fr2 H2 A2 g1 g2 O2 R2
      split at hq
      · rename_i d0 o0 outs z
        cases z
        split at hq
        · rename_i σ2 eb
          cases O2 with
          | ow ro nf O' =>
            have SL2 := Sx.aft A2 g1
            have ADr : AD (fun a => Fo a ∨ OwA σv σL a) vs args := AR1.ad
            obtain ⟨S2, hO⟩ := back_ok (Fo' := fun a => Fo a ∨ OwA σv σL a) el (fun i s z => .inr z) O' R1.brv ADr (fun x f => .inr f) (fun x f => .inl f) hG SL2 eb
            have A12 : Aft fr Fo H fr2 H2 := (((A1.trans gd).trans gx)).trans (A2.less fun x f => .inl f)
            have vn : v = .non := by
              cases R2 with
              | sh r => cases r; rfl
              | ow r _ _ _ => cases r
            refine ⟨vn, hq [.ref x] fr2 H2 A12 S2 ⟨.tf ro nf (fun f => nFx (.inl f)) fun j p y ej evj => ?_, True.intro⟩ _ rfl⟩
            obtain ⟨p', d', e0⟩ := back_ow eb (fun j p d h => ⟨p, d, lend_ow el j p d h⟩) j p y ej
            obtain ⟨b, k1, k2, _⟩ := S1.slot j _ e0
            rw [evj] at k1; cases k1
            exact k2.some hx
        · exact hq.elim
      · rename_i z; cases z
      · exact hq.elim
    | ex k fs outs0 =>
      rw [ec] at hq
      intro cls dxx fr2 H2 A2 g1 g2 O2 R2
      split at hq
      · rename_i z; cases z
      · rename_i k' fs' o0 outs z
        cases z
        split at hq
        · rename_i σ2 eb
          have SL2 := Sx.aft A2 g1
          have ADr : AD (fun a => Fo a ∨ OwA σv σL a) vs args := AR1.ad
          have O' : Outs K fr2 H2 vs args outs := by cases O2 <;> assumption
          obtain ⟨S2, hO⟩ := back_ok (Fo' := fun a => Fo a ∨ OwA σv σL a) el (fun i s z => .inr z) O' R1.brv ADr (fun x f => .inr f) (fun x f => .inl f) hG SL2 eb
          exact hq cls dxx fr2 H2 (((A1.trans gd).trans gx).trans (A2.less fun x f => .inl f)) S2 R2
        · exact hq.elim
      · exact hq.elim
end
end Fly
end

section
set_option Elab.async false
set_option linter.all false
set_option maxRecDepth 100000
set_option maxHeartbeats 4000000
/-! The built-in steps (FlyOps). -/
namespace Fly
open PySem L2
section
variable {K : PySem.W.Frag} {fr : AP} {H : Hp} {Fo : AP}
def l1 (r : V → Hp → VK → Prop) : List V → Hp → VK → Prop := fun vs H Q => match vs with | [x] => r x H Q | _ => False
def l2 (r : R2) : List V → Hp → VK → Prop := fun vs H Q => match vs with | [x, y] => r x y H Q | _ => False

theorem Rep0.str {v : V} {x : List Nat} (h : Rep0 K fr H v (.str x)) : v = .str (toS x) := by
  cases h with
  | sh h => cases h; rfl
  | ow h => cases h
theorem toS_len (x : List Nat) : (toS x).length = x.length := by simp [toS, Str.length]
theorem toS_app (x y : List Nat) : toS x ++ toS y = toS (x ++ y) := by
  show Str.mk (x.toArray ++ y.toArray) = Str.mk (x ++ y).toArray
  simp
theorem rep_new {p : Addr} {o : HO} (hf : ∀ a, fr a → H a ≠ none) (hp : H p = none) : ∀ a, fr a → (fr a ∨ a = p) ∧ upd H p o a = H a := fun a f => ⟨.inl f, upd_ne fun z => hf a f (z ▸ hp)⟩
theorem rep_new' {p : Addr} {o : HO} (hf : ∀ a, fr a → H a ≠ none) (hp : H p = none) : ∀ a, fr a → fr a ∧ upd H p o a = H a := fun a f => ⟨f, upd_ne fun z => hf a f (z ▸ hp)⟩
/-- a new tuple -/
theorem OPost.tup {p : Addr} {xs : List V} {ds : List D} {Q : VK} (hf : ∀ a, fr a → H a ≠ none) (q : OPost K fr H false (.tup ds) Q) (hp : H p = none) (z : xs.length ≤ sizeLine) (r : Reps K fr H xs ds) : Q (.ref p) (upd H p (.tup xs)) :=
  (q.2 p _ hp).1 rfl _ (.tup ⟨.inr rfl, upd_same⟩ z (r.keep (rep_new hf hp)))
theorem OPost.lst {p : Addr} {xs : List V} {ds : List D} {Q : VK} (hf : ∀ a, fr a → H a ≠ none) (q : OPost K fr H true (.lst ds) Q) (hp : H p = none) (z : xs.length ≤ sizeLine) (r : Reps K fr H xs ds) : Q (.ref p) (upd H p (.lst xs)) :=
  (q.2 p _ hp).2 rfl (.lst upd_same z (r.keep (rep_new' hf hp)))
theorem OPost.int {i : Int} {Q : VK} (q : OPost K fr H false (.int i) Q) : Q (.int i) H := q.1 rfl _ (.int i)
theorem OPost.bl {i : Bool} {Q : VK} (q : OPost K fr H false (.bl i) Q) : Q (.bl i) H := q.1 rfl _ (.bl i)

/-! ### + - * // % ** -/
def rAddA (K : PySem.W.Frag) : R2 := fun x y H Q => (rI0 (fun i j => .int (i + j)) x y H Q) ∨ ((∃ i j, x = .str i ∧ y = .str j ∧ i.length + j.length ≤ sizeLine ∧ Q (.str (i ++ j)) H) ∨ (rCatA K x y H Q ∨ rCat x y H Q))
theorem op_addA {X : Cx} : OpR X (binaryOp .Add) (rAddA X.K) := OpR.or op_add (OpR.or op_add_str (OpR.or op_catA op_cat))
theorem ok_add : OpOk K .add (l2 (rAddA K)) := by
  intro fr H vs ds b d Q hf r e q
  cases r with
  | nil => exact nomatch e
  | @cons _ _ x0 ds r1 r2 =>
  cases r2 with
  | nil =>
    have e0 : fAdd [x0] = none := by first | rfl | (cases x0 <;> rfl)
    exact nomatch e0.symm.trans e
  | @cons _ _ y0 ds r2 r3 =>
  cases r3 with
  | @cons _ _ z0 ds _ _ =>
    have e0 : fAdd (x0 :: y0 :: z0 :: ds) = none := by first | rfl | (cases x0 <;> rfl) | (cases y0 <;> rfl) | (cases x0 <;> cases y0 <;> rfl)
    exact nomatch e0.symm.trans e
  | nil =>
    cases x0 with
    | int i =>
      cases y0 with
      | int j =>
        cases e
        rw [r1.int, r2.int]
        exact .inl ⟨i, j, rfl, rfl, q.int⟩
      | _ => exact nomatch e
    | str x =>
      cases y0 with
      | str y =>
        simp only [opf, fAdd] at e
        split at e
        · rename_i z
          cases e
          rw [r1.str, r2.str]
          refine .inr (.inl ⟨_, _, rfl, rfl, by rw [toS_len, toS_len, ← szLine_eq]; exact z, ?_⟩)
          rw [toS_app]
          exact q.1 rfl _ (.str _)
        · cases e
      | _ => exact nomatch e
    | tup l =>
      cases y0 with
      | tup m =>
        simp only [opf, fAdd] at e
        split at e
        · rename_i z
          cases e
          obtain ⟨a, xs, rfl, h1, z1, x1, y1⟩ := r1.tup
          obtain ⟨b, ys, rfl, h2, z2, x2, y2⟩ := r2.tup
          have zz : xs.length + ys.length ≤ sizeLine := by rw [x1.length, x2.length, ← szLine_eq]; exact z
          refine .inr (.inr (.inl ⟨a, b, xs, ys, rfl, rfl, h1, h2, zz, fun h0 => ?_, fun _ h0 => ?_, fun _ _ p hp => ?_⟩))
          · subst h0
            cases x1
            exact q.1 rfl _ y2
          · subst h0
            cases x2
            exact q.1 rfl _ (by rw [List.append_nil]; exact y1)
          · exact q.tup hf hp (by rw [List.length_append]; exact zz) (x1.append x2)
        · cases e
      | _ => exact nomatch e
    | lst l =>
      cases y0 with
      | lst m =>
        simp only [opf, fAdd] at e
        split at e
        · rename_i z
          cases e
          obtain ⟨a, xs, rfl, h1, z1, x1⟩ := r1.lst
          obtain ⟨b, ys, rfl, h2, z2, x2⟩ := r2.lst
          have zz : xs.length + ys.length ≤ sizeLine := by rw [x1.length, x2.length, ← szLine_eq]; exact z
          exact .inr (.inr (.inr ⟨a, b, xs, ys, rfl, rfl, h1, h2, zz, fun p hp => q.lst hf hp (by rw [List.length_append]; exact zz) (x1.append x2)⟩))
        · cases e
      | _ => exact nomatch e
    | _ => exact nomatch e
theorem ok_sub : OpOk K .sub (l2 (rI0 fun i j => .int (i - j))) := by
  intro fr H vs ds b d Q hf r e q
  cases r with
  | nil => exact nomatch e
  | @cons _ _ x0 ds r1 r2 =>
  cases r2 with
  | nil =>
    have e0 : fSub [x0] = none := by first | rfl | (cases x0 <;> rfl)
    exact nomatch e0.symm.trans e
  | @cons _ _ y0 ds r2 r3 =>
  cases r3 with
  | @cons _ _ z0 ds _ _ =>
    have e0 : fSub (x0 :: y0 :: z0 :: ds) = none := by first | rfl | (cases x0 <;> rfl) | (cases y0 <;> rfl) | (cases x0 <;> cases y0 <;> rfl)
    exact nomatch e0.symm.trans e
  | nil =>
    cases x0 with
    | int i =>
      cases y0 with
      | int j =>
        cases e
        rw [r1.int, r2.int]
        exact ⟨i, j, rfl, rfl, q.int⟩
      | _ => exact nomatch e
    | _ => exact nomatch e
/-- t * k, whatever k is -/
def rRepTA (K : PySem.W.Frag) : R2 := fun x y H Q => rRepT K x y H Q
def rMulA (K : PySem.W.Frag) : R2 := fun x y H Q => (rI CMul (fun i j => .int (i * j)) x y H Q) ∨ (rRepT K x y H Q ∨ (rRep x y H Q ∨ rRepOne K x y H Q))
theorem op_mulA {X : Cx} : OpR X (binaryOp .Mult) (rMulA X.K) := OpR.or op_mul (OpR.or op_repT (OpR.or op_rep op_repOne))
theorem ok_mul : OpOk K .mul (l2 (rMulA K)) := by
  intro fr H vs ds b d Q hf r e q
  cases r with
  | nil => exact nomatch e
  | @cons _ _ x0 ds r1 r2 =>
  cases r2 with
  | nil =>
    have e0 : fMul [x0] = none := by first | rfl | (cases x0 <;> rfl)
    exact nomatch e0.symm.trans e
  | @cons _ _ y0 ds r2 r3 =>
  cases r3 with
  | @cons _ _ z0 ds _ _ =>
    have e0 : fMul (x0 :: y0 :: z0 :: ds) = none := by first | rfl | (cases x0 <;> rfl) | (cases y0 <;> rfl) | (cases x0 <;> cases y0 <;> rfl)
    exact nomatch e0.symm.trans e
  | nil =>
    cases x0 with
    | int i =>
      cases y0 with
      | int j =>
        simp only [opf, fMul] at e
        split at e
        · rename_i z
          cases e
          rw [r1.int, r2.int]
          refine .inl ⟨i, j, rfl, rfl, ?_, q.int⟩
          simpa [okMul, CMul] using z
        · cases e
      | _ => exact nomatch e
    | tup l =>
      cases y0 with
      | int k =>
        simp only [opf, fMul] at e
        split at e
        · rename_i z
          cases e
          obtain ⟨a, xs, rfl, h1, z1, x1, y1⟩ := r1.tup
          rw [r2.int]
          refine .inr (.inl ⟨a, k, xs, rfl, rfl, h1, ?_, z.1, z.2.1, by rw [x1.length]; exact z.2.2.1, fun p hp => ?_⟩)
          · intro h0
            subst h0
            cases x1
            exact z.2.2.2 rfl
          · refine q.tup hf hp ?_ (x1.rep _)
            rw [List.length_flatten, List.map_replicate, List.sum_replicate_nat, x1.length]
            have h2 : k.toNat ≤ 1000 := by omega
            have h3 := z.2.2.1
            have : k.toNat * l.length ≤ 1000 * 1000 := Nat.mul_le_mul h2 h3
            rw [sizeLine_eq]
            omega
        · split at e
          · rename_i z
            cases e
            have r3 : ∀ {v : V} {l : List D}, Rep0 K fr H v (.tup l) → Rep K fr H v (.tup l) := fun r => by
              cases r with
              | sh h => exact h
              | ow h => cases h
            have r4 := r3 r1
            obtain ⟨a, xs, rfl, h1, z1, x1, y1⟩ := r1.tup
            rw [r2.int, z.1]
            refine .inr (.inr (.inr ⟨a, xs, rfl, rfl, h1, ?_, ?_⟩))
            · intro h0
              subst h0
              cases x1
              exact z.2 rfl
            · exact q.1 rfl _ r4
          · cases e
      | _ => exact nomatch e
    | lst l =>
      cases y0 with
      | int k =>
        simp only [opf, fMul] at e
        split at e
        · rename_i z
          cases e
          obtain ⟨a, xs, rfl, h1, z1, x1⟩ := r1.lst
          rw [r2.int]
          have zz : xs.length * k.toNat ≤ sizeLine := by rw [x1.length, ← szLine_eq]; exact z.2.2
          refine .inr (.inr (.inl ⟨a, k, xs, rfl, rfl, h1, z.1, z.2.1, zz, fun p hp => q.lst hf hp ?_ (x1.rep _)⟩))
          rw [List.length_flatten, List.map_replicate, List.sum_replicate_nat, Nat.mul_comm]
          exact zz
        · cases e
      | _ => exact nomatch e
    | _ => exact nomatch e
theorem small_div {j : Int} (h : 0 < j ∧ j < 1073741824) : CDivW i j := wide_div (b := 30) h.1 (by omega) (by decide) (by decide)
theorem ok_fdiv : OpOk K .fdiv (l2 (rI CDivW fun i j => .int (i / j))) := by
  intro fr H vs ds b d Q hf r e q
  cases r with
  | nil => exact nomatch e
  | @cons _ _ x0 ds r1 r2 =>
  cases r2 with
  | nil =>
    have e0 : fFdiv [x0] = none := by first | rfl | (cases x0 <;> rfl)
    exact nomatch e0.symm.trans e
  | @cons _ _ y0 ds r2 r3 =>
  cases r3 with
  | @cons _ _ z0 ds _ _ =>
    have e0 : fFdiv (x0 :: y0 :: z0 :: ds) = none := by first | rfl | (cases x0 <;> rfl) | (cases y0 <;> rfl) | (cases x0 <;> cases y0 <;> rfl)
    exact nomatch e0.symm.trans e
  | nil =>
    cases x0 with
    | int i =>
      cases y0 with
      | int j =>
        simp only [opf, fFdiv] at e
        split at e
        · rename_i z
          cases e
          rw [r1.int, r2.int]
          exact ⟨i, j, rfl, rfl, small_div z, q.int⟩
        · split at e
          · rename_i z
            cases e
            rw [r1.int, r2.int]
            exact ⟨i, j, rfl, rfl, z, q.int⟩
          · cases e
      | _ => exact nomatch e
    | _ => exact nomatch e
theorem ok_mod : OpOk K .mod (l2 (rI (fun _ j => 0 < j) fun i j => .int (i % j))) := by
  intro fr H vs ds b d Q hf r e q
  cases r with
  | nil => exact nomatch e
  | @cons _ _ x0 ds r1 r2 =>
  cases r2 with
  | nil =>
    have e0 : fMod [x0] = none := by first | rfl | (cases x0 <;> rfl)
    exact nomatch e0.symm.trans e
  | @cons _ _ y0 ds r2 r3 =>
  cases r3 with
  | @cons _ _ z0 ds _ _ =>
    have e0 : fMod (x0 :: y0 :: z0 :: ds) = none := by first | rfl | (cases x0 <;> rfl) | (cases y0 <;> rfl) | (cases x0 <;> cases y0 <;> rfl)
    exact nomatch e0.symm.trans e
  | nil =>
    cases x0 with
    | int i =>
      cases y0 with
      | int j =>
        simp only [opf, fMod] at e
        split at e
        · rename_i z
          cases e
          rw [r1.int, r2.int]
          exact ⟨i, j, rfl, rfl, z, q.int⟩
        · cases e
      | _ => exact nomatch e
    | _ => exact nomatch e
theorem ok_pow : OpOk K .pow (l2 (rI CPow fun i j => .int (i ^ j.toNat))) := by
  intro fr H vs ds b d Q hf r e q
  cases r with
  | nil => exact nomatch e
  | @cons _ _ x0 ds r1 r2 =>
  cases r2 with
  | nil =>
    have e0 : fPow [x0] = none := by first | rfl | (cases x0 <;> rfl)
    exact nomatch e0.symm.trans e
  | @cons _ _ y0 ds r2 r3 =>
  cases r3 with
  | @cons _ _ z0 ds _ _ =>
    have e0 : fPow (x0 :: y0 :: z0 :: ds) = none := by first | rfl | (cases x0 <;> rfl) | (cases y0 <;> rfl) | (cases x0 <;> cases y0 <;> rfl)
    exact nomatch e0.symm.trans e
  | nil =>
    cases x0 with
    | int i =>
      cases y0 with
      | int j =>
        simp only [opf, fPow] at e
        split at e
        · rename_i z
          cases e
          rw [r1.int, r2.int]
          refine ⟨i, j, rfl, rfl, ⟨z.2.2.1, by omega, ?_⟩, q.int⟩
          have : i.natAbs ≤ 16 := by omega
          exact Nat.lt_of_le_of_lt this (by decide)
        · cases e
      | _ => exact nomatch e
    | _ => exact nomatch e
theorem ok_neg : OpOk K .neg (l1 (rU fun i => .int (-i))) := by
  intro fr H vs ds b d Q hf r e q
  cases r with
  | nil => exact nomatch e
  | @cons _ _ x0 ds r1 r2 =>
  cases r2 with
  | @cons _ _ y0 ds _ _ =>
    have e0 : fNeg (x0 :: y0 :: ds) = none := by first | rfl | (cases x0 <;> rfl)
    exact nomatch e0.symm.trans e
  | nil =>
    cases x0 with
    | int i =>
      cases e
      rw [r1.int]
      exact ⟨i, rfl, q.int⟩
    | _ => exact nomatch e

/-! ### comparisons -/
theorem lexI_eq : ∀ k m : List Int, lexI k m = HT.lexLt k m
  | [], [] => rfl
  | [], _ :: _ => rfl
  | _ :: _, [] => rfl
  | x :: xs, y :: ys => by
    rw [HT.lexLt_cons, ← lexI_eq xs ys]
    rfl
def rLtA (K : PySem.W.Frag) : R2 := fun x y H Q => (rI0 (fun i j => .bl (decide (i < j))) x y H Q) ∨ rLtT K x y H Q
theorem op_ltA {X : Cx} (hu : X.A.units < cLine) : OpR X (compareOp .Lt) (rLtA X.K) := OpR.or op_lt (op_ltT hu)
theorem ok_lt : OpOk K .lt (l2 (rLtA K)) := by
  intro fr H vs ds b d Q hf r e q
  cases r with
  | nil => exact nomatch e
  | @cons _ _ x0 ds r1 r2 =>
  cases r2 with
  | nil =>
    have e0 : fLt [x0] = none := by first | rfl | (cases x0 <;> rfl)
    exact nomatch e0.symm.trans e
  | @cons _ _ y0 ds r2 r3 =>
  cases r3 with
  | @cons _ _ z0 ds _ _ =>
    have e0 : fLt (x0 :: y0 :: z0 :: ds) = none := by first | rfl | (cases x0 <;> rfl) | (cases y0 <;> rfl) | (cases x0 <;> cases y0 <;> rfl)
    exact nomatch e0.symm.trans e
  | nil =>
    cases x0 with
    | int i =>
      cases y0 with
      | int j =>
        cases e
        rw [r1.int, r2.int]
        exact .inl ⟨i, j, rfl, rfl, q.bl⟩
      | _ => exact nomatch e
    | tup l =>
      cases y0 with
      | tup m =>
        simp only [opf, fLt, Option.bind_eq_some_iff, Option.map_eq_some_iff, Prod.mk.injEq] at e
        obtain ⟨k, e1, k2, e2, rfl, rfl⟩ := e
        obtain ⟨a, xs, rfl, h1, z1, x1, y1⟩ := r1.tup
        obtain ⟨b, ys, rfl, h2, z2, x2, y2⟩ := r2.tup
        have := x1.of_ints e1
        subst this
        have := x2.of_ints e2
        subst this
        refine .inr ⟨a, b, k, k2, rfl, rfl, h1, h2, ?_⟩
        rw [← lexI_eq]
        exact q.bl
      | _ => exact nomatch e
    | _ => exact nomatch e
theorem ok_le : OpOk K .le (l2 (rI0 fun i j => .bl (decide (i ≤ j)))) := by
  intro fr H vs ds b d Q hf r e q
  cases r with
  | nil => exact nomatch e
  | @cons _ _ x0 ds r1 r2 =>
  cases r2 with
  | nil =>
    have e0 : fLe [x0] = none := by first | rfl | (cases x0 <;> rfl)
    exact nomatch e0.symm.trans e
  | @cons _ _ y0 ds r2 r3 =>
  cases r3 with
  | @cons _ _ z0 ds _ _ =>
    have e0 : fLe (x0 :: y0 :: z0 :: ds) = none := by first | rfl | (cases x0 <;> rfl) | (cases y0 <;> rfl) | (cases x0 <;> cases y0 <;> rfl)
    exact nomatch e0.symm.trans e
  | nil =>
    cases x0 with
    | int i =>
      cases y0 with
      | int j =>
        cases e
        rw [r1.int, r2.int]
        exact ⟨i, j, rfl, rfl, q.bl⟩
      | _ => exact nomatch e
    | _ => exact nomatch e
theorem ok_gt : OpOk K .gt (l2 (rI0 fun i j => .bl (decide (j < i)))) := by
  intro fr H vs ds b d Q hf r e q
  cases r with
  | nil => exact nomatch e
  | @cons _ _ x0 ds r1 r2 =>
  cases r2 with
  | nil =>
    have e0 : fGt [x0] = none := by first | rfl | (cases x0 <;> rfl)
    exact nomatch e0.symm.trans e
  | @cons _ _ y0 ds r2 r3 =>
  cases r3 with
  | @cons _ _ z0 ds _ _ =>
    have e0 : fGt (x0 :: y0 :: z0 :: ds) = none := by first | rfl | (cases x0 <;> rfl) | (cases y0 <;> rfl) | (cases x0 <;> cases y0 <;> rfl)
    exact nomatch e0.symm.trans e
  | nil =>
    cases x0 with
    | int i =>
      cases y0 with
      | int j =>
        cases e
        rw [r1.int, r2.int]
        exact ⟨i, j, rfl, rfl, q.bl⟩
      | _ => exact nomatch e
    | _ => exact nomatch e
theorem ok_ge : OpOk K .ge (l2 (rI0 fun i j => .bl (decide (j ≤ i)))) := by
  intro fr H vs ds b d Q hf r e q
  cases r with
  | nil => exact nomatch e
  | @cons _ _ x0 ds r1 r2 =>
  cases r2 with
  | nil =>
    have e0 : fGe [x0] = none := by first | rfl | (cases x0 <;> rfl)
    exact nomatch e0.symm.trans e
  | @cons _ _ y0 ds r2 r3 =>
  cases r3 with
  | @cons _ _ z0 ds _ _ =>
    have e0 : fGe (x0 :: y0 :: z0 :: ds) = none := by first | rfl | (cases x0 <;> rfl) | (cases y0 <;> rfl) | (cases x0 <;> cases y0 <;> rfl)
    exact nomatch e0.symm.trans e
  | nil =>
    cases x0 with
    | int i =>
      cases y0 with
      | int j =>
        cases e
        rw [r1.int, r2.int]
        exact ⟨i, j, rfl, rfl, q.bl⟩
      | _ => exact nomatch e
    | _ => exact nomatch e

mutual
theorem deq_eqv : ∀ {n m : Nat} {d e : D}, flat n d = true → flat m e = true → PyData.eqv (toP d) (toP e) = deq d e
  | _, _, .non, .non, _, _ => rfl
  | _, _, .bl a, .bl b, _, _ => rfl
  | _, _, .bl a, .int j, _, _ => rfl
  | _, _, .int a, .bl j, _, _ => rfl
  | _, _, .int a, .int j, _, _ => rfl
  | _, _, .str a, .str b, _, _ => by
    have this : (toS a = toS b) ↔ a = b := by
      constructor
      · intro h
        have := congrArg Str.cps h
        simpa [toS] using this
      · intro h; rw [h]
    have e1 : PyData.eqv (toP (.str a)) (toP (.str b)) = (toS a == toS b) := by simp only [toP, PyData.eqv]
    have e2 : deq (.str a) (.str b) = (a == b) := by simp only [deq]
    rw [e1, e2, Bool.eq_iff_iff, beq_iff_eq, beq_iff_eq]
    exact this
  | n + 1, m + 1, .tup a, .tup b, h1, h2 => by
    simp only [toP, PyData.eqv, deq]
    exact deqs_eqv (n := n) (m := m) (by simpa [flat] using h1) (by simpa [flat] using h2)
  | n + 1, m + 1, .lst a, .lst b, h1, h2 => by
    simp only [toP, PyData.eqv, deq]
    exact deqs_eqv (n := n) (m := m) (by simpa [flat] using h1) (by simpa [flat] using h2)
  | n + 1, m + 1, .kt a, .kt b, h1, h2 => by
    simp only [toP, PyData.eqv, deq]
    exact deqs_eqv (n := n) (m := m) (by simpa [flat] using h1) (by simpa [flat] using h2)
  | n + 1, m + 1, .kt a, .tup b, h1, h2 => by
    simp only [toP, PyData.eqv, deq]
    exact deqs_eqv (n := n) (m := m) (by simpa [flat] using h1) (by simpa [flat] using h2)
  | n + 1, m + 1, .tup a, .kt b, h1, h2 => by
    simp only [toP, PyData.eqv, deq]
    exact deqs_eqv (n := n) (m := m) (by simpa [flat] using h1) (by simpa [flat] using h2)
  | 0, _, .kt a, _, h1, h2 => by simp [flat] at h1
  | _, 0, _, .kt a, h1, h2 => by simp [flat] at h2
  | 0, _, .tup a, _, h1, h2 => by simp [flat] at h1
  | 0, _, .lst a, _, h1, h2 => by simp [flat] at h1
  | _, 0, _, .tup a, h1, h2 => by simp [flat] at h2
  | _, 0, _, .lst a, h1, h2 => by simp [flat] at h2
  | n, _, .dic _ _, _, h1, h2 => by cases n <;> simp [flat] at h1
  | n, _, .ins _ _ _, _, h1, h2 => by cases n <;> simp [flat] at h1
  | n, _, .fn _, _, h1, h2 => by cases n <;> simp [flat] at h1
  | n, _, .scr _, _, h1, h2 => by cases n <;> simp [flat] at h1
  | _, n, _, .dic _ _, h1, h2 => by cases n <;> simp [flat] at h2
  | _, n, _, .ins _ _ _, h1, h2 => by cases n <;> simp [flat] at h2
  | _, n, _, .fn _, h1, h2 => by cases n <;> simp [flat] at h2
  | _, n, _, .scr _, h1, h2 => by cases n <;> simp [flat] at h2
  | _, _, .non, .bl _, _, _ => rfl
  | _, _, .non, .int _, _, _ => rfl
  | _, _, .non, .str _, _, _ => rfl
  | _, _, .non, .tup _, _, _ => rfl
  | _, _, .non, .lst _, _, _ => rfl
  | _, _, .bl _, .non, _, _ => rfl
  | _, _, .bl _, .str _, _, _ => rfl
  | _, _, .bl _, .tup _, _, _ => rfl
  | _, _, .bl _, .lst _, _, _ => rfl
  | _, _, .int _, .non, _, _ => rfl
  | _, _, .int _, .str _, _, _ => rfl
  | _, _, .int _, .tup _, _, _ => rfl
  | _, _, .int _, .lst _, _, _ => rfl
  | _, _, .str _, .non, _, _ => rfl
  | _, _, .str _, .bl _, _, _ => rfl
  | _, _, .str _, .int _, _, _ => rfl
  | _, _, .str _, .tup _, _, _ => rfl
  | _, _, .str _, .lst _, _, _ => rfl
  | _, _, .tup _, .non, _, _ => rfl
  | _, _, .tup _, .bl _, _, _ => rfl
  | _, _, .tup _, .int _, _, _ => rfl
  | _, _, .tup _, .str _, _, _ => rfl
  | _, _, .tup _, .lst _, _, _ => rfl
  | _, _, .lst _, .non, _, _ => rfl
  | _, _, .lst _, .bl _, _, _ => rfl
  | _, _, .lst _, .int _, _, _ => rfl
  | _, _, .lst _, .str _, _, _ => rfl
  | _, _, .lst _, .tup _, _, _ => rfl
  | _, _, .bl _, .kt _, _, _ => rfl
  | _, _, .kt _, .bl _, _, _ => rfl
  | _, _, .int _, .kt _, _, _ => rfl
  | _, _, .kt _, .int _, _, _ => rfl
  | _, _, .str _, .kt _, _, _ => rfl
  | _, _, .kt _, .str _, _, _ => rfl
  | _, _, .lst _, .kt _, _, _ => rfl
  | _, _, .kt _, .lst _, _, _ => rfl
  | _, _, .non, .kt _, _, _ => rfl
  | _, _, .kt _, .non, _, _ => rfl
theorem deqs_eqv : ∀ {n m : Nat} {d e : List D}, flats n d = true → flats m e = true → PyData.eqvAll (toPs d) (toPs e) = deqs d e
  | _, _, [], [], _, _ => rfl
  | _, _, [], _ :: _, _, _ => rfl
  | _, _, _ :: _, [], _, _ => rfl
  | n, m, d :: ds, e :: es, h1, h2 => by
    simp only [flats, Bool.and_eq_true] at h1 h2
    simp only [toPs, PyData.eqvAll, deqs]
    rw [deq_eqv h1.1 h2.1, deqs_eqv h1.2 h2.2]
end
mutual
theorem flat_shape : ∀ {n : Nat} {d : D}, flat n d = true → (toP d).canLay0 = true ∧ (toP d).depth ≤ n
  | n, .non, _ => ⟨rfl, Nat.zero_le _⟩
  | n, .bl _, _ => ⟨rfl, Nat.zero_le _⟩
  | n, .int _, _ => ⟨rfl, Nat.zero_le _⟩
  | n, .str x, h => by
    refine ⟨?_, Nat.zero_le _⟩
    have h' : x.all (fun c => decide (c < 1114112)) = true := by cases n <;> simpa [flat] using h
    show (toS x).cps.all (fun c => decide (c < 1114112)) = true
    rw [← Array.all_toList]
    exact h'
  | n + 1, .tup l, h => by
    have h' := flats_shape (n := n) (ds := l) (by simpa [flat] using h)
    simp only [toP, PyData.canLay0, PyData.depth]
    exact ⟨h'.1, by omega⟩
  | n + 1, .lst l, h => by
    have h' := flats_shape (n := n) (ds := l) (by simpa [flat] using h)
    simp only [toP, PyData.canLay0, PyData.depth]
    exact ⟨h'.1, by omega⟩
  | n + 1, .kt l, h => by
    have h' := flats_shape (n := n) (ds := l) (by simpa [flat] using h)
    simp only [toP, PyData.canLay0, PyData.depth]
    exact ⟨h'.1, by omega⟩
  | 0, .kt a, h1 => by simp [flat] at h1
  | 0, .tup a, h1 => by simp [flat] at h1
  | 0, .lst a, h1 => by simp [flat] at h1
  | n, .dic _ _, h1 => by cases n <;> simp [flat] at h1
  | n, .ins _ _ _, h1 => by cases n <;> simp [flat] at h1
  | n, .fn _, h1 => by cases n <;> simp [flat] at h1
  | n, .scr _, h1 => by cases n <;> simp [flat] at h1
theorem flats_shape : ∀ {n : Nat} {ds : List D}, flats n ds = true → PyData.canLayAll0 (toPs ds) = true ∧ PyData.depthAll (toPs ds) ≤ n
  | n, [], _ => ⟨rfl, Nat.zero_le _⟩
  | n, d :: ds, h => by
    simp only [flats, Bool.and_eq_true] at h
    have h1 := flat_shape h.1
    have h2 := flats_shape h.2
    simp only [toPs, PyData.canLayAll0, PyData.depthAll, Bool.and_eq_true]
    exact ⟨⟨h1.1, h2.1⟩, by omega⟩
end
theorem flat_shaped {d : D} (h : flat 60 d = true) : SeqAt.shaped (toP d) = true := by
  obtain ⟨h1, h2⟩ := flat_shape h
  unfold SeqAt.shaped
  rw [h1, Bool.true_and]
  exact decide_eq_true (by omega)
theorem Rep0.dp {n : Nat} {v : V} {d : D} (r : Rep0 K fr H v d) (h : flat n d = true) : Dp K H v (toP d) := by
  cases r with
  | sh r => exact r.dp h
  | ow r => exact r.dp h
theorem ok_eq : OpOk K .eq (l2 (rEqD K)) := by
  intro fr H vs ds b d Q hf r e q
  cases r with
  | nil => exact nomatch e
  | @cons _ _ x ds r1 r2 =>
  cases r2 with
  | nil =>
    have e0 : fEq [x] = none := by first | rfl | (cases x <;> rfl)
    exact nomatch e0.symm.trans e
  | @cons _ _ y ds r2 r3 =>
  cases r3 with
  | @cons _ _ z0 ds _ _ =>
    have e0 : fEq (x :: y :: z0 :: ds) = none := by first | rfl | (cases x <;> rfl) | (cases y <;> rfl) | (cases x <;> cases y <;> rfl)
    exact nomatch e0.symm.trans e
  | nil =>
    simp only [opf, fEq] at e
    split at e
    · rename_i z
      cases e
      simp only [Bool.and_eq_true] at z
      exact ⟨_, _, r1.dp z.1, r2.dp z.2, flat_shaped z.1, flat_shaped z.2, by rw [deq_eqv z.1 z.2]; exact q.bl⟩
    · cases e
theorem ok_ne : OpOk K .ne (l2 (rNeD K)) := by
  intro fr H vs ds b d Q hf r e q
  cases r with
  | nil => exact nomatch e
  | @cons _ _ x ds r1 r2 =>
  cases r2 with
  | nil =>
    have e0 : fNe [x] = none := by first | rfl | (cases x <;> rfl)
    exact nomatch e0.symm.trans e
  | @cons _ _ y ds r2 r3 =>
  cases r3 with
  | @cons _ _ z0 ds _ _ =>
    have e0 : fNe (x :: y :: z0 :: ds) = none := by first | rfl | (cases x <;> rfl) | (cases y <;> rfl) | (cases x <;> cases y <;> rfl)
    exact nomatch e0.symm.trans e
  | nil =>
    simp only [opf, fNe] at e
    split at e
    · rename_i z
      cases e
      simp only [Bool.and_eq_true] at z
      exact ⟨_, _, r1.dp z.1, r2.dp z.2, flat_shaped z.1, flat_shaped z.2, by rw [deq_eqv z.1 z.2]; exact q.bl⟩
    · cases e
theorem Rep0.isNon {v : V} {d : D} (r : Rep0 K fr H v d) : decide (v = .non) = (match d with | .non => true | _ => false) := by
  cases r with
  | sh r => cases r <;> rfl
  | ow r => cases r <;> rfl
theorem ok_isN : OpOk K .isN (l1 fun x H Q => V.non = .non ∧ Q (.bl (decide (x = .non))) H) := by
  intro fr H vs ds b d Q hf r e q
  cases r with
  | nil => exact nomatch e
  | @cons _ _ x ds r1 r2 =>
  cases r2 with
  | @cons _ _ y0 ds _ _ =>
    have e0 : fIsn (x :: y0 :: ds) = none := by first | rfl | (cases x <;> rfl)
    exact nomatch e0.symm.trans e
  | nil =>
    cases e
    refine ⟨rfl, ?_⟩
    rw [r1.isNon]
    cases x <;> exact q.bl
theorem ok_notN : OpOk K .notN (l1 fun x H Q => V.non = .non ∧ Q (.bl (!decide (x = .non))) H) := by
  intro fr H vs ds b d Q hf r e q
  cases r with
  | nil => exact nomatch e
  | @cons _ _ x ds r1 r2 =>
  cases r2 with
  | @cons _ _ y0 ds _ _ =>
    have e0 : fNotn (x :: y0 :: ds) = none := by first | rfl | (cases x <;> rfl)
    exact nomatch e0.symm.trans e
  | nil =>
    cases e
    refine ⟨rfl, ?_⟩
    rw [r1.isNon]
    cases x <;> exact q.bl
theorem ok_isB : OpOk K .isB (l2 rIsB) := by
  intro fr H vs ds b d Q hf r e q
  cases r with
  | nil => exact nomatch e
  | @cons _ _ x0 ds r1 r2 =>
  cases r2 with
  | nil =>
    have e0 : fIsb [x0] = none := by first | rfl | (cases x0 <;> rfl)
    exact nomatch e0.symm.trans e
  | @cons _ _ y0 ds r2 r3 =>
  cases r3 with
  | @cons _ _ z0 ds _ _ =>
    have e0 : fIsb (x0 :: y0 :: z0 :: ds) = none := by first | rfl | (cases x0 <;> rfl) | (cases y0 <;> rfl) | (cases x0 <;> cases y0 <;> rfl)
    exact nomatch e0.symm.trans e
  | nil =>
    cases x0 with
    | bl x =>
      cases y0 with
      | bl y =>
        cases e
        rw [r1.bl, r2.bl]
        refine ⟨x, y, rfl, rfl, ?_⟩
        have := q.bl
        rwa [Bool.beq_eq_decide_eq] at this
      | _ => exact nomatch e
    | _ => exact nomatch e
theorem ok_notB : OpOk K .notB (l2 rNotB) := by
  intro fr H vs ds b d Q hf r e q
  cases r with
  | nil => exact nomatch e
  | @cons _ _ x0 ds r1 r2 =>
  cases r2 with
  | nil =>
    have e0 : fNotb [x0] = none := by first | rfl | (cases x0 <;> rfl)
    exact nomatch e0.symm.trans e
  | @cons _ _ y0 ds r2 r3 =>
  cases r3 with
  | @cons _ _ z0 ds _ _ =>
    have e0 : fNotb (x0 :: y0 :: z0 :: ds) = none := by first | rfl | (cases x0 <;> rfl) | (cases y0 <;> rfl) | (cases x0 <;> cases y0 <;> rfl)
    exact nomatch e0.symm.trans e
  | nil =>
    cases x0 with
    | bl x =>
      cases y0 with
      | bl y =>
        cases e
        rw [r1.bl, r2.bl]
        refine ⟨x, y, rfl, rfl, ?_⟩
        have := q.bl
        rwa [bne, Bool.beq_eq_decide_eq] at this
      | _ => exact nomatch e
    | _ => exact nomatch e

/-! ### items, slices, lengths -/
def rIxA (K : PySem.W.Frag) : R2 := fun x y H Q => (rIxL K x y H Q ∨ rIxT K x y H Q) ∨ rGetD x y H Q
/-- what follows the values of a subscription of a built-in's thing -/
theorem sub_tail {prog : Program} {w : World} {A : Around} {E : Value → Shared → Prop} {s : Shared} {e1 e2 : Expr} {o i : Value} {T0 id : String} {Q : Value → Shared → Prop} (tp : s.TypeIs o T0) (lk : typeLookup (.type T0) "__getitem__" = pure (some (.builtin id)))
    (pl : subscripted e2 false o i = operate [o, i] (getItem o i)) (g : wpAny (model prog w) A (getItem o i) Q E s) : wpAny (model prog w) A (PyProof.Rows.subscriptTail e1 e2 o i) Q E s := by
  have last : wpAny (model prog w) A (subscripted e2 false o i) (fun r s2 => wpAny (model prog w) A (letTemporaryGo e1 o r >>= fun _ => pure r) Q E s2) E s := by
    rw [pl]
    refine wpAny_operating (wpAny_mono g (fun r s2 q => ?_) fun _ _ z => z)
    exact wpAny_bind (wpAny_letTemporaryGo (wpAny_pure q))
  unfold PyProof.Rows.subscriptTail
  refine wpAny_bind ?_
  rw [getitemInPython_of_ne tp.not_modules]
  refine wpAny_bind (wpAny_specialOf tp lk ?_)
  first
    | exact wpAny_pure (wpAny_bind last)
    | exact wpAny_bind (wpAny_pure (wpAny_bind last))
    | exact wpAny_bind last
theorem ix_dic {X : Cx} (hu : X.A.units + 1 < cLine) : IxR X rGetD := by
  intro e1 e2 pins s σ H x y v u Q I rx ry h pl
  obtain ⟨a, w, rfl, g, q⟩ := h
  cases rx
  exact sub_tail (dict_typeIs I g) PySem.F.slot_dict_getitem.lookup pl (d_getItem hu I g ry fun w' s' I' rw' => ⟨w, H, I', rw', q⟩)
theorem ix_A {X : Cx} (hu : X.A.units + 1 < cLine) : IxR X (rIxA X.K) := IxR.or (IxR.or ix_list ix_tup) (ix_dic hu)
theorem place_atI {vs : List V} {n : Nat} {i : Int} {k : Nat} {v : V} (hn : vs.length = n) (h : place n i = some k) (hv : vs[k]? = some v) : atI vs i = some v := by
  unfold atI
  rw [hn, place_ixN h]
  exact hv
theorem Rep0.kt {v : V} {l : List D} (h : Rep0 K fr H v (.kt l)) : ∃ a xs, v = .ref a ∧ SqT K H a xs ∧ xs.length ≤ sizeLine ∧ Reps K fr H xs l ∧ Rep K fr H v (.kt l) := by
  cases h with
  | ow h => cases h
  | sh h => cases h with | kt f n h z r => exact ⟨_, _, rfl, .inl (.inr ⟨_, h⟩), z, r, .kt f n h z r⟩
theorem ok_idx : OpOk K .idx (l2 (rIxA K)) := by
  intro fr H vs ds b d Q hf r e q
  cases r with
  | nil => exact nomatch e
  | @cons _ _ x0 ds r1 r2 =>
  cases r2 with
  | nil =>
    have e0 : fIdx [x0] = none := by first | rfl | (cases x0 <;> rfl)
    exact nomatch e0.symm.trans e
  | @cons _ _ y0 ds r2 r3 =>
  cases r3 with
  | @cons _ _ z0 ds _ _ =>
    have e0 : fIdx (x0 :: y0 :: z0 :: ds) = none := by first | rfl | (cases x0 <;> rfl) | (cases y0 <;> rfl) | (cases x0 <;> cases y0 <;> rfl)
    exact nomatch e0.symm.trans e
  | nil =>
    cases x0 with
    | tup l =>
      cases y0 with
      | int i =>
        simp only [opf, fIdx, Option.map_eq_some_iff, Option.bind_eq_some_iff, Prod.mk.injEq] at e
        obtain ⟨d', ⟨k, e1, e2⟩, rfl, rfl⟩ := e
        obtain ⟨a, xs, rfl, h1, z1, x1, y1⟩ := r1.tup
        obtain ⟨v, g1, g2⟩ := x1.get e2
        rw [r2.int]
        exact .inl (.inr ⟨a, xs, i, v, rfl, rfl, h1, place_atI x1.length e1 g1, q.1 rfl _ g2⟩)
      | _ => exact nomatch e
    | lst l =>
      cases y0 with
      | int i =>
        simp only [opf, fIdx, Option.map_eq_some_iff, Option.bind_eq_some_iff, Prod.mk.injEq] at e
        obtain ⟨d', ⟨k, e1, e2⟩, rfl, rfl⟩ := e
        obtain ⟨a, xs, rfl, h1, z1, x1⟩ := r1.lst
        obtain ⟨v, g1, g2⟩ := x1.get e2
        rw [r2.int]
        exact .inl (.inl ⟨a, xs, i, v, rfl, rfl, .of h1, place_atI x1.length e1 g1, q.1 rfl _ g2⟩)
      | _ => exact nomatch e
    | kt l =>
      cases y0 with
      | int i =>
        simp only [opf, fIdx, Option.map_eq_some_iff, Option.bind_eq_some_iff, Prod.mk.injEq] at e
        obtain ⟨d', ⟨k, e1, e2⟩, rfl, rfl⟩ := e
        obtain ⟨a, xs, rfl, h1, z1, x1, y1⟩ := r1.kt
        obtain ⟨v, g1, g2⟩ := x1.get e2
        rw [r2.int]
        exact .inl (.inr ⟨a, xs, i, v, rfl, rfl, h1, place_atI x1.length e1 g1, q.1 rfl _ g2⟩)
      | _ => exact nomatch e
    | dic ks xs =>
      cases y0 with
      | tup l =>
        simp only [opf, fIdx, Option.map_eq_some_iff, Option.bind_eq_some_iff, Prod.mk.injEq] at e
        obtain ⟨k, e0, d', e1, rfl, rfl⟩ := e
        obtain ⟨a, kvs, rfl, h1, z1, k1, x1⟩ := r1.dic
        obtain ⟨c, rfl, hc⟩ := r2.key e0
        obtain ⟨v, g1, g2⟩ := (dic_val (k := k) k1 x1).1 _ e1
        have dg := dget_rd (k := keyI k) h1 hc
        rw [g1] at dg
        exact .inr ⟨a, v, rfl, dg, q.1 rfl _ g2⟩
      | _ => exact nomatch e
    | kd ks xs =>
      cases y0 with
      | tup l =>
        simp only [opf, fIdx, Option.map_eq_some_iff, Option.bind_eq_some_iff, Prod.mk.injEq] at e
        obtain ⟨k, e0, d', e1, rfl, rfl⟩ := e
        obtain ⟨a, kvs, rfl, h1, z1, k1, x1⟩ := r1.kd
        obtain ⟨c, rfl, hc⟩ := r2.key e0
        obtain ⟨v, g1, g2⟩ := (dic_val (k := k) k1 x1).1 _ e1
        have dg := dget_rd (k := keyI k) h1 hc
        rw [g1] at dg
        exact .inr ⟨a, v, rfl, dg, q.1 rfl _ g2⟩
      | _ => exact nomatch e
    | _ => exact nomatch e
theorem border_sIx (n : Nat) (i : Int) (d : Nat) : border n i = HT.sIx n d (some i) := by
  show _ = (if i < 0 then (i + (n : Int)).toNat else min i.toNat n)
  unfold border
  by_cases h : i < 0
  · rw [if_pos h, if_pos h]
  · rw [if_neg h, if_neg h]
    by_cases h2 : i < n
    · rw [if_pos h2]; omega
    · rw [if_neg h2]; omega
theorem cut_eq {α : Type} (l : List α) (lo hi : Option Int) : cut l lo hi = (l.drop (HT.sIx l.length 0 lo)).take (HT.sIx l.length l.length hi - HT.sIx l.length 0 lo) := by
  have e1 : ∀ (n : Nat) (i : Int), border n i = HT.sIx n 0 (some i) := fun n i => border_sIx n i 0
  have e2 : ∀ (n : Nat) (i : Int), border n i = HT.sIx n n (some i) := fun n i => border_sIx n i n
  cases lo with
  | none => cases hi with
    | none => rfl
    | some j => simp only [cut]; rw [e2] <;> rfl
  | some i => cases hi with
    | none => simp only [cut]; rw [e1] <;> rfl
    | some j =>
      show (l.drop (border l.length i)).take (border l.length j - border l.length i) = _
      rw [e1 _ i, e2 _ j]
theorem Reps.cut {vs : List V} {ds : List D} (r : Reps K fr H vs ds) (lo hi : Option Int) : Reps K fr H (cutV vs lo hi) (Fly.cut ds lo hi) := by
  rw [cut_eq]
  unfold cutV
  rw [r.length]
  exact (r.drop _).take _
/-- x[lo:hi] of a tuple that is known: known again -/
def rSlK : V → Option Int → Option Int → Hp → VK → Prop := fun x lo hi H Q => ∃ (a : Addr) (o : Obj) (xs : List V), x = .ref a ∧ H a = some (.frz o (.tup xs)) ∧
  (HT.sIx xs.length 0 lo = 0 ∧ HT.sIx xs.length xs.length hi = xs.length → Q (.ref a) H) ∧ (¬ (HT.sIx xs.length 0 lo = 0 ∧ HT.sIx xs.length xs.length hi = xs.length) → ∀ p o', H p = none → o'.dict = none → Q (.ref p) (upd H p (.frz o' (.tup (cutV xs lo hi)))))
theorem sl_tupK {X : Cx} : SlR X rSlK := by
  intro pins s σ H x v vl vu lo hi sl Q I rx hs pl pu h
  obtain ⟨a, o, xs, rfl, hx, q1, q2⟩ := h
  cases rx
  obtain ⟨its, r, ht, hz⟩ := I.tuple (.inl (.inr ⟨o, hx⟩))
  have hlen : its.toArray.size = xs.length := by rw [List.size_toArray]; exact r.length.symm
  refine ⟨"tuple", _, PyProof.Rows.slot_tuple_getitem.lookup, ht.typeIs, ?_⟩
  by_cases hw : HT.sIx xs.length 0 lo = 0 ∧ HT.sIx xs.length xs.length hi = xs.length
  · exact getItem_tuple_whole ht hs pl pu (by rw [hlen]; exact hw) ⟨.ref a, H, I, rfl, q1 hw⟩
  · refine HT.getItem_tuple_cut ht hs pl pu (by rw [hlen]; exact hw) ?_ (by rw [hlen]; exact hz)
    rw [hlen]
    let o' : Obj := { cls := .type "tuple", data := .seq ((its.drop (HT.sIx xs.length 0 lo)).take (HT.sIx xs.length xs.length hi - HT.sIx xs.length 0 lo)).toArray }
    have new : ObjOk X.prog X.w (upd H s.heap.objs.size (.frz o' (.tup (cutV xs lo hi)))) (s.heap.push o') s.heap.objs.size (.frz o' (.tup (cutV xs lo hi))) :=
      ⟨Heap.get?_push_size _ rfl, Nat.le_trans (cutV_length xs lo hi) hz, _, (r.drop (HT.sIx xs.length 0 lo)).take (HT.sIx xs.length xs.length hi - HT.sIx xs.length 0 lo), PyProof.Rows.IsTup.new _ _⟩
    exact ⟨.ref s.heap.objs.size, _, I.laid (t' := s.toks) (fun b ob q => Heap.get?_push_of_some _ q) (Nat.le_refl _) new, rfl, q2 hw _ o' (I.hok.fresh (Nat.le_refl _)) rfl⟩
/-- x[lo:hi] of a tuple, a list, the script -/
def rSlAll (K : PySem.W.Frag) : V → Option Int → Option Int → Hp → VK → Prop := fun x lo hi H Q => (rSlA K x lo hi H Q ∨ rSlL K x lo hi H Q) ∨ rSlK x lo hi H Q
theorem sl_all {X : Cx} : SlR X (rSlAll X.K) := SlR.or (SlR.or sl_tupA sl_list) sl_tupK
theorem slA_tup {v : V} {l : List D} {lo hi : Option Int} {Q : VK} (hf : ∀ a, fr a → H a ≠ none) (r1 : Rep0 K fr H v (.tup l)) (q : OPost K fr H false (.tup (Fly.cut l lo hi)) Q) : rSlAll K v lo hi H Q := by
  obtain ⟨a, xs, rfl, h1, z1, x1, y1⟩ := r1.tup
  refine .inl (.inl ⟨a, xs, rfl, h1, fun hw => ?_, fun hw p hp => q.tup hf hp (Nat.le_trans (cutV_length _ _ _) z1) (x1.cut lo hi)⟩)
  refine q.1 rfl _ ?_
  have e : Fly.cut l lo hi = l := by
    rw [cut_eq, ← x1.length, hw.1, hw.2, List.drop_zero, Nat.sub_zero, x1.length, List.take_length]
  rw [e]
  exact y1
theorem whole_iff (n : Nat) (lo hi : Option Int) : whole n lo hi = true ↔ HT.sIx n 0 lo = 0 ∧ HT.sIx n n hi = n := by
  unfold whole
  rw [Bool.and_eq_true]
  refine and_congr ?_ ?_
  · cases lo with
    | none => exact ⟨fun _ => rfl, fun _ => rfl⟩
    | some i => rw [← border_sIx n i 0]; exact beq_iff_eq
  · cases hi with
    | none => exact ⟨fun _ => rfl, fun _ => rfl⟩
    | some i => rw [← border_sIx n i n]; exact beq_iff_eq
theorem slA_kt {v : V} {l : List D} {lo hi : Option Int} {Q : VK} (hf : ∀ a, fr a → H a ≠ none) (r1 : Rep0 K fr H v (.kt l)) (q : OPost K fr H false (.kt (Fly.cut l lo hi)) Q) : rSlAll K v lo hi H Q := by
  have r0 : ∃ (a : Addr) (o : Obj) (xs : List V), v = .ref a ∧ H a = some (.frz o (.tup xs)) ∧ xs.length ≤ sizeLine ∧ Reps K fr H xs l ∧ Rep K fr H v (.kt l) := by
    cases r1 with
    | ow h => cases h
    | sh h => cases h with | kt f n h z r => exact ⟨_, _, _, rfl, h, z, r, .kt f n h z r⟩
  obtain ⟨a, o, xs, rfl, h1, z1, x1, y1⟩ := r0
  refine .inr ⟨a, o, xs, rfl, h1, fun hw => ?_, fun hw p o' hp ho => ?_⟩
  · have e : Fly.cut l lo hi = l := by
      rw [cut_eq, ← x1.length, hw.1, hw.2, List.drop_zero, Nat.sub_zero, x1.length, List.take_length]
    rw [e] at q
    exact q.1 rfl _ y1
  · exact (q.2 p _ hp).1 rfl _ (.kt (.inr rfl) ho upd_same (Nat.le_trans (cutV_length _ _ _) z1) ((x1.cut lo hi).keep (rep_new hf hp)))
theorem slA_lst {v : V} {l : List D} {lo hi : Option Int} {Q : VK} (hf : ∀ a, fr a → H a ≠ none) (r1 : Rep0 K fr H v (.lst l)) (q : OPost K fr H true (.lst (Fly.cut l lo hi)) Q) : rSlAll K v lo hi H Q := by
  obtain ⟨a, xs, rfl, h1, z1, x1⟩ := r1.lst
  exact .inl (.inr ⟨a, xs, rfl, .of h1, fun p hp => q.lst hf hp (Nat.le_trans (cutV_length _ _ _) z1) (x1.cut lo hi)⟩)
theorem slA_scr {v : V} {l : List D} {lo hi : Option Int} {Q : VK} (hf : ∀ a, fr a → H a ≠ none) (r1 : Rep0 K fr H v (.scr l)) (q : OPost K fr H true (.lst (Fly.cut l lo hi)) Q) : rSlAll K v lo hi H Q := by
  cases r1 with
  | ow r => cases r
  | sh r =>
    cases r with
    | scr h z1 x1 => exact .inl (.inr ⟨_, _, rfl, h.sq, fun p hp => q.lst hf hp (Nat.le_trans (cutV_length _ _ _) z1) (x1.cut lo hi)⟩)
theorem cut_none {α : Type} (l : List α) : cut l none none = l := by simp [cut]
theorem ok_len : OpOk K .len (fun xs H Q => ∃ p ys, xs = [.ref p] ∧ (SqL K H p ys ∨ SqT K H p ys) ∧ Q (.int ys.length) H) := by
  intro fr H vs ds b d Q hf r e q
  cases r with
  | nil => exact nomatch e
  | @cons _ _ x0 ds r1 r2 =>
  cases r2 with
  | @cons _ _ y0 ds _ _ =>
    have e0 : fLen (x0 :: y0 :: ds) = none := by first | rfl | (cases x0 <;> rfl)
    exact nomatch e0.symm.trans e
  | nil =>
    cases x0 with
    | tup l =>
      cases e
      obtain ⟨a, xs, rfl, h1, z1, x1, y1⟩ := r1.tup
      exact ⟨a, xs, rfl, .inr h1, by rw [x1.length]; exact q.int⟩
    | kt l =>
      cases e
      obtain ⟨a, xs, rfl, h1, z1, x1, y1⟩ := r1.kt
      exact ⟨a, xs, rfl, .inr h1, by rw [x1.length]; exact q.int⟩
    | lst l =>
      cases e
      obtain ⟨a, xs, rfl, h1, z1, x1⟩ := r1.lst
      exact ⟨a, xs, rfl, .inl (.of h1), by rw [x1.length]; exact q.int⟩
    | _ => exact nomatch e
/-! ### is it in -/
theorem Rep0.flatV {v : V} {d : D} (r : Rep0 K fr H v d) (a : atom d = true) : flatV v = true := by
  cases r with
  | ow r => cases r <;> cases a
  | sh r => cases r <;> first | rfl | cases a
theorem Reps.flatV : ∀ {vs : List V} {ds : List D}, Reps K fr H vs ds → ds.all atom = true → vs.all L2.flatV = true
  | _, _, .nil, _ => rfl
  | _, _, .cons r t, e => by
    simp only [List.all_cons, Bool.and_eq_true] at e ⊢
    exact ⟨(Rep0.sh r).flatV e.1, Reps.flatV t e.2⟩
theorem str_beq (a b : List Nat) : (toS a == toS b) = (a == b) := by
  rw [Bool.eq_iff_iff, beq_iff_eq, beq_iff_eq]
  constructor
  · intro h
    have := congrArg Str.cps h
    simpa [toS] using this
  · intro h; rw [h]
/-- an atom's value -/
def vOf : D → V
  | .bl b => .bl b
  | .int i => .int i
  | .str x => .str (toS x)
  | _ => .non
theorem Rep0.vOf {v : V} {d : D} (r : Rep0 K fr H v d) (a : atom d = true) : v = Fly.vOf d := by
  cases r with
  | ow r => cases r <;> cases a
  | sh r => cases r <;> first | rfl | cases a
theorem eqV_vOf : ∀ {d e : D}, atom d = true → atom e = true → eqV (vOf d) (vOf e) = deq d e
  | .non, .non, _, _ => rfl
  | .non, .bl _, _, _ => rfl
  | .non, .int _, _, _ => rfl
  | .non, .str _, _, _ => rfl
  | .bl _, .non, _, _ => rfl
  | .bl _, .bl _, _, _ => rfl
  | .bl _, .int _, _, _ => rfl
  | .bl _, .str _, _, _ => rfl
  | .int _, .non, _, _ => rfl
  | .int _, .bl _, _, _ => rfl
  | .int _, .int _, _, _ => rfl
  | .int _, .str _, _, _ => rfl
  | .str _, .non, _, _ => rfl
  | .str _, .bl _, _, _ => rfl
  | .str _, .int _, _, _ => rfl
  | .str a, .str b, _, _ => by simp only [vOf, eqV, deq]; exact str_beq a b
theorem rep_eqV {v w : V} {d e : D} (r : Rep K fr H v d) (r' : Rep0 K fr H w e) (a : atom d = true) (a' : atom e = true) : eqV v w = deq d e := by
  rw [(Rep0.sh r).vOf a, r'.vOf a', eqV_vOf a a']
theorem reps_inV {w : V} {e : D} (r' : Rep0 K fr H w e) (a' : atom e = true) : ∀ {vs : List V} {ds : List D}, Reps K fr H vs ds → ds.all atom = true → inV w vs = ds.any fun z => deq z e
  | _, _, .nil, _ => rfl
  | _, _, .cons r t, h => by
    simp only [List.all_cons, Bool.and_eq_true] at h
    have := reps_inV r' a' t h.2
    unfold inV at this ⊢
    rw [List.any_cons, List.any_cons, this, rep_eqV r r' h.1 a']
def rInA (K : PySem.W.Frag) : R2 := fun x y H Q => rIn K false x y H Q ∨ rInD K x y H Q ∨ ∃ a o, y = .ref a ∧ DGet H a x o ∧ Q (.bl o.isSome) H
def rNotInA (K : PySem.W.Frag) : R2 := fun x y H Q => rIn K true x y H Q ∨ rNotInD K x y H Q ∨ ∃ a o, y = .ref a ∧ DGet H a x o ∧ Q (.bl (!o.isSome)) H
theorem op_inDic {X : Cx} (hu : X.A.units + 1 < cLine) : OpR X (compareOp .In) (fun x y H Q => ∃ a o, y = .ref a ∧ DGet H a x o ∧ Q (.bl o.isSome) H) := by
  intro pins s σ H x y v u Q I rx ry h
  obtain ⟨a, o, rfl, g, q⟩ := h
  cases ry
  exact d_in hu I g rx fun s' I' => ⟨.bl o.isSome, H, I', rfl, q⟩
theorem op_notInDic {X : Cx} (hu : X.A.units + 1 < cLine) : OpR X (compareOp .NotIn) (fun x y H Q => ∃ a o, y = .ref a ∧ DGet H a x o ∧ Q (.bl (!o.isSome)) H) := by
  intro pins s σ H x y v u Q I rx ry h
  obtain ⟨a, o, rfl, g, q⟩ := h
  cases ry
  exact d_notIn hu I g rx fun s' I' => ⟨.bl (!o.isSome), H, I', rfl, q⟩
theorem op_inAll {X : Cx} (hu : X.A.units + 65 < cLine) : OpR X (compareOp .In) (rInA X.K) := OpR.or op_in_seq (OpR.or (op_inD hu) (op_inDic (by omega)))
theorem op_notInAll {X : Cx} (hu : X.A.units + 65 < cLine) : OpR X (compareOp .NotIn) (rNotInA X.K) := OpR.or op_notIn_seq (OpR.or (op_notInD hu) (op_notInDic (by omega)))
theorem any_toPs {e : D} {n : Nat} (h : flat 60 e = true) : ∀ {l : List D}, flats n l = true → (toPs l).any (fun z => PyData.eqv z (toP e)) = l.any fun z => deq z e
  | [], _ => by simp [toPs]
  | d :: l, h2 => by
    simp only [flats, Bool.and_eq_true] at h2
    simp only [toPs, List.any_cons]
    rw [any_toPs h h2.2, deq_eqv h2.1 h]
theorem ok_isIn : OpOk K .isIn (l2 (rInA K)) := by
  intro fr H vs ds b d Q hf r e q
  cases r with
  | nil => exact nomatch e
  | @cons _ _ x ds r1 r2 =>
  cases r2 with
  | nil =>
    have e0 : fIsin [x] = none := by first | rfl | (cases x <;> rfl)
    exact nomatch e0.symm.trans e
  | @cons _ _ y0 ds r2 r3 =>
  cases r3 with
  | @cons _ _ z0 ds _ _ =>
    have e0 : fIsin (x :: y0 :: z0 :: ds) = none := by first | rfl | (cases x <;> rfl) | (cases y0 <;> rfl) | (cases x <;> cases y0 <;> rfl)
    exact nomatch e0.symm.trans e
  | nil =>
    cases y0 with
    | dic ks xs =>
      cases x with
      | tup l =>
        simp only [opf, fIsin, Option.map_eq_some_iff, Prod.mk.injEq] at e
        obtain ⟨k, e0, rfl, rfl⟩ := e
        obtain ⟨a, kvs, rfl, h1, z1, k1, x1⟩ := r2.dic
        obtain ⟨c, rfl, hc⟩ := r1.key e0
        refine .inr (.inr ⟨a, valV kvs (keyI k), rfl, dget_rd (k := keyI k) h1 hc, ?_⟩)
        rw [(dic_val (k := k) k1 x1).2]
        exact q.bl
      | _ => exact nomatch e
    | kd ks xs =>
      cases x with
      | tup l =>
        simp only [opf, fIsin, Option.map_eq_some_iff, Prod.mk.injEq] at e
        obtain ⟨k, e0, rfl, rfl⟩ := e
        obtain ⟨a, kvs, rfl, h1, z1, k1, x1⟩ := r2.kd
        obtain ⟨c, rfl, hc⟩ := r1.key e0
        refine .inr (.inr ⟨a, valV kvs (keyI k), rfl, dget_rd (k := keyI k) h1 hc, ?_⟩)
        rw [(dic_val (k := k) k1 x1).2]
        exact q.bl
      | _ => exact nomatch e
    | tup l =>
      simp only [opf, fIsin] at e
      split at e
      · rename_i z
        cases e
        simp only [Bool.and_eq_true] at z
        obtain ⟨a, xs, rfl, h1, z1, x1, y1⟩ := r2.tup
        refine .inl ⟨a, xs, rfl, .inr h1, r1.flatV z.1, x1.flatV z.2, ?_⟩
        rw [if_neg (by decide), reps_inV r1 z.1 x1 z.2]
        exact q.bl
      · cases e
    | lst l =>
      simp only [opf, fIsin] at e
      split at e
      · rename_i z
        cases e
        simp only [Bool.and_eq_true] at z
        have z2 : flat 60 (.lst l) = true := by simpa [flat] using z.2
        have h2 := r2.dp z2
        have hs := flat_shaped z2
        rw [show toP (.lst l) = .list (toPs l) by simp only [toP]] at h2 hs
        refine .inr (.inl ⟨_, _, r1.dp z.1, h2, flat_shaped z.1, hs, ?_⟩)
        rw [any_toPs z.1 z.2]
        exact q.bl
      · cases e
    | _ => cases x <;> exact nomatch e
theorem ok_notIn : OpOk K .notIn (l2 (rNotInA K)) := by
  intro fr H vs ds b d Q hf r e q
  cases r with
  | nil => exact nomatch e
  | @cons _ _ x ds r1 r2 =>
  cases r2 with
  | nil =>
    have e0 : fNotin [x] = none := by first | rfl | (cases x <;> rfl)
    exact nomatch e0.symm.trans e
  | @cons _ _ y0 ds r2 r3 =>
  cases r3 with
  | @cons _ _ z0 ds _ _ =>
    have e0 : fNotin (x :: y0 :: z0 :: ds) = none := by first | rfl | (cases x <;> rfl) | (cases y0 <;> rfl) | (cases x <;> cases y0 <;> rfl)
    exact nomatch e0.symm.trans e
  | nil =>
    cases y0 with
    | dic ks xs =>
      cases x with
      | tup l =>
        simp only [opf, fNotin, Option.map_eq_some_iff, Prod.mk.injEq] at e
        obtain ⟨k, e0, rfl, rfl⟩ := e
        obtain ⟨a, kvs, rfl, h1, z1, k1, x1⟩ := r2.dic
        obtain ⟨c, rfl, hc⟩ := r1.key e0
        refine .inr (.inr ⟨a, valV kvs (keyI k), rfl, dget_rd (k := keyI k) h1 hc, ?_⟩)
        rw [(dic_val (k := k) k1 x1).2]
        exact q.bl
      | _ => exact nomatch e
    | kd ks xs =>
      cases x with
      | tup l =>
        simp only [opf, fNotin, Option.map_eq_some_iff, Prod.mk.injEq] at e
        obtain ⟨k, e0, rfl, rfl⟩ := e
        obtain ⟨a, kvs, rfl, h1, z1, k1, x1⟩ := r2.kd
        obtain ⟨c, rfl, hc⟩ := r1.key e0
        refine .inr (.inr ⟨a, valV kvs (keyI k), rfl, dget_rd (k := keyI k) h1 hc, ?_⟩)
        rw [(dic_val (k := k) k1 x1).2]
        exact q.bl
      | _ => exact nomatch e
    | tup l =>
      simp only [opf, fNotin] at e
      split at e
      · rename_i z
        cases e
        simp only [Bool.and_eq_true] at z
        obtain ⟨a, xs, rfl, h1, z1, x1, y1⟩ := r2.tup
        refine .inl ⟨a, xs, rfl, .inr h1, r1.flatV z.1, x1.flatV z.2, ?_⟩
        rw [if_pos rfl, reps_inV r1 z.1 x1 z.2]
        exact q.bl
      · cases e
    | lst l =>
      simp only [opf, fNotin] at e
      split at e
      · rename_i z
        cases e
        simp only [Bool.and_eq_true] at z
        have z2 : flat 60 (.lst l) = true := by simpa [flat] using z.2
        have h2 := r2.dp z2
        have hs := flat_shaped z2
        rw [show toP (.lst l) = .list (toPs l) by simp only [toP]] at h2 hs
        refine .inr (.inl ⟨_, _, r1.dp z.1, h2, flat_shaped z.1, hs, ?_⟩)
        rw [any_toPs z.1 z.2]
        exact q.bl
      · cases e
    | _ => cases x <;> exact nomatch e
theorem ok_int : OpOk K .int (fun xs H Q => (∃ i, xs = [.int i] ∧ Q (.int i) H) ∨ ∃ k, xs = [.bl k] ∧ Q (.int (if k then 1 else 0)) H) := by
  intro fr H vs ds b d Q hf r e q
  cases r with
  | nil => exact nomatch e
  | @cons _ _ x0 ds r1 r2 =>
  cases r2 with
  | @cons _ _ y0 ds _ _ =>
    have e0 : fInt (x0 :: y0 :: ds) = none := by first | rfl | (cases x0 <;> rfl)
    exact nomatch e0.symm.trans e
  | nil =>
    cases x0 with
    | int i =>
      cases e; rw [r1.int]; exact .inl ⟨i, rfl, q.int⟩
    | bl i =>
      cases e; rw [r1.bl]; exact .inr ⟨i, rfl, q.int⟩
    | _ => exact nomatch e
theorem ok_abs : OpOk K .abs (fun xs H Q => ∃ i, xs = [.int i] ∧ Q (.int (if i < 0 then -i else i)) H) := by
  intro fr H vs ds b d Q hf r e q
  cases r with
  | nil => exact nomatch e
  | @cons _ _ x0 ds r1 r2 =>
  cases r2 with
  | @cons _ _ y0 ds _ _ =>
    have e0 : fAbs (x0 :: y0 :: ds) = none := by first | rfl | (cases x0 <;> rfl)
    exact nomatch e0.symm.trans e
  | nil =>
    cases x0 with
    | int i =>
      cases e; rw [r1.int]; exact ⟨i, rfl, q.int⟩
    | _ => exact nomatch e
theorem ok_max2 : OpOk K .max2 (fun xs H Q => ∃ i j, xs = [.int i, .int j] ∧ Q (.int (if j > i then j else i)) H) := by
  intro fr H vs ds b d Q hf r e q
  cases r with
  | nil => exact nomatch e
  | @cons _ _ x0 ds r1 r2 =>
  cases r2 with
  | nil =>
    have e0 : fMax2 [x0] = none := by first | rfl | (cases x0 <;> rfl)
    exact nomatch e0.symm.trans e
  | @cons _ _ y0 ds r2 r3 =>
  cases r3 with
  | @cons _ _ z0 ds _ _ =>
    have e0 : fMax2 (x0 :: y0 :: z0 :: ds) = none := by first | rfl | (cases x0 <;> rfl) | (cases y0 <;> rfl) | (cases x0 <;> cases y0 <;> rfl)
    exact nomatch e0.symm.trans e
  | nil =>
    cases x0 with
    | int i =>
      cases y0 with
      | int j =>
        cases e; rw [r1.int, r2.int]; exact ⟨i, j, rfl, q.int⟩
      | _ => exact nomatch e
    | _ => exact nomatch e
theorem ok_min2 : OpOk K .min2 (fun xs H Q => ∃ i j, xs = [.int i, .int j] ∧ Q (.int (if j < i then j else i)) H) := by
  intro fr H vs ds b d Q hf r e q
  cases r with
  | nil => exact nomatch e
  | @cons _ _ x0 ds r1 r2 =>
  cases r2 with
  | nil =>
    have e0 : fMin2 [x0] = none := by first | rfl | (cases x0 <;> rfl)
    exact nomatch e0.symm.trans e
  | @cons _ _ y0 ds r2 r3 =>
  cases r3 with
  | @cons _ _ z0 ds _ _ =>
    have e0 : fMin2 (x0 :: y0 :: z0 :: ds) = none := by first | rfl | (cases x0 <;> rfl) | (cases y0 <;> rfl) | (cases x0 <;> cases y0 <;> rfl)
    exact nomatch e0.symm.trans e
  | nil =>
    cases x0 with
    | int i =>
      cases y0 with
      | int j =>
        cases e; rw [r1.int, r2.int]; exact ⟨i, j, rfl, q.int⟩
      | _ => exact nomatch e
    | _ => exact nomatch e
theorem ok_tuple : OpOk K .tuple (fun xs H Q => ∃ p ys, xs = [.ref p] ∧ ((SqL K H p ys ∧ ∀ l, H l = none → Q (.ref l) (upd H l (.tup ys))) ∨ (SqT K H p ys ∧ Q (.ref p) H))) := by
  intro fr H vs ds b d Q hf r e q
  cases r with
  | nil => exact nomatch e
  | @cons _ _ x0 ds r1 r2 =>
  cases r2 with
  | @cons _ _ y0 ds _ _ =>
    have e0 : fTuple (x0 :: y0 :: ds) = none := by first | rfl | (cases x0 <;> rfl)
    exact nomatch e0.symm.trans e
  | nil =>
    cases x0 with
    | tup l =>
      cases e
      obtain ⟨a, xs, rfl, h1, z1, x1, y1⟩ := r1.tup
      exact ⟨a, xs, rfl, .inr ⟨h1, q.1 rfl _ y1⟩⟩
    | lst l =>
      cases e
      obtain ⟨a, xs, rfl, h1, z1, x1⟩ := r1.lst
      exact ⟨a, xs, rfl, .inl ⟨.of h1, fun p hp => q.tup hf hp z1 x1⟩⟩
    | _ => exact nomatch e
theorem ok_list : OpOk K .list (fun xs H Q => ∃ p ys, xs = [.ref p] ∧ (SqL K H p ys ∨ SqT K H p ys) ∧ ∀ l, H l = none → Q (.ref l) (upd H l (.lst ys))) := by
  intro fr H vs ds b d Q hf r e q
  cases r with
  | nil => exact nomatch e
  | @cons _ _ x0 ds r1 r2 =>
  cases r2 with
  | @cons _ _ y0 ds _ _ =>
    have e0 : fList (x0 :: y0 :: ds) = none := by first | rfl | (cases x0 <;> rfl)
    exact nomatch e0.symm.trans e
  | nil =>
    cases x0 with
    | tup l =>
      cases e
      obtain ⟨a, xs, rfl, h1, z1, x1, y1⟩ := r1.tup
      exact ⟨a, xs, rfl, .inr h1, fun p hp => q.lst hf hp z1 x1⟩
    | lst l =>
      cases e
      obtain ⟨a, xs, rfl, h1, z1, x1⟩ := r1.lst
      exact ⟨a, xs, rfl, .inl (.of h1), fun p hp => q.lst hf hp z1 x1⟩
    | _ => exact nomatch e
theorem ok_all : OpOk K .all (rAll K) := by
  intro fr H vs ds b d Q hf r e q
  cases r with
  | nil => exact nomatch e
  | @cons _ _ x0 ds r1 r2 =>
  cases r2 with
  | @cons _ _ y0 ds _ _ =>
    have e0 : fAll (x0 :: y0 :: ds) = none := by first | rfl | (cases x0 <;> rfl)
    exact nomatch e0.symm.trans e
  | nil =>
    cases x0 with
    | lst l =>
      simp only [opf, fAll, Option.map_eq_some_iff, Prod.mk.injEq] at e
      obtain ⟨bs, e1, rfl, rfl⟩ := e
      obtain ⟨a, xs, rfl, h1, z1, x1⟩ := r1.lst
      have := x1.of_bools e1
      subst this
      exact ⟨a, bs, rfl, .of h1, q.bl⟩
    | _ => exact nomatch e
theorem ok_any : OpOk K .any (rAny K) := by
  intro fr H vs ds b d Q hf r e q
  cases r with
  | nil => exact nomatch e
  | @cons _ _ x0 ds r1 r2 =>
  cases r2 with
  | @cons _ _ y0 ds _ _ =>
    have e0 : fAny (x0 :: y0 :: ds) = none := by first | rfl | (cases x0 <;> rfl)
    exact nomatch e0.symm.trans e
  | nil =>
    cases x0 with
    | lst l =>
      simp only [opf, fAny, Option.map_eq_some_iff, Prod.mk.injEq] at e
      obtain ⟨bs, e1, rfl, rfl⟩ := e
      obtain ⟨a, xs, rfl, h1, z1, x1⟩ := r1.lst
      have := x1.of_bools e1
      subst this
      exact ⟨a, bs, rfl, .of h1, q.bl⟩
    | _ => exact nomatch e
theorem ok_sum : OpOk K .sum (rSum K) := by
  intro fr H vs ds b d Q hf r e q
  cases r with
  | nil => exact nomatch e
  | @cons _ _ x0 ds r1 r2 =>
  cases r2 with
  | @cons _ _ y0 ds _ _ =>
    have e0 : fSum (x0 :: y0 :: ds) = none := by first | rfl | (cases x0 <;> rfl)
    exact nomatch e0.symm.trans e
  | nil =>
    cases x0 with
    | lst l =>
      simp only [opf, fSum, Option.map_eq_some_iff, Prod.mk.injEq] at e
      obtain ⟨bs, e1, rfl, rfl⟩ := e
      obtain ⟨a, xs, rfl, h1, z1, x1⟩ := r1.lst
      have := x1.of_ints e1
      subst this
      exact ⟨a, bs, rfl, .of h1, q.int⟩
    | _ => exact nomatch e
theorem isort_perm (l : List Int) : (isort l).Perm l := List.mergeSort_perm l _
theorem isort_sorted (l : List Int) : (isort l).Pairwise (· ≤ ·) := by
  have := List.pairwise_mergeSort (le := fun a b : Int => decide (a ≤ b)) (fun a b c h1 h2 => by simp only [decide_eq_true_eq] at *; omega) (fun a b => by simp only [Bool.or_eq_true, decide_eq_true_eq]; omega) l
  exact this.imp fun h => by simpa using h
theorem sorted_eq : ∀ {l m : List Int}, l.Perm m → l.Pairwise (· ≤ ·) → m.Pairwise (· ≤ ·) → l = m := fun {l m} p h1 h2 =>
  p.eq_of_pairwise (fun a b _ _ h3 h4 => Int.le_antisymm h3 h4) h1 h2
end
end Fly
end

section
set_option Elab.async false
set_option linter.all false
set_option maxRecDepth 100000
set_option maxHeartbeats 4000000
/-! x[i] += e (FlyAug). -/
namespace Fly
open PySem L2
section
variable {T : XT} {K : PySem.W.Frag} {W : WX} {cf : Nat → List Sl → CR} {G : Nat → V} {fr fr' Fo Fo' : AP} {H H' : Hp} {σv : St} {σd σd' : List Sl}
def rGetA (K : PySem.W.Frag) : V → V → Hp → VK → Prop := fun x y H Q => rIxL K x y H Q ∨ rGetD x y H Q
theorem get_A {X : Cx} (hu : X.A.units + 1 < cLine) : PGet X (rGetA X.K) := by
  intro pins s σ H x y v u Q I rx ry h
  rcases h with h | h
  rotate_left
  · exact get_D hu pins s σ H x y v u Q I rx ry h
  obtain ⟨p, xs, i, z, rfl, rfl, sq, he, q⟩ := h
  cases rx
  obtain ⟨t, rfl⟩ := ry
  obtain ⟨its, r, pl, hz⟩ := I.list sq
  obtain ⟨j, h1, h2, h3, h4, h5⟩ := atI_get he
  obtain ⟨w, ew, rw'⟩ := r.get h2
  have len := r.length
  have line := line63
  have fin : EP X pins σ Q w s := ⟨z, H, I, rw', q⟩
  by_cases h0 : 0 ≤ i
  · have hj : i.toNat = j := by
      rw [seqIndex_of h0 h5] at h1
      exact Option.some.inj h1
    exact wpAny_getItem_list pl.isList h0 (by omega) (by rw [hj]; simpa using ew) fin
  · have hj : (i + (its.toArray.size : Int)).toNat = j := by
      rw [seqIndex_neg (by omega) h4] at h1
      rw [List.size_toArray, ← len]
      exact Option.some.inj h1
    exact wpAny_getItem_list_neg pl.isList (by omega) (by rw [List.size_toArray] <;> omega) (by omega) (by rw [hj]; simpa using ew) fin
theorem gs_augI {i : Nat} {k e : E} {o : Op} {tk te : TE} (ho : ∀ i j b d, opf o [.int i, .int j] = some (b, d) → ∃ z, b = false ∧ d = .int z) (hk : GE T K W cf k tk) (h : GE T K W cf e te) :
    GS T K W cf (.augI i k o e) (tAugS (tVar i) tk te (rGetA K) (rIop o) rSetA) := fun G fr Fo H σv σd D S hq => by
  simp only [exec] at hq
  split at hq
  rotate_left
  · exact hq.elim
  rename_i p0 x0 ei0
  obtain ⟨a, h1, h2, h3, h4, h5⟩ := S.slot i _ ei0
  refine ⟨.ref a, h1, ?_⟩
  refine hk G fr Fo H σv σd _ S ?_
  simp only [R.toFw] at hq
  cases ek : ev cf k σd with
  | bad => rw [ek] at hq; exact hq
  | ex c fs σ1 => rw [ek] at hq; exact hq σv
  | ok ks σ1 =>
    rw [ek] at hq
    intro ws fr1 H1 A1 S1 R1 w hw
    subst hw
    obtain ⟨kt, rfl, r1⟩ := R1.one'
    simp only at hq
    split at hq
    rotate_left
    · exact hq.elim
    rename_i kd p1 x1 ekd ei1
    split at hq
    rotate_left
    · exact hq.elim
    rename_i b0 z ez
    have kR := r1.look S1 ekd
    obtain ⟨b, g1, g2, g3, g4, g5⟩ := S1.slot i _ ei1
    rw [h1] at g1; cases g1
    cases g2 with
    | ins hh z r => cases kd <;> simp [opf, fIdx] at ez
    | @dic kvs ks l hh zz kq r =>
      cases kd with
      | tup kl =>
        simp only [opf, fIdx, Option.map_eq_some_iff, Option.bind_eq_some_iff, Prod.mk.injEq] at ez
        obtain ⟨kk, e0, d', e1, rfl, rfl⟩ := ez
        obtain ⟨c, rfl, hc⟩ := kR.key e0
        obtain ⟨v, f1, f2⟩ := (dic_val (k := kk) kq r).1 _ e1
        have dg := DGet.t (k := keyI kk) hh hc
        rw [f1] at dg
        refine .inr ⟨a, v, rfl, dg, ?_⟩
        cases f2
        refine h G fr1 (fun x => Fo x) H1 σv σ1 _ S1 ?_
        cases ee : ev cf e σ1 with
        | bad => rw [ee] at hq; exact hq
        | ex c fs σ2 => rw [ee] at hq; exact fun cls dx fr2 H2 A2 S2 => hq σv cls dx fr2 H2 (A1.trans A2) S2
        | ok ts σ2 =>
          rw [ee] at hq
          intro vs fr2 H2 A2 S2 R2 w2 hw2
          subst hw2
          obtain ⟨u, rfl, r2⟩ := R2.one'
          simp only at hq
          split at hq
          rotate_left
          · exact hq.elim
          rename_i y p2 x2 ey ei2
          split at hq
          rotate_left
          · exact hq.elim
          rename_i d eo
          split at hq
          rotate_left
          · exact hq.elim
          rename_i x' es
          obtain ⟨zr, _, rfl⟩ := ho _ _ _ _ eo
          rw [(r2.look S2 ey).int]
          refine ⟨_, _, _, rfl, rfl, eo, ?_⟩
          have kR2 : Rep0 K fr2 H2 (.ref c) (.tup kl) := by
            cases kR with
            | sh q => exact .sh (q.keep A2.keep)
            | ow q => cases q
          obtain ⟨c2, ec2, hc2⟩ := kR2.key e0
          cases ec2
          obtain ⟨b2, k1, k2, k3, k4, k5⟩ := S2.slot i _ ei2
          rw [h1] at k1; cases k1
          cases k2 with
          | @dic kvs2 ks2 l2 hh2 zz2 kq2 rr2 =>
            simp only [setf, e0] at es
            split at es
            · rename_i hz
              simp only [Option.map_some, Option.some.injEq] at es
              subst es
              have hz' : kvs2.length < sizeLine := by rw [dic_len kq2, ← szLine_eq]; exact hz
              obtain ⟨S3, A3⟩ := S2.write (o := .dT (putK kvs2 (keyI kk) (.int zr))) ei2 h1 (dic_put (o := .dT []) (.int zr) kq2 rr2 hz' k3)
              exact .inr ⟨a, _, rfl, DPut.t hh2 hc2 hz', hq σv fr2 _ ((A1.trans A2).trans A3) S3⟩
            · cases es
          | lst hh2 zz2 rr2 => simp [setf] at es
          | ins hh2 zz2 rr2 => simp [setf] at es
      | _ => simp only [opf, fIdx] at ez; cases ez
    | @lst xs l hh zz r =>
      cases kd with
      | int ki =>
        simp only [opf, fIdx, Option.map_eq_some_iff, Option.bind_eq_some_iff, Prod.mk.injEq] at ez
        obtain ⟨d', ⟨j, e1, e2⟩, rfl, rfl⟩ := ez
        obtain ⟨v, f1, f2⟩ := r.get e2
        rw [kR.int]
        refine .inl ⟨a, xs, ki, v, rfl, rfl, .of hh, place_atI r.length e1 f1, ?_⟩
        cases f2
        refine h G fr1 Fo H1 σv σ1 _ S1 ?_
        cases ee : ev cf e σ1 with
        | bad => rw [ee] at hq; exact hq
        | ex c fs σ2 => rw [ee] at hq; exact fun cls dx fr2 H2 A2 S2 => hq σv cls dx fr2 H2 (A1.trans A2) S2
        | ok ts σ2 =>
          rw [ee] at hq
          intro vs fr2 H2 A2 S2 R2 w2 hw2
          subst hw2
          obtain ⟨u, rfl, r2⟩ := R2.one'
          simp only at hq
          split at hq
          rotate_left
          · exact hq.elim
          rename_i y p2 x2 ey ei2
          split at hq
          rotate_left
          · exact hq.elim
          rename_i d eo
          split at hq
          rotate_left
          · exact hq.elim
          rename_i x' es
          obtain ⟨zr, _, rfl⟩ := ho _ _ _ _ eo
          rw [(r2.look S2 ey).int]
          refine ⟨_, _, _, rfl, rfl, eo, ?_⟩
          obtain ⟨b2, k1, k2, k3, k4, k5⟩ := S2.slot i _ ei2
          rw [h1] at k1; cases k1
          cases k2 with
          | dic hh2 zz2 kq2 rr2 => simp [setf] at es
          | ins hh2 zz2 rr2 => simp [setf] at es
          | @lst xs2 l2 hh2 zz2 rr2 =>
            simp only [setf] at es
            split at es
            · simp only [Option.map_eq_some_iff] at es
              obtain ⟨j2, ej2, rfl⟩ := es
              obtain ⟨S3, A3⟩ := S2.write (o := .lst (xs2.set j2 (.int zr))) ei2 h1 (.lst upd_same (by rw [List.length_set]; exact zz2) ((rr2.set (.int zr) j2).keep (upd_keep k3)))
              exact .inl ⟨a, xs2, ki, j2, rfl, rfl, hh2, by rw [rr2.length]; exact place_ixN ej2, hq σv fr2 _ ((A1.trans A2).trans A3) S3⟩
            · cases es
      | _ => simp only [opf, fIdx] at ez; cases ez
end
end Fly
end

section
set_option Elab.async false
set_option linter.all false
set_option maxRecDepth 100000
set_option maxHeartbeats 4000000
/-! Rules of the machine that the hand layer lacks (FlyRules). -/
namespace Fly
open PySem L2 PySem.Spec PyProof.Rows
section
variable {X : Cx} {tg : Expr} {pos : Pos}
/-- a list or a tuple, walked -/
theorem pi_seq {l : Expr} {tl : TE} (hl : PE X l tl) : PI X tg l (iSeq X.K (tCons tl tNil)) := by
  refine ⟨fun pins s σ H R I h => ?_⟩
  have h' : tl σ H fun x H1 => ∃ a, [x] = [V.ref a] ∧ ((∃ xs, SqL X.K H1 a xs ∧ R (Itl X.K a) H1) ∨ (∃ xs, SqT X.K H1 a xs ∧ R (Itt X.K a) H1)) := h
  refine thn (hl.run pins s σ H _ I h') fun v s1 ⟨x, H1, I1, r1, q1⟩ => ?_
  obtain ⟨a, e, q⟩ := q1
  simp only [List.cons.injEq, and_true] at e
  subst e
  cases r1
  rcases q with ⟨xs, hq, q⟩ | ⟨xs, hq, q⟩
  · obtain ⟨its, rv, p, hz⟩ := I1.list hq
    refine wpAny_pyIter_list p.isList ?_
    refine ⟨s1.heap.objs.size, [s1.heap.objs.size], _, _, H1, rfl, I1.kept (t' := s1.toks) fun b o e => Heap.get?_push_of_some _ e, turn_list a _, ⟨_, Heap.get?_push_size _ rfl, rfl, rfl⟩, fun b hb => ?_, q⟩
    have e : b = s1.heap.objs.size := by simpa using hb
    subst e
    exact I1.fpOk (Nat.le_refl _) (I1.hok.fresh (Nat.le_refl _))
  · obtain ⟨its, rv, p, hz⟩ := I1.tuple hq
    refine wpAny_pyIter_tuple (show s1.heap.IsTuple a its.toArray from p) ?_
    refine ⟨s1.heap.objs.size, [s1.heap.objs.size], _, _, H1, rfl, I1.kept (t' := s1.toks) fun b o e => Heap.get?_push_of_some _ e, turn_tuple a _, ⟨_, Heap.get?_push_size _ rfl, rfl, rfl⟩, fun b hb => ?_, q⟩
    have e : b = s1.heap.objs.size := by simpa using hb
    subst e
    exact I1.fpOk (Nat.le_refl _) (I1.hok.fresh (Nat.le_refl _))
/-- an own exception without arguments -/
theorem pmk_own0 {C : Addr} {bmB : List Value} {B newId initId : String} {x : Str} {p : Pos} (F : ExcBaseFacts B newId initId bmB) (q : PySem.W.excIn X.K C bmB newId = true) (gC : X.mg x = some (.ref C))
    (kC : PySem.W.keepIn X.K (.ref C) = true) (r : Raises X (.ref C)) (hg : Gl X x) (hdb : (x == ("__debug__" : Str)) = false) :
    PMk X (.Call (.Name x p) [] [] pos) (fun _ H Q => Q (.ref C) none H) := by
  intro pins s σ H Q I h
  refine wpAny_Call_Name_kw (ld_glob I hg gC ?_ hdb)
  refine PySem.W.callWith_K0 I.kIn kC ?_
  show wpAny _ _ (call (.ref C) []) _ _ _
  obtain ⟨bm, N, nm, qn, bs, hdct, sn, sub, ab, col, dd, k0, k1, k2, k3, k5, mN, hC, hN, hni, T⟩ := exc_obj I.kIn q
  refine wpAny_call_exc_subT F T hC hN hni (fun h' e hm => ?_) (Nat.zero_le _)
  exact mk_of I hm r h (I.hok.gone hm.new)

/-! ### chains of comparisons -/
structure PCh (X : Cx) (ops : List CmpOp) (cs : List Expr) (t : V → TE) : Prop where
  run : ∀ (pos : Pos) (pins : List (Addr × Obj)) (s : Shared) (σ : L2.St) (H : Hp) (x : V) (v : Value) (Q : VK), Inv X pins σ H s → RelV x v → t x σ H Q →
    wpAny (model X.prog X.w) X.A (compareChain pos v ops (evalEach cs X.env)) (EP X pins σ Q) X.xe s
  test : ∀ (pos : Pos) (pins : List (Addr × Obj)) (s : Shared) (σ : L2.St) (H : Hp) (x : V) (v : Value) (Q : Bool → Hp → Prop), Inv X pins σ H s → RelV x v → t x σ H (fun z H1 => ∃ c, z = .bl c ∧ Q c H1) →
    wpAny (model X.prog X.w) X.A (testChain pos v ops (evalEach cs X.env)) (TP X pins σ Q) X.xe s
def tLast (r : R2) (tb : TE) : V → TE := fun x σ H Q => tb σ H fun y H1 => r x y H1 Q
def tLink (r : R2) (tb : TE) (t : V → TE) : V → TE := fun x σ H Q => tb σ H fun y H1 => r x y H1 fun z H2 => ∃ k, z = .bl k ∧ if k = true then t y σ H2 Q else Q (.bl false) H2
def tChn (ta : TE) (t : V → TE) : TE := fun σ H Q => ta σ H fun x H1 => t x σ H1 Q
theorem pch_last {op : CmpOp} {r : R2} {b : Expr} {tb : TE} (ho : OpR X (compareOp op) r) (hb : PE X b tb) : PCh X [op] [b] (tLast r tb) := by
  refine ⟨fun pos pins s σ H x v Q I rv h => ?_, fun pos pins s σ H x v Q I rv h => ?_⟩
  · exact chain_last (thn (hb.run pins s σ H _ I h) fun u s2 ⟨y, H2, I2, r2, q2⟩ => ho pins s2 σ H2 x y v u Q I2 rv r2 q2)
  · refine test_last (thn (hb.run pins s σ H _ I h) fun u s2 ⟨y, H2, I2, r2, q2⟩ => thn (ho pins s2 σ H2 x y v u _ I2 rv r2 q2) fun d s3 ⟨z, H3, I3, r3, c, e, q3⟩ => ?_)
    subst e
    cases r3
    exact wpAny_truthy_bool ⟨H3, I3, q3⟩
theorem pch_link {op op' : CmpOp} {ops : List CmpOp} {r : R2} {b c : Expr} {cs : List Expr} {tb : TE} {t : V → TE} (ho : OpR X (compareOp op) r) (hb : PE X b tb) (hr : PCh X (op' :: ops) (c :: cs) t) : PCh X (op :: op' :: ops) (b :: c :: cs) (tLink r tb t) := by
  refine ⟨fun pos pins s σ H x v Q I rv h => ?_, fun pos pins s σ H x v Q I rv h => ?_⟩
  · refine chain_link (thn (hb.run pins s σ H _ I h) fun u s2 ⟨y, H2, I2, r2, q2⟩ => thn (ho pins s2 σ H2 x y v u _ I2 rv r2 q2) fun d s3 ⟨z, H3, I3, r3, k, e, q3⟩ => ?_)
    subst e
    cases r3
    refine wpAny_truthy_bool ?_
    cases k with
    | false => exact ⟨.bl false, H3, I3, rfl, q3⟩
    | true => exact hr.run pos pins s3 σ H3 y u Q I3 r2 q3
  · refine test_link (thn (hb.run pins s σ H _ I h) fun u s2 ⟨y, H2, I2, r2, q2⟩ => thn (ho pins s2 σ H2 x y v u _ I2 rv r2 q2) fun d s3 ⟨z, H3, I3, r3, k, e, q3⟩ => ?_)
    subst e
    cases r3
    refine wpAny_truthy_bool ?_
    cases k with
    | false =>
      obtain ⟨c, ec, q⟩ := q3
      cases ec
      exact ⟨H3, I3, q⟩
    | true => exact hr.test pos pins s3 σ H3 y u Q I3 r2 q3
theorem pe_chn {a b c : Expr} {op op' : CmpOp} {ops : List CmpOp} {cs : List Expr} {ta : TE} {t : V → TE} (ha : PE X a ta) (h : PCh X (op :: op' :: ops) (b :: c :: cs) t) (hm : lastMarks (op :: op' :: ops) (b :: c :: cs) = false) : PE X (.Compare a (op :: op' :: ops) (b :: c :: cs) pos) (tChn ta t) := by
  refine ⟨fun pins s σ H Q I hw => ?_⟩
  exact Compare_chain (thn (ha.run pins s σ H _ I hw) fun v s1 ⟨x, H1, I1, r1, q1⟩ => h.run pos pins s1 σ H1 x v Q I1 r1 q1) hm
theorem pt_chn {a b c : Expr} {op op' : CmpOp} {ops : List CmpOp} {cs : List Expr} {ta : TE} {t : V → TE} (ha : PE X a ta) (h : PCh X (op :: op' :: ops) (b :: c :: cs) t) (hm : lastMarks (op :: op' :: ops) (b :: c :: cs) = false) : PT X (.Compare a (op :: op' :: ops) (b :: c :: cs) pos) (tB (tChn ta t)) := by
  refine ⟨fun pins s σ H Q I hw => ?_⟩
  exact isTrue_chain (thn (ha.run pins s σ H _ I hw) fun v s1 ⟨x, H1, I1, r1, q1⟩ => h.test pos pins s1 σ H1 x v Q I1 r1 q1) hm
def plainC : CmpOp → Bool
  | .In => false
  | .NotIn => false
  | _ => true
theorem lastMarks_plain : ∀ {ops : List CmpOp} {cs : List Expr}, ops.all plainC = true → lastMarks ops cs = false
  | [], _, _ => by cases ‹List Expr› <;> rfl
  | op :: ops, [], _ => by cases ops <;> rfl
  | [op], [e], h => by
    simp only [List.all_cons, List.all_nil, Bool.and_true] at h
    show behindInMarks op e = false
    exact nobehind e (fun z => by rw [z] at h; cases h) (fun z => by rw [z] at h; cases h)
  | [op], e :: e2 :: es, h => by cases es <;> rfl
  | op :: op2 :: ops, e :: es, h => by
    simp only [List.all_cons, Bool.and_eq_true] at h
    show lastMarks (op2 :: ops) es = false
    exact lastMarks_plain (by simp only [List.all_cons, Bool.and_eq_true]; exact h.2)

/-! ### t[::-1] -/
def tRevA (K : PySem.W.Frag) (te : TE) : TE := fun σ H Q => te σ H fun x H1 => ∃ a xs, x = .ref a ∧ ((SqL K H1 a xs ∧ ∀ p, H1 p = none → Q (.ref p) (upd H1 p (.lst xs.reverse))) ∨ (SqT K H1 a xs ∧ ∀ p, H1 p = none → Q (.ref p) (upd H1 p (.tup xs.reverse))))
end
section
variable {prog : Program} {w : World} {A : Around} {E : Value → Shared → Prop} {s : Shared}
theorem sliceApplied_back {sl : Addr} {vl vu vs : Value} {n : Nat} {Q : Int × Int × Nat → Shared → Prop} (hs : s.heap.IsSliceOf sl vl vu vs) (pl : IsPart vl none) (pu : IsPart vu none) (ps : IsPart vs (some (-1)))
    (h : Q ((n : Int) - 1, -1, n) s) : wpAny (model prog w) A (Builtin.Slice.sliceApplied (.ref sl) (pure (n : Int))) Q E s := by
  obtain ⟨os, hos, hcs, hds⟩ := id hs
  unfold Builtin.Slice.sliceApplied Builtin.Slice.sliceFields
  refine wpAny_bind (wpAny_bind (wpAny_field hos hds (x := vl) rfl (wpAny_bind (wpAny_field hos hds (x := vu) rfl (wpAny_bind (wpAny_field hos hds (x := vs) rfl (wpAny_pure ?_)))))))
  refine wpAny_bind (HT.slicePart_ ps ?_)
  show wpAny _ _ (if ((-1 : Int) == 0) = true then _ else _) _ _ s
  rw [if_neg (by decide)]
  refine wpAny_bind (HT.slicePart_ pl (wpAny_bind (HT.slicePart_ pu (wpAny_bind (wpAny_pure ?_)))))
  show wpAny _ _ (match Builtin.Slice.sliceAdjust none none (-1) (n : Int) with | (lo, hi) => pure (lo, (-1 : Int), Builtin.Slice.slicePlaces lo hi (-1))) _ _ s
  have e1 : Builtin.Slice.sliceAdjust none none (-1) (n : Int) = ((n : Int) - 1, -1) := rfl
  rw [e1]
  show wpAny _ _ (pure ((n : Int) - 1, (-1 : Int), Builtin.Slice.slicePlaces ((n : Int) - 1) (-1) (-1))) _ _ s
  have e2 : Builtin.Slice.slicePlaces ((n : Int) - 1) (-1) (-1) = n := by
    unfold Builtin.Slice.slicePlaces
    have h1 : ¬ ((-1 : Int) > 0) := by omega
    simp only [h1, if_false, Int.neg_neg, Int.ediv_one]
    split <;> omega
  rw [e2]
  exact wpAny_pure h
theorem pick_back (xs : Array Value) : ((List.range xs.size).filterMap fun (m : Nat) => xs[(((xs.size : Int) - 1) + (m : Int) * (-1)).toNat]?).toArray = xs.toList.reverse.toArray := by
  congr 1
  have e : (List.range xs.size).filterMap (fun (m : Nat) => xs[(((xs.size : Int) - 1) + (m : Int) * (-1)).toNat]?) = (List.range xs.size).filterMap (fun (m : Nat) => xs.toList.reverse[m]?) := by
    have congr : ∀ (l : List Nat) (f g : Nat → Option Value), (∀ m ∈ l, f m = g m) → l.filterMap f = l.filterMap g := by
      intro l f g
      induction l with
      | nil => intro _; rfl
      | cons a l ih =>
        intro h
        rw [List.filterMap_cons, List.filterMap_cons, h a List.mem_cons_self, ih fun m hm => h m (List.mem_cons_of_mem _ hm)]
    refine congr _ _ _ fun m hm => ?_
    have hm' : m < xs.size := List.mem_range.mp hm
    have e1 : (((xs.size : Int) - 1) + (m : Int) * (-1)).toNat = xs.size - 1 - m := by omega
    rw [e1, List.getElem?_reverse (by simpa using hm')]
    simp
  rw [e]
  have go : ∀ (l : List Value), (List.range l.length).filterMap (fun m => l[m]?) = l := by
    intro l
    induction l with
    | nil => rfl
    | cons x l ih =>
      rw [List.length_cons, List.range_succ_eq_map, List.filterMap_cons]
      simp only [List.getElem?_cons_zero, List.filterMap_map]
      congr 1
  have := go xs.toList.reverse
  simpa using this
theorem getItem_tuple_back {t sl : Addr} {items : Array Value} {vl vu vs : Value} {Q : Value → Shared → Prop} (ht : IsTup s.heap t items) (hs : s.heap.IsSliceOf sl vl vu vs) (pl : IsPart vl none) (pu : IsPart vu none) (ps : IsPart vs (some (-1)))
    (h : Q (.ref s.heap.objs.size) { s with heap := s.heap.push { cls := .type "tuple", data := .seq items.toList.reverse.toArray } })
    (hsz : items.size ≤ sizeLine) : wpAny (model prog w) A (getItem (.ref t) (.ref sl)) Q E s := by
  have htake : sizeOk (.seq items.toList.reverse.toArray) := by
    show items.toList.reverse.toArray.size ≤ sizeLine
    rw [List.size_toArray, List.length_reverse, Array.length_toList]
    exact hsz
  obtain ⟨os, hos, hcs, hds⟩ := id hs
  have hTs : s.TypeIs (.ref sl) "slice" := ⟨os, hos, hcs⟩
  unfold getItem
  try with_reducible refine wpAny_holding ?_
  first | refine wpAny_bind (wpAny_pure ?_) | skip
  refine wpAny_bind (wpAny_sequenceKey ht.typeIs (by decide) ?_)
  refine wpAny_bind (wpAny_callSpecial?_slot (name := Str.ofString "__getitem__") ht.typeIs PyProof.Rows.slot_tuple_getitem
    (wpAny_call_entry PyProof.Rows.slot_tuple_getitem ht.typeIs entry_tuple_getitem ?_ (args_tuple_getitem _ _)))
  show wpAny _ _ (Builtin.Tuple.tupleItemsOf (.ref t) >>= _) _ _ s
  refine wpAny_bind (tupleItemsOf_ ht ?_)
  refine wpAny_bind (wpAny_typeOf hTs ?_)
  rw [if_pos (by decide)]
  refine wpAny_bind (sliceApplied_back hs pl pu ps ?_)
  have hno : ¬ ((((items.size : Int) - 1) == 0 && (-1 : Int) == 1 && items.size == items.size) = true) := by simp
  show wpAny _ _ (if ((((items.size : Int) - 1) == 0 && (-1 : Int) == 1 && items.size == items.size)) = true then _ else _) _ _ s
  rw [if_neg hno, pick_back]
  first
    | exact wpAny_bind (m := Builtin.Tuple.tupleExact _) (wpAny_newObj_type (wpAny_pure ⟨_, rfl, wpAny_pure h⟩) htake)
    | exact wpAny_bind (m := Builtin.Tuple.tupleExact _) (wpAny_newObj_type (wpAny_bind (wpAny_pure (wpAny_pure ⟨_, rfl, wpAny_pure h⟩))) htake)
    | exact wpAny_bind (wpAny_bind (m := Builtin.Tuple.tupleExact _) (wpAny_newObj_type (wpAny_pure (wpAny_pure ⟨_, rfl, wpAny_pure h⟩)) htake))
    | exact wpAny_bind (wpAny_bind (m := Builtin.Tuple.tupleExact _) (wpAny_newObj_type (wpAny_pure ⟨_, rfl, wpAny_pure h⟩) htake))
end
section
variable {X : Cx} {pos : Pos}
theorem pe_revA {e : Expr} {te : TE} {k : Nat} {p1 p2 p3 pos : Pos} (he : PE X e te) : PE X (.Subscript e (.Slice none none (some (.UnaryOp .USub (.Constant (.int 1) k p1) p2)) p3) pos) (tRevA X.K te) := by
  refine ⟨fun pins s σ H Q I h => ?_⟩
  refine Subscript_ (thn (he.run pins s σ H _ I h) fun v s1 ⟨x, H1, I1, r1, q1⟩ => ?_)
  obtain ⟨a, xs, ex, q⟩ := q1
  subst ex
  cases r1
  have hst : PO X (some (.UnaryOp .USub (.Constant (.int 1) k p1) p2)) (tPart (tUn (rU fun i => .int (-i)) (tC (.int 1)))) := po_some (pe_un un_neg pe_int)
  refine wpAny_Slice (thn (po_none.run pins s1 σ H1 (fun o H2 => o = none ∧ H2 = H1) I1 ⟨rfl, rfl⟩) fun vl s2 ⟨l, H2, I2, pl, el, e2⟩ => ?_)
  subst el e2
  refine thn (po_none.run pins s2 σ H2 (fun o H3 => o = none ∧ H3 = H2) I2 ⟨rfl, rfl⟩) fun vu s3 ⟨u, H3, I3, pu, eu, e3⟩ => ?_
  subst eu e3
  refine thn (hst.run pins s3 σ H3 (fun o H4 => o = some (-1) ∧ H4 = H3) I3 ⟨1, rfl, -1, rfl, rfl, rfl⟩) fun vs s4 ⟨o, H4, I4, ps, eo, e4⟩ => ?_
  subst eo e4
  have I5 : Inv X pins σ H4 { s4 with heap := s4.heap.push { cls := .type "slice", data := .fields #[vl, vu, vs] } } := I4.kept (t' := s4.toks) fun b ob q => Heap.get?_push_of_some _ q
  show wpAny (model X.prog X.w) X.A (subscriptTail e (.Slice none none (some (.UnaryOp .USub (.Constant (.int 1) k p1) p2)) p3) (.ref a) (.ref s4.heap.objs.size)) (EP X pins σ Q) X.xe { s4 with heap := s4.heap.push { cls := .type "slice", data := .fields #[vl, vu, vs] } }
  rcases q with ⟨hx, q⟩ | ⟨hx, q⟩
  · obtain ⟨its, r, ht, hz⟩ := I5.list hx
    have hlen := r.length
    refine tail_any (ops := [.ref a, .ref s4.heap.objs.size]) ht.isList.typeIs (PySem.slot_list_getitem.lookup) ?_ (by with_unfolding_all rfl)
    refine wpAny_getItem_list_slice ht.isList (Heap.IsSliceOf.new _ vl vu vs) pl pu ps (by decide) ?_ (by rw [List.size_toArray]; omega)
    rw [PySem.W.krv_pick]
    refine ⟨.ref _, _, I5.laid (t' := s4.toks) (o := .lst xs.reverse) (fun b ob q => Heap.get?_push_of_some _ q) (Nat.le_refl _) ?_, rfl, q _ (I5.hok.fresh (Nat.le_refl _))⟩
    exact ⟨by rw [List.length_reverse]; exact hz, _, 0, r.reverse, Heap.get?_push_size _ rfl⟩
  · obtain ⟨its, r, ht, hz⟩ := I5.tuple hx
    have hlen := r.length
    refine tail_any (ops := [.ref a, .ref s4.heap.objs.size]) ht.typeIs (PyProof.Rows.slot_tuple_getitem.lookup) ?_ (by with_unfolding_all rfl)
    refine getItem_tuple_back ht (Heap.IsSliceOf.new _ vl vu vs) pl pu ps ?_ (by rw [List.size_toArray]; omega)
    refine ⟨.ref _, _, I5.laid (t' := s4.toks) (o := .tup xs.reverse) (fun b ob q => Heap.get?_push_of_some _ q) (Nat.le_refl _) ?_, rfl, q _ (I5.hok.fresh (Nat.le_refl _))⟩
    exact ⟨by rw [List.length_reverse]; exact hz, _, r.reverse, ⟨_, Heap.get?_push_size _ rfl, rfl, _, rfl⟩⟩
end
section
variable {T : XT} {K : PySem.W.Frag} {W : WX} {cf : Nat → List Sl → CR} {G : Nat → V} {fr fr' Fo Fo' : AP} {H H' : Hp} {σv : L2.St} {σd σd' : List Sl}
theorem ok_rev : OpOk K .rev (l1 fun x H1 Q => ∃ a xs, x = .ref a ∧ ((SqL K H1 a xs ∧ ∀ p, H1 p = none → Q (.ref p) (upd H1 p (.lst xs.reverse))) ∨ (SqT K H1 a xs ∧ ∀ p, H1 p = none → Q (.ref p) (upd H1 p (.tup xs.reverse))))) := by
  intro fr H vs ds b d Q hf r e q
  cases r with
  | nil => exact nomatch e
  | @cons _ _ x0 ds r1 r2 =>
  cases r2 with
  | @cons _ _ y0 ds _ _ =>
    have e0 : fRev (x0 :: y0 :: ds) = none := by first | rfl | (cases x0 <;> rfl)
    exact nomatch e0.symm.trans e
  | nil =>
    cases x0 with
    | tup l =>
      cases e
      obtain ⟨a, xs, rfl, h1, z1, x1, y1⟩ := r1.tup
      exact ⟨a, xs, rfl, .inr ⟨h1, fun p hp => q.tup hf hp (by rw [List.length_reverse]; exact z1) x1.reverse⟩⟩
    | lst l =>
      cases e
      obtain ⟨a, xs, rfl, h1, z1, x1⟩ := r1.lst
      exact ⟨a, xs, rfl, .inl ⟨.of h1, fun p hp => q.lst hf hp (by rw [List.length_reverse]; exact z1) x1.reverse⟩⟩
    | _ => exact nomatch e
/-! ### chains in the small language -/
def GCh (T : XT) (K : PySem.W.Frag) (W : WX) (cf : Nat → List Sl → CR) (l : E) (t : V → TE) : Prop :=
  ∀ G fr Fo H σv σd i Q, Sim K G fr Fo H σv σd → RPost T K W G fr Fo H σv (evC cf l i σd) (fun vs H' => ∀ v, vs = [v] → Q v H') → t (.int i) σv H Q
theorem ge_chn {a l : E} {ta : TE} {t : V → TE} (ha : GE T K W cf a ta) (hl : GCh T K W cf l t) : GE T K W cf (.chn a l) (tChn ta t) := fun G fr Fo H σv σd Q S hq => by
  refine ha G fr Fo H σv σd _ S ?_
  simp only [ev, R.andThen] at hq
  cases e : ev cf a σd with
  | bad => rw [e] at hq; exact hq
  | ex c fs σ1 => rw [e] at hq; exact hq
  | ok ts σ1 =>
    rw [e] at hq
    intro vs fr1 H1 A1 S1 R1 v hv
    subst hv
    obtain ⟨t, rfl, r1⟩ := R1.one'
    simp only at hq
    split at hq
    · rename_i x el
      rw [(r1.look S1 el).int]
      exact hl G fr1 Fo H1 σv σ1 x Q S1 (RPost.from hq A1)
    · exact hq.elim
theorem gch_last {o : Op} {b : E} {r : R2} {tb : TE} (ho : OpOk K o (l2 r)) (hb : GE T K W cf b tb) : GCh T K W cf (.lk1 o b) (tLast r tb) := fun G fr Fo H σv σd i Q S hq => by
  refine hb G fr Fo H σv σd _ S ?_
  simp only [evC, R.andThen] at hq
  cases e : ev cf b σd with
  | bad => rw [e] at hq; exact hq
  | ex c fs σ1 => rw [e] at hq; exact hq
  | ok ts σ1 =>
    rw [e] at hq
    intro vs fr1 H1 A1 S1 R1 v hv
    subst hv
    obtain ⟨t, rfl, r1⟩ := R1.one'
    simp only at hq
    split at hq
    · rename_i y el
      split at hq
      · rename_i z eo
        rw [(r1.look S1 el).int]
        exact ho fr1 H1 [.int i, .int y] _ false _ Q S1.frs (.cons (.sh (.int i)) (.cons (.sh (.int y)) .nil)) eo
          ⟨fun _ v rv => (by cases rv; exact hq [.bl z] fr1 H1 A1 S1 ⟨.tv (.bl z), True.intro⟩ _ rfl), fun p o hp => ⟨fun _ v rv => (by
            cases rv
            exact hq [.bl z] fr1 _ (A1.trans (.grow S1 hp (fun _ f => f) fun _ f => .inl f)) (S1.grow hp (fun _ f => f) fun _ f => .inl f) ⟨.tv (.bl z), True.intro⟩ _ rfl), fun h => nomatch h⟩⟩
      · exact hq.elim
    · exact hq.elim
theorem gch_link {o : Op} {b l : E} {r : R2} {tb : TE} {t : V → TE} (ho : OpOk K o (l2 r)) (hb : GE T K W cf b tb) (hl : GCh T K W cf l t) : GCh T K W cf (.lks o b l) (tLink r tb t) := fun G fr Fo H σv σd i Q S hq => by
  refine hb G fr Fo H σv σd _ S ?_
  simp only [evC, R.andThen] at hq
  cases e : ev cf b σd with
  | bad => rw [e] at hq; exact hq
  | ex c fs σ1 => rw [e] at hq; exact hq
  | ok ts σ1 =>
    rw [e] at hq
    intro vs fr1 H1 A1 S1 R1 v hv
    subst hv
    obtain ⟨t, rfl, r1⟩ := R1.one'
    simp only at hq
    split at hq
    · rename_i y el
      rw [(r1.look S1 el).int]
      split at hq
      · rename_i eo
        refine ho fr1 H1 [.int i, .int y] _ false _ _ S1.frs (.cons (.sh (.int i)) (.cons (.sh (.int y)) .nil)) eo ⟨fun _ v rv => ?_, fun p o hp => ⟨fun _ v rv => ?_, fun h => nomatch h⟩⟩
        · cases rv
          refine ⟨true, rfl, ?_⟩
          rw [if_pos rfl]
          exact hl G fr1 Fo H1 σv σ1 y Q S1 (RPost.from hq A1)
        · cases rv
          refine ⟨true, rfl, ?_⟩
          rw [if_pos rfl]
          exact hl G fr1 Fo _ σv σ1 y Q (S1.grow hp (fun _ f => f) fun _ f => .inl f) (RPost.from hq (A1.trans (.grow S1 hp (fun _ f => f) fun _ f => .inl f)))
      · rename_i eo
        refine ho fr1 H1 [.int i, .int y] _ false _ _ S1.frs (.cons (.sh (.int i)) (.cons (.sh (.int y)) .nil)) eo ⟨fun _ v rv => ?_, fun p o hp => ⟨fun _ v rv => ?_, fun h => nomatch h⟩⟩
        · cases rv
          refine ⟨false, rfl, ?_⟩
          rw [if_neg (by decide)]
          exact hq [.bl false] fr1 H1 A1 S1 ⟨.tv (.bl false), True.intro⟩ _ rfl
        · cases rv
          refine ⟨false, rfl, ?_⟩
          rw [if_neg (by decide)]
          exact hq [.bl false] fr1 _ (A1.trans (.grow S1 hp (fun _ f => f) fun _ f => .inl f)) (S1.grow hp (fun _ f => f) fun _ f => .inl f) ⟨.tv (.bl false), True.intro⟩ _ rfl
      · exact hq.elim
    · exact hq.elim

/-! ### slices -/
def PPost (T : XT) (K : PySem.W.Frag) (W : WX) (G : Nat → V) (fr Fo : AP) (H : Hp) (σv : L2.St) (r : R) (Q : Option Int → Hp → Prop) : Prop :=
  match r with
  | .ok [] σd => ∀ fr' H', Aft fr Fo H fr' H' → Sim K G fr' Fo H' σv σd → Q none H'
  | .ok [u] σd => match look σd u with
    | some (.int i) => ∀ fr' H', Aft fr Fo H fr' H' → Sim K G fr' Fo H' σv σd → Q (some i) H'
    | _ => False
  | .ok _ _ => False
  | .ex c fs σd => ∀ cls dx fr' H', Aft fr Fo H fr' H' → Sim K G fr' Fo H' σv σd → ExR T K fr' H' cls dx c fs → W cls dx σv H'
  | .bad => False
def GP (T : XT) (K : PySem.W.Frag) (W : WX) (cf : Nat → List Sl → CR) (m : E) (t : TO) : Prop := ∀ G fr Fo H σv σd Q, Sim K G fr Fo H σv σd → PPost T K W G fr Fo H σv (ev cf m σd) Q → t σv H Q
theorem gp_none : GP T K W cf .nil tNoPart := fun G fr Fo H σv σd Q S hq => hq fr H (.refl S) S
theorem gp_some {m : E} {t : TE} (h : GE T K W cf m t) : GP T K W cf m (tPart t) := fun G fr Fo H σv σd Q S hq => by
  refine h G fr Fo H σv σd _ S ?_
  cases e : ev cf m σd with
  | bad => rw [e] at hq; exact hq
  | ex c fs σ1 => rw [e] at hq; exact hq
  | ok ts σ1 =>
    rw [e] at hq
    intro vs fr1 H1 A1 S1 R1 v hv
    subst hv
    obtain ⟨t, rfl, r1⟩ := R1.one'
    simp only [PPost] at hq
    split at hq
    · rename_i i el
      exact ⟨i, (r1.look S1 el).int, hq fr1 H1 A1 S1⟩
    · exact hq.elim
theorem ge_sl {a lo hi : E} {ta : TE} {tl th : TO} (ha : GE T K W cf a ta) (hl : GP T K W cf lo tl) (hh : GP T K W cf hi th) : GE T K W cf (.sl a lo hi) (tSl (rSlAll K) ta tl th) := fun G fr Fo H σv σd Q S hq => by
  refine ha G fr Fo H σv σd _ S ?_
  simp only [ev, R.andThen] at hq
  cases e : ev cf a σd with
  | bad => rw [e] at hq; exact hq
  | ex c fs σ1 => rw [e] at hq; exact hq
  | ok ts σ1 =>
    rw [e] at hq
    intro vs fr1 H1 A1 S1 R1 v hv
    subst hv
    obtain ⟨t, rfl, r1⟩ := R1.one'
    simp only at hq
    have fin : ∀ {l h : Option Int} {σ3 : List Sl} {fr3 H3}, Aft fr1 (addF Fo v t) H1 fr3 H3 → Sim K G fr3 (addF Fo v t) H3 σv σ3 →
        RPost T K W G fr Fo H σv (match look σ3 t with
          | some x => match fSl l h x with
            | some (true, d) => .ok [.tf d] σ3
            | some (false, d) => .ok [.tv d] σ3
            | none => .bad
          | none => .bad) (fun vs H' => ∀ v, vs = [v] → Q v H') → rSlAll K v l h H3 Q := by
      intro l h σ3 fr3 H3 A3 S3 hq
      have r3 := r1.keep A3 S3
      have S3' := S3.less addF_sub
      have A13 := A1.trans (A3.less addF_sub)
      split at hq
      · rename_i x el
        have r0 := r3.look S3' el
        have post : ∀ b d, fSl l h x = some (b, d) → OPost K fr3 H3 b d Q := fun b d e => by
          rw [e] at hq
          refine ⟨fun hb v rv => ?_, fun p o hp => ⟨fun hb v rv => ?_, fun hb ro => ?_⟩⟩
          · subst hb
            exact hq [v] fr3 H3 A13 S3' ⟨.tv rv, True.intro⟩ v rfl
          · subst hb
            exact hq [v] _ _ (A13.trans (.grow S3' hp (fun _ f => .inl f) fun _ f => f)) (S3'.grow hp (fun _ f => .inl f) fun _ f => f) ⟨.tv rv, True.intro⟩ v rfl
          · subst hb
            exact hq [.ref p] fr3 _ (A13.trans (.grow S3' hp (fun _ f => f) fun _ f => .inl f)) (S3'.grow hp (fun _ f => f) fun _ f => .inl f)
              ⟨.tf ro (fun f => S3'.frs p f hp) (fun f => (S3'.fos p f).1 hp) (S3'.apart_new hp), True.intro⟩ _ rfl
        cases x with
        | tup l' => exact slA_tup S3'.frs r0 (post _ _ rfl)
        | lst l' => exact slA_lst S3'.frs r0 (post _ _ rfl)
        | scr l' => exact slA_scr S3'.frs r0 (post _ _ rfl)
        | kt l' => exact slA_kt S3'.frs r0 (post _ _ rfl)
        | _ => exact hq.elim
      · exact hq.elim
    have S1' := S1.addF r1
    refine hl G fr1 (addF Fo v t) H1 σv σ1 _ S1' ?_
    have step : ∀ {l : Option Int} {σ2 : List Sl} {fr2 H2}, Aft fr1 (addF Fo v t) H1 fr2 H2 → Sim K G fr2 (addF Fo v t) H2 σv σ2 →
        RPost T K W G fr Fo H σv (partI (ev cf hi σ2) fun h σ3 => match look σ3 t with
          | some x => match fSl l h x with
            | some (true, d) => .ok [.tf d] σ3
            | some (false, d) => .ok [.tv d] σ3
            | none => .bad
          | none => .bad) (fun vs H' => ∀ v, vs = [v] → Q v H') → th σv H2 fun u H3 => rSlAll K v l u H3 Q := by
      intro l σ2 fr2 H2 A2 S2 hq
      refine hh G fr2 (addF Fo v t) H2 σv σ2 _ S2 ?_
      cases eh : ev cf hi σ2 with
      | bad => rw [eh] at hq; exact hq
      | ex c fs σ3 => rw [eh] at hq; exact fun cls dx fr3 H3 A3 S3 => hq cls dx fr3 H3 (A1.trans ((A2.trans A3).less addF_sub)) (S3.less addF_sub)
      | ok us σ3 =>
        rw [eh] at hq
        match us, hq with
        | [], hq => exact fun fr3 H3 A3 S3 => fin (A2.trans A3) S3 hq
        | [u], hq =>
          simp only [partI] at hq
          simp only [PPost]
          split at hq
          · rename_i i el
            try rw [el]
            exact fun fr3 H3 A3 S3 => fin (A2.trans A3) S3 hq
          · exact hq.elim
        | _ :: _ :: _, hq => exact hq.elim
    cases el : ev cf lo σ1 with
    | bad => rw [el] at hq; exact hq
    | ex c fs σ2 => rw [el] at hq; exact fun cls dx fr2 H2 A2 S2 => hq cls dx fr2 H2 (A1.trans (A2.less addF_sub)) (S2.less addF_sub)
    | ok us σ2 =>
      rw [el] at hq
      match us, hq with
      | [], hq => exact fun fr2 H2 A2 S2 => step A2 S2 hq
      | [u], hq =>
        simp only [partI] at hq
        simp only [PPost]
        split at hq
        · rename_i i e2
          try rw [e2]
          exact fun fr2 H2 A2 S2 => step A2 S2 hq
        · exact hq.elim
      | _ :: _ :: _, hq => exact hq.elim

/-! ### isinstance -/
def tyN : Nat → String
  | 0 => "NoneType"
  | 1 => "bool"
  | 2 => "int"
  | 3 => "str"
  | 4 => "tuple"
  | 5 => "list"
  | 6 => "dict"
  | _ => "object"
theorem kit_pair : ∀ k, k ≤ 6 → ∀ t, t ≤ 6 → kitB (tyN k) (tyN t) = some (isKind k t) := by
  have h : (List.range 7).all (fun k => (List.range 7).all fun t => decide (kitB (tyN k) (tyN t) = some (isKind k t))) = true := by decide +kernel
  intro k hk t ht
  simp only [List.all_eq_true, decide_eq_true_eq, List.mem_range] at h
  exact h k (by omega) t (by omega)
theorem Rep0.tyx {v : V} {d : D} (r : Rep0 K fr H v d) (hk : kind d ≤ 6) {H' : Hp} (h : ∀ a, H a ≠ none → H' a = H a) : TyX K H' v (.type (tyN (kind d))) := by
  cases r with
  | ow r =>
    cases r with
    | lst e _ _ => exact .base (.lst ((h _ (by rw [e]; simp)).trans e))
    | dic e _ _ _ => exact .base (.dT ((h _ (by rw [e]; simp)).trans e))
    | ins e _ _ => exact absurd (show 7 ≤ 6 from hk) (by decide)
  | sh r =>
    cases r with
    | non => exact .base .non
    | bl b => exact .base (.bl b)
    | int b => exact .base (.int b)
    | str b => exact .base (.str _)
    | lst f e _ _ => exact .base (.lst ((h _ (by rw [e]; simp)).trans e))
    | dic f e _ _ _ => exact .base (.dT ((h _ (by rw [e]; simp)).trans e))
    | ins f e _ _ => exact absurd (show 7 ≤ 6 from hk) (by decide)
    | kd f e _ _ _ => exact absurd (show 10 ≤ 6 from hk) (by decide)
    | scr _ _ _ => exact absurd (show 9 ≤ 6 from hk) (by decide)
    | tup e _ _ => exact .base (.tup ((h _ (by rw [e.2]; simp)).trans e.2))
    | kt f n e _ _ => exact .fTuple ((h _ (by rw [e]; simp)).trans e)
/-- isinstance(x, t) -/
theorem ok_isi1 {t : Nat} (ht : t ≤ 6) : OpOk K (.isi [t]) (l1 fun x H Q => rIsi K [x, .ty (tyN t)] H Q) := by
  intro fr H vs ds b d Q hf r e q
  cases r with
  | nil => exact nomatch e
  | @cons _ _ a ds r1 r2 =>
  cases r2 with
  | @cons _ _ y0 ds _ _ =>
    have e0 : (fIsi [t]) (a :: y0 :: ds) = none := by first | rfl | (cases a <;> rfl)
    exact nomatch e0.symm.trans e
  | nil =>
    simp only [opf, fIsi] at e
    split at e
    · rename_i z
      cases e
      refine ⟨_, _, _, _, _, rfl, .ty _, r1.tyx z fun _ _ => rfl, kit_ty (kit_pair _ z t ht), ?_⟩
      have := q.bl
      simpa using this
    · cases e
def tyVs (ts : List Nat) : List V := ts.map fun t => .ty (tyN t)
theorem kit_any : ∀ {ts : List Nat} {k : Nat}, k ≤ 6 → (∀ t ∈ ts, t ≤ 6) → PySem.W.kitAny K (.type (tyN k)) (ts.map fun t => .type (tyN t)) = some (ts.any fun t => isKind k t)
  | [], _, _, _ => rfl
  | t :: ts, k, hk, h => by
    have h1 := kit_pair k hk t (h t List.mem_cons_self)
    have h2 := kit_any (ts := ts) hk fun t ht => h t (List.mem_cons_of_mem _ ht)
    refine kitAny_cons (b := isKind k t) (kit_ty h1) (fun e => ?_) fun e => ?_
    · rw [List.any_cons, e, Bool.false_or]; exact h2
    · rw [List.any_cons, e, Bool.true_or]
/-- isinstance(x, (t, ..)) -/
theorem ok_isiT {ts : List Nat} (ht : ∀ t ∈ ts, t ≤ 6) (hl : ts.length ≤ 20) : OpOk K (.isi ts) (l1 fun x H Q => (tyVs ts).length ≤ sizeLine ∧ ∀ p, H p = none → rIsiT K [x, .ref p] (upd H p (.tup (tyVs ts))) Q) := by
  intro fr H vs ds b d Q hf r e q
  cases r with
  | nil => exact nomatch e
  | @cons _ _ a ds r1 r2 =>
  cases r2 with
  | @cons _ _ y0 ds _ _ =>
    have e0 : (fIsi ts) (a :: y0 :: ds) = none := by first | rfl | (cases a <;> rfl)
    exact nomatch e0.symm.trans e
  | nil =>
    simp only [opf, fIsi] at e
    split at e
    · rename_i z
      cases e
      refine ⟨?_, fun p hp => ?_⟩
      · unfold tyVs; rw [List.length_map, sizeLine_eq]; omega
      have hp' : ∀ (ts : List Nat), Paired ClsV (tyVs ts) (ts.map fun t => .type (tyN t)) := by
        intro ts
        induction ts with
        | nil => exact .nil
        | cons t ts ih => exact .cons (.ty _) ih
      exact ⟨_, p, tyVs ts, _, _, _, rfl, upd_same, hp' ts, r1.tyx z fun a ha => upd_ne fun e => ha (e ▸ hp), kit_any z ht, (q.2 p _ hp).1 rfl _ (.bl _)⟩
    · cases e
end
end Fly
end

section
set_option Elab.async false
set_option linter.all false
set_option maxRecDepth 100000
set_option maxHeartbeats 4000000
/-! sorted of a list of tuples of whole numbers (FlyTup). -/
namespace TupO
open PySem PyProof.Rows Srt SrtO
section
variable {prog : Program} {w : World} {A : Around} {E : Value → Shared → Prop} {s : Shared}
/-- two rows of numbers, one beside the other -/
theorem lex_go {b fin : Bool} {Q : Bool → Shared → Prop} : ∀ {us vs : List Value} {ns ms : List Int} (i : Nat), IntsAre us ns → IntsAre vs ms → fin = decide (us.length < vs.length) → Q (HT.lexLt ns ms) s →
    PySem.W.KatLex prog w A b fin Q (us.zip vs) i s
  | _, _, _, _, i, .nil, .nil, e, h => PySem.W.kat_nil (by rw [e]; exact h)
  | _, _, _, _, i, .nil, .cons m u q, e, h => PySem.W.kat_nil (by rw [e]; exact h)
  | _, _, _, _, i, .cons n t r, .nil, e, h => PySem.W.kat_nil (by rw [e]; exact h)
  | _, _, _, _, i, .cons n t r, .cons m u q, e, h => by
    rw [HT.lexLt_cons] at h
    refine PySem.W.kat_cons (SeqAt.EqAt.int_int n t m u prog w _ _ ?_)
    refine PySem.W.kat_go (fun e1 => ?_) (fun e1 => ?_)
    · have ex : n = m := by simpa using e1
      rw [if_pos ex] at h
      refine PySem.W.kat_yes (lex_go (i + 1) r q ?_ h)
      rw [e]
      simp only [List.length_cons, Nat.add_lt_add_iff_right]
    · have ex : ¬ n = m := by simpa using e1
      rw [if_neg ex] at h
      refine PySem.W.kat_no ?_
      cases b && i == 0 with
      | true => exact oneLt_int h
      | false => exact PySem.W.kat_one _ _ (PyProof.Rows.lt_int h)
theorem tup_cmp {vs : List Value} {k : Value → List Int} (hp : ∀ v ∈ vs, TS.TupInts s.heap v (k v)) : Cmp prog w A s (tuples' true) (fun p => p.1 ∈ vs) (lt2 fun v u => HT.lexLt (k v) (k u)) := by
  intro p q hm hm'
  have h1 := hp _ hm
  have h2 := hp _ hm'
  show wpAny (model prog w) A (keyLt' (tuples' true) p.1 q.1) (fun r s' => s' = s ∧ r = HT.lexLt (k p.1) (k q.1)) (fun _ _ => False) s
  obtain ⟨a, xs, e, ⟨o, ho, hc, n, hd⟩, hi⟩ := h1
  obtain ⟨a', xs', e', ⟨o', ho', hc', n', hd'⟩, hi'⟩ := h2
  generalize k p.1 = ns at hi ⊢
  generalize k q.1 = ms at hi' ⊢
  rw [e, e']
  exact PySem.W.kat_lt ho hd ho' hd' (lex_go 0 hi hi' (by rw [Array.length_toList, Array.length_toList]) ⟨rfl, rfl⟩)
theorem tup_firsts {h : Heap} {k : Value → List Int} : ∀ {vs : List Value}, (∀ v ∈ vs, TS.TupInts h v (k v) ∧ k v ≠ []) → ∃ fs : List Value, PySem.W.KatTups h vs fs ∧ fs.length = vs.length ∧ ∀ f ∈ fs, ∃ x t, f = Value.int x t
  | [], _ => ⟨[], PySem.W.KatTups.nil, rfl, fun _ hm => by simp at hm⟩
  | v :: vs, hp => by
    obtain ⟨fs, h1, h2, h3⟩ := tup_firsts (vs := vs) fun v' hm => hp v' (List.mem_cons_of_mem _ hm)
    obtain ⟨⟨a, xs, e, ⟨o, ho, hc, n, hd⟩, hi⟩, hne⟩ := hp v (List.mem_cons_self ..)
    have hi2 : ∃ x t, xs[0]? = some (Value.int x t) := by
      generalize k v = ns at hi hne
      cases ns with
      | nil => exact absurd rfl hne
      | cons x ns =>
        obtain ⟨t, ht⟩ := hi.get 0 x rfl
        exact ⟨x, t, by rw [← Array.getElem?_toList]; exact ht⟩
    obtain ⟨x, t, hx⟩ := hi2
    subst e
    refine ⟨.int x t :: fs, PySem.W.KatTups.cons ho hc hd hx h1, by rw [List.length_cons, List.length_cons, h2], fun f hm => ?_⟩
    rcases List.mem_cons.mp hm with rfl | hm
    · exact ⟨x, t, rfl⟩
    · exact h3 f hm
theorem tup_sortable {a : Addr} {vs : List Value} {k : Value → List Int} (h0 : 0 < vs.length) (hp : ∀ v ∈ vs, TS.TupInts s.heap v (k v) ∧ k v ≠ []) (ha : ∀ o, s.heap.get? a = some o → o.cls ≠ .type "tuple") :
    SortableO prog w A s a vs fun v u => HT.lexLt (k v) (k u) := by
  intro h' keep
  have hp' : ∀ v ∈ vs, TS.TupInts h' v (k v) ∧ k v ≠ [] := fun v hm => ⟨(hp v hm).1.keeps fun b o e c => keep b o (fun z => by subst z; exact ha o e c) e, (hp v hm).2⟩
  obtain ⟨fs, h1, h2, h3⟩ := tup_firsts hp'
  refine ⟨tuples' true, fun Q E hq => ?_, tup_cmp (s := { s with heap := h' }) fun v hm => (hp' v hm).1⟩
  refine PySem.W.kat_kind (T := .type "int") h1 (by omega) (fun f hm => ?_) (by rfl) ?_
  · obtain ⟨x, t, rfl⟩ := h3 f hm
    exact PySem.W.Looks.now
  · have e : (Value.type "int" != Value.type "tuple") = true := by first | decide +kernel | rfl | decide
    rw [e]
    exact hq
end
end TupO
namespace Fly
open PySem L2 PySem.Spec PyProof.Rows
/-- sorted(x), x a list of tuples of whole numbers, none of them empty -/
def rSortL (K : PySem.W.Frag) : List V → Hp → VK → Prop := fun vs H Q => ∃ (a : Addr) (xs : List V), vs = [V.ref a] ∧ SqL K H a xs ∧ (∀ x ∈ xs, ∃ ns, TupI K H x ns ∧ ns ≠ []) ∧
  ∀ (ys : List V) (p : Addr), ys.Perm xs → ys.Pairwise (fun x y => ∀ n m, TupI K H x n → TupI K H y m → HT.lexLt m n = false) → H p = none → Q (.ref p) (upd H p (.lst ys))
theorem cr_sortL {X : Cx} : CallR X (.builtin "sorted") (rSortL X.K) := by
  intro pins s σ H vs us Q I r h
  obtain ⟨a, xs, rfl, hs, hx, q⟩ := h
  obtain ⟨its, rv, hl, hz⟩ := I.list hs
  rw [Vals.ref1 r]
  obtain ⟨e1, e2⟩ := bkV_refs rv fun x m => by
    obtain ⟨ns, ⟨t, e, _⟩, _⟩ := hx x m
    exact ⟨t, e⟩
  have hk : ∀ v ∈ its, TS.TupInts s.heap v (TS.intsOf s.heap v) ∧ TS.intsOf s.heap v ≠ [] := fun v hv => by
    obtain ⟨t, rfl⟩ := e2 v hv
    have hm : V.ref t ∈ xs := by
      rw [e1]
      exact List.mem_map.mpr ⟨_, hv, rfl⟩
    obtain ⟨ns, ⟨t', e, ht⟩, hn⟩ := hx _ hm
    cases e
    have z := tupI_raw I ht
    rw [z.ints]
    exact ⟨z, hn⟩
  refine SrtO.sorted_ord (NtL.swo_lexL fun v => TS.intsOf s.heap v) hl.isList (by rw [← rv.length]; exact hz) (fun h2 h₁ b hb kk => ?_) fun out h1 h2 => ?_
  · refine TupO.tup_sortable (s := { s with heap := h₁ }) (by omega) (fun v hm => ⟨(hk v hm).1.keeps fun c o e _ => (kk c o e).2, (hk v hm).2⟩) fun o e => ?_
    have e' : some o = some (seqObj "list" its.toArray 0) := e.symm.trans hb
    cases e'
    intro c
    exact absurd (Value.type.inj c) (by decide)
  · obtain ⟨ep, he'⟩ := PyProof.Rows.sortedAll_at s.heap its out.toArray
    have h3 : ∀ u ∈ out, ∃ a, u = Value.ref a := fun u hu => e2 u (h2.perm.mem_iff.mp hu)
    have hp : (out.map bkV).Perm xs := by
      rw [e1]
      exact h2.perm.map bkV
    have hlen : (out.map bkV).length ≤ sizeLine := by
      rw [hp.length_eq]
      exact hz
    refine ⟨.ref _, upd H (s.heap.objs.size + 1) (.lst (out.map bkV)), I.laid (t' := s.toks) (fun _ _ => PyProof.Rows.sortedAll_old) (Nat.le_succ _) ⟨hlen, out, ep, bkV_vals h3, he'⟩, rfl, q _ _ hp ?_ (I.hok.fresh (Nat.le_succ _))⟩
    rw [List.pairwise_map]
    refine List.Pairwise.imp (fun {u v} huv n m hn hm => ?_) h1
    obtain ⟨t, et, ht⟩ := hn
    obtain ⟨t', et', ht'⟩ := hm
    have i1 : TS.intsOf s.heap u = n := by
      rw [bkV_ref et]
      exact (tupI_raw I ht).ints
    have i2 : TS.intsOf s.heap v = m := by
      rw [bkV_ref et']
      exact (tupI_raw I ht').ints
    rw [← i1, ← i2]
    exact huv
end Fly
end

section
set_option Elab.async false
set_option linter.all false
set_option maxRecDepth 100000
set_option maxHeartbeats 4000000
/-! sorted of a tuple of numbers (FlyTsort): the library's collect of any sequence and its sort by an order, each by name. -/
namespace Fly
open PySem PySem.Spec PyProof.Rows L2
section
variable {P : Program} {w : World} {A : Around} {E : Value → Shared → Prop} {s : Shared}
theorem sorted_of_tup {t : Addr} {vs : List Value} {ns : List Int} {Q : Value → Shared → Prop} (ht : s.heap.IsTuple t vs.toArray) (hz : vs.length ≤ sizeLine) (hI : IntsAre vs ns)
    (hQ : ∀ h1 : Heap, (∀ b o, s.heap.get? b = some o → h1.get? b = some o) → ∀ (h' : Heap) (ms : List Int) (out : List Value) (c : Nat), (∀ b o, h1.get? b = some o → h'.get? b = some o) → h'.get? h1.objs.size = some (seqObj "list" out.toArray c) →
      IntsAre out ms → ms.Perm ns → ms.Pairwise (· ≤ ·) → Q (.ref h1.objs.size) { s with heap := h' }) :
    wpAny (model P w) A (call (.builtin "sorted") [.ref t]) Q E s := by
  obtain ⟨o, ho, hc, n, hd⟩ := ht
  refine Calls.call_function_entry kind_sorted plain_sorted entry_sorted (args_sorted1 _) ?_
  unfold Builtin.«sorted»
  refine wpAny_bind (m := checkCount "sorted" 1 1 _) (wpAny_pure (wpAny_bind (wpAny_collect_seq t (.inr rfl) ho hc hd (fun h1 k1 => ?_) (by simpa using hz))))
  have mine : (h1.push (seqObj "list" vs.toArray 0)).get? h1.objs.size = some (seqObj "list" vs.toArray 0) := Heap.get?_push_size _ rfl
  refine wpAny_bind (wpAny_newList (s := { s with heap := h1 }) (items := vs) ?_ hz)
  refine wpAny_bind (wpAny_holding (wpAny_call_entry slot_list_sort ⟨_, mine, rfl⟩ entry_list_sort (SrtO.list_sort_ord (s := { s with heap := h1.push (seqObj "list" vs.toArray 0) }) SrtO.swo_int mine hz (fun h2 => SrtO.ints_sortable hI h2) fun out hs hb => ⟨_, rfl, ?_⟩) (args_list_sort _)))
  obtain ⟨a1, a2, a3⟩ := SrtO.ints_out hI hs hb
  obtain ⟨c, hc2⟩ := sortedHeap_at (vs := vs) (out := out.toArray) mine
  refine wpAny_pure ⟨_, rfl, hQ h1 k1 _ _ out c (fun b u e => ?_) hc2 a1 a2 a3⟩
  have lt := Heap.lt_size e
  exact (sortedHeap_old (Nat.ne_of_lt lt) (by rw [size_push']; exact Nat.lt_succ_of_lt lt)).trans (Heap.get?_push_of_some _ e)
end
/-- sorted(x), x a tuple of whole numbers -/
def rSortT (K : PySem.W.Frag) : List V → Hp → VK → Prop := fun vs H Q => ∃ (a : Addr) (ns : List Int), vs = [V.ref a] ∧ SqT K H a (ns.map V.int) ∧
  ∀ (ms : List Int) (p : Addr), ms.Perm ns → ms.Pairwise (· ≤ ·) → H p = none → Q (.ref p) (upd H p (.lst (ms.map V.int)))
theorem cr_sortTup {X : Cx} : CallR X (.builtin "sorted") (rSortT X.K) := by
  intro pins s σ H vs us Q I r h
  obtain ⟨a, ns, rfl, hs, q⟩ := h
  obtain ⟨its, rv, ht, hz⟩ := I.tuple hs
  rw [Vals.ref1 r]
  have hl : its.length ≤ sizeLine := by
    first
      | exact hz
      | (rw [← rv.length]; exact hz)
      | (have := hz; simp at this; exact this)
  refine sorted_of_tup ht hl rv.ints fun h1 k1 h' ms out c k2 hg hi pm pw => ?_
  have I1 : Inv X pins σ H { s with heap := h1 } := I.kept (t' := s.toks) k1
  refine ⟨.ref h1.objs.size, _, I1.laid (t' := s.toks) (o := .lst (ms.map V.int)) k2 (Nat.le_refl _) ⟨?_, out, c, vals_of_ints hi, hg⟩, rfl, q ms _ pm pw (I1.hok.fresh (Nat.le_refl _))⟩
  rw [List.length_map, ← hi.length, ← SrtO.iv_ints hi] at *
  have e := pm.length_eq
  rw [List.length_map] at e
  have e2 := rv.ints.length
  omega
end Fly
end

section
set_option Elab.async false
set_option linter.all false
set_option maxRecDepth 100000
set_option maxHeartbeats 4000000
/-! sorted of a list of whole numbers or of rows (FlySort). -/
namespace Fly
open PySem L2 PySem.Spec PyProof.Rows
/-- sorted(x), x a list of whole numbers: the library's own promise -/
def rSortA (K : PySem.W.Frag) : List V → Hp → VK → Prop := fun vs H Q => ∃ (a : Addr) (ns : List Int), vs = [V.ref a] ∧ SqL K H a (ns.map V.int) ∧
  ∀ (ns' : List Int) (p : Addr), ns'.Perm ns → ns'.Pairwise (· ≤ ·) → H p = none → Q (.ref p) (upd H p (.lst (ns'.map V.int)))
theorem cr_sortA {X : Cx} : CallR X (.builtin "sorted") (rSortA X.K) := fun pins s σ H _ us Q I r h => cr_sortedI pins s σ H _ us Q I r h
def rSortB (K : PySem.W.Frag) : List V → Hp → VK → Prop := fun vs H Q => rSortA K vs H Q ∨ rSortL K vs H Q ∨ rSortT K vs H Q
theorem cr_sortB {X : Cx} : CallR X (.builtin "sorted") (rSortB X.K) := CallR.or cr_sortA (CallR.or cr_sortL cr_sortTup)
theorem toInts_some : ∀ {ds : List D} {is : List Int}, toInts ds = some is → ds = is.map .int
  | [], is, e => by simp [toInts] at e; subst e; rfl
  | d :: ds, is, e => by
    cases d with
    | int i =>
      simp only [toInts, Option.map_eq_some_iff] at e
      obtain ⟨js, e1, rfl⟩ := e
      rw [toInts_some e1]; rfl
    | _ => simp [toInts] at e
theorem lex_anti : ∀ {a b : List Int}, HT.lexLt a b = false → HT.lexLt b a = false → a = b
  | [], [], _, _ => rfl
  | [], _ :: _, h, _ => by rw [HT.lexLt_nil_cons] at h; cases h
  | _ :: _, [], _, h => by rw [HT.lexLt_nil_cons] at h; cases h
  | x :: xs, y :: ys, h, h2 => by
    rw [HT.lexLt_cons] at h h2
    by_cases e : x = y
    · subst e
      rw [if_pos rfl] at h h2
      rw [lex_anti h h2]
    · rw [if_neg e] at h
      rw [if_neg fun z => e z.symm] at h2
      have a := of_decide_eq_false h
      have b := of_decide_eq_false h2
      omega
theorem lsort_perm (l : List (List Int)) : (lsort l).Perm l := List.mergeSort_perm l _
theorem lsort_sorted (l : List (List Int)) : (lsort l).Pairwise (fun x y => HT.lexLt y x = false) := by
  have := List.pairwise_mergeSort (le := fun a b : List Int => !(lexI b a)) (fun a b c h1 h2 => by
    simp only [Bool.not_eq_true', lexI_eq] at *
    exact NtL.lex_tr _ _ _ h1 h2) (fun a b => by
    rw [lexI_eq, lexI_eq]
    cases e : HT.lexLt b a with
    | false => rfl
    | true => rw [NtL.lex_asym _ _ e]; rfl) l
  exact this.imp fun h => by simpa [lexI_eq] using h
section
variable {K : PySem.W.Frag} {fr : AP} {H : Hp}
/-- the things at the rows -/
theorem Reps.rows : ∀ {vs : List V} {ds : List D} {ks : List (List Int)}, Reps K fr H vs ds → rowsI ds = some ks → ∃ L : List (Addr × List Int), vs = L.map (fun p => V.ref p.1) ∧ ks = L.map (·.2) ∧ ∀ p ∈ L, SqT K H p.1 (p.2.map V.int) ∧ p.2 ≠ [] ∧ Rep K fr H (.ref p.1) (.tup (p.2.map .int))
  | _, _, _, .nil, e => by cases e; exact ⟨[], rfl, rfl, fun _ h => nomatch h⟩
  | _, d :: ds, ks, .cons r t, e => by
    cases r with
    | tup h z r =>
      rename_i l
      unfold rowsI at e
      split at e
      · rename_i x k e1
        rw [Option.map_eq_some_iff] at e
        obtain ⟨ks', e2, rfl⟩ := e
        obtain ⟨L, rfl, rfl, hL⟩ := Reps.rows t e2
        have e3 := r.of_ints e1
        subst e3
        have e4 := toInts_some e1
        subst e4
        refine ⟨(_, x :: k) :: L, rfl, rfl, fun p hp => ?_⟩
        rcases List.mem_cons.mp hp with rfl | hp
        · exact ⟨h.sq, by simp, .tup h z r⟩
        · exact hL p hp
      · cases e
    | _ => simp [rowsI] at e
theorem perm_lift {α β : Type} (f : α → β) {l m : List β} (h : l.Perm m) : ∀ L : List α, L.map f = l → ∃ L' : List α, L'.Perm L ∧ L'.map f = m := by
  induction h with
  | nil => intro L e; exact ⟨L, .refl _, e⟩
  | cons x h ih =>
    intro L e
    cases L with
    | nil => cases e
    | cons a L =>
      rw [List.map_cons] at e
      cases e
      obtain ⟨L', p, rfl⟩ := ih L rfl
      exact ⟨a :: L', .cons _ p, rfl⟩
  | swap x y l =>
    intro L e
    match L, e with
    | a :: b :: L, e =>
      rw [List.map_cons, List.map_cons] at e
      cases e
      exact ⟨b :: a :: L, .swap _ _ _, rfl⟩
  | trans h1 h2 ih1 ih2 =>
    intro L e
    obtain ⟨L1, p1, e1⟩ := ih1 L e
    obtain ⟨L2, p2, e2⟩ := ih2 L1 e1
    exact ⟨L2, p2.trans p1, e2⟩
theorem Reps.ofL : ∀ L : List (Addr × List Int), (∀ p ∈ L, Rep K fr H (.ref p.1) (.tup (p.2.map .int))) → Reps K fr H (L.map fun p => V.ref p.1) (L.map fun p => D.tup (p.2.map .int))
  | [], _ => .nil
  | p :: L, h => .cons (h p List.mem_cons_self) (Reps.ofL L fun q hq => h q (List.mem_cons_of_mem _ hq))
theorem ok_sortT {l : List D} {a : Addr} {xs : List V} {ks : List (List Int)} {Q : VK} (hf : ∀ a, fr a → H a ≠ none) (h1 : H a = some (.lst xs)) (z1 : xs.length ≤ sizeLine) (x1 : Reps K fr H xs l) (e : rowsI l = some ks)
    (q : OPost K fr H true (.lst ((lsort ks).map fun k => .tup (k.map .int))) Q) : rSortL K [.ref a] H Q := by
  obtain ⟨L, rfl, rfl, hL⟩ := Reps.rows x1 e
  refine ⟨a, _, rfl, .of h1, fun x hx => ?_, fun ys p hp hs hn => ?_⟩
  · obtain ⟨q, hq, rfl⟩ := List.mem_map.mp hx
    exact ⟨q.2, ⟨q.1, rfl, (hL q hq).1⟩, (hL q hq).2.1⟩
  · obtain ⟨L', pm, rfl⟩ := perm_lift (fun p : Addr × List Int => V.ref p.1) hp.symm L rfl
    have hL' : ∀ p ∈ L', _ := fun p hp => hL p (pm.mem_iff.mp hp)
    have e2 : L'.map (·.2) = lsort (L.map (·.2)) := by
      refine ((pm.map (·.2)).trans (lsort_perm _).symm).eq_of_pairwise (fun a b _ _ h3 h4 => lex_anti h4 h3) ?_ (lsort_sorted _)
      rw [List.pairwise_map] at hs ⊢
      exact hs.imp_of_mem fun {x y} hx hy h => h x.2 y.2 ⟨_, rfl, (hL' x hx).1⟩ ⟨_, rfl, (hL' y hy).1⟩
    refine q.lst hf hn ?_ ?_
    · rw [List.length_map, pm.length_eq]
      rw [List.length_map] at z1
      exact z1
    · rw [← e2, List.map_map]
      exact Reps.ofL L' fun p hp => (hL' p hp).2.2
theorem ok_sorted : OpOk K .sorted (rSortB K) := by
  intro fr H vs ds b d Q hf r e q
  cases r with
  | nil => exact nomatch e
  | @cons _ _ x0 ds r1 r2 =>
  cases r2 with
  | @cons _ _ y0 ds _ _ =>
    have e0 : fSorted (x0 :: y0 :: ds) = none := by first | rfl | (cases x0 <;> rfl)
    exact nomatch e0.symm.trans e
  | nil =>
    cases x0 with
    | lst l =>
      simp only [opf, fSorted, Option.or_eq_some_iff, Option.map_eq_some_iff, Prod.mk.injEq] at e
      rcases e with e | ⟨_, e⟩
      · obtain ⟨bs, e1, rfl, rfl⟩ := e
        obtain ⟨a, xs, rfl, h1, z1, x1⟩ := r1.lst
        have := x1.of_ints e1
        subst this
        refine .inl ⟨a, bs, rfl, .of h1, fun ns p hperm hs hp => ?_⟩
        have e2 : ns = isort bs := sorted_eq (hperm.trans (isort_perm bs).symm) hs (isort_sorted bs)
        subst e2
        refine q.lst hf hp ?_ Reps.toInts
        rw [List.length_map, (isort_perm bs).length_eq]
        rw [List.length_map] at z1
        exact z1
      · obtain ⟨ks, e1, rfl, rfl⟩ := e
        obtain ⟨a, xs, rfl, h1, z1, x1⟩ := r1.lst
        exact .inr (.inl (ok_sortT hf h1 z1 x1 e1 q))
    | tup l =>
      simp only [opf, fSorted, Option.map_eq_some_iff, Prod.mk.injEq] at e
      obtain ⟨bs, e1, rfl, rfl⟩ := e
      obtain ⟨a, xs, rfl, h1, z1, x1, y1⟩ := r1.tup
      have := x1.of_ints e1
      subst this
      refine .inr (.inr ⟨a, bs, rfl, h1, fun ns p hperm hs hp => ?_⟩)
      have e2 : ns = isort bs := sorted_eq (hperm.trans (isort_perm bs).symm) hs (isort_sorted bs)
      subst e2
      refine q.lst hf hp ?_ Reps.toInts
      rw [List.length_map, (isort_perm bs).length_eq]
      rw [List.length_map] at z1
      exact z1
    | kt l =>
      simp only [opf, fSorted, Option.map_eq_some_iff, Prod.mk.injEq] at e
      obtain ⟨bs, e1, rfl, rfl⟩ := e
      cases r1 with
      | ow r => cases r
      | sh r => cases r with | kt f n h1 z1 x1 =>
        have := x1.of_ints e1
        subst this
        refine .inr (.inr ⟨_, bs, rfl, .inl (.inr ⟨_, h1⟩), fun ns p hperm hs hp => ?_⟩)
        have e2 : ns = isort bs := sorted_eq (hperm.trans (isort_perm bs).symm) hs (isort_sorted bs)
        subst e2
        refine q.lst hf hp ?_ Reps.toInts
        rw [List.length_map, (isort_perm bs).length_eq]
        rw [List.length_map] at z1
        exact z1
    | _ => exact nomatch e
end
end Fly
end

section
set_option Elab.async false
set_option linter.all false
set_option maxRecDepth 100000
set_option maxHeartbeats 4000000
/-! sorted(set(x)) of a tuple of numbers, list(range(n)) (FlySet). -/
namespace Fly
open PySem L2
section
variable {T : XT} {K : PySem.W.Frag} {W : WX} {cf : Nat → List Sl → CR}
/-- set(x), x a tuple of ints -/
def rSetT (K : PySem.W.Frag) (w : World) : List V → Hp → VK → Prop := fun xs H Q => ∃ (p : Addr) (ns : List Int), xs = [.ref p] ∧ SqT K H p (ns.map V.int) ∧ ns.length ≤ 1000 ∧
  ∀ q c, H q = none → c ≤ ns.length → Q (.ref q) (upd H q (SetO w q (fun j => decide (j ∈ ns)) c))
theorem cr_setT {X : Cx} (hc : X.calm = true) : CallR X (.type "set") (rSetT X.K X.w) := by
  intro pins s σ H xs us Q I r h
  obtain ⟨p, ns, rfl, sq, hl, q⟩ := h
  obtain ⟨its, rv, tp, hz⟩ := I.tuple sq
  have hb : ns.length + 1 < scanBound := by
    unfold scanBound
    omega
  rw [Vals.ref1 r]
  refine call_set_tupI ns (I.ok.hd hc) tp (by simpa using rv.ints) hb fun h' tk c R hle hk => ?_
  exact ⟨.ref s.heap.objs.size, _, I.laid (a := s.heap.objs.size) hk (Nat.le_refl _) (setO_new R), rfl, q _ c (I.hok.fresh (Nat.le_refl _)) hle⟩
theorem sset_eq {ns is : List Int} (h1 : ns.Pairwise (· < ·)) (h2 : ∀ k : Int, k ∈ ns ↔ decide (k ∈ is) = true) : ns = isort (dedup is) := by
  have hn : ns.Nodup := h1.imp fun h => Int.ne_of_lt h
  have p := nodup_perm hn (dedup_nodup is) fun k => by rw [h2, dedup_mem, decide_eq_true_eq]
  exact sorted_eq (p.trans (isort_perm _).symm) (h1.imp fun h => Int.le_of_lt h) (isort_sorted _)
theorem ok_listrg : OpOk K .listrg (l1 fun x H Q => ∃ n, x = .int n ∧ RgOk 0 n ∧ ∀ q, H q = none → Q (.ref q) (upd H q (.lst (rgV 0 n)))) := by
  intro fr H vs ds b d Q hf r e q
  cases r with
  | nil => exact nomatch e
  | @cons _ _ x0 ds r1 r2 =>
  cases r2 with
  | @cons _ _ y0 ds _ _ =>
    have e0 : fListrg (x0 :: y0 :: ds) = none := by first | rfl | (cases x0 <;> rfl)
    exact nomatch e0.symm.trans e
  | nil =>
    cases x0 with
    | int n =>
      simp only [opf, fListrg] at e
      split at e
      · rename_i hn
        cases e
        rw [r1.int]
        refine ⟨n, rfl, RgOk.of_le (by omega) (by omega) (by omega) (by omega), fun p hp => ?_⟩
        have hl : rgV 0 n = ((List.range n.toNat).map fun k : Nat => (k : Int)).map V.int := by
          unfold rgV
          rw [Int.sub_zero, List.map_map]
          apply List.map_congr_left
          intro k _
          simp
        rw [hl]
        have hd : ((List.range n.toNat).map fun k => D.int (k : Nat)) = ((List.range n.toNat).map fun k : Nat => (k : Int)).map D.int := by rw [List.map_map]; rfl
        rw [hd] at q
        refine q.lst hf hp ?_ Reps.toInts
        rw [List.length_map, List.length_map, List.length_range, sizeLine_eq]
        omega
      · cases e
    | _ => exact nomatch e
theorem ge_listrg {m : E} {t1 : TE} (h : GE T K W cf m t1) : GE T K W cf (.op .listrg (.cons m .nil)) (tLstRg (tRg1 t1)) := by
  have g := ge_op (T := T) (W := W) (cf := cf) (ok_listrg (K := K)) (ga_cons h ga_nil)
  intro G fr Fo H σv σd Q S hq
  have q := g G fr Fo H σv σd Q S hq
  refine cast ?_ q
  rfl
/-- range(n) -/
theorem prg_one {X : Cx} {a : Expr} {ta : TE} {p pos : Pos} (hg : Gl X "range") (hm : X.mg "range" = none) (ha : PE X a ta) (na : starEach [a] X.env = (false, eval a X.env) :: starEach [] X.env) : PRg X (.Call (.Name "range" p) [a] [] pos) (tRg1 ta) := prg_1 hg hm ha na
end
end Fly
end

section
set_option Elab.async false
set_option linter.all false
set_option maxRecDepth 100000
set_option maxHeartbeats 4000000
/-! set(x) of a list of at most 64 rows of numbers (FlyRset): the library tells it of fewer than 64; here the sixty-fourth is added. -/
namespace RSet
open PySem PySem.Spec PyProof.Rows L2
section
variable {P : Program} {w : World} {A : Around} {E : Value → Shared → Prop} {s : Shared}
/-- the set at a holds the rows L, however many -/
def Full (P : Program) (w : World) (h : Heap) (a : Addr) (L : List (Addr × List Int)) : Prop :=
  ∃ (es : Array (Int × Value)) (ep : Nat) (t : SetTable), (∃ o, h.get? a = some o ∧ o.ExactSet ∧ o.data = .set es ep t) ∧ es.toList = rowsOf P w L ∧ TabOk t (L.map fun p => thash P w p.2) ∧ (L.map (·.2)).Nodup ∧
    (w.params.followText "set-order" = true ∨ t.led = true) ∧ L.length ≤ t.mask ∧ L.length ≤ 64
theorem full_of {h : Heap} {a : Addr} {L : List (Addr × List Int)} {es : Array (Int × Value)} {ep : Nat} {t : SetTable} (R : SetTR P w h a L es ep t) : Full P w h a L :=
  ⟨es, ep, t, R.ob, R.rows, R.tab, R.nd, R.led, by have := R.room; omega, Nat.le_of_lt R.few⟩
/-- one row more, where the table keeps its place -/
theorem add_last {a : Addr} {L : List (Addr × List Int)} {es : Array (Int × Value)} {ep : Nat} {t : SetTable} (R : SetTR P w s.heap a L es ep t) (hm : t.mask = 127) (hl : L.length ≤ 63) {x : Addr} {k : List Int} (hx : IsT P w s.heap k x) (hu : A.units < cLine) {Q : Bool → Shared → Prop}
    (hQ : ∀ b h' L', Heap.SameBut a s.heap h' → Full P w h' a L' → (k ∈ L.map (·.2) → L' = L) → (k ∉ L.map (·.2) → L'.Perm ((x, k) :: L)) → Q b { s with heap := h' }) :
    wpAny (model P w) A (setAddHashed a (.ref x) (thash P w k)) Q E s := by
  have hs := R.size
  obtain ⟨o, ho, ox, od⟩ := R.ob
  unfold setAddHashed
  refine wpAny_holding ?_
  rw [show (100000 : Nat) = 99999 + 1 from rfl, setAddHashedIn_succ]
  refine wpAny_bind (wpAny_setState_of ho od R.fits ?_)
  refine wp_if_neg (by simp [byScan, Value.scannable]) ?_
  try refine wpAny_bind (wpAny_pure ?_)
  refine wpAny_bind (search_at R hx hu (fun yes => wpAny_pure (hQ false _ _ (Heap.SameBut.refl a s.heap) (full_of R) (fun _ => rfl) fun z => absurd yes z)) fun K no hK hb => ?_)
  obtain ⟨e1, e2, e3, e4, e5, e6, e7, e8, e9⟩ := R.tab.put hK hb
  refine wpAny_bind (wpAny_setState_of ho od R.fits ?_)
  dsimp only
  generalize hz : t.put (way t.mask (thash P w k) K) = z at e1 e3 e4 e5 e6 e7 e8 e9 ⊢
  obtain ⟨t1, p⟩ := z
  dsimp only at e1 e3 e4 e5 e6 e7 e8 e9 ⊢
  have pl : t1.plain = true := e6.trans R.plain
  first
    | refine wpAny_bind (wp_if_pos pl (hashBy_tup hx ?_))
    | refine wp_if_pos pl (wpAny_bind (hashBy_tup hx ?_))
  simp only [if_true]
  -- the rows, the new one in its place
  have pm := put_perm L p (x, k)
  have rows : (SetTable.insertAt es p (thash P w k, Value.ref x)).toList = rowsOf P w (L.take p ++ (x, k) :: L.drop p) := by rw [SetTable.toList_insertAt, rows_put, R.rows]
  have many : (SetTable.insertAt es p (thash P w k, Value.ref x)).size = L.length + 1 := by
    rw [← Array.length_toList, rows, rowsOf, List.length_map, pm.length_eq]
    rfl
  refine wpAny_bind (wpAny_storeSet_of ho od ?_ (by rw [many, sizeLine_eq]; omega))
  have calm : t1.tooFull = false := by
    have h9 : t1.fill = (L.map fun p => thash P w p.2).length + 1 := e9
    unfold SetTable.tooFull
    rw [h9, List.length_map, e4, hm]
    exact decide_eq_false (by omega)
  have new : Full P w (s.heap.update a (Obj.putSet (SetTable.insertAt es p (thash P w k, Value.ref x)) t1)) a (L.take p ++ (x, k) :: L.drop p) := by
    refine ⟨_, _, t1, ⟨_, store_at ho od, ⟨ox.1, ox.2.1, ox.2.2⟩, rfl⟩, rows, ?_, ?_, by rw [e5]; exact R.led, by rw [pm.length_eq, e4, hm, List.length_cons]; omega, by rw [pm.length_eq, List.length_cons]; omega⟩
    · have e : (L.take p ++ (x, k) :: L.drop p).map (fun p => thash P w p.2) = (L.map fun p => thash P w p.2).take p ++ thash P w k :: (L.map fun p => thash P w p.2).drop p := by
        rw [List.map_append, List.map_cons, List.map_take, List.map_drop]
      rw [e]
      subst e1
      exact e3
    · rw [(pm.map (·.2)).nodup_iff, List.map_cons]
      exact List.nodup_cons.mpr ⟨no, R.nd⟩
  first
    | refine wp_if_neg (by simp [calm]) (wpAny_pure ?_)
    | refine wpAny_bind (wp_if_neg (by simp [calm]) (wpAny_pure (wpAny_pure ?_)))
  exact hQ true _ _ (Heap.SameBut.update ..) new (fun z => absurd z no) fun _ => pm
/-- what the set holds ahead of the i-th row: all is as the library tells it, or the sixty-fourth has come -/
def St64 (P : Program) (w : World) (h : Heap) (a : Addr) (L : List (Addr × List Int)) (i : Nat) : Prop := (∃ es ep t, SetTR P w h a L es ep t) ∨ (i = 64 ∧ Full P w h a L)
theorem st_full {h : Heap} {a : Addr} {L : List (Addr × List Int)} {i : Nat} (x : St64 P w h a L i) : Full P w h a L := x.elim (fun ⟨_, _, _, R⟩ => full_of R) fun z => z.2
theorem st_keep {h h' : Heap} {a : Addr} {L : List (Addr × List Int)} {i : Nat} (x : St64 P w h a L i) (ha : ∀ o, h.get? a = some o → h'.get? a = some o) (ht : ∀ p ∈ L, IsT P w h' p.2 p.1) : St64 P w h' a L i := by
  rcases x with ⟨es, ep, t, R⟩ | ⟨e, es, ep, t, ⟨o, ho, r⟩, q⟩
  · exact .inl ⟨es, ep, t, R.keep ha ht⟩
  · exact .inr ⟨e, es, ep, t, ⟨o, ha o ho, r⟩, q⟩
/-- one row more -/
theorem add_any {a : Addr} {L : List (Addr × List Int)} {i : Nat} (R : St64 P w s.heap a L i) (hi : i < 64) (hl : L.length ≤ i) {x : Addr} {k : List Int} (hx : IsT P w s.heap k x) (hu : A.units < cLine) {Q : Bool → Shared → Prop}
    (hQ : ∀ b h' L', Heap.SameBut a s.heap h' → St64 P w h' a L' (i + 1) → (k ∈ L.map (·.2) → L' = L) → (k ∉ L.map (·.2) → L'.Perm ((x, k) :: L)) → Q b { s with heap := h' }) :
    wpAny (model P w) A (setAddHashed a (.ref x) (thash P w k)) Q E s := by
  rcases R with ⟨es, ep, t, R⟩ | ⟨e, _⟩
  · rcases Nat.lt_or_ge (L.length + 1) 64 with c | c
    · exact add_at R hx hu c fun b h' L' es' ep' t' q1 q2 => hQ b h' L' q1 (.inl ⟨es', ep', t', q2⟩)
    · have hm : t.mask = 127 := by
        have room := R.room
        rcases R.tab.mok with e | e | e <;> omega
      exact add_last R hm (by omega) hx hu fun b h' L' q1 q2 => hQ b h' L' q1 (.inr ⟨by omega, q2⟩)
  · omega
/-- the rows, one after another -/
theorem fill_rows {I : Addr} {fp wr : List Addr} {G : Array GenState → Array GenState → Prop} {n : Nat} {Pv : Nat → Value → Prop} {St : Nat → Shared → Prop} {R : Result → Shared → Prop}
    (W : WalksS P w A.in1 I fp wr G n Pv St) (S : Addr) (off : S ∉ fp) (ks : List (Addr × List Int)) (hn : n = ks.length) (h64 : ks.length ≤ 64) (val : ∀ i v, Pv i v → ∃ p, ks[i]? = some p ∧ v = .ref p.1)
    (h0 : Heap) (keys : ∀ p ∈ ks, IsT P w h0 p.2 p.1) (noS : h0.get? S = none) (noW : ∀ b ∈ wr, h0.get? b = none) (hu : A.in1.units < cLine) :
    ∀ (left i : Nat) (s : Shared), i + left = n → St i s → (∀ b o, h0.get? b = some o → s.heap.get? b = some o) → (∃ L, St64 P w s.heap S L i ∧ Got ks i L) →
      (∀ s' L, Moved (S :: wr) G s s' → Full P w s'.heap S L → Got ks n L → (∀ b o, h0.get? b = some o → s'.heap.get? b = some o) → R (.ok (.ret .none)) s') →
      codeAny (model P w) A (.builtin "set.update.loop" ⟨[.ref S, .ref I], []⟩) R s := by
  have offW : S ∉ wr := fun z => off (W.sub _ z)
  have inW : ∀ b ∈ wr, b ∈ S :: wr := fun b hb => List.mem_cons_of_mem _ hb
  have stays : ∀ {s s' : Shared}, Moved wr G s s' → (∀ b o, h0.get? b = some o → s.heap.get? b = some o) → ∀ b o, h0.get? b = some o → s'.heap.get? b = some o := fun m k b o e =>
    m.heap b o (fun hb => nomatch e.symm.trans (noW b hb)) (k b o e)
  have mine : ∀ {i : Nat} {L : List (Addr × List Int)} {h : Heap}, Got ks i L → (∀ b o, h0.get? b = some o → h.get? b = some o) → ∀ p ∈ L, IsT P w h p.2 p.1 := fun g k p hp => isT_keep (keys p (List.mem_of_mem_take (g.sub p hp))) k
  intro left
  induction left with
  | zero =>
    intro i s e st k ⟨L, hS, g⟩ hR
    have e : i = n := e
    subst e
    refine codeAny_builtin F.entry_set_update_loop ?_
    rw [Around.under_plainId F.plain_set_update_loop _]
    refine wpAny_bind (W.done s _ _ st fun s' m => ?_)
    have k' := stays m k
    exact wpAny_pure (hR s' L (m.mono inW) (st_full (st_keep hS (fun o e => m.heap S o offW e) (mine g k'))) g k')
  | succ left ih =>
    intro i s e st k ⟨L, hS, g⟩ hR
    have lt : i < n := by omega
    refine codeAny_builtin F.entry_set_update_loop ?_
    rw [Around.under_plainId F.plain_set_update_loop _]
    refine wpAny_bind (W.item i s _ _ lt st fun v s' pv st' m => ?_)
    obtain ⟨p, hp, rfl⟩ := val i v pv
    have k' := stays m k
    have hx : IsT P w s'.heap p.2 p.1 := isT_keep (keys p (List.mem_of_getElem? hp)) k'
    refine wpAny_bind (wpAny_holding ?_)
    unfold setAdd
    refine wpAny_holding (wpAny_bind (wpAny_pyHash_tuple hu hx ?_))
    refine add_any (s := { s' with toks := s'.toks + (p.2.length + 1) }) (st_keep hS (fun o e => m.heap S o offW e) (mine g k')) (by omega) g.len hx hu fun b h' L' sb hS' same more => ?_
    have g' : Got ks (i + 1) L' := by
      by_cases c : p.2 ∈ L.map (·.2)
      · rw [same c]
        exact g.same hp c
      · exact g.more hp (more c)
    have kS : ∀ b o, b ≠ S → s'.heap.get? b = some o → h'.get? b = some o := fun b o ne e => (sb.2 b ne).trans e
    have k2 : ∀ b o, h0.get? b = some o → h'.get? b = some o := fun b o e => kS b o (fun z => nomatch (z ▸ e).symm.trans noS) (k' b o e)
    refine wpAny_pure ⟨plainId_quiet F.plain_set_update_loop _, ih (i + 1) _ (by omega) (W.frame _ s' _ _ st' (Nat.le_add_right _ _) fun b hb o e => kS b o (fun z => off (z ▸ hb)) e) k2 ⟨L', hS', g'⟩ fun s2 L2 m2 f2 g2 k3 => ?_⟩
    exact hR s2 L2 (Moved.trans W.gtrans ((m.mono inW).then_heap (Nat.le_add_right _ _) fun b o hb e => kS b o (fun z => hb (z ▸ List.mem_cons_self)) e) m2) f2 g2 k3
abbrev set0 (w : World) : Obj := { cls := .type "set", dict := none, data := .set #[] 0 (.fresh 0 0 (!w.params.followText "set-order")) }
/-- set(x), whatever x is: a new set, which its __init__ fills -/
theorem set_of {x : Value} {Q : Value → Shared → Prop}
    (h : wpAny (model P w) A.in1.in1 (Builtin.«set.__init__» ⟨[.ref s.heap.objs.size, x], []⟩)
      (fun fin s' => match fin with | .done f => wants (fun r s₂ => r = .none ∧ Q (.ref s.heap.objs.size) s₂) E (.ok f) s' | .again c => c.quiet = true ∧ codeAny (model P w) A.in1 c (wants (fun r s₂ => r = .none ∧ Q (.ref s.heap.objs.size) s₂) E) s')
      (fun e s' => wants (fun r s₂ => r = .none ∧ Q (.ref s.heap.objs.size) s₂) E (.error e) s') { s with heap := s.heap.push (set0 w) }) :
    wpAny (model P w) A (call (.type "set") [x]) Q E s := by
  have typed : Shared.TypeIs { s with heap := s.heap.push (set0 w) } (.ref s.heap.objs.size) "set" := ⟨_, Heap.get?_push_size _ rfl, rfl⟩
  obtain ⟨c, tl, hmro⟩ := F.called_set.mro
  have g1 := F.called_set.made
  have g2 := F.called_set.sub
  have g3 := F.called_set.notType
  have g4 := F.called_set.canCreate
  have g5 := F.typeCall_set_1 x
  refine wpAny_call (codeAny_of_tree (wpAny_pure ⟨Code.quiet_builtin _ (by decide +kernel), codeAny_builtin F.entry_type_call ?_⟩))
  rw [Around.under_plain (weight_type_call_type "set" [x] []) rfl]
  repeat (any_goals (first | assumption | wp_step))
  refine codeAny_mono (code_set_led1 x (E := E) (Q₁ := fun o s₁ => o = .ref s.heap.objs.size ∧ s₁ = { s with heap := s.heap.push (set0 w) }) ⟨rfl, rfl⟩) fun r s₁ hr => ?_
  match r, hr with
  | .error e, hr => exact hr
  | .ok (.ret o), hr =>
    obtain ⟨rfl, rfl⟩ := hr
    have g6 := F.called_set.init.lookup
    have g7 := F.called_set.init.bind (.ref s.heap.objs.size)
    repeat (any_goals (first | assumption | wp_step))
    refine codeAny_mono (codeAny_call_builtin (R := wants (fun r s₂ => r = .none ∧ Q (.ref s.heap.objs.size) s₂) E) F.called_set.init.plain F.entry_set_init (check_set_init_1 typed h)) fun r₂ s₂ hr₂ => ?_
    match r₂, hr₂ with
    | .error e, hr₂ => exact hr₂
    | .ok (.ret r), hr₂ =>
      obtain ⟨rfl, q⟩ := hr₂
      repeat (any_goals (first | assumption | wp_step))
/-- set(x), x a list of rows -/
theorem set_rows {l : Addr} {items : Array Value} (ks : List (Addr × List Int)) {Q : Value → Shared → Prop} (hh : A.handled = none) (hl : s.heap.IsList l items) (hit : items.toList = ks.map fun p => Value.ref p.1)
    (keys : ∀ p ∈ ks, IsT P w s.heap p.2 p.1) (h64 : ks.length ≤ 64) (hu : A.units + 3 < cLine)
    (h : ∀ (h' : Heap) (tk : Nat) L, Full P w h' s.heap.objs.size L → Got ks ks.length L → (∀ b o, s.heap.get? b = some o → h'.get? b = some o) → Q (.ref s.heap.objs.size) { s with heap := h', toks := tk }) :
    wpAny (model P w) A (call (.type "set") [.ref l]) Q E s := by
  have size : items.size = ks.length := by
    rw [← Array.length_toList, hit, List.length_map]
  obtain ⟨⟨oc, od, dt, sl⟩, ho, hc, n, hd⟩ := hl
  simp only at hc hd
  subst hc hd
  have lt := Heap.lt_size ho
  have hl0 : s.heap.IsList l items := ⟨_, ho, rfl, n, rfl⟩
  have hl1 : (s.heap.push (set0 w)).IsList l items := hl0.push _
  have ho1 : (s.heap.push (set0 w)).get? l = some { cls := .type "list", dict := od, data := .seq items n, slots := sl } := Heap.get?_push_of_some _ ho
  have f1 := F.sub_list_set
  have f2 := F.sub_list_frozenset
  have f3 : (Value.type "list" == Value.type "dict") = false := by decide
  refine set_of ?_
  unfold Builtin.«set.__init__» noKeywords Builtin.Frozenset.updateFrom
  generalize hPI : pyIter = PI
  wp_walk
  subst hPI
  refine wpAny_pyIter_list hl1 (wpAny_bind (wpAny_runValue ?_))
  have sz : (s.heap.push (set0 w)).objs.size = s.heap.objs.size + 1 := Heap.size_push ..
  have val : ∀ (i : Nat) (v : Value), items[i]? = some v → ∃ p, ks[i]? = some p ∧ v = .ref p.1 := fun i v hv => by
    rw [← Array.getElem?_toList, hit, List.getElem?_map, Option.map_eq_some_iff] at hv
    obtain ⟨p, e1, e2⟩ := hv
    exact ⟨p, e1, e2.symm⟩
  have nothing : ∀ b, s.heap.objs.size ≤ b → s.heap.get? b = none := fun b hb => Heap.get?_none_of_le hb
  refine fill_rows ((Walks.list (A := A.in1.in1.in1) hh (s.heap.push (set0 w)).objs.size l (by rw [sz]; exact Nat.ne_of_lt (Nat.lt_succ_of_lt lt)) items).toS) s.heap.objs.size ?_ ks size h64 val s.heap keys (nothing _ (Nat.le_refl _)) ?_ ?_ items.size 0 _ (Nat.zero_add _)
    ⟨⟨_, Heap.get?_push_size _ rfl, rfl, rfl⟩, hl1.push _⟩ (fun b o e => Heap.get?_push_of_some _ (Heap.get?_push_of_some _ e)) ⟨[], .inl ⟨#[], 0, _, setTR_fresh (Heap.get?_push_of_some _ (Heap.get?_push_size _ rfl))⟩, Got.zero ks⟩ fun s' L m f g k => ?_
  · rw [sz]
    simp only [List.mem_cons, List.not_mem_nil, or_false, not_or]
    exact ⟨Nat.ne_of_lt (Nat.lt_succ_self _), Nat.ne_of_gt lt⟩
  · intro b hb
    rw [List.mem_singleton.mp hb, sz]
    exact nothing _ (Nat.le_succ _)
  · exact hu
  · obtain ⟨h', g2, d', tk', os'⟩ := s'
    obtain rfl : g2 = s.gens := m.gens
    obtain rfl : d' = s.drawn := m.drawn
    obtain rfl : os' = s.os := m.os
    rw [size] at g
    exact wpAny_pure (wpAny_pure ⟨rfl, h h' tk' L f g k⟩)
end
end RSet
end

section
set_option Elab.async false
set_option linter.all false
set_option maxRecDepth 100000
set_option maxHeartbeats 4000000
/-! sorted(set(x)), x a tuple of numbers or a list of rows (FlyRsort). -/
namespace RSet
open PySem PySem.Spec PyProof.Rows L2
section
variable {P : Program} {w : World} {A : Around} {E : Value → Shared → Prop} {s : Shared}
/-- sorted(a), a a set of rows -/
theorem sorted_rows {a : Addr} {L : List (Addr × List Int)} {Q : Value → Shared → Prop} (R : Full P w s.heap a L) (keys : ∀ p ∈ L, IsT P w s.heap p.2 p.1) (ne : ∀ p ∈ L, p.2 ≠ []) (hh : A.handled = none)
    (hQ : ∀ s' p (out : List Value) (c : Nat) (L' : List (Addr × List Int)), (∀ b o, s.heap.get? b = some o → s'.heap.get? b = some o) → s'.gens = s.gens → s'.os = s.os → s.heap.objs.size ≤ p →
      s'.heap.get? p = some (seqObj "list" out.toArray c) → out = L'.map (fun q => Value.ref q.1) → L'.Perm L → L'.Pairwise (fun q r => HT.lexLt r.2 q.2 = false) → Q (.ref p) s') :
    wpAny (model P w) A (call (.builtin "sorted") [.ref a]) Q E s := by
  obtain ⟨es, ep, t, ⟨o, ho, hex, hd⟩, rows, tab, nd, led, fill, few⟩ := R
  have many : es.size = L.length := by
    rw [← Array.length_toList, rows, rowsOf, List.length_map]
  have fits : t.fits es.size = true := by
    unfold SetTable.fits SetTable.fill
    have h1 := tab.sz
    rw [List.length_map] at h1
    rw [tab.dm, Bool.and_eq_true, beq_iff_eq, decide_eq_true_eq]
    exact ⟨by omega, by show t.place.size + 0 ≤ t.mask; omega⟩
  refine Calls.call_function_entry kind_sorted plain_sorted entry_sorted (args_sorted1 _) ?_
  unfold Builtin.«sorted»
  refine wpAny_bind (m := checkCount "sorted" 1 1 _) (wpAny_pure (wpAny_bind (collect_set (A := A.in1) hh ⟨o, ho, hex.1, hd⟩ fits (by unfold scanBound; omega) tab.ris led fun s1 vs k1 z1 g1 o1 pm => ?_)))
  have vals : es.toList.map (·.2) = L.map fun q => Value.ref q.1 := by
    rw [rows, rowsOf, List.map_map]
    rfl
  rw [vals] at pm
  obtain ⟨L1, p1, e1⟩ := Fly.perm_lift (fun q : Addr × List Int => Value.ref q.1) pm.symm L rfl
  subst e1
  have len : (L1.map fun q => Value.ref q.1).length ≤ sizeLine := by rw [List.length_map, p1.length_eq, sizeLine_eq]; omega
  refine wpAny_bind (wpAny_newList ?_ len)
  have hoL : (s1.heap.push (seqObj "list" (L1.map fun q => Value.ref q.1).toArray 0)).get? s1.heap.objs.size = some (seqObj "list" (L1.map fun q => Value.ref q.1).toArray 0) := Heap.get?_push_size _ rfl
  have tk : ∀ q ∈ L1, TS.TupInts (s1.heap.push (seqObj "list" (L1.map fun q => Value.ref q.1).toArray 0)) (.ref q.1) q.2 := fun q hq =>
    tupInts_of (P := P) (w := w) (isT_keep (keys q (p1.mem_iff.mp hq)) fun b u e => Heap.get?_push_of_some _ (k1 b u e))
  refine wpAny_bind (wpAny_holding (wpAny_call_entry slot_list_sort ⟨_, hoL, rfl⟩ entry_list_sort (SrtO.list_sort_ord (s := { s1 with heap := s1.heap.push (seqObj "list" (L1.map fun q => Value.ref q.1).toArray 0) })
    (NtL.swo_lexL fun v => TS.intsOf (s1.heap.push (seqObj "list" (L1.map fun q => Value.ref q.1).toArray 0)) v) hoL len (fun h2 => TupO.tup_sortable (by omega) (fun v hv => ?_) fun u hu => ?_) fun out hs hb => ⟨_, rfl, ?_⟩) (args_list_sort _)))
  · obtain ⟨q, hq, rfl⟩ := List.mem_map.mp hv
    rw [(tk q hq).ints]
    exact ⟨tk q hq, ne q (p1.mem_iff.mp hq)⟩
  · obtain rfl : seqObj "list" _ 0 = u := Option.some.inj (hoL.symm.trans hu)
    intro c
    exact absurd (Value.type.inj c) (by decide)
  · obtain ⟨L2, p2, e2⟩ := Fly.perm_lift (fun q : Addr × List Int => Value.ref q.1) hb.perm.symm L1 rfl
    subst e2
    obtain ⟨c, hc⟩ := sortedHeap_at (vs := L1.map fun q => Value.ref q.1) (out := (L2.map fun q => Value.ref q.1).toArray) hoL
    refine wpAny_pure ⟨_, rfl, hQ _ s1.heap.objs.size _ c L2 (fun b u e => ?_) g1 o1 z1 hc rfl (p2.trans p1) ?_⟩
    · have q := k1 b u e
      have lt := Heap.lt_size q
      show (sortedHeap (s1.heap.push _) s1.heap.objs.size _ _).get? b = some u
      rw [sortedHeap_old (Nat.ne_of_lt lt) (by rw [size_push']; exact Nat.lt_succ_of_lt lt)]
      exact Heap.get?_push_of_some _ q
    · refine List.Pairwise.imp_of_mem (fun {q r} hq hr h => ?_) (List.pairwise_map.mp hs)
      rw [← (tk q (p2.mem_iff.mp hq)).ints, ← (tk r (p2.mem_iff.mp hr)).ints]
      exact h
end
/-- a set of rows, as the abstract heap has it: no program is looked at -/
def FullO (w : World) (a : Addr) (L : List (Addr × List Int)) : HO := .ext fun h => ∀ P : Program, Full P w h a L
theorem full_prog {P : Program} (P' : Program) {w : World} {h : Heap} {a : Addr} {L : List (Addr × List Int)} (R : Full P w h a L) : Full P' w h a L := R
theorem fullO_new {P0 P : Program} {w : World} {H : Hp} {h : Heap} {a : Addr} {L : List (Addr × List Int)} (R : Full P w h a L) : ObjOk P0 w H h a (FullO w a L) := by
  refine ⟨fun P' => full_prog P' R, ?_, fun h1 h2 z k P' => ?_⟩
  · obtain ⟨es, ep, t, ⟨o, ho, r⟩, q⟩ := R
    exact ⟨o, ho⟩
  · obtain ⟨es, ep, t, ⟨o, ho, r⟩, q⟩ := z P'
    exact ⟨es, ep, t, ⟨o, k o ho, r⟩, q⟩
section
variable {X : Cx}
def rSetR (K : PySem.W.Frag) (w : World) : List V → Hp → VK → Prop := fun xs H Q => ∃ (l : Addr) (ks : List (Addr × List Int)), xs = [.ref l] ∧ SqL K H l (ks.map fun p => V.ref p.1) ∧ (∀ p ∈ ks, SqT K H p.1 (p.2.map V.int)) ∧ ks.length ≤ 64 ∧
  ∀ a L, H a = none → (∀ p ∈ L, p ∈ ks) → (∀ p ∈ ks, p.2 ∈ L.map (·.2)) → (L.map (·.2)).Nodup → Q (.ref a) (upd H a (FullO w a L))
theorem cr_setR (hc : X.calm = true) (hu : X.A.units + 64 < cLine) : CallR X (.type "set") (rSetR X.K X.w) := by
  intro pins s σ H xs us Q I r h
  obtain ⟨l, ks, rfl, hl, hk, hf, q⟩ := h
  rw [Vals.ref1 r]
  obtain ⟨its, rv, pl, hz⟩ := I.list hl
  refine set_rows (P := X.prog) (w := X.w) ks (I.ok.hd hc) pl.isList (by simpa using refs_of_vals rv) (fun p hp => I.isT (hk p hp)) hf (by omega) fun h' tk L R g k => ?_
  have nd : (L.map (·.2)).Nodup := let ⟨_, _, _, _, _, _, nd, _⟩ := R; nd
  exact ⟨.ref s.heap.objs.size, _, I.laid (t' := tk) k (Nat.le_refl _) (fullO_new R), rfl, q _ L (I.hok.fresh (Nat.le_refl _)) (fun p hp => List.mem_of_mem_take (g.sub p hp)) (fun p hp => g.all p (by rw [List.take_length]; exact hp)) nd⟩
def rSrtR (K : PySem.W.Frag) (w : World) : List V → Hp → VK → Prop := fun vs H Q => ∃ (a : Addr) (L : List (Addr × List Int)), vs = [.ref a] ∧ H a = some (FullO w a L) ∧ (∀ p ∈ L, SqT K H p.1 (p.2.map V.int) ∧ p.2 ≠ []) ∧
  ∀ (L' : List (Addr × List Int)) (p : Addr), L'.Perm L → L'.Pairwise (fun q r => HT.lexLt r.2 q.2 = false) → H p = none → Q (.ref p) (upd H p (.lst (L'.map fun q => V.ref q.1)))
theorem cr_srtR (hc : X.calm = true) : CallR X (.builtin "sorted") (rSrtR X.K X.w) := by
  intro pins s σ H vs us Q I r h
  obtain ⟨a, L, rfl, ha, hk, q⟩ := h
  have R : Full X.prog X.w s.heap a L := (I.hok a _ ha).1 X.prog
  have few : L.length ≤ 64 := let ⟨_, _, _, _, _, _, _, _, _, f⟩ := R; f
  rw [Vals.ref1 r]
  refine sorted_rows R (fun p hp => I.isT (hk p hp).1) (fun p hp => (hk p hp).2) (I.ok.hd hc) fun s' p out c L' k g o hp hg hout pm pw => ?_
  have hlen : (L'.map fun q => V.ref q.1).length ≤ sizeLine := by rw [List.length_map, pm.length_eq, sizeLine_eq]; omega
  have hn : H p = none := I.hok.fresh hp
  have J : Inv X pins σ (upd H p (.lst (L'.map fun q => V.ref q.1))) { s with heap := s'.heap, gens := s'.gens, drawn := s'.drawn, toks := s'.toks } :=
    I.call (ch := []) (Un.laid k hp hn) (I.hok.laid k hp ⟨hlen, out, c, by rw [hout]; exact vals_of_refs L', hg⟩) (by rw [g]; exact I.bare) (fun _ z => nomatch z)
  have e : s' = { s with heap := s'.heap, gens := s'.gens, drawn := s'.drawn, toks := s'.toks } := by
    cases s'
    cases s
    cases o
    rfl
  rw [e]
  exact ⟨.ref p, _, J, rfl, q L' p pm pw hn⟩
end
end RSet
namespace RSet
open PySem PySem.Spec PyProof.Rows L2
section
variable {P : Program} {w : World} {A : Around} {E : Value → Shared → Prop} {s : Shared}
/-- set(x), x a list of numbers -/
theorem set_ints {l : Addr} {items : Array Value} (ns : List Int) {Q : Value → Shared → Prop} (hh : A.handled = none) (hl : s.heap.IsList l items) (hit : IntsAre items.toList ns) (few : ns.length + 1 < scanBound)
    (h : ∀ (h' : Heap) (tk c : Nat), SetR w h' s.heap.objs.size (fun j => decide (j ∈ ns)) c → c ≤ ns.length → (∀ b o, s.heap.get? b = some o → h'.get? b = some o) → Q (.ref s.heap.objs.size) { s with heap := h', toks := tk }) :
    wpAny (model P w) A (call (.type "set") [.ref l]) Q E s := by
  have size : items.size = ns.length := by rw [← IntsAre.length hit, Array.length_toList]
  obtain ⟨⟨oc, od, dt, sl⟩, ho, hc, n, hd⟩ := hl
  simp only at hc hd
  subst hc hd
  have lt := Heap.lt_size ho
  have hl0 : s.heap.IsList l items := ⟨_, ho, rfl, n, rfl⟩
  have hl1 : (s.heap.push (set0 w)).IsList l items := hl0.push _
  have ho1 : (s.heap.push (set0 w)).get? l = some { cls := .type "list", dict := od, data := .seq items n, slots := sl } := Heap.get?_push_of_some _ ho
  have f1 := F.sub_list_set
  have f2 := F.sub_list_frozenset
  have f3 : (Value.type "list" == Value.type "dict") = false := by decide
  refine set_of ?_
  unfold Builtin.«set.__init__» noKeywords Builtin.Frozenset.updateFrom
  generalize hPI : pyIter = PI
  wp_walk
  subst hPI
  refine wpAny_pyIter_list hl1 (wpAny_bind (wpAny_runValue ?_))
  have sz : (s.heap.push (set0 w)).objs.size = s.heap.objs.size + 1 := Heap.size_push ..
  have val : ∀ (i : Nat) (v : Value), items[i]? = some v → ∃ k t, ns[i]? = some k ∧ v = .int k t := fun i v hv => by
    have hi : i < ns.length := by
      rw [← size]
      exact (Array.getElem?_eq_some_iff.mp hv).1
    obtain ⟨t, e⟩ := hit.get i ns[i] (List.getElem?_eq_getElem hi)
    rw [Array.getElem?_toList, hv] at e
    exact ⟨ns[i], t, List.getElem?_eq_getElem hi, Option.some.inj e⟩
  have old : ∀ b o, s.heap.get? b = some o → b ≠ s.heap.objs.size ∧ b ≠ (s.heap.push (set0 w)).objs.size := fun b o e => by
    have lt := Heap.lt_size e
    rw [sz]
    exact ⟨Nat.ne_of_lt lt, Nat.ne_of_lt (Nat.lt_succ_of_lt lt)⟩
  refine set_update_ints ((Walks.list (A := A.in1.in1.in1) hh (s.heap.push (set0 w)).objs.size l (by rw [sz]; exact Nat.ne_of_lt (Nat.lt_succ_of_lt lt)) items).toS) s.heap.objs.size ?_ ns size few val items.size 0 _ (Nat.sub_zero _) (Nat.zero_le _)
    ⟨⟨_, Heap.get?_push_size _ rfl, rfl, rfl⟩, hl1.push _⟩ ⟨0, Nat.le_refl _, setR_new_at (Heap.get?_push_of_some _ (Heap.get?_push_size _ rfl))⟩ fun s' c m le R => ?_
  · rw [sz]
    simp only [List.mem_cons, List.not_mem_nil, or_false, not_or]
    exact ⟨Nat.ne_of_lt (Nat.lt_succ_self _), Nat.ne_of_gt lt⟩
  · have k : ∀ b o, s.heap.get? b = some o → s'.heap.get? b = some o := fun b o e => m.heap b o (by simp only [List.mem_cons, List.not_mem_nil, or_false, not_or]; exact old b o e) (Heap.get?_push_of_some _ (Heap.get?_push_of_some _ e))
    obtain ⟨h', g2, d', tk', os'⟩ := s'
    obtain rfl : g2 = s.gens := m.gens
    obtain rfl : d' = s.drawn := m.drawn
    obtain rfl : os' = s.os := m.os
    exact wpAny_pure (wpAny_pure ⟨rfl, h h' tk' c R (size ▸ le) k⟩)
end
end RSet
namespace Fly
open PySem L2
section
variable {T : XT} {K : PySem.W.Frag} {W : WX} {cf : Nat → List Sl → CR}
def rSetI (w : World) : List V → Hp → VK → Prop := fun xs H Q => ∃ (p : Addr) (ns : List Int), xs = [.ref p] ∧ Rd H p (.lst (ns.map V.int)) ∧ ns.length ≤ 1000 ∧
  ∀ q c, H q = none → c ≤ ns.length → Q (.ref q) (upd H q (SetO w q (fun j => decide (j ∈ ns)) c))
theorem cr_setI {X : Cx} (hc : X.calm = true) : CallR X (.type "set") (rSetI X.w) := by
  intro pins s σ H xs us Q I r h
  obtain ⟨p, ns, rfl, rd, hl, q⟩ := h
  obtain ⟨its, rv, li, hz⟩ := I.list (show SqL X.K H p _ from .inl rd)
  rw [Vals.ref1 r]
  refine RSet.set_ints ns (I.ok.hd hc) li.isList (by simpa using rv.ints) (by unfold scanBound; omega) fun h' tk c R le k => ?_
  exact ⟨.ref s.heap.objs.size, _, I.laid (a := s.heap.objs.size) k (Nat.le_refl _) (setO_new R), rfl, q _ c (I.hok.fresh (Nat.le_refl _)) le⟩
def rSetX (K : PySem.W.Frag) (w : World) : List V → Hp → VK → Prop := fun xs H Q => rSetT K w xs H Q ∨ (RSet.rSetR K w xs H Q ∨ rSetI w xs H Q)
theorem cr_setX {X : Cx} (hc : X.calm = true) (hu : X.A.units + 64 < cLine) : CallR X (.type "set") (rSetX X.K X.w) := CallR.or (cr_setT hc) (CallR.or (RSet.cr_setR hc hu) (cr_setI hc))
def rSrtX (K : PySem.W.Frag) (w : World) : List V → Hp → VK → Prop := fun xs H Q => rSortedSet w xs H Q ∨ RSet.rSrtR K w xs H Q
theorem cr_srtX {X : Cx} (hc : X.calm = true) : CallR X (.builtin "sorted") (rSrtX X.K X.w) := CallR.or (cr_sortedSet hc) (RSet.cr_srtR hc)
theorem toInts_of : ∀ k : List Int, toInts (k.map .int) = some k
  | [] => rfl
  | x :: k => by rw [List.map_cons, toInts, toInts_of k]; rfl
theorem Rep.row {fr : AP} {H : Hp} {a : Addr} {k : List Int} (r : Rep K fr H (.ref a) (.tup (k.map .int))) : SqT K H a (k.map V.int) := by
  cases r with
  | tup h z r =>
    rw [← r.of_ints (toInts_of k)]
    exact h.sq
theorem rset_eq {A B : List (List Int)} (hn : A.Nodup) (hm : ∀ k, k ∈ A ↔ k ∈ B) (hs : A.Pairwise fun x y => HT.lexLt y x = false) : A = lsort (dedupR B) := by
  have p : A.Perm (dedupR B) := (List.perm_ext_iff_of_nodup hn (dedupR_nodup B)).mpr fun k => by rw [hm, dedupR_mem]
  exact (p.trans (lsort_perm _).symm).eq_of_pairwise (fun a b _ _ h3 h4 => lex_anti h4 h3) hs (lsort_sorted _)
theorem dedupR_len : ∀ l : List (List Int), (dedupR l).length ≤ l.length
  | [] => Nat.le_refl _
  | x :: l => by
    unfold dedupR
    have := dedupR_len l
    split
    · exact Nat.le_succ_of_le this
    · rw [List.length_cons, List.length_cons]
      omega
theorem ge_sortset {m : E} {t1 : TE} (h : GE T K W cf m t1) : GE T K W cf (.op .sortset (.cons m .nil)) (tCB (rSrtX K T.w) (tCons (tCB (rSetX K T.w) (tCons t1 tNil)) tNil)) := fun G fr Fo H σv σd Q S hq => by
  have hA : GA T K W cf (.cons m .nil) (tCons t1 tNil) := ga_cons h ga_nil
  refine hA G fr Fo H σv σd (fun vs H1 => rSetX K T.w vs H1 (fun v H2 => rSrtX K T.w [v] H2 Q)) S ?_
  unfold ev at hq
  simp only [R.andThen] at hq
  cases e : ev cf (.cons m .nil) σd with
  | bad => rw [e] at hq; exact hq
  | ex c fs σ1 => rw [e] at hq; exact hq
  | ok ts σ1 =>
    rw [e] at hq
    intro vs fr1 H1 A1 S1 R1
    simp only at hq
    split at hq
    rotate_left
    · exact hq.elim
    rename_i ds el
    have R2 := R1.looks (fun _ f => f) S1 el
    match ds, R2, hq with
    | [.tup l], .cons r1 .nil, hq =>
      simp only [opf, fSortset] at hq
      obtain ⟨a, xs, rfl, h1, z1, x1, y1⟩ := r1.tup
      split at hq
      · rename_i d eo
        split at eo
        · rename_i hl
          simp only [Option.map_eq_some_iff, Prod.mk.injEq] at eo
          obtain ⟨is, e1, _, rfl⟩ := eo
          have := x1.of_ints e1
          subst this
          have hlen : is.length ≤ 40 := by
            have := x1.length
            rw [List.length_map] at this
            omega
          refine .inl ⟨a, is, rfl, h1, by omega, fun q c hn hc => .inl ⟨q, _, c, rfl, upd_same, by omega, fun ns p g1 g2 g3 hp => ?_⟩⟩
          have S2 := S1.grow (o := SetO T.w q (fun j => decide (j ∈ is)) c) hn (fun _ f => f) fun _ f => .inl f
          have A2 := Aft.grow (o := SetO T.w q (fun j => decide (j ∈ is)) c) S1 hn (fun _ f => f) fun _ f => .inl f
          have S3 := S2.grow (o := .lst (ns.map V.int)) hp (fun _ f => f) fun _ f => .inl f
          have A3 := Aft.grow (o := .lst (ns.map V.int)) S2 hp (fun _ f => f) fun _ f => .inl f
          have en := sset_eq g1 g2
          subst en
          refine hq [.ref p] fr1 _ ((A1.trans A2).trans A3) S3 ⟨.tf (.lst upd_same ?_ Reps.toInts) (fun f => S2.frs p f hp) (fun f => (S2.fos p f).1 hp) (S2.apart_new hp), True.intro⟩ _ rfl
          rw [List.length_map, g3, sizeLine_eq]
          omega
        · cases eo
      · rename_i d eo
        split at eo
        · simp only [Option.map_eq_some_iff, Prod.mk.injEq] at eo
          obtain ⟨is, _, z, _⟩ := eo
          cases z
        · cases eo
      · exact hq.elim
    | [.lst l], .cons r1 .nil, hq =>
      simp only [opf, fSortset] at hq
      obtain ⟨a, xs, rfl, h1, z1, x1⟩ := r1.lst
      split at hq
      · rename_i d eo
        split at eo
        · rename_i hl
          split at eo
          rotate_left
          · split at eo
            rotate_left
            · cases eo
            rename_i h40
            simp only [Option.map_eq_some_iff, Prod.mk.injEq] at eo
            obtain ⟨is, e1, _, rfl⟩ := eo
            have := x1.of_ints e1
            subst this
            have hlen : is.length ≤ 40 := by
              have := x1.length
              rw [List.length_map] at this
              omega
            refine .inr (.inr ⟨a, is, rfl, .of h1, by omega, fun q c hn hc => .inl ⟨q, _, c, rfl, upd_same, by omega, fun ns p g1 g2 g3 hp => ?_⟩⟩)
            have S2 := S1.grow (o := SetO T.w q (fun j => decide (j ∈ is)) c) hn (fun _ f => f) fun _ f => .inl f
            have A2 := Aft.grow (o := SetO T.w q (fun j => decide (j ∈ is)) c) S1 hn (fun _ f => f) fun _ f => .inl f
            have S3 := S2.grow (o := .lst (ns.map V.int)) hp (fun _ f => f) fun _ f => .inl f
            have A3 := Aft.grow (o := .lst (ns.map V.int)) S2 hp (fun _ f => f) fun _ f => .inl f
            have en := sset_eq g1 g2
            subst en
            refine hq [.ref p] fr1 _ ((A1.trans A2).trans A3) S3 ⟨.tf (.lst upd_same ?_ Reps.toInts) (fun f => S2.frs p f hp) (fun f => (S2.fos p f).1 hp) (S2.apart_new hp), True.intro⟩ _ rfl
            rw [List.length_map, g3, sizeLine_eq]
            omega
          rename_i ks e1
          simp only [Option.some.injEq, Prod.mk.injEq] at eo
          obtain ⟨_, rfl⟩ := eo
          obtain ⟨L0, rfl, rfl, hL⟩ := Reps.rows x1 e1
          have hlen : L0.length ≤ 64 := by
            have := x1.length
            rw [List.length_map] at this
            omega
          refine .inr (.inl ⟨a, L0, rfl, .of h1, fun p hp => (hL p hp).1, hlen, fun q L hn g1 g2 g3 => .inr ⟨q, L, rfl, upd_same, fun p hp => ?_, fun L' p pm pw hp => ?_⟩⟩)
          · obtain ⟨_, f2, f3⟩ := hL p (g1 p hp)
            exact ⟨(f3.keep (Aft.grow (o := RSet.FullO T.w q L) S1 hn (fun _ f => f) fun _ f => .inl f).keep).row, f2⟩
          · have S2 := S1.grow (o := RSet.FullO T.w q L) hn (fun _ f => f) fun _ f => .inl f
            have A2 := Aft.grow (o := RSet.FullO T.w q L) S1 hn (fun _ f => f) fun _ f => .inl f
            have S3 := S2.grow (o := .lst (L'.map fun q => V.ref q.1)) hp (fun _ f => f) fun _ f => .inl f
            have A3 := Aft.grow (o := .lst (L'.map fun q => V.ref q.1)) S2 hp (fun _ f => f) fun _ f => .inl f
            have en : L'.map (·.2) = lsort (dedupR (L0.map (·.2))) := by
              refine rset_eq ((pm.map (·.2)).nodup_iff.mpr g3) (fun k => ?_) (List.pairwise_map.mpr pw)
              rw [(pm.map (·.2)).mem_iff]
              constructor
              · intro hk
                obtain ⟨r, hr, rfl⟩ := List.mem_map.mp hk
                exact List.mem_map.mpr ⟨r, g1 r hr, rfl⟩
              · intro hk
                obtain ⟨r, hr, rfl⟩ := List.mem_map.mp hk
                exact g2 r hr
            have dn : ((lsort (dedupR (L0.map (·.2)))).map fun k => D.tup (k.map .int)) = L'.map fun p => D.tup (p.2.map .int) := by
              rw [← en, List.map_map]
              rfl
            rw [dn] at hq
            have hr : ∀ p ∈ L', Rep K fr1 H1 (.ref p.1) (.tup (p.2.map .int)) := fun p hp => (hL p (g1 p (pm.mem_iff.mp hp))).2.2
            refine hq [.ref p] fr1 _ ((A1.trans A2).trans A3) S3 ⟨.tf (.lst upd_same ?_ ((Reps.ofL L' hr).keep (A2.trans A3).keep)) (fun f => S2.frs p f hp) (fun f => (S2.fos p f).1 hp) (S2.apart_new hp), True.intro⟩ _ rfl
            have n1 : L'.length = (dedupR (L0.map (·.2))).length := by
              rw [← List.length_map (f := (·.2)), en, (lsort_perm _).length_eq]
            have n2 := dedupR_len (L0.map (·.2))
            rw [List.length_map] at n2
            rw [List.length_map, sizeLine_eq]
            omega
        · cases eo
      · rename_i d eo
        split at eo
        · split at eo
          · simp only [Option.some.injEq, Prod.mk.injEq] at eo
            exact nomatch eo.1
          · split at eo
            · simp only [Option.map_eq_some_iff, Prod.mk.injEq] at eo
              obtain ⟨is, _, z, _⟩ := eo
              cases z
            · cases eo
        · cases eo
      · exact hq.elim
end
end Fly
end

section
set_option Elab.async false
set_option linter.all false
set_option maxRecDepth 100000
set_option maxHeartbeats 4000000
/-! x[lo:hi] = y of two lists, with borders or without (FlySlst). -/
namespace Fly
open PySem PySem.Spec PyProof.Rows L2
section
variable {prog : Program} {w : World} {A : Around} {E : Value → Shared → Prop} {s : Shared}
theorem lst_set_slice {l b sl : Addr} {items new : Array Value} {n m : Nat} {vl vu : Value} {lo hi : Option Int} {a c : Nat} {Q : Unit → Shared → Prop}
    (ol : s.heap.get? l = some { cls := .type "list", data := .seq items n }) (ob : s.heap.get? b = some { cls := .type "list", data := .seq new m }) (ne : l ≠ b)
    (hs : s.heap.IsSliceOf sl vl vu .none) (pl : IsPart vl lo) (pu : IsPart vu hi) (raw : sliceBounds lo hi none items.size = ((a : Int), (c : Int), 1)) (ac : a ≤ c)
    (fit : items.size + new.size ≤ sizeLine) (h : Q () { s with heap := s.heap.update l (Obj.mapSeq fun xs => xs.extract 0 a ++ new ++ xs.extract c xs.size) }) :
    wpAny (model prog w) A (setItem (.ref l) (.ref sl) (.ref b)) Q E s := by
  have tl : s.heap.IsList l items := PySem.IsL.isList ol
  have tb : s.heap.IsList b new := PySem.IsL.isList ob
  have ⟨os, hos, hcs, hds⟩ := hs
  have ts : s.TypeIs (.ref sl) "slice" := ⟨os, hos, hcs⟩
  have apart : Builtin.List.listSameRef (.ref l) (.ref b) = false := by
    unfold Builtin.List.listSameRef
    exact beq_eq_false_iff_ne.mpr ne
  unfold setItem
  try with_reducible refine wpAny_holding ?_
  first | refine wpAny_bind (wpAny_pure ?_) | skip
  refine wpAny_bind (wpAny_sequenceKey tl.typeIs (by decide) (wpAny_bind (wpAny_callSpecial?_slot (name := Str.ofString "__setitem__") tl.typeIs slot_list_setitem (wpAny_call_entry slot_list_setitem tl.typeIs entry_list_setitem ?_ (args_list_setitem _ _ _)))))
  -- a slice, not an index
  refine wpAny_bind (m := Builtin.List.listSubscript? (.ref sl)) ?_
  unfold Builtin.List.listSubscript?
  refine wpAny_bind (wpAny_specialOf ts slice_no_index ?_)
  refine wpAny_pure (wpAny_bind (m := typeOf (.ref sl)) (wpAny_typeOf ts ?_))
  first
    | rw [if_neg (by decide)]
    | refine PySem.W.KFB.if_not (by decide) ?_
  -- its borders
  rw [listSliceParts_eq]
  refine wpAny_bind (wpAny_bind (wpAny_field hos hds (x := .none) rfl (wpAny_bind (wpAny_listPart .none ?_))))
  rw [if_neg (show ¬ ((rawPart none == rawInt 0) = true) from Bool.false_ne_true)]
  refine wpAny_bind (wpAny_field hos hds (x := vl) rfl (wpAny_bind (wpAny_listPart pl (wpAny_bind (wpAny_field hos hds (x := vu) rfl (wpAny_bind (wpAny_listPart pu (wpAny_pure ?_))))))))
  first
    | simp only [apart, Bool.false_eq_true, if_false]
    | refine PySem.W.KFB.if_not apart ?_
    | (dsimp only
       rw [if_neg (by rw [apart]; exact Bool.false_ne_true)])
  -- the new items
  refine wpAny_bind (m := Builtin.List.listAllItems (.ref b) "must assign iterable to extended slice") ?_
  unfold Builtin.List.listAllItems Builtin.List.listItems
  refine wpAny_bind (wpAny_typeOf tb.typeIs ?_)
  first
    | refine PySem.W.KFB.if_so (by decide) ?_
    | rw [if_pos (by decide)]
    | simp only [beq_self_eq_true, Bool.true_or, if_true]
  refine wpAny_bind (wpAny_seqItems ob rfl (wpAny_pure (wpAny_bind (wpAny_bind (wpAny_seqItems ol rfl (wpAny_pure ?_))))))
  refine wpAny_bind (wpAny_of_eq ((sliceIndices_raw lo hi none items.size (by simp)).trans (congrArg (pure : Int × Int × Int → Sem (Int × Int × Int)) raw)) ?_)
  show wpAny _ _ (if ((1 : Int) == 1) = true then _ else _) _ _ s
  rw [if_pos (by decide)]
  refine wpAny_bind (wpAny_rule ?_)
  first
    | simp only [notLongL fit, Bool.false_eq_true, if_false]
    | refine PySem.W.KFB.if_not (notLongL fit) ?_
  first | refine wpAny_bind (wpAny_pure ?_) | skip
  have big : (max (a : Int) (c : Int)).toNat = c := by omega
  show wpAny _ _ (updateSeq l (fun xs => xs.extract 0 ((a : Int)).toNat ++ new ++ xs.extract (max (a : Int) (c : Int)).toNat xs.size) >>= _) _ _ s
  rw [big, Int.toNat_natCast]
  refine wpAny_bind (wpAny_updateSeq (hz := Nat.le_trans (Nat.le_add_right _ _) fit) (_hz' := ?_) ol rfl (wpAny_bind (wpAny_letGo ?_)))
  · first
      | exact wpAny_bind (wpAny_pure (wpAny_pure ⟨.none, rfl, wpAny_pure h⟩))
      | exact wpAny_pure ⟨.none, rfl, wpAny_pure h⟩
  · simp only [Array.size_append, Array.size_extract]
    omega
end
theorem bounds_all (n : Nat) : sliceBounds none none none n = (((0 : Nat) : Int), (n : Int), 1) := by simp [sliceBounds]
section
variable {X : Cx}
/-- at the level of values -/
theorem set_sl {pins : List (Addr × Obj)} {s : Shared} {σ : L2.St} {H : Hp} {l b sl : Addr} {xs ys : List V} {lo hi : Option Int} {a c : Nat} {vl vu : Value} {Q : Unit → Shared → Prop} (I : Inv X pins σ H s)
    (hl : H l = some (.lst xs)) (hb : H b = some (.lst ys)) (ne : l ≠ b) (hs : s.heap.IsSliceOf sl vl vu .none) (pl : IsPart vl lo) (pu : IsPart vu hi) (raw : sliceBounds lo hi none xs.length = ((a : Int), (c : Int), 1)) (ac : a ≤ c)
    (cx : c ≤ xs.length) (fit : xs.length + ys.length ≤ sizeLine) (h : ∀ s', Inv X pins σ (upd H l (.lst (xs.take a ++ ys ++ xs.drop c))) s' → Q () s') :
    wpAny (model X.prog X.w) X.A (setItem (.ref l) (.ref sl) (.ref b)) Q X.xe s := by
  obtain ⟨z, its, n, r, len, ol⟩ := I.lstM hl
  obtain ⟨z2, jts, m, r2, len2, ob⟩ := I.lstM hb
  refine lst_set_slice ol ob ne hs pl pu (by rw [List.size_toArray, ← len]; exact raw) ac (by rw [List.size_toArray, List.size_toArray]; omega) (h _ ?_)
  refine I.lset (its' := its.take a ++ jts ++ its.drop c) (t' := s.toks) hl ol (splice_eq its jts a c) (Vals.append (Vals.append (r.take _) r2) (r.drop _)) ?_
  rw [List.length_append, List.length_append, List.length_take, List.length_drop]
  omega
/-- the target o[lo:hi] -/
def gSlS (to : TE) (tl th : TO) : TG := fun v σ H Q => to σ H fun x H1 => tl σ H1 fun l H2 => th σ H2 fun h H3 => ∃ (a b : Addr) (xs ys : List V), x = .ref a ∧ v = .ref b ∧ a ≠ b ∧ H3 a = some (.lst xs) ∧ H3 b = some (.lst ys) ∧
  xs.length + ys.length ≤ sizeLine ∧ ((l = none ∧ h = none ∧ Q σ (upd H3 a (.lst ys))) ∨ ∃ i j, l = some i ∧ h = some j ∧ 0 ≤ i ∧ i ≤ j ∧ j ≤ xs.length ∧ Q σ (upd H3 a (.lst (xs.take i.toNat ++ ys ++ xs.drop j.toNat))))
theorem pg_slice {o : Expr} {lo hi : Option Expr} {p2 pos : Pos} {to : TE} {tl th : TO} (ho : PE X o to) (hl : PO X lo tl) (hh : PO X hi th) : PG X (.Subscript o (.Slice lo hi none p2) pos) (gSlS to tl th) := by
  refine ⟨fun pins s σ H v u Q I r h => ?_⟩
  have ha : assign (.Subscript o (.Slice lo hi none p2) pos) X.env u = (do
      let ov ← holding [u] (eval o X.env)
      let iv ← holding [u, ov] (eval (.Slice lo hi none p2) X.env)
      standAt pos
      holding [u, ov, iv] (setItem ov iv u)
      release [iv, u, ov] []) := rfl
  rw [ha]
  refine wpAny_bind (wpAny_holding (thn (ho.run pins s σ H _ I h) fun ov s1 ⟨x, H1, I1, r1, q1⟩ => ?_))
  refine wpAny_bind (wpAny_holding (wpAny_Slice (thn (hl.run pins s1 σ H1 _ I1 q1) fun vl s2 ⟨l, H2, I2, pl, q2⟩ => thn (hh.run pins s2 σ H2 _ I2 q2) fun vu s3 ⟨g, H3, I3, pu, q3⟩ => ?_)))
  rw [evalPart_none]
  refine wpAny_pure ?_
  obtain ⟨a, b, xs, ys, rfl, rfl, ne, ea, eb, fit, q⟩ := q3
  cases r
  cases r1
  have I4 : Inv X pins σ H3 { s3 with heap := s3.heap.push { cls := .type "slice", data := .fields #[vl, vu, .none] } } := I3.kept (t' := s3.toks) fun b ob q => Heap.get?_push_of_some _ q
  refine wpAny_bind (wpAny_standAt (wpAny_bind (wpAny_holding ?_)))
  rcases q with ⟨rfl, rfl, q⟩ | ⟨i, j, rfl, rfl, h0, h1, h2, q⟩
  · refine set_sl I4 ea eb ne (Heap.IsSliceOf.new ..) pl pu (a := 0) (c := xs.length) (bounds_all _) (Nat.zero_le _) (Nat.le_refl _) fit fun s' I' => wpAny_release ⟨σ, _, I', ?_⟩
    rw [List.take_zero, List.nil_append, List.drop_length, List.append_nil]
    exact q
  · obtain ⟨i', rfl⟩ := Int.eq_ofNat_of_zero_le h0
    obtain ⟨j', rfl⟩ := Int.eq_ofNat_of_zero_le (Int.le_trans h0 h1)
    have h1' : i' ≤ j' := by omega
    have h2' : j' ≤ xs.length := by omega
    exact set_sl I4 ea eb ne (Heap.IsSliceOf.new ..) pl pu (bounds_run h1' h2') h1' h2' fit fun s' I' => wpAny_release ⟨σ, _, I', q⟩
end
end Fly
end

section
set_option Elab.async false
set_option linter.all false
set_option maxRecDepth 100000
set_option maxHeartbeats 4000000
/-! max and min of one sequence, tuples that are known, dicts of pairs (FlyNew1). -/
namespace Fly
open PySem L2 PySem.Spec PyProof.Rows
section
variable {X : Cx}
/-- the best of a tuple of ints (gt: max; else min) -/
def rBestT (K : PySem.W.Frag) (le : Int → Int → Prop) : List V → Hp → VK → Prop := fun vs H Q => ∃ (a : Addr) (ns : List Int), vs = [V.ref a] ∧ SqT K H a (ns.map V.int) ∧ 0 < ns.length ∧ ∀ m, m ∈ ns → (∀ y, y ∈ ns → le y m) → Q (.int m) H
theorem best_of {ns : List Int} {its : List Value} (hi : IntsAre its ns) {j : Nat} {v : Value} (hv : its.toArray[j]? = some v) : ∃ t, v = .int (ns.getD j 0) t ∧ ns.getD j 0 ∈ ns := by
  have hv' : its[j]? = some v := by rw [← List.getElem?_toArray]; exact hv
  obtain ⟨t, e⟩ := hi.int_at j v hv'
  have hj : j < ns.length := by
    rw [← hi.length]
    exact (List.getElem?_eq_some_iff.mp hv').1
  exact ⟨t, e, PySem.getD_mem hj⟩
theorem tup_walk {prog : Program} {w : World} {A : Around} {a : Addr} {its : List Value} {s : Shared} (hh : A.handled = none) (ht : s.heap.IsTuple a its.toArray) (hn : 0 < its.length) {op : CmpOp} {bt : Nat → Nat → Bool}
    (hc : CmpOf prog w A op (fun i v => its.toArray[i]? = some v) bt) {Q : Value → Shared → Prop} {E : Value → Shared → Prop}
    (h : ∀ v h' tk, its.toArray[argBest bt (its.length - 1)]? = some v → (∀ b o, s.heap.get? b = some o → h'.get? b = some o) → Q v { s with heap := h', toks := tk }) :
    wpAny (model prog w) A (pyIter (.ref a)) (fun it s₂ => ∃ I fp wr n P St bt, it = .ref I ∧ Walks prog w A I fp wr n P St ∧ St 0 s₂.heap ∧ (∀ b ∈ fp, b < s₂.heap.objs.size) ∧ 0 < n ∧ CmpOf prog w A op P bt ∧
      ∀ v h' tk, P (argBest bt (n - 1)) v → (∀ b o, b ∉ wr → s₂.heap.get? b = some o → h'.get? b = some o) → Q v { s₂ with heap := h', toks := tk }) E s := by
  have hlt : a < s.heap.objs.size := let ⟨_, e, _⟩ := ht; Heap.lt_size e
  refine wpAny_pyIter_tuple ht ⟨_, _, _, _, _, _, bt, rfl, Walks.tuple hh s.heap.objs.size a (Nat.ne_of_lt hlt) its.toArray, ⟨⟨_, Heap.get?_push_size _ rfl, rfl, rfl⟩, ht.push _⟩, fun b hb => ?_, by simpa using hn, hc, fun v h' tk hP hk => ?_⟩
  · rw [Heap.size_push]
    have e : b = s.heap.objs.size ∨ b = a := by simpa using hb
    rcases e with rfl | rfl
    · exact Nat.lt_succ_self _
    · exact Nat.lt_succ_of_lt hlt
  · refine h v h' tk (by simpa using hP) fun b o e => hk b o ?_ (Heap.get?_push_of_some _ e)
    intro z
    have z' : b = s.heap.objs.size := by simpa using z
    subst z'
    exact absurd (Heap.lt_size e) (Nat.lt_irrefl _)
theorem cr_maxT (hc : X.calm = true) : CallR X (.builtin "max") (rBestT X.K fun y m => y ≤ m) := by
  intro pins s σ H vs us Q I r h
  obtain ⟨a, ns, rfl, hs, hne, q⟩ := h
  obtain ⟨its, rv, ht, _⟩ := I.tuple hs
  rw [Vals.ref1 r]
  have hi := rv.ints
  refine call_max_walk (tup_walk (A := X.A.in1) (I.ok.hd hc) ht (by rw [hi.length]; exact hne) (CmpOf.ints_gt (fun i => ns.getD i 0) fun i v hv => (best_of hi hv).imp fun t z => z.1) fun v h' tk hv hk => ?_)
  obtain ⟨t, rfl, hm⟩ := best_of hi hv
  obtain ⟨h1, h2⟩ := argBest_gt (fun i => ns.getD i 0) (its.length - 1)
  refine ⟨.int _, H, I.kept hk, ⟨_, rfl⟩, q _ hm fun y hy => ?_⟩
  obtain ⟨j, hj, rfl⟩ := mem_getD hy
  exact h2 j (by rw [hi.length]; omega)
theorem cr_minT (hc : X.calm = true) : CallR X (.builtin "min") (rBestT X.K fun y m => m ≤ y) := by
  intro pins s σ H vs us Q I r h
  obtain ⟨a, ns, rfl, hs, hne, q⟩ := h
  obtain ⟨its, rv, ht, _⟩ := I.tuple hs
  rw [Vals.ref1 r]
  have hi := rv.ints
  refine call_min_walk (tup_walk (A := X.A.in1) (I.ok.hd hc) ht (by rw [hi.length]; exact hne) (CmpOf.ints_lt (fun i => ns.getD i 0) fun i v hv => (best_of hi hv).imp fun t z => z.1) fun v h' tk hv hk => ?_)
  obtain ⟨t, rfl, hm⟩ := best_of hi hv
  obtain ⟨h1, h2⟩ := argBest_lt (fun i => ns.getD i 0) (its.length - 1)
  refine ⟨.int _, H, I.kept hk, ⟨_, rfl⟩, q _ hm fun y hy => ?_⟩
  obtain ⟨j, hj, rfl⟩ := mem_getD hy
  exact h2 j (by rw [hi.length]; omega)
def rMax1 (K : PySem.W.Frag) : List V → Hp → VK → Prop := fun vs H Q => rMax K vs H Q ∨ rBestT K (fun y m => y ≤ m) vs H Q
def rMin1 (K : PySem.W.Frag) : List V → Hp → VK → Prop := fun vs H Q => rMin K vs H Q ∨ rBestT K (fun y m => m ≤ y) vs H Q
theorem cr_max1 (hc : X.calm = true) : CallR X (.builtin "max") (rMax1 X.K) := CallR.or (cr_max hc) (cr_maxT hc)
theorem cr_min1 (hc : X.calm = true) : CallR X (.builtin "min") (rMin1 X.K) := CallR.or (cr_min hc) (cr_minT hc)
end
theorem maxOf_spec : ∀ {l : List Int} {m : Int}, maxOf l = some m → m ∈ l ∧ ∀ y ∈ l, y ≤ m
  | [], m, h => by cases h
  | [x], m, h => by cases h; simp
  | x :: y :: l, m, h => by
    rw [maxOf, Option.map_eq_some_iff] at h
    obtain ⟨k, e, rfl⟩ := h
    obtain ⟨h1, h2⟩ := maxOf_spec e
    split
    · rename_i c
      refine ⟨List.mem_cons_self, fun z hz => ?_⟩
      rcases List.mem_cons.mp hz with rfl | hz
      · exact Int.le_refl _
      · exact Int.le_trans (h2 z hz) (Int.le_of_lt c)
    · rename_i c
      refine ⟨List.mem_cons_of_mem _ h1, fun z hz => ?_⟩
      rcases List.mem_cons.mp hz with rfl | hz
      · omega
      · exact h2 z hz
    · intro z; cases z
theorem minOf_spec : ∀ {l : List Int} {m : Int}, minOf l = some m → m ∈ l ∧ ∀ y ∈ l, m ≤ y
  | [], m, h => by cases h
  | [x], m, h => by cases h; simp
  | x :: y :: l, m, h => by
    rw [minOf, Option.map_eq_some_iff] at h
    obtain ⟨k, e, rfl⟩ := h
    obtain ⟨h1, h2⟩ := minOf_spec e
    split
    · rename_i c
      refine ⟨List.mem_cons_self, fun z hz => ?_⟩
      rcases List.mem_cons.mp hz with rfl | hz
      · exact Int.le_refl _
      · exact Int.le_trans (Int.le_of_lt c) (h2 z hz)
    · rename_i c
      refine ⟨List.mem_cons_of_mem _ h1, fun z hz => ?_⟩
      rcases List.mem_cons.mp hz with rfl | hz
      · omega
      · exact h2 z hz
    · intro z; cases z
section
variable {K : PySem.W.Frag} {fr : AP} {H : Hp}
theorem ok_max1 : OpOk K .max1 (rMax1 K) := by
  intro fr H vs ds b d Q hf r e q
  cases r with
  | nil => exact nomatch e
  | @cons _ _ x0 ds r1 r2 =>
  cases r2 with
  | @cons _ _ y0 ds _ _ =>
    have e0 : fMax1 (x0 :: y0 :: ds) = none := by first | rfl | (cases x0 <;> rfl)
    exact nomatch e0.symm.trans e
  | nil =>
    cases x0 with
    | tup l =>
      simp only [opf, fMax1, Option.map_eq_some_iff, Option.bind_eq_some_iff, Prod.mk.injEq] at e
      obtain ⟨m, ⟨ns, e1, e2⟩, rfl, rfl⟩ := e
      obtain ⟨a, xs, rfl, h1, z1, x1, y1⟩ := r1.tup
      have := x1.of_ints e1
      subst this
      obtain ⟨g1, g2⟩ := maxOf_spec e2
      refine .inr ⟨a, ns, rfl, h1, List.length_pos_of_mem g1, fun k k1 k2 => ?_⟩
      rw [Int.le_antisymm (g2 k k1) (k2 m g1)]
      exact q.int
    | lst l =>
      simp only [opf, fMax1, Option.map_eq_some_iff, Option.bind_eq_some_iff, Prod.mk.injEq] at e
      obtain ⟨m, ⟨ns, e1, e2⟩, rfl, rfl⟩ := e
      obtain ⟨a, xs, rfl, h1, z1, x1⟩ := r1.lst
      have := x1.of_ints e1
      subst this
      obtain ⟨g1, g2⟩ := maxOf_spec e2
      refine .inl ⟨a, ns, rfl, .of h1, List.length_pos_of_mem g1, fun k k1 k2 => ?_⟩
      rw [Int.le_antisymm (g2 k k1) (k2 m g1)]
      exact q.int
    | _ => exact nomatch e
theorem ok_min1 : OpOk K .min1 (rMin1 K) := by
  intro fr H vs ds b d Q hf r e q
  cases r with
  | nil => exact nomatch e
  | @cons _ _ x0 ds r1 r2 =>
  cases r2 with
  | @cons _ _ y0 ds _ _ =>
    have e0 : fMin1 (x0 :: y0 :: ds) = none := by first | rfl | (cases x0 <;> rfl)
    exact nomatch e0.symm.trans e
  | nil =>
    cases x0 with
    | tup l =>
      simp only [opf, fMin1, Option.map_eq_some_iff, Option.bind_eq_some_iff, Prod.mk.injEq] at e
      obtain ⟨m, ⟨ns, e1, e2⟩, rfl, rfl⟩ := e
      obtain ⟨a, xs, rfl, h1, z1, x1, y1⟩ := r1.tup
      have := x1.of_ints e1
      subst this
      obtain ⟨g1, g2⟩ := minOf_spec e2
      refine .inr ⟨a, ns, rfl, h1, List.length_pos_of_mem g1, fun k k1 k2 => ?_⟩
      rw [Int.le_antisymm (k2 m g1) (g2 k k1)]
      exact q.int
    | lst l =>
      simp only [opf, fMin1, Option.map_eq_some_iff, Option.bind_eq_some_iff, Prod.mk.injEq] at e
      obtain ⟨m, ⟨ns, e1, e2⟩, rfl, rfl⟩ := e
      obtain ⟨a, xs, rfl, h1, z1, x1⟩ := r1.lst
      have := x1.of_ints e1
      subst this
      obtain ⟨g1, g2⟩ := minOf_spec e2
      refine .inl ⟨a, ns, rfl, .of h1, List.length_pos_of_mem g1, fun k k1 k2 => ?_⟩
      rw [Int.le_antisymm (k2 m g1) (g2 k k1)]
      exact q.int
    | _ => exact nomatch e
end

/-! ### tuples that are known -/
def rTupK (K : PySem.W.Frag) : List V → Hp → VK → Prop := fun xs H Q => ∃ p ys, xs = [.ref p] ∧ SqL K H p ys ∧ ∀ l o, H l = none → o.dict = none → Q (.ref l) (upd H l (.frz o (.tup ys)))
theorem cr_tupK {X : Cx} : CallR X (.type "tuple") (rTupK X.K) := by
  intro pins s σ H xs us Q I r h
  obtain ⟨p, ys, rfl, hq, q⟩ := h
  obtain ⟨its, r', pl, hz⟩ := I.list hq
  have hlen := r'.length
  rw [Vals.ref1 r]
  refine call_tuple_list pl.isList (fun h' kp => ?_) (by simp only [List.size_toArray]; omega)
  have I1 : Inv X pins σ H { s with heap := h' } := I.kept (t' := s.toks) kp
  have fresh := I1.hok.fresh (Nat.le_refl h'.objs.size)
  have new : ObjOk X.prog X.w (upd H h'.objs.size (.frz { cls := .type "tuple", data := .seq its.toArray } (.tup ys))) (h'.push { cls := .type "tuple", data := .seq its.toArray }) h'.objs.size (.frz { cls := .type "tuple", data := .seq its.toArray } (.tup ys)) :=
    ⟨Heap.get?_push_size _ rfl, hz, its, r', IsTup.new _ _⟩
  exact ⟨.ref h'.objs.size, _, I1.laid (t' := s.toks) (fun b o e => Heap.get?_push_of_some _ e) (Nat.le_refl _) new, rfl, q _ _ fresh rfl⟩
theorem ok_tuplek {K : PySem.W.Frag} : OpOk K .tuplek (rTupK K) := by
  intro fr H vs ds b d Q hf r e q
  cases r with
  | nil => exact nomatch e
  | @cons _ _ x0 ds r1 r2 =>
  cases r2 with
  | @cons _ _ y0 ds _ _ =>
    have e0 : fTuplek (x0 :: y0 :: ds) = none := by first | rfl | (cases x0 <;> rfl)
    exact nomatch e0.symm.trans e
  | nil =>
    cases x0 with
    | lst l =>
      cases e
      obtain ⟨a, xs, rfl, h1, z1, x1⟩ := r1.lst
      exact ⟨a, xs, rfl, .of h1, fun p o hp ho => (q.2 p _ hp).1 rfl _ (.kt (.inr rfl) ho upd_same z1 (x1.keep (rep_new hf hp)))⟩
    | _ => exact nomatch e

/-- a display of a tuple, known whole -/
def tKtp (t : TA) : TE := fun σ H Q => t σ H fun xs H1 => xs.length ≤ sizeLine ∧ ∀ p o, H1 p = none → o.dict = none → Q (.ref p) (upd H1 p (.frz o (.tup xs)))
theorem pe_ktp {X : Cx} {es : List Expr} {t : TA} {k : Nat} {pos : Pos} (h : PA X es t) : PE X (.Tuple es k pos) (tKtp t) := by
  constructor
  intro pins s σ H Q I hq
  apply wpAny_Tuple_spliced
  apply thn (h.run pos pins s σ H _ I hq)
  rintro us s1 ⟨xs, H1, I1, r, z, q⟩
  have zu : us.length ≤ sizeLine := r.length ▸ z
  let o : Obj := { cls := .type "tuple", data := .seq us.toArray }
  have new : ObjOk X.prog X.w (upd H1 s1.heap.objs.size (.frz o (.tup xs))) (s1.heap.push o) s1.heap.objs.size (.frz o (.tup xs)) := ⟨Heap.get?_push_size _ rfl, z, us, r, IsTup.new _ _⟩
  exact ⟨zu, .ref s1.heap.objs.size, _, I1.laid (t' := s1.toks) (fun b u e => Heap.get?_push_of_some _ e) (Nat.le_refl _) new, rfl, q _ o (I1.hok.fresh (Nat.le_refl _)) rfl⟩
theorem ge_ktp {T : XT} {K : PySem.W.Frag} {W : WX} {cf : Nat → List Sl → CR} {es : E} {t : TA} (h : GA T K W cf es t) : GE T K W cf (.ktp es) (tKtp t) := fun G fr Fo H σv σd Q S hq => by
  refine h G fr Fo H σv σd _ S ?_
  simp only [ev, R.andThen] at hq
  cases e : ev cf es σd with
  | bad => rw [e] at hq; exact hq
  | ex c fs σ1 => rw [e] at hq; exact hq
  | ok ts σ1 =>
    rw [e] at hq
    intro vs fr1 H1 A1 S1 R1
    simp only at hq
    split at hq
    · rename_i ds el
      obtain ⟨fr2, A2, S2, R2⟩ := R1.vals S1 el
      split at hq
      · rename_i z
        have zl : vs.length ≤ sizeLine := by rw [R2.length, ← szLine_eq]; exact z
        refine ⟨zl, fun p o hp ho => ?_⟩
        refine hq [.ref p] (fun x => fr2 x ∨ x = p) _ ((A1.trans A2).trans (.grow S2 hp (fun _ f => .inl f) fun _ f => f)) (S2.grow hp (fun _ f => .inl f) fun _ f => f) ⟨.tv (.kt (.inr rfl) ho upd_same zl (R2.keep fun a f => ⟨.inl f, upd_ne (fun (e : a = p) => S2.frs a f (e ▸ hp))⟩)), True.intro⟩ _ rfl
      · exact hq.elim
    · exact hq.elim

/-! ### dict(x), x a list or a known tuple of pairs -/
/-- the pairs of keys and values, as they stand -/
def rDictP (K : PySem.W.Frag) : List V → Hp → VK → Prop := fun xs H Q => ∃ (a : Addr) (ps : List Addr) (es : KB), xs = [.ref a] ∧ (SqL K H a (ps.map V.ref) ∨ ∃ o, o.dict = none ∧ H a = some (.frz o (.tup (ps.map V.ref)))) ∧
  Paired (fun p (e : List Key × Addr × V) => SqT K H p [.ref e.2.1, e.2.2] ∧ H e.2.1 = some (.tup (e.1.map kV))) ps es ∧ ps.length ≤ sizeLine ∧ ∀ p, H p = none → Q (.ref p) (upd H p (.dT (putsK [] es)))
theorem refs_of {ps : List Addr} : ∀ {its : List Value}, Vals (ps.map V.ref) its → its = ps.map Value.ref := by
  induction ps with
  | nil => intro its r; cases r; rfl
  | cons p ps ih =>
    intro its r
    cases r with
    | cons r t =>
      cases r
      rw [ih t]
      rfl
/-- the pairs' values -/
theorem pairs_at {X : Cx} {pins : List (Addr × Obj)} {σ : L2.St} {H : Hp} {s : Shared} (I : Inv X pins σ H s) : ∀ {ps : List Addr} {es : KB}, Paired (fun p (e : List Key × Addr × V) => SqT X.K H p [.ref e.2.1, e.2.2] ∧ H e.2.1 = some (.tup (e.1.map kV))) ps es →
    ∃ ws : List (Value × Value), VV (es.map fun e => (.ref e.2.1, e.2.2)) ws ∧ ws.length = ps.length ∧ ∀ (j : Nat) (k v : Value), ws[j]? = some (k, v) → ∃ p, ps[j]? = some p ∧ s.heap.IsTuple p #[k, v]
  | [], [], .nil => ⟨[], .nil, rfl, fun j k v e => by simp at e⟩
  | p :: ps, e :: es, .cons ⟨h, _⟩ t => by
    obtain ⟨ws, w1, w2, w3⟩ := pairs_at I t
    obtain ⟨its, r, pt, _⟩ := I.tuple h
    obtain ⟨u1, u2, rfl, r1, r2⟩ := vals2 r
    refine ⟨(u1, u2) :: ws, .cons ⟨r1, r2⟩ w1, by simp [w2], fun j k v ej => ?_⟩
    cases j with
    | zero => cases ej; exact ⟨p, rfl, pt⟩
    | succ j => exact w3 j k v (by simpa using ej)
theorem paired_len {α β : Type} {F : α → β → Prop} {l : List α} {m : List β} (h : Paired F l m) : l.length = m.length := by
  induction h with
  | nil => rfl
  | cons _ _ ih => simp [ih]
theorem paired_mem {α β : Type} {F : α → β → Prop} {p : β → Prop} (hp : ∀ a b, F a b → p b) {l : List α} {m : List β} (h : Paired F l m) : ∀ b ∈ m, p b := by
  induction h with
  | nil => intro b hb; cases hb
  | cons h _ ih =>
    intro b hb
    rcases List.mem_cons.mp hb with rfl | hb
    · exact hp _ _ h
    · exact ih b hb
theorem vv_at : ∀ {es : KB} {ws : List (Value × Value)}, VV (es.map fun e => (.ref e.2.1, e.2.2)) ws → ∀ (i : Nat) (k v : Value), ws[i]? = some (k, v) → ∃ e, es[i]? = some e ∧ k = .ref e.2.1
  | [], _, r, i, k, v, h => by cases r; simp at h
  | e :: es, _, r, i, k, v, h => by
    rw [List.map_cons] at r
    cases r with
    | cons g t =>
      cases i with
      | zero => cases h; exact ⟨e, rfl, g.1⟩
      | succ i => simpa using vv_at t i k v (by simpa using h)
theorem cr_dictP {X : Cx} (hc : X.calm = true) (hu : X.A.units + 3 < cLine) : CallR X (.type "dict") (rDictP X.K) := by
  intro pins s σ H xs us Q I r h
  obtain ⟨a, ps, es, rfl, hs, hp, hz, q⟩ := h
  rw [Vals.ref1 r]
  obtain ⟨ws, w1, w2, w3⟩ := pairs_at I hp
  have hk : ∀ e ∈ es, H e.2.1 = some (.tup (e.1.map kV)) := paired_mem (fun _ _ z => z.2) hp
  have hle : ps.length = es.length := paired_len hp
  have fresh := I.hok.fresh (Nat.le_refl s.heap.objs.size)
  have fin : ∀ {T : String} {fp : List Addr} {OK : Heap → Prop}, PairArg X.prog X.w T a fp [] ws.length (PairRel ws) OK → OK s.heap → wpAny (model X.prog X.w) X.A (call (.type "dict") [.ref a]) (EP X pins σ Q) X.xe s := fun P ok => by
    refine call_dict_pairsH (knd := tupleKind (mixKind X.prog X.w)) (ps := (es.zip ws).map fun p => (p.1.1, p.1.2.1, p.2.2)) P (I.ok.hd hc) ?_ ok ⟨?_, fun i key v e => ?_⟩ (fun h' k x hx => ?_) (by rw [w2]; exact hz) fun h' tk hd' k => ?_
    · show X.A.units + 1 + 1 < cLine
      omega
    · rw [List.length_map, List.length_zip]
      omega
    · obtain ⟨e0, he, hr⟩ := vv_at w1 i key v e
      refine ⟨e0.1, e0.2.1, ?_, hr⟩
      have e : ws[i]? = some (key, v) := e
      have ez : (es.zip ws)[i]? = some (e0, (key, v)) := List.getElem?_zip_eq_some.mpr ⟨he, e⟩
      rw [List.getElem?_map, ez]
      rfl
    · obtain ⟨⟨e0, w⟩, hm, rfl⟩ := List.mem_map.mp hx
      have hm0 : e0 ∈ es := (List.of_mem_zip hm).1
      obtain ⟨o, its, n, ho, rest⟩ := key_of I.hok (hk e0 hm0)
      exact ⟨o, its, n, k _ _ (Nat.ne_of_lt (Heap.lt_size ho)) (by simp) ho, rest⟩
    · have hzz : (putsK [] es).length ≤ sizeLine := by
        have h1 := putsK_len es []
        rw [List.length_nil] at h1
        omega
      obtain ⟨o, ees, epp, hq, g2, g3, g4, _, g5⟩ := hd'
      refine ⟨.ref s.heap.objs.size, _, I.laid (t' := tk) (o := .dT (putsK [] es)) (fun b o e => k b o (by simp) e) (Nat.le_refl _) ?_, rfl, q _ fresh⟩
      refine ⟨hzz, beq_eq_false_iff_ne.mpr (Ne.symm (Nat.ne_of_lt I.big)), _, (KT.puts w1 hk .nil).keeps fun c ys ec => ?_, o, ees, epp, hq, g2, g3, g4, g5⟩
      rw [upd_ne (ne_of_none ec fresh)]
      exact ec
  have items : ∀ {its : List Value}, Vals (ps.map V.ref) its → PairItems s.heap its.toArray (fun j => ps.getD j 0) ws := fun r => by
    rw [refs_of r]
    refine ⟨by simp [w2], fun j k v e => ?_⟩
    obtain ⟨p, e1, e2⟩ := w3 j k v e
    have e3 : ps.getD j 0 = p := by rw [List.getD_eq_getElem?_getD, e1]; rfl
    show (ps.map Value.ref).toArray[j]? = some (Value.ref (ps.getD j 0)) ∧ PairAt s.heap (ps.getD j 0) k v
    rw [e3]
    exact ⟨by simp [e1], .inl e2⟩
  rcases hs with hs | ⟨o, hd, hs⟩
  · obtain ⟨its, rv, ⟨o, n, ho, h1, h2, h3⟩, _⟩ := I.list hs
    exact fin (PairArg.list a its.toArray (fun j => ps.getD j 0) ws) ⟨⟨o, n, ho, h1, h2, h3⟩, items rv⟩
  · obtain ⟨ho, _, its, rv, o2, ho2, h1, n, h3⟩ := I.hok a _ hs
    have e : o2 = o := Option.some.inj (ho2.symm.trans ho)
    subst e
    exact fin (PairArg.tuple a its.toArray (fun j => ps.getD j 0) ws) ⟨⟨o2, n, ho, h1, hd, h3⟩, items rv⟩
/-- the pairs of data -/
theorem dpairs_ok {K : PySem.W.Frag} {fr : AP} {H : Hp} : ∀ (l : List D) (vs : List V) (kvs : List (List Key × V)) (ks : List (List Int)) (xs : List D) (d : D), Reps K fr H vs l → kvs.map (·.1) = keysI ks → Reps K fr H (kvs.map (·.2)) xs → dpairs l ks xs = some d →
    ∃ (ps : List Addr) (es : KB) (ks' : List (List Int)) (xs' : List D), vs = ps.map V.ref ∧ Paired (fun p (e : List Key × Addr × V) => SqT K H p [.ref e.2.1, e.2.2] ∧ H e.2.1 = some (.tup (e.1.map kV))) ps es ∧ d = .dic ks' xs' ∧
      (putsK kvs es).map (·.1) = keysI ks' ∧ Reps K fr H ((putsK kvs es).map (·.2)) xs'
  | [], vs, kvs, ks, xs, d, r, e, rx, h => by
    cases r
    rw [dpairs] at h
    cases h
    exact ⟨[], [], ks, xs, rfl, .nil, rfl, e, rx⟩
  | x :: l, vs, kvs, ks, xs, d, r, e, rx, h => by
    cases r with
    | @cons v vs _ _ r1 r2 =>
    match x, r1, h with
    | .tup [.tup kl, y], r1, h =>
      simp only [dpairs, Option.bind_eq_some_iff] at h
      obtain ⟨k, hk, h⟩ := h
      cases r1 with
      | @tup p0 us _ hp z r =>
      cases r with
      | @cons v1 _ _ _ q1 r =>
      cases r with
      | @cons v2 _ _ _ q2 r =>
      cases r
      obtain ⟨b, rfl, hb⟩ := (Rep0.sh q1).key hk
      have hs := (dic_val (k := k) e rx).2
      have hd : putK kvs (keyI k) v2 = if (valV kvs (keyI k)).isSome = true then kvs.map fun kv => if kv.1 = keyI k then (kv.1, v2) else kv else kvs ++ [(keyI k, v2)] := by
        unfold putK
        rw [valV_any]
      unfold dput at h
      by_cases q : k ∈ ks
      · rw [if_pos q] at h
        rw [if_pos (by rw [hs]; simpa using q)] at hd
        obtain ⟨h1, h2⟩ := dic_set (k := k) q2 e rx
        rw [← hd] at h1 h2
        obtain ⟨ps, es, ks', xs', g1, g2, g3, g4, g5⟩ := dpairs_ok l vs (putK kvs (keyI k) v2) _ _ d r2 h1 h2 h
        exact ⟨p0 :: ps, (keyI k, b, v2) :: es, ks', xs', by rw [List.map_cons, g1], .cons ⟨hp.sq, hb⟩ g2, g3, g4, g5⟩
      · rw [if_neg q] at h
        rw [if_neg (by rw [hs]; simpa using q)] at hd
        have h1 : (putK kvs (keyI k) v2).map (·.1) = keysI (ks ++ [k]) := by
          rw [hd, List.map_append, e]
          simp [keysI]
        have h2 : Reps K fr H ((putK kvs (keyI k) v2).map (·.2)) (xs ++ [y]) := by
          rw [hd, List.map_append]
          exact rx.append (.cons q2 .nil)
        obtain ⟨ps, es, ks', xs', g1, g2, g3, g4, g5⟩ := dpairs_ok l vs (putK kvs (keyI k) v2) _ _ d r2 h1 h2 h
        exact ⟨p0 :: ps, (keyI k, b, v2) :: es, ks', xs', by rw [List.map_cons, g1], .cons ⟨hp.sq, hb⟩ g2, g3, g4, g5⟩
theorem putsK_le {K : PySem.W.Frag} {H : Hp} {ps : List Addr} {es : KB} (h : Paired (fun p (e : List Key × Addr × V) => SqT K H p [.ref e.2.1, e.2.2] ∧ H e.2.1 = some (.tup (e.1.map kV))) ps es) (hz : ps.length ≤ sizeLine) : (putsK [] es).length ≤ sizeLine := by
  have h1 := putsK_len es []
  rw [List.length_nil] at h1
  have h2 := paired_len h
  omega
theorem ok_dictp {K : PySem.W.Frag} : OpOk K .dictp (rDictP K) := by
  intro fr H vs ds b d Q hf r e q
  have go : ∀ {a : Addr} {xs : List V} {l : List D} {d0 : D}, Reps K fr H xs l → xs.length ≤ sizeLine → dpairs l [] [] = some d0 → (SqL K H a xs ∨ ∃ o, o.dict = none ∧ H a = some (.frz o (.tup xs))) → OPost K fr H true d0 Q → rDictP K [.ref a] H Q := fun {a xs l d0} x1 z1 e hs q => by
    obtain ⟨ps, es, ks', xs', rfl, g2, rfl, g4, g5⟩ := dpairs_ok l xs [] [] [] d0 x1 rfl .nil e
    rw [List.length_map] at z1
    exact ⟨a, ps, es, rfl, hs, g2, z1, fun p hp => (q.2 p _ hp).2 rfl (.dic upd_same (putsK_le g2 z1) g4 (g5.keep (rep_new' hf hp)))⟩
  cases r with
  | nil => exact nomatch e
  | @cons _ _ x0 ds r1 r2 =>
  cases r2 with
  | @cons _ _ y0 ds _ _ =>
    have e0 : fDictp (x0 :: y0 :: ds) = none := by first | rfl | (cases x0 <;> rfl)
    exact nomatch e0.symm.trans e
  | nil =>
    cases x0 with
    | lst l =>
      simp only [opf, fDictp, Option.map_eq_some_iff, Prod.mk.injEq] at e
      obtain ⟨d0, e1, rfl, rfl⟩ := e
      obtain ⟨a, xs, rfl, h1, z1, x1⟩ := r1.lst
      exact go x1 z1 e1 (.inl (.of h1)) q
    | kt l =>
      simp only [opf, fDictp, Option.map_eq_some_iff, Prod.mk.injEq] at e
      obtain ⟨d0, e1, rfl, rfl⟩ := e
      cases r1 with
      | ow r => cases r
      | sh r => cases r with | kt f n h z x1 => exact go x1 z e1 (.inr ⟨_, n, h⟩) q
    | _ => exact nomatch e
end Fly
end

section
set_option Elab.async false
set_option linter.all false
set_option maxRecDepth 100000
set_option maxHeartbeats 4000000
/-! looks into dicts with a default, stores of slices (FlyNew2). -/
namespace Fly
open PySem L2 PySem.Spec PyProof.Rows
section
variable {T : XT} {K : PySem.W.Frag} {W : WX} {cf : Nat → List Sl → CR} {G : Nat → V} {fr fr' Fo Fo' : AP} {H H' : Hp} {σv : L2.St} {σd σd' : List Sl}
theorem Rep0.ofAtom {v : V} {d : D} (r : Rep0 K fr H v d) (a : atom d = true) : Rep K fr H v d := by
  cases r with
  | sh h => exact h
  | ow h => cases h <;> cases a
theorem dget_none {k : List Int} : ∀ {ks : List (List Int)} {ds : List D}, ks.length = ds.length → dget ks ds k = none → k ∉ ks
  | [], _, _, _ => by simp
  | x :: ks, [], h, _ => by simp at h
  | x :: ks, d :: ds, h, e => by
    rw [dget] at e
    split at e
    · cases e
    · rename_i c
      have := dget_none (by simpa using h) e
      simp only [List.mem_cons, not_or]
      exact ⟨fun z => c z.symm, this⟩
/-- a.get(k, d) -/
theorem ge_dgt {a k d : E} {ta tk td : TE} (ha : GE T K W cf a ta) (hk : GE T K W cf k tk) (hd : GE T K W cf d td) : GE T K W cf (.dgt a k d) (tDGet2 ta tk td) := fun G fr Fo H σv σd Q S hq => by
  refine ha G fr Fo H σv σd _ S ?_
  simp only [ev, R.andThen] at hq
  cases ea : ev cf a σd with
  | bad => rw [ea] at hq; exact hq
  | ex c fs σ1 => rw [ea] at hq; exact hq
  | ok ts σ1 =>
    rw [ea] at hq
    intro vs fr1 H1 A1 S1 R1 v hv
    subst hv
    obtain ⟨t, rfl, r1⟩ := R1.one'
    simp only at hq
    split at hq
    rotate_left
    · exact hq.elim
    rename_i ks0 vs0 el0
    obtain ⟨p, kvs0, rfl, h1, z1, k1, x1⟩ := (r1.look S1 el0).dic
    refine ⟨p, rfl, .inr ⟨kvs0, h1⟩, ?_⟩
    refine hk G fr1 (addF Fo (.ref p) t) H1 σv σ1 _ (S1.addF r1) ?_
    cases ek : ev cf k σ1 with
    | bad => rw [ek] at hq; exact hq
    | ex c fs σ2 => rw [ek] at hq; exact fun cls dx fr2 H2 A2 S2 => hq cls dx fr2 H2 (A1.trans (A2.less addF_sub)) (S2.less addF_sub)
    | ok us σ2 =>
      rw [ek] at hq
      intro ws fr2 H2 A2 S2 R2 w hw
      subst hw
      obtain ⟨u, rfl, r2⟩ := R2.one'
      simp only at hq
      have r1' := r1.keep A2 S2
      refine hd G fr2 (addF (addF Fo (.ref p) t) w u) H2 σv σ2 _ (S2.addF r2) ?_
      have sub2 : ∀ x, addF Fo (.ref p) t x → addF (addF Fo (.ref p) t) w u x := fun x f => .inl f
      cases ed : ev cf d σ2 with
      | bad => rw [ed] at hq; exact hq
      | ex c fs σ3 => rw [ed] at hq; exact fun cls dx fr3 H3 A3 S3 => hq cls dx fr3 H3 (A1.trans ((A2.trans (A3.less sub2)).less addF_sub)) (S3.less fun x f => .inl (.inl f))
      | ok xs σ3 =>
        rw [ed] at hq
        intro ys fr3 H3 A3 S3 R3 y hy
        subst hy
        obtain ⟨c, rfl, r3⟩ := R3.one'
        simp only at hq
        have r2' := r2.keep A3 S3
        have S3a := S3.less sub2
        have S3b : Sim K G fr3 Fo H3 σv σ3 := S3a.less addF_sub
        have r1'' := r1'.keep (A3.less sub2) S3a
        split at hq
        · rename_i ks ds l x e1 e2 e3
          split at hq
          · rename_i hat
            split at hq
            · rename_i kk ek2
              obtain ⟨p', kvs, ep, h3, z3, k3, x3⟩ := (r1''.look S3b e1).dic
              cases ep
              obtain ⟨b, rfl, hb⟩ := (r2'.look S3a e2).key ek2
              have rx := (r3.look S3 e3).ofAtom hat
              have dg := dget_rd (k := keyI kk) h3 hb
              refine ⟨_, dg, ?_⟩
              have AA : Aft fr Fo H fr3 H3 := A1.trans ((A2.trans (A3.less sub2)).less addF_sub)
              have fin : ∀ z, Rep K fr3 H3 z ((dget ks ds kk).getD x) → Q z H3 := fun z rz => hq [z] fr3 H3 AA S3b ⟨.tv rz, True.intro⟩ z rfl
              apply fin
              obtain ⟨g1, g2⟩ := dic_val (k := kk) k3 x3
              cases eg : dget ks ds kk with
              | some d' =>
                obtain ⟨v', f1, f2⟩ := g1 d' eg
                rw [f1]
                exact f2
              | none =>
                have hl : ks.length = ds.length := by
                  have a1 := dic_len k3
                  have a2 := x3.length
                  rw [List.length_map] at a2
                  omega
                have nm := dget_none hl eg
                cases ev2 : valV kvs (keyI kk) with
                | none => exact rx
                | some v' =>
                  rw [ev2] at g2
                  exact absurd (of_decide_eq_true g2.symm) nm
            · exact hq.elim
          · exact hq.elim
        · exact hq.elim

/-! ### name[lo:hi] = e -/
theorem gs_setS {i : Nat} {lo hi e : E} {te : TE} {tl th : TO} (h : GE T K W cf e te) (hl : GP T K W cf lo tl) (hh : GP T K W cf hi th) : GS T K W cf (.setS i lo hi e) (tAsg te (gSlS (tVar i) tl th)) := fun G fr Fo H σv σd D S hq => by
  refine h G fr Fo H σv σd _ S ?_
  simp only [exec, R.toFw] at hq
  cases ee : ev cf e σd with
  | bad => rw [ee] at hq; exact hq
  | ex c fs σ1 => rw [ee] at hq; exact hq σv
  | ok ts σ1 =>
    rw [ee] at hq
    intro vs fr1 H1 A1 S1 R1 v hv
    subst hv
    obtain ⟨t, rfl, r1⟩ := R1.one'
    simp only at hq
    split at hq
    rotate_left
    · exact hq.elim
    rename_i p0 x0 ei0
    obtain ⟨a, h1, h2, h3, h4, h5⟩ := S1.slot i _ ei0
    refine ⟨.ref a, h1, ?_⟩
    have fin : ∀ {l u : Option Int} {σ3 : List Sl} {fr3 H3}, Aft fr1 (addF Fo v t) H1 fr3 H3 → Sim K G fr3 (addF Fo v t) H3 σv σ3 →
        FPost T K W G fr Fo H (match look σ3 t, σ3[i]? with
          | some (.lst ys), some (.ow p (.lst xs)) => if t.isBr i then .bad else match setsl xs l u ys with
            | some zs => .nx (σ3.set i (.ow p (.lst zs)))
            | none => .bad
          | _, _ => .bad) D →
        ∃ (a' b : Addr) (xs ys : List V), V.ref a = .ref a' ∧ v = .ref b ∧ a' ≠ b ∧ H3 a' = some (.lst xs) ∧ H3 b = some (.lst ys) ∧ xs.length + ys.length ≤ sizeLine ∧
          ((l = none ∧ u = none ∧ D.nx σv (upd H3 a' (.lst ys))) ∨ ∃ i j, l = some i ∧ u = some j ∧ 0 ≤ i ∧ i ≤ j ∧ j ≤ xs.length ∧ D.nx σv (upd H3 a' (.lst (xs.take i.toNat ++ ys ++ xs.drop j.toNat)))) := by
      intro l u σ3 fr3 H3 A3 S3 hq
      have r3 := r1.keep A3 S3
      have S3' : Sim K G fr3 Fo H3 σv σ3 := S3.less addF_sub
      have A13 : Aft fr Fo H fr3 H3 := A1.trans (A3.less addF_sub)
      split at hq
      · rename_i ys p xs e1 e2
        split at hq
        · exact hq.elim
        · rename_i hbr
          obtain ⟨b, ws, rfl, hb, zb, rb⟩ := (r3.look S3' e1).lst
          obtain ⟨a2, g1, g2, g3, g4, g5⟩ := S3'.slot i _ e2
          rw [h1] at g1
          cases g1
          cases g2 with
          | @lst us _ ha za ra =>
          have nab : a ≠ b := by
            rintro rfl
            cases r3 with
            | tv h =>
              simp only [look, Option.some.injEq] at e1
              subst e1
              cases h with | lst f _ _ _ => exact g3 f
            | tf h n1 n2 ap => exact ap i p _ e2 h1
            | @br j w h =>
              simp only [look] at e1
              split at e1
              · rename_i q
                cases e1
                obtain ⟨w', k1, k2, _⟩ := S3'.slot j _ q
                rw [h] at k1; cases k1
                cases k2 with | lst f _ _ _ => exact g3 f
              · rename_i q
                cases e1
                have := S3'.sep i j _ _ _ _ a e2 q h1 h
                subst this
                exact hbr (by simp [Tok.isBr])
              · cases e1
          have lx := ra.length
          have ly := rb.length
          have nx : ∀ (zs : List _root_.Fly.D) (vs : List V), Reps K fr3 H3 vs zs → vs.length ≤ sizeLine → FPost T K W G fr Fo H (.nx (σ3.set i (.ow p (.lst zs)))) D → D.nx σv (upd H3 a (.lst vs)) := fun zs vs rv zv hq => by
            obtain ⟨S4, A4⟩ := S3'.write (o := .lst vs) e2 h1 (.lst upd_same zv (rv.keep (upd_keep g3)))
            exact hq σv fr3 _ (A13.trans A4) S4
          split at hq
          · rename_i zs ez
            unfold setsl at ez
            split at ez
            · rename_i hz
              have hz' : us.length + ws.length ≤ sizeLine := by rw [lx, ly, ← szLine_eq]; exact hz
              refine ⟨a, b, us, ws, rfl, rfl, nab, ha, hb, hz', ?_⟩
              split at ez
              · cases ez
                exact .inl ⟨rfl, rfl, nx _ ws rb zb hq⟩
              · rename_i i0 j0
                split at ez
                · rename_i hij
                  cases ez
                  refine .inr ⟨i0, j0, rfl, rfl, hij.1, hij.2.1, by rw [lx]; exact hij.2.2, nx _ _ (((ra.take _).append rb).append (ra.drop _)) ?_ hq⟩
                  rw [List.length_append, List.length_append, List.length_take, List.length_drop]
                  omega
                · cases ez
              · cases ez
            · cases ez
          · exact hq.elim
      · exact hq.elim
    have step : ∀ {l : Option Int} {σ2 : List Sl} {fr2 H2}, Aft fr1 (addF Fo v t) H1 fr2 H2 → Sim K G fr2 (addF Fo v t) H2 σv σ2 →
        FPost T K W G fr Fo H (partF (ev cf hi σ2) fun u σ3 => match look σ3 t, σ3[i]? with
          | some (.lst ys), some (.ow p (.lst xs)) => if t.isBr i then .bad else match setsl xs l u ys with
            | some zs => .nx (σ3.set i (.ow p (.lst zs)))
            | none => .bad
          | _, _ => .bad) D →
        th σv H2 fun u H3 => ∃ (a' b : Addr) (xs ys : List V), V.ref a = .ref a' ∧ v = .ref b ∧ a' ≠ b ∧ H3 a' = some (.lst xs) ∧ H3 b = some (.lst ys) ∧ xs.length + ys.length ≤ sizeLine ∧
          ((l = none ∧ u = none ∧ D.nx σv (upd H3 a' (.lst ys))) ∨ ∃ i j, l = some i ∧ u = some j ∧ 0 ≤ i ∧ i ≤ j ∧ j ≤ xs.length ∧ D.nx σv (upd H3 a' (.lst (xs.take i.toNat ++ ys ++ xs.drop j.toNat)))) := by
      intro l σ2 fr2 H2 A2 S2 hq
      refine hh G fr2 (addF Fo v t) H2 σv σ2 _ S2 ?_
      cases eh : ev cf hi σ2 with
      | bad => rw [eh] at hq; exact hq
      | ex c fs σ3 => rw [eh] at hq; exact fun cls dx fr3 H3 A3 S3 => hq σv cls dx fr3 H3 (A1.trans ((A2.trans A3).less addF_sub)) (S3.less addF_sub)
      | ok us σ3 =>
        rw [eh] at hq
        match us, hq with
        | [], hq => exact fun fr3 H3 A3 S3 => fin (A2.trans A3) S3 hq
        | [u], hq =>
          simp only [partF] at hq
          simp only [PPost]
          split at hq
          · rename_i i el
            try rw [el]
            exact fun fr3 H3 A3 S3 => fin (A2.trans A3) S3 hq
          · exact hq.elim
        | _ :: _ :: _, hq => exact hq.elim
    refine hl G fr1 (addF Fo v t) H1 σv σ1 _ (S1.addF r1) ?_
    cases el : ev cf lo σ1 with
    | bad => rw [el] at hq; exact hq
    | ex c fs σ2 => rw [el] at hq; exact fun cls dx fr2 H2 A2 S2 => hq σv cls dx fr2 H2 (A1.trans (A2.less addF_sub)) (S2.less addF_sub)
    | ok us σ2 =>
      rw [el] at hq
      match us, hq with
      | [], hq => exact fun fr2 H2 A2 S2 => step A2 S2 hq
      | [u], hq =>
        simp only [partF] at hq
        simp only [PPost]
        split at hq
        · rename_i i e2
          try rw [e2]
          exact fun fr2 H2 A2 S2 => step A2 S2 hq
        · exact hq.elim
      | _ :: _ :: _, hq => exact hq.elim
end
end Fly
end

section
set_option Elab.async false
set_option linter.all false
set_option maxRecDepth 100000
set_option maxHeartbeats 4000000
/-! a display of texts that is looked into at once, the module's dicts of texts, len(set(x)) (FlyNew3). -/
namespace Fly
open PySem L2 PySem.Spec PyProof.Rows
section
variable {T : XT} {K : PySem.W.Frag} {W : WX} {cf : Nat → List Sl → CR}
/-! ### {"a": 1, ..}[x] -/
def selT (kvs : List (List Nat × Int)) : List (TE × TE) := kvs.map fun q => (tC (.str (toS q.1)), tC (.int q.2))
def selK (kvs : List (List Nat × Int)) : List (Key × V) := kvs.map fun q => (.inr (toS q.1), .int q.2)
theorem selT_run (σ : L2.St) (H : Hp) : ∀ (kvs : List (List Nat × Int)) (Q : List (V × V) → Hp → Prop), tPairs (selT kvs) σ H Q = Q ((selK kvs).map fun kv => (kV kv.1, kv.2)) H
  | [], Q => rfl
  | q :: r, Q => by
    show tPairs (selT r) σ H (fun ps H3 => Q ((.str (toS q.1), .int q.2) :: ps) H3) = _
    rw [selT_run σ H r]
    rfl
theorem mergeK_new : ∀ (more kvs : List (Key × V)), ((kvs ++ more).map (·.1)).Nodup → mergeK kvs more = kvs ++ more
  | [], kvs, _ => (List.append_nil kvs).symm
  | p :: r, kvs, h => by
    have hk : (kvs.any fun kv => decide (kv.1 = p.1)) = false := by
      rw [List.any_eq_false]
      intro x hx z
      rw [List.map_append, List.map_cons, List.nodup_append] at h
      exact h.2.2 _ (List.mem_map_of_mem hx) _ List.mem_cons_self (of_decide_eq_true z)
    have hp : putK kvs p.1 p.2 = kvs ++ [p] := by
      unfold putK
      rw [hk]
      rfl
    show mergeK (putK kvs p.1 p.2) r = _
    rw [hp, mergeK_new r _ (by simpa using h), List.append_assoc]
    rfl
theorem selK_look {x : List Nat} : ∀ {kvs : List (List Nat × Int)} {i : Int}, kvs.lookup x = some i → valV (selK kvs) (.inr (toS x)) = some (.int i)
  | [], i, h => by cases h
  | q :: r, i, h => by
    rw [List.lookup_cons] at h
    split at h
    · rename_i c
      cases h
      exact valV_pos (p := ((Sum.inr (toS q.1) : Key), V.int q.2)) (by rw [eq_of_beq c])
    · rename_i c
      have ne : ¬ (Sum.inr (toS q.1) : Key) = .inr (toS x) := fun z => by
        have e := toS_inj (Sum.inr.inj z)
        rw [e] at c
        simp at c
      exact (valV_neg (p := ((Sum.inr (toS q.1) : Key), V.int q.2)) ne).trans (selK_look h)
theorem selK_nodup {kvs : List (List Nat × Int)} (h : (kvs.map (·.1)).Nodup) : ((selK kvs).map (·.1)).Nodup := by
  have e : (selK kvs).map (·.1) = (kvs.map (·.1)).map fun x => (Sum.inr (toS x) : Key) := by
    unfold selK
    rw [List.map_map, List.map_map]
    rfl
  rw [e]
  exact List.Pairwise.map _ (fun a b n z => n (toS_inj (Sum.inr.inj z))) h
theorem ge_selS {kvs : List (List Nat × Int)} {m : E} {t1 : TE} (nd : (kvs.map (·.1)).Nodup) (hl : kvs.length ≤ 15) (h : GE T K W cf m t1) : GE T K W cf (.op (.selS kvs) (.cons m .nil)) (tDGet (tDisp (selT kvs)) t1) := fun G fr Fo H σv σd Q S hq p hp => by
  rw [selT_run]
  refine ⟨upd_same, selK kvs, rfl, by unfold selK; rw [List.length_map]; exact hl, ?_⟩
  rw [upd_upd, mergeK_new (selK kvs) [] (by simpa using selK_nodup nd), List.nil_append]
  have S1 : Sim K G fr Fo (upd H p (.dK (selK kvs))) σv σd := S.grow hp (fun _ f => f) fun _ f => .inl f
  have A1 : Aft fr Fo H fr (upd H p (.dK (selK kvs))) := .grow S hp (fun _ f => f) fun _ f => .inl f
  have S2 := S1.more (a := p) (by rw [upd_same]; simp) (fun f => S.frs p f hp) (S.apart_new hp) (fun xs z => by rw [upd_same] at z; cases z)
  show tCons t1 tNil σv _ fun vs H2 => ∃ a v, V.ref p = .ref a ∧ DGet H2 a (vs.headD .non) (some v) ∧ Q v H2
  refine ga_cons h ga_nil G fr (fun x => Fo x ∨ x = p) _ σv σd _ S2 ?_
  unfold ev at hq
  simp only [R.andThen] at hq
  cases e : ev cf (.cons m .nil) σd with
  | bad => rw [e] at hq; exact hq
  | ex c fs σ1 =>
    rw [e] at hq
    exact fun cls dx fr2 H2 A2 S3 => hq cls dx fr2 H2 (A1.trans (A2.less fun _ f => .inl f)) (S3.less fun _ f => .inl f)
  | ok ts σ1 =>
    rw [e] at hq
    intro vs fr1 H1 A2 S3 R1
    simp only at hq
    split at hq
    rotate_left
    · exact hq.elim
    rename_i ds el
    have R2 := R1.looks (fun _ f => f) S3 el
    have hd : H1 p = some (.dK (selK kvs)) := by rw [(A2.out p (.inr rfl)).2, upd_same]
    match ds, R2, hq with
    | [.str x], .cons r1 .nil, hq =>
      have ev1 := r1.str
      subst ev1
      simp only [opf, fSelS] at hq
      cases el2 : kvs.lookup x with
      | none => rw [el2] at hq; exact hq.elim
      | some i =>
        rw [el2] at hq
        refine ⟨p, .int i, rfl, ?_, ?_⟩
        · have g := DGet.k (k := .inr (toS x)) hd
          rw [selK_look el2] at g
          exact g
        · exact hq [.int i] fr1 H1 (A1.trans (A2.less fun _ f => .inl f)) (S3.less fun _ f => .inl f) ⟨.tv (.int i), True.intro⟩ _ rfl
theorem pe_negI {X : Cx} {i : Int} {j : Nat} {p pos : Pos} : PE X (.UnaryOp .USub (.Constant (.int i) j p) pos) (tC (.int (-i))) := ⟨fun pins s σ H Q I h => (pe_un un_neg pe_int).run pins s σ H Q I ⟨i, rfl, h⟩⟩

/-! ### the module's dicts of texts -/
def rGsel (K : PySem.W.Frag) (g : List Nat) (kvs : List (List Nat × Int)) : R2 := fun x y H Q => x = .ref (He.ga K (toS g)) ∧ ∃ q ∈ kvs, y = .str (toS q.1) ∧ Q (.int q.2) H
def rGin (K : PySem.W.Frag) (g : List Nat) (kvs : List (List Nat × Int)) : R2 := fun x y H Q => y = .ref (He.ga K (toS g)) ∧ ∃ q ∈ kvs, x = .str (toS q.1) ∧ Q (.bl true) H
/-- what is known of such a dict -/
def GdOk (K : PySem.W.Frag) (w : World) (a : Addr) (kvs : List (List Nat × Int)) : Prop := ∃ es n, KDict K w a es n ∧ ∀ q ∈ kvs, ∃ u, PySem.W.nsIn K a (toS q.1) = some (some u) ∧ RelV (.int q.2) u
theorem ix_gsel {X : Cx} {g : List Nat} {kvs : List (List Nat × Int)} (D : GdOk X.K X.w (He.ga X.K (toS g)) kvs) : IxR X (rGsel X.K g kvs) := by
  intro value slice pins s σ H x y v u Q I rx ry h hs
  obtain ⟨rfl, q, hq, rfl, z⟩ := h
  obtain ⟨es, n, d, ds⟩ := D
  obtain ⟨u0, h1, h2⟩ := ds q hq
  exact ix_kdict value slice pins s σ H _ _ v u Q I rx ry ⟨_, _, .int q.2, rfl, rfl, ⟨es, n, u0, d.at_, d.lit, h1, h2⟩, z⟩ hs
theorem op_gin {X : Cx} {g : List Nat} {kvs : List (List Nat × Int)} (D : GdOk X.K X.w (He.ga X.K (toS g)) kvs) : OpR X (compareOp .In) (rGin X.K g kvs) := by
  intro pins s σ H x y v u Q I rx ry h
  obtain ⟨rfl, q, hq, rfl, z⟩ := h
  obtain ⟨es, n, d, ds⟩ := D
  obtain ⟨u0, h1, h2⟩ := ds q hq
  exact op_in_kd d pins s σ H _ _ v u Q I rx ry ⟨_, _, rfl, rfl, h1, z⟩
theorem mem_of_look {x : List Nat} {i : Int} : ∀ {kvs : List (List Nat × Int)}, kvs.lookup x = some i → (x, i) ∈ kvs
  | [], h => by cases h
  | (y, c) :: r, h => by
    rw [List.lookup_cons] at h
    split at h
    · rename_i e
      cases h
      rw [eq_of_beq e]
      exact List.mem_cons_self
    · exact List.mem_cons_of_mem _ (mem_of_look h)
theorem ok_gsel {g : List Nat} {kvs : List (List Nat × Int)} : OpOk K (.gsel g kvs) (l1 fun y H Q => rGsel K g kvs (.ref (He.ga K (toS g))) y H Q) := by
  intro fr H vs ds b d Q hf r e q
  cases r with
  | nil => exact nomatch e
  | @cons _ _ x0 ds r1 r2 =>
  cases r2 with
  | @cons _ _ y0 ds _ _ =>
    have e0 : (fSelS kvs) (x0 :: y0 :: ds) = none := by first | rfl | (cases x0 <;> rfl)
    exact nomatch e0.symm.trans e
  | nil =>
    cases x0 with
    | str x =>
      simp only [opf, fSelS, Option.map_eq_some_iff, Prod.mk.injEq] at e
      obtain ⟨i, e1, rfl, rfl⟩ := e
      rw [r1.str]
      exact ⟨rfl, (x, i), mem_of_look e1, rfl, q.int⟩
    | _ => exact nomatch e
theorem ok_gin {g : List Nat} {kvs : List (List Nat × Int)} : OpOk K (.gin g kvs) (l1 fun x H Q => rGin K g kvs x (.ref (He.ga K (toS g))) H Q) := by
  intro fr H vs ds b d Q hf r e q
  cases r with
  | nil => exact nomatch e
  | @cons _ _ x0 ds r1 r2 =>
  cases r2 with
  | @cons _ _ y0 ds _ _ =>
    have e0 : (fGin kvs) (x0 :: y0 :: ds) = none := by first | rfl | (cases x0 <;> rfl)
    exact nomatch e0.symm.trans e
  | nil =>
    cases x0 with
    | str x =>
      simp only [opf, fGin, Option.map_eq_some_iff, Prod.mk.injEq] at e
      obtain ⟨i, e1, rfl, rfl⟩ := e
      rw [r1.str]
      exact ⟨rfl, (x, i), mem_of_look e1, rfl, q.bl⟩
    | _ => exact nomatch e
end

/-! ### len(set(x)), x a list of numbers -/
/-- a set of so many things -/
def CntO (a : Addr) (n : Nat) : HO := .ext fun h => ∃ o es ep t, h.get? a = some o ∧ o.ExactSet ∧ o.data = .set es ep t ∧ t.fits es.size = true ∧ es.size = n
theorem cntO_new {P : Program} {w : World} {H : Hp} {h : Heap} {a : Addr} {n : Nat} (x : ∃ o es ep t, h.get? a = some o ∧ o.ExactSet ∧ o.data = .set es ep t ∧ t.fits es.size = true ∧ es.size = n) : ObjOk P w H h a (CntO a n) := by
  refine ⟨x, let ⟨o, _, _, _, ho, _⟩ := x; ⟨o, ho⟩, fun h1 h2 z k => ?_⟩
  obtain ⟨o, es, ep, t, ho, r⟩ := z
  exact ⟨o, es, ep, t, k o ho, r⟩
def rCntSet (K : PySem.W.Frag) : List V → Hp → VK → Prop := fun xs H Q => ∃ (l : Addr) (ns : List Int), xs = [.ref l] ∧ (SqL K H l (ns.map V.int) ∨ SqT K H l (ns.map V.int)) ∧ ns.length ≤ 1000 ∧ ∀ q, H q = none → Q (.ref q) (upd H q (CntO q (dedup ns).length))
def rCntLen : List V → Hp → VK → Prop := fun xs H Q => ∃ (q : Addr) (n : Nat), xs = [.ref q] ∧ H q = some (CntO q n) ∧ n ≤ 1000 ∧ Q (.int n) H
theorem dedup_len : ∀ ns : List Int, (dedup ns).length ≤ ns.length
  | [] => Nat.le_refl _
  | x :: l => by
    unfold dedup
    have := dedup_len l
    split
    · exact Nat.le_succ_of_le this
    · rw [List.length_cons, List.length_cons]
      omega
theorem met_nodup (f : Nat → Int) : ∀ i, (firstMet f i).Nodup
  | 0 => List.nodup_nil
  | i + 1 => by
    rw [firstMet_succ]
    unfold step_dedup
    have ih := met_nodup f i
    split
    · exact ih
    · rename_i c
      refine List.nodup_append.mpr ⟨ih, List.nodup_cons.mpr ⟨List.not_mem_nil, List.nodup_nil⟩, fun a ha b hb e => c ?_⟩
      rw [List.mem_singleton.mp hb] at e
      exact List.any_eq_true.mpr ⟨a, ha, by rw [e]; exact beq_self_eq_true _⟩
theorem met_len (ns : List Int) : (firstMet (fun i => ns.getD i 0) ns.length).length = (dedup ns).length := by
  refine (nodup_perm (met_nodup _ _) (dedup_nodup ns) fun x => ?_).length_eq
  have e : (List.range ns.length).map (fun i => ns.getD i 0) = ns := by
    refine List.ext_getElem (by simp) fun i h1 h2 => ?_
    simp [List.getElem?_eq_getElem h2]
  have q := firstMet_any (fun i => ns.getD i 0) ns.length x
  rw [e] at q
  rw [dedup_mem]
  have two : ∀ l : List Int, l.any (· == x) = true ↔ x ∈ l := fun l => by simp
  rw [← two, ← two, q]
section
variable {X : Cx}
theorem cr_cntSet (hc : X.calm = true) : CallR X (.type "set") (rCntSet X.K) := by
  intro pins s σ H xs us Q I r h
  obtain ⟨l, ns, rfl, hq, hl, q⟩ := h
  rw [Vals.ref1 r]
  rcases hq with hq | sq
  rotate_left
  · obtain ⟨its, rv, tp, hz⟩ := I.tuple sq
    refine call_set_tupI ns (I.ok.hd hc) tp (by simpa using rv.ints) (by unfold scanBound; omega) fun h' tk c R hle hk => ?_
    obtain ⟨o, es, ep, t, ho, hex, hd, _, hn, hm, _, hf, hsz, _⟩ := R
    have e : es.size = (dedup ns).length := by
      have p := nodup_perm hn (dedup_nodup ns) fun k => by rw [dedup_mem, ← hm k, decide_eq_true_eq]
      have := p.length_eq
      rw [List.length_map] at this
      simpa using this
    exact ⟨.ref s.heap.objs.size, _, I.laid (a := s.heap.objs.size) hk (Nat.le_refl _) (cntO_new (n := (dedup ns).length) ⟨o, es, ep, t, ho, hex, hd, hf, e⟩), rfl, q _ (I.hok.fresh (Nat.le_refl _))⟩
  obtain ⟨its, rv, pl, hz⟩ := I.list hq
  have hi := rv.ints
  have hn : its.toArray.size = ns.length := by rw [List.size_toArray, hi.length]
  refine call_set_list (I.ok.hd hc) pl.isList (by simpa using hi) (by rw [hn]; unfold scanBound; omega) fun h' tk hS hk => ?_
  rw [hn] at hS
  obtain ⟨o, es, ep, t, ho, hex, hd, _, _, _, hf, hm⟩ := hS
  refine ⟨.ref s.heap.objs.size, _, I.laid (t' := tk) (fun b o e => hk b o (Heap.lt_size e) e) (Nat.le_refl _) (cntO_new (n := (dedup ns).length) ⟨o, es, ep, t, ho, hex, hd, hf, ?_⟩), rfl, q _ (I.hok.fresh (Nat.le_refl _))⟩
  rw [hm, met_len]
theorem cr_cntLen : CallR X (.builtin "len") rCntLen := by
  intro pins s σ H xs us Q I r h
  obtain ⟨a, n, rfl, ha, hl, q⟩ := h
  rw [Vals.ref1 r]
  obtain ⟨⟨o, es, ep, t, ho, hex, hd, hf, hn⟩, _⟩ := I.hok a _ ha
  exact call_len_set ho hex hd hf (by rw [hn]; omega) ⟨.int n, H, I.tok _, ⟨_, by rw [hn]⟩, q⟩
end
section
variable {T : XT} {K : PySem.W.Frag} {W : WX} {cf : Nat → List Sl → CR}
theorem ge_lenset {m : E} {t1 : TE} (h : GE T K W cf m t1) : GE T K W cf (.op .lenset (.cons m .nil)) (tCB rCntLen (tCons (tCB (rCntSet K) (tCons t1 tNil)) tNil)) := fun G fr Fo H σv σd Q S hq => by
  refine ga_cons h ga_nil G fr Fo H σv σd (fun vs H1 => rCntSet K vs H1 (fun v H2 => rCntLen [v] H2 Q)) S ?_
  unfold ev at hq
  simp only [R.andThen] at hq
  cases e : ev cf (.cons m .nil) σd with
  | bad => rw [e] at hq; exact hq
  | ex c fs σ1 => rw [e] at hq; exact hq
  | ok ts σ1 =>
    rw [e] at hq
    intro vs fr1 H1 A1 S1 R1
    simp only at hq
    split at hq
    rotate_left
    · exact hq.elim
    rename_i ds el
    have R2 := R1.looks (fun _ f => f) S1 el
    match ds, R2, hq with
    | [.lst l], .cons r1 .nil, hq =>
      simp only [opf, fLenset] at hq
      obtain ⟨a, xs, rfl, h1, z1, x1⟩ := r1.lst
      by_cases hl : l.length ≤ 40
      rotate_left
      · rw [if_neg hl] at hq; exact hq.elim
      rw [if_pos hl] at hq
      cases e1 : toInts l with
      | none => rw [e1] at hq; exact hq.elim
      | some ns =>
        rw [e1] at hq
        have := x1.of_ints e1
        subst this
        have hn : ns.length ≤ 40 := by
          have := x1.length
          rw [List.length_map] at this
          omega
        have hd := dedup_len ns
        refine ⟨a, ns, rfl, .inl (.of h1), by omega, fun q hn => ⟨q, _, rfl, upd_same, by omega, ?_⟩⟩
        have S2 := S1.grow (o := CntO q (dedup ns).length) hn (fun _ f => f) fun _ f => .inl f
        have A2 := Aft.grow (o := CntO q (dedup ns).length) S1 hn (fun _ f => f) fun _ f => .inl f
        exact hq [.int (dedup ns).length] fr1 _ (A1.trans A2) S2 ⟨.tv (.int _), True.intro⟩ _ rfl
    | [.tup l], .cons r1 .nil, hq =>
      simp only [opf, fLenset] at hq
      obtain ⟨a, xs, rfl, h1, z1, x1, _⟩ := r1.tup
      by_cases hl : l.length ≤ 40
      rotate_left
      · rw [if_neg hl] at hq; exact hq.elim
      rw [if_pos hl] at hq
      cases e1 : toInts l with
      | none => rw [e1] at hq; exact hq.elim
      | some ns =>
        rw [e1] at hq
        have := x1.of_ints e1
        subst this
        have hn : ns.length ≤ 40 := by
          have := x1.length
          rw [List.length_map] at this
          omega
        have hd := dedup_len ns
        refine ⟨a, ns, rfl, .inr h1, by omega, fun q hn => ⟨q, _, rfl, upd_same, by omega, ?_⟩⟩
        have S2 := S1.grow (o := CntO q (dedup ns).length) hn (fun _ f => f) fun _ f => .inl f
        have A2 := Aft.grow (o := CntO q (dedup ns).length) S1 hn (fun _ f => f) fun _ f => .inl f
        exact hq [.int (dedup ns).length] fr1 _ (A1.trans A2) S2 ⟨.tv (.int _), True.intro⟩ _ rfl
end
end Fly
end

section
set_option Elab.async false
set_option linter.all false
set_option maxRecDepth 100000
set_option maxHeartbeats 4000000
/-! isinstance(o, C), o a thing that C made (FlyIsc): its type is C itself, so nothing else is asked. -/
namespace Fly
open PySem PySem.Spec PyProof.Rows L2
theorem isc_meets {a C : Addr} {ox : Obj} {od : Option Obj} (dep : Int) (tk : PySem.Tok) :
    Meets (Builtin.«isinstance.nested» ⟨[.ref a, .ref C, .int dep tk], []⟩) (fun _ R s => PySem.W.InstAt s.heap a ox C od ∧ ∀ t, R (.ok (.ret (.bool true))) { s with toks := t }) := by
  intro prog w A R s hs
  obtain ⟨h, g, d, tt, os⟩ := s
  unfold Builtin.«isinstance.nested»
  refine wpAny_bind ((PySem.W.InstAt.type (M := model prog w) hs.1).at ?_)
  simp only [beq_self_eq_true, if_true]
  first
    | exact wpAny_bind (wpAny_rule (wpAny_pure (hs.2 _)))
    | exact wpAny_bind (wpAny_rule (hs.2 _))
    | exact wpAny_pure (hs.2 tt)
    | exact hs.2 tt
theorem cr_isc {X : Cx} {C : Addr} : CallR X (.builtin "isinstance") (fun xs H Q => ∃ a dx fs, xs = [.ref a, .ref C] ∧ H a = some (.ins C dx fs) ∧ Q (.bl true) H) := by
  intro pins s σ H xs us Q I r h
  obtain ⟨a, dx, fs, rfl, ha, q⟩ := h
  obtain ⟨u, u2, rfl, ru, ru2⟩ := vals2 r
  cases ru2
  cases (show u = Value.ref a from ru)
  obtain ⟨mA, O, _⟩ := ins_get I.hok ha
  obtain ⟨od, J, _⟩ := O.look
  exact call_isinstance (S := fun _ R s => PySem.W.InstAt s.heap a (PySem.W.instObj C dx) C (some od) ∧ ∀ t, R (.ok (.ret (.bool true))) { s with toks := t })
    (fun prog w A R s hs => isinstance_outer (isc_meets 0 _ prog w A R s hs) (fun z => nomatch z)) ⟨J, fun t => ⟨.bl true, H, I.tok t, rfl, q⟩⟩
section
variable {K : PySem.W.Frag}
def rIsc (K : PySem.W.Frag) (c : List Nat) : List V → Hp → VK → Prop := fun xs H Q => ∃ a dx fs, xs = [.ref a, .ref (He.ga K (toS c))] ∧ H a = some (.ins (He.ga K (toS c)) dx fs) ∧ Q (.bl true) H
theorem ok_isc {c : List Nat} : OpOk K (.isc c) (l1 fun x H Q => rIsc K c [x, .ref (He.ga K (toS c))] H Q) := by
  intro fr H vs ds b d Q hf r e q
  match ds, r, e with
  | [.ins c' ns fs], .cons r1 .nil, e =>
    have e0 : opf (Op.isc c) [.ins c' ns fs] = if c' = c then some (false, .bl true) else none := rfl
    rw [e0] at e
    by_cases hc : c' = c
    · rw [if_pos hc] at e
      simp only [Option.some.injEq, Prod.mk.injEq] at e
      obtain ⟨e1, e2⟩ := e
      subst hc e1 e2
      obtain ⟨a, dx, vs, rfl, h1, -, -⟩ := r1.ins
      exact ⟨a, dx, _, rfl, h1, q.1 rfl _ (.bl _)⟩
    · rw [if_neg hc] at e
      cases e
end
end Fly
end

section
set_option Elab.async false
set_option linter.all false
set_option maxRecDepth 100000
set_option maxHeartbeats 4000000
/-! sorted of a list of pairs, each of a row and a number (FlySpair): the library's sort of lists that read as data. -/
namespace Fly
open PySem L2 PySem.Spec PyProof.Rows
abbrev TupInt : Type := PySem.W.Tup Int × Int
def prT (p : List Int × Int) : TupInt := (⟨p.1⟩, p.2)
def prE (q : Addr × (List Int × Int)) : PyData := PySem.W.Datum.toD (prT q.2)
theorem listLt_lex : ∀ a b : List Int, PySem.W.listLt a b = lexI a b
  | [], [] => rfl
  | [], _ :: _ => rfl
  | _ :: _, [] => rfl
  | x :: xs, y :: ys => by
    rw [PySem.W.listLt, lexI]
    by_cases h : x = y
    · rw [if_pos h, if_pos h, listLt_lex xs ys]
    · rw [if_neg h, if_neg h]
      rfl
theorem lt_prE (a b : Addr × (List Int × Int)) : PySem.W.dataLt (prE a) (prE b) = pLt a.2 b.2 := by
  unfold prE
  rw [PySem.W.DatumOrd.lt_eq]
  show (if (prT a.2).1 = (prT b.2).1 then decide (a.2.2 < b.2.2) else PySem.W.listLt a.2.1 b.2.1) = _
  unfold pLt prT
  rw [listLt_lex]
  by_cases h : a.2.1 = b.2.1
  · rw [if_pos h, if_pos (by rw [h])]
  · rw [if_neg h, if_neg (fun e => h (congrArg PySem.W.Tup.items e))]
theorem le_prE : PySem.W.dataLe false prE = fun a b => !pLt b.2 a.2 := by
  rw [PySem.W.dataLe_eq]
  funext a b
  show (!PySem.W.dataLt (prE b) (prE a)) = _
  rw [lt_prE]
/-- sorted(x), x a list of such pairs -/
def rSortPr (K : PySem.W.Frag) : List V → Hp → VK → Prop := fun vs H Q => ∃ (a : Addr) (L : List (Addr × (List Int × Int))), vs = [V.ref a] ∧ SqL K H a (L.map fun p => V.ref p.1) ∧ (∀ p ∈ L, Dp K H (.ref p.1) (prE p)) ∧
  ∀ q : Addr, H q = none → Q (.ref q) (upd H q (.lst ((L.mergeSort fun x y => !pLt y.2 x.2).map fun p => V.ref p.1)))
theorem each_refs : ∀ {us : List Value} {L : List (Addr × (List Int × Int))}, PySem.W.EachIs (fun v p => v = Value.ref p.1) us L → us = L.map fun p => Value.ref p.1
  | _, _, .nil => rfl
  | _, _, .cons h t => by rw [h, each_refs t]; rfl
theorem vals_each : ∀ {L : List (Addr × (List Int × Int))} {us : List Value}, Vals (L.map fun p => V.ref p.1) us → PySem.W.EachIs (fun v p => v = Value.ref p.1) us L
  | [], _, .nil => .nil
  | p :: L, _, .cons h t => by
    cases h
    exact .cons rfl (vals_each t)
theorem each_vals : ∀ L : List (Addr × (List Int × Int)), Vals (L.map fun p => V.ref p.1) (L.map fun p => Value.ref p.1)
  | [] => .nil
  | _ :: L => .cons rfl (each_vals L)
theorem each_mem {us : List Value} {L : List (Addr × (List Int × Int))} {S : Value → (Addr × (List Int × Int)) → Prop} (h : PySem.W.EachIs (fun v p => v = Value.ref p.1) us L) (hS : ∀ p ∈ L, S (.ref p.1) p) : PySem.W.EachIs S us L := by
  induction h with
  | nil => exact .nil
  | @cons v p us L e t ih =>
    subst e
    exact .cons (hS p List.mem_cons_self) (ih fun q hq => hS q (List.mem_cons_of_mem _ hq))
theorem depth_prE (p : Addr × (List Int × Int)) : (prE p).depth ≤ 10 := Nat.le_trans (PySem.W.Datum.depth_le _) (by decide)
theorem cr_sortPr {X : Cx} (hu : X.A.units + 64 < cLine) : CallR X (.builtin "sorted") (rSortPr X.K) := by
  intro pins s σ H vs us Q I r h
  obtain ⟨a, L, rfl, hs, hd, q⟩ := h
  obtain ⟨its, rv, hl, hz⟩ := I.list hs
  rw [Vals.ref1 r]
  have e := vals_each rv
  refine PySem.W.sorted_data (enc := prE) (R := fun v p => v = Value.ref p.1) (bs := L) hl.isList e (each_mem e fun p hp => Dp.reads I _ _ _ (hd p hp) rfl)
    (PySem.W.AllAlike.of fun b b' => PySem.W.DatumOrd.alike _ _) (PySem.W.Sortable.tuples fun b => ⟨_, _, rfl⟩) (by rw [List.length_map] at hz; exact hz) (fun b _ => by have := depth_prE b; omega) fun out ho he => ?_
  rw [le_prE] at he
  obtain ⟨ep, he'⟩ := PyProof.Rows.sortedAll_at s.heap its out.toArray
  have eo := each_refs he
  subst eo
  refine ⟨.ref _, _, I.laid (t' := s.toks) (o := .lst ((L.mergeSort fun x y => !pLt y.2 x.2).map fun p => V.ref p.1)) (fun _ _ => PyProof.Rows.sortedAll_old) (Nat.le_succ _) ⟨?_, _, ep, each_vals _, he'⟩, rfl, q _ (I.hok.fresh (Nat.le_succ _))⟩
  rw [List.length_map, List.length_mergeSort]
  rw [List.length_map] at hz
  exact hz
section
variable {K : PySem.W.Frag} {fr : AP} {H : Hp}
theorem toPs_ints : ∀ l : List Int, toPs (l.map .int) = l.map PySem.W.Datum.toD
  | [] => rfl
  | x :: l => by
    rw [List.map_cons, List.map_cons, toPs, toPs_ints l]
    rfl
theorem toP_pr (p : Addr × (List Int × Int)) : toP (prqD p.2) = prE p := by
  unfold prqD prE prT
  simp only [toP, toPs, toPs_ints]
  rfl
theorem flat_ints (n : Nat) : ∀ l : List Int, flats n (l.map D.int) = true
  | [] => by simp [flats]
  | x :: l => by
    rw [List.map_cons]
    unfold flats
    rw [flat_ints n l, Bool.and_true]
    cases n <;> simp [flat]
theorem flat_pr (p : List Int × Int) : flat 10 (prqD p) = true := by
  unfold prqD
  have h : flat 9 (D.tup (p.1.map .int)) = true := by
    unfold flat
    exact flat_ints 8 p.1
  unfold flat
  unfold flats
  rw [h]
  rfl
theorem toInts_back : ∀ {ds : List D} {is : List Int}, toInts ds = some is → ds = is.map .int
  | [], _, h => by cases h; rfl
  | .int x :: ds, _, h => by
    rw [toInts, Option.map_eq_some_iff] at h
    obtain ⟨l, h1, rfl⟩ := h
    rw [toInts_back h1]
    rfl
  | .non :: _, _, h => nomatch h
  | .bl _ :: _, _, h => nomatch h
  | .str _ :: _, _, h => nomatch h
  | .tup _ :: _, _, h => nomatch h
  | .lst _ :: _, _, h => nomatch h
  | .dic _ _ :: _, _, h => nomatch h
  | .ins _ _ _ :: _, _, h => nomatch h
  | .fn _ :: _, _, h => nomatch h
  | .scr _ :: _, _, h => nomatch h
  | .kt _ :: _, _, h => nomatch h
theorem prsI_back : ∀ {ds : List D} {ps : List (List Int × Int)}, prsI ds = some ps → ds = ps.map prqD := by
  intro ds
  induction ds with
  | nil =>
    intro ps h
    cases h
    rfl
  | cons d ds ih =>
    intro ps h
    unfold prsI at h
    split at h
    · rename_i e
      cases e
    · rename_i r i l e
      cases e
      split at h
      · rename_i k qs e1 e2
        cases h
        rw [ih e2, toInts_back e1]
        rfl
      · cases h
    · cases h
theorem reps_prs : ∀ {ps : List (List Int × Int)} {vs : List V}, Reps K fr H vs (ps.map prqD) → ∃ L : List (Addr × (List Int × Int)), vs = L.map (fun p => V.ref p.1) ∧ ps = L.map (·.2) ∧ ∀ p ∈ L, Rep K fr H (.ref p.1) (prqD p.2)
  | [], _, h => by
    cases h
    exact ⟨[], rfl, rfl, fun _ h => nomatch h⟩
  | p :: ps, _, h => by
    rw [List.map_cons] at h
    cases h with
    | @cons v vs _ _ r t =>
      obtain ⟨L, rfl, rfl, hL⟩ := reps_prs t
      obtain ⟨a, rfl⟩ : ∃ a, v = V.ref a := by
        unfold prqD at r
        cases r with
        | tup _ _ _ => exact ⟨_, rfl⟩
      refine ⟨(a, p) :: L, rfl, rfl, fun q hq => ?_⟩
      rcases List.mem_cons.mp hq with rfl | hq
      · exact r
      · exact hL q hq
theorem reps_of : ∀ L : List (Addr × (List Int × Int)), (∀ p ∈ L, Rep K fr H (.ref p.1) (prqD p.2)) → Reps K fr H (L.map fun p => V.ref p.1) (L.map fun p => prqD p.2)
  | [], _ => .nil
  | p :: L, h => .cons (h p List.mem_cons_self) (reps_of L fun q hq => h q (List.mem_cons_of_mem _ hq))
theorem ok_sortp : OpOk K .sortp (rSortPr K) := by
  intro fr H vs ds b d Q hf r e q
  cases r with
  | nil => exact nomatch e
  | @cons v vs x ds r1 r2 =>
  cases r2 with
  | @cons _ _ y ds _ _ =>
    have e0 : fSortp (x :: y :: ds) = none := by cases x <;> rfl
    exact nomatch e0.symm.trans e
  | nil =>
    cases x with
    | lst l =>
      have e : (prsI l).map (fun ps => (true, D.lst ((psort ps).map prqD))) = some (b, d) := e
      rw [Option.map_eq_some_iff] at e
      obtain ⟨ps, e1, e2⟩ := e
      simp only [Prod.mk.injEq] at e2
      obtain ⟨e2, e3⟩ := e2
      subst e2 e3
      obtain ⟨a, xs, rfl, h1, z1, x1⟩ := r1.lst
      rw [prsI_back e1] at x1
      obtain ⟨L, rfl, rfl, hL⟩ := reps_prs x1
      refine ⟨a, L, rfl, .of h1, fun p hp => toP_pr p ▸ (hL p hp).dp (flat_pr p.2), fun p hp => ?_⟩
      have em : psort (L.map (·.2)) = (L.mergeSort fun x y => !pLt y.2 x.2).map (·.2) := (List.map_mergeSort (f := fun p : Addr × (List Int × Int) => p.2) (r := fun (x y : Addr × (List Int × Int)) => !pLt y.2 x.2) (s := fun (x y : List Int × Int) => !pLt y x) (l := L) (fun _ _ _ _ => rfl)).symm
      rw [em, List.map_map] at q
      refine q.lst hf hp ?_ (reps_of _ fun p hp => hL p (List.mem_mergeSort.mp hp))
      rw [List.length_map, List.length_mergeSort]
      rw [List.length_map] at z1
      exact z1
    | _ => exact nomatch e
end
end Fly
end

section
set_option Elab.async false
set_option linter.all false
set_option maxRecDepth 100000
set_option maxHeartbeats 4000000
/-! t.index(x), t.count(x), t a tuple that is known whole (FlyTix). -/
namespace Fly
open PySem L2 PySem.Spec PyProof.Rows
def tTix (ta tk : TE) : TE := fun σ H Q => ta σ H fun v H1 => ∃ (a : Addr) (o : Obj) (xs : List V), v = .ref a ∧ o.dict = none ∧ H1 a = some (.frz o (.tup xs)) ∧
  tk σ H1 fun u H2 => ∃ (o2 : Obj) (ns : List Int) (i : Int), H2 a = some (.frz o2 (.tup (ns.map V.int))) ∧ u = .int i ∧ i ∈ ns ∧ Q (.int (ns.idxOf i : Nat)) H2
def tTct (ta tk : TE) : TE := fun σ H Q => ta σ H fun v H1 => ∃ (a : Addr) (o : Obj) (xs : List V), v = .ref a ∧ o.dict = none ∧ H1 a = some (.frz o (.tup xs)) ∧
  tk σ H1 fun u H2 => ∃ (o2 : Obj) (ns : List Int) (i : Int), H2 a = some (.frz o2 (.tup (ns.map V.int))) ∧ u = .int i ∧ Q (.int (ns.count i : Nat)) H2
theorem eqv_int (a b : Int) : PyData.eqv (.int a) (.int b) = (a == b) := by
  first
    | rfl
    | simp [PyData.eqv]
theorem count_ints (i : Int) : ∀ ns : List Int, ((ns.map PyData.int).countP fun y => PyData.eqv y (.int i)) = ns.count i
  | [] => rfl
  | a :: ns => by
    rw [List.map_cons, List.countP_cons, count_ints i ns, eqv_int, List.count_cons]
theorem plain_ints : ∀ ns : List Int, PyData.plainAll (ns.map PyData.int) = true
  | [] => by first | rfl | simp [PyData.plainAll]
  | a :: ns => by
    have ih := plain_ints ns
    first
      | (rw [List.map_cons, PyData.plainAll, ih]; rfl)
      | simp [PyData.plainAll, PyData.plain, ih]
section
variable {X : Cx} {o e : Expr} {ta tk : TE} {apos cpos : Pos}
theorem pe_tix (ha : PE X o ta) (he : PE X e tk) (m : M1 X o "index" apos e cpos) : PE X (.Call (.Attribute o "index" apos) [e] [] cpos) (tTix ta tk) := by
  constructor
  intro pins s σ H Q I h
  apply wpAny_Call_method m.base m.few m.line PySem.F.plainAttrs_tuple PySem.F.slot_tuple_index PySem.F.type_tuple_index
  apply thn (ha.run pins s σ H _ I h)
  rintro u s1 ⟨x, H1, I1, rx, a, ob, xs, ex, hd, hf, q1⟩
  subst ex
  obtain rfl : u = Value.ref a := rx
  obtain ⟨hg, z, its, rv, ht⟩ := (show ObjOk X.prog X.w H1 s1.heap a (.frz ob (.tup xs)) from I1.hok a _ hf)
  obtain ⟨ob2, hg2, hc, n, hd2⟩ := id ht
  refine ⟨⟨ob2, hg2, hc⟩, fun b eb => ⟨ob, by cases eb; exact hg, hd⟩, ?_⟩
  rw [m.trees]
  refine Calls.callWith_builtin rfl (Calls.evalArgs_plain (Calls.spliced_cons (thn (he.run pins s1 σ H1 _ I1 q1) fun iv s2 ⟨y, H2, I2, ry, ob2', ns, i, hf2, ey, hi, q2⟩ => Calls.spliced_nil ?_)))
  subst ey
  obtain ⟨t, rfl⟩ := ry
  obtain ⟨hg3, z3, its2, rv2, ht2⟩ := (show ObjOk X.prog X.w H2 s2.heap a (.frz ob2' (.tup (ns.map V.int))) from I2.hok a _ hf2)
  exact PySem.SeqAt.tuple_index_ints (show s2.heap.IsTuple a its2.toArray from ht2) rv2.ints hi ⟨.int (ns.idxOf i : Nat), H2, I2.tok _, ⟨_, rfl⟩, q2⟩
theorem pe_tct (hu : X.A.units + 8 < cLine) (ha : PE X o ta) (he : PE X e tk) (m : M1 X o "count" apos e cpos) : PE X (.Call (.Attribute o "count" apos) [e] [] cpos) (tTct ta tk) := by
  constructor
  intro pins s σ H Q I h
  apply wpAny_Call_method m.base m.few m.line PySem.F.plainAttrs_tuple PySem.F.slot_tuple_count PySem.F.type_tuple_count
  apply thn (ha.run pins s σ H _ I h)
  rintro u s1 ⟨x, H1, I1, rx, a, ob, xs, ex, hd, hf, q1⟩
  subst ex
  obtain rfl : u = Value.ref a := rx
  obtain ⟨hg, z, its, rv, ht⟩ := (show ObjOk X.prog X.w H1 s1.heap a (.frz ob (.tup xs)) from I1.hok a _ hf)
  obtain ⟨ob2, hg2, hc, n, hd2⟩ := id ht
  refine ⟨⟨ob2, hg2, hc⟩, fun b eb => ⟨ob, by cases eb; exact hg, hd⟩, ?_⟩
  rw [m.trees]
  refine Calls.callWith_builtin rfl (Calls.evalArgs_plain (Calls.spliced_cons (thn (he.run pins s1 σ H1 _ I1 q1) fun iv s2 ⟨y, H2, I2, ry, ob2', ns, i, hf2, ey, q2⟩ => Calls.spliced_nil ?_)))
  subst ey
  obtain ⟨t, rfl⟩ := ry
  obtain ⟨hg3, z3, its2, rv2, ht2⟩ := (show ObjOk X.prog X.w H2 s2.heap a (.frz ob2' (.tup (ns.map V.int))) from I2.hok a _ hf2)
  have hdep : (PyData.int i).depth ≤ 2 := by first | decide | simp [PyData.depth]
  refine PySem.SeqAt.count_tuple_data (show s2.heap.IsTuple a its2.toArray from ht2) (xs := ns.map PyData.int) (as := []) (by simpa using IntsAre.reads _ rv2.ints) (Reads.int i t) (plain_ints ns) (by first | rfl | simp [PyData.plain]) (by have := Nat.min_le_right (PyData.depthAll (ns.map PyData.int)) (PyData.int i).depth; omega) ?_
  rw [count_ints]
  exact ⟨.int (ns.count i : Nat), H2, I2.tok _, ⟨_, rfl⟩, q2⟩
end
section
variable {T : XT} {K : PySem.W.Frag} {W : WX} {cf : Nat → List Sl → CR}
theorem Rep0.ktp {fr : AP} {H : Hp} {v : V} {ds : List D} (h : Rep0 K fr H v (.kt ds)) : ∃ (a : Addr) (o : Obj) (xs : List V), v = .ref a ∧ o.dict = none ∧ H a = some (.frz o (.tup xs)) ∧ Reps K fr H xs ds := by
  cases h with
  | ow r => cases r
  | sh r => cases r with | kt f n h z x => exact ⟨_, _, _, rfl, n, h, x⟩
theorem ge_tix {a k : E} {ta tk : TE} (ha : GE T K W cf a ta) (hk : GE T K W cf k tk) : GE T K W cf (.tmt false a k) (tTix ta tk) := fun G fr Fo H σv σd Q S hq => by
  refine ha G fr Fo H σv σd _ S ?_
  simp only [ev, R.andThen] at hq
  cases ea : ev cf a σd with
  | bad => rw [ea] at hq; exact hq
  | ex c fs σ1 => rw [ea] at hq; exact hq
  | ok ts σ1 =>
    rw [ea] at hq
    intro vs fr1 H1 A1 S1 R1 v hv
    subst hv
    obtain ⟨t, rfl, r1⟩ := R1.one'
    simp only at hq
    split at hq
    rotate_left
    · exact hq.elim
    rename_i ds0 el0
    obtain ⟨p, o, xs, rfl, hn, hf, x1⟩ := (r1.look S1 el0).ktp
    refine ⟨p, o, xs, rfl, hn, hf, ?_⟩
    refine hk G fr1 (addF Fo (.ref p) t) H1 σv σ1 _ (S1.addF r1) ?_
    cases ek : ev cf k σ1 with
    | bad => rw [ek] at hq; exact hq
    | ex c fs σ2 => rw [ek] at hq; exact fun cls dx fr2 H2 A2 S2 => hq cls dx fr2 H2 (A1.trans (A2.less addF_sub)) (S2.less addF_sub)
    | ok us σ2 =>
      rw [ek] at hq
      intro ws fr2 H2 A2 S2 R2 w hw
      subst hw
      obtain ⟨u, rfl, r2⟩ := R2.one'
      simp only at hq
      have r1' := r1.keep A2 S2
      have S2b : Sim K G fr2 Fo H2 σv σ2 := S2.less addF_sub
      have AA : Aft fr Fo H fr2 H2 := A1.trans (A2.less addF_sub)
      split at hq
      rotate_left
      · exact hq.elim
      rename_i l x e1 e2
      split at hq
      rotate_left
      · exact hq.elim
      rename_i is e3
      obtain ⟨p', o', xs', ep, hn', hf', x1'⟩ := (r1'.look S2b e1).ktp
      cases ep
      have hw := x1'.of_ints e3
      subst hw
      have hx : w = .int x := by
        have h := r2.look S2 e2
        cases h with
        | sh h => cases h; rfl
        | ow h => cases h
      subst hx
      rw [if_neg (by decide)] at hq
      split at hq
      rotate_left
      · exact hq.elim
      rename_i hm
      exact ⟨o', is, x, hf', rfl, hm, hq [_] fr2 H2 AA S2b ⟨.tv (.int _), True.intro⟩ _ rfl⟩
theorem ge_tct {a k : E} {ta tk : TE} (ha : GE T K W cf a ta) (hk : GE T K W cf k tk) : GE T K W cf (.tmt true a k) (tTct ta tk) := fun G fr Fo H σv σd Q S hq => by
  refine ha G fr Fo H σv σd _ S ?_
  simp only [ev, R.andThen] at hq
  cases ea : ev cf a σd with
  | bad => rw [ea] at hq; exact hq
  | ex c fs σ1 => rw [ea] at hq; exact hq
  | ok ts σ1 =>
    rw [ea] at hq
    intro vs fr1 H1 A1 S1 R1 v hv
    subst hv
    obtain ⟨t, rfl, r1⟩ := R1.one'
    simp only at hq
    split at hq
    rotate_left
    · exact hq.elim
    rename_i ds0 el0
    obtain ⟨p, o, xs, rfl, hn, hf, x1⟩ := (r1.look S1 el0).ktp
    refine ⟨p, o, xs, rfl, hn, hf, ?_⟩
    refine hk G fr1 (addF Fo (.ref p) t) H1 σv σ1 _ (S1.addF r1) ?_
    cases ek : ev cf k σ1 with
    | bad => rw [ek] at hq; exact hq
    | ex c fs σ2 => rw [ek] at hq; exact fun cls dx fr2 H2 A2 S2 => hq cls dx fr2 H2 (A1.trans (A2.less addF_sub)) (S2.less addF_sub)
    | ok us σ2 =>
      rw [ek] at hq
      intro ws fr2 H2 A2 S2 R2 w hw
      subst hw
      obtain ⟨u, rfl, r2⟩ := R2.one'
      simp only at hq
      have r1' := r1.keep A2 S2
      have S2b : Sim K G fr2 Fo H2 σv σ2 := S2.less addF_sub
      have AA : Aft fr Fo H fr2 H2 := A1.trans (A2.less addF_sub)
      split at hq
      rotate_left
      · exact hq.elim
      rename_i l x e1 e2
      split at hq
      rotate_left
      · exact hq.elim
      rename_i is e3
      obtain ⟨p', o', xs', ep, hn', hf', x1'⟩ := (r1'.look S2b e1).ktp
      cases ep
      have hw := x1'.of_ints e3
      subst hw
      have hx : w = .int x := by
        have h := r2.look S2 e2
        cases h with
        | sh h => cases h; rfl
        | ow h => cases h
      subst hx
      rw [if_pos True.intro] at hq
      exact ⟨o', is, x, hf', rfl, hq [_] fr2 H2 AA S2b ⟨.tv (.int _), True.intro⟩ _ rfl⟩
end
end Fly
end

section
set_option Elab.async false
set_option linter.all false
set_option maxRecDepth 100000
set_option maxHeartbeats 4000000
/-! {k: v for .. in .. if ..}, the keys numbers, texts or rows of them (FlyDcp).
The store is DPut, whatever the keys are; the new dict's thing ahead of the first store is `ini`. -/
namespace Fly
open PySem L2 PySem.Spec PyProof.Rows
section
variable {X : Cx} {pins : List (Addr × Obj)} {σ : L2.St} {H H' : Hp} {s : Shared} {E : Value → Shared → Prop}
/-- the store of a key and its value -/
theorem dset_put {D : Addr} {y v : V} {u r : Value} {Q : Unit → Shared → Prop} (hu : X.A.units < cLine) (I : Inv X pins σ H s) (g : DPut H D y v H') (ry : RelV y u) (rv : RelV v r) (q : ∀ s', Inv X pins σ H' s' → Q () s') :
    wpAny (model X.prog X.w) X.A (dictSet D u r) Q E s := by
  rcases g with ⟨kvs, k, hD, rfl, few, rfl⟩ | ⟨kvs, k, b, hD, rfl, hb, few, rfl⟩
  · exact d_dictSet I hD few ry rv q
  · obtain rfl : u = Value.ref b := ry
    obtain ⟨_, big, xs, kt, st⟩ := dt_of I.hok hD
    have room : xs.length ≤ sizeLine := by have := Paired.length kt; omega
    refine wpAny_dictSet_heap (hsz := room) hu (key_of I.hok hb) st fun h1 st1 sb => q _ ?_
    obtain ⟨ob, es, ep, e1, e2, e3, e4, _, e6⟩ := st1
    have kt1 := kt.put k hb rv
    have mu : Mut (H D) := by rw [hD]; exact True.intro
    have lim : (putK kvs k v).length ≤ sizeLine := Nat.le_trans (length_putK kvs k v) few
    exact d_write I mu sb ⟨ob, e1⟩ ⟨lim, big, _, kt1.keeps fun c ys ec => (upd_ne fun (z : c = D) => by rw [z, hD] at ec; cases ec).trans ec, ob, es, ep, e1, e2, e3, e4, e6⟩
end
/-- a block that walks along an iterator: what stands between two turns -/
def Btw (X : Cx) (fp : List Addr) (tn : Nat → Heap → Prop) (σ0 : L2.St) (i : Nat) (H : Hp) (s : Shared) : Prop := Inv X [] σ0 H s ∧ tn i s.heap ∧ ∀ b ∈ fp, H b = none
section
variable {X : Cx} {fp : List Addr} {tn : Nat → Heap → Prop} {σ0 : L2.St} {i : Nat} {H : Hp} {s : Shared} {E : Value → Shared → Prop} {tg : Expr} {J : It} {it : Addr}
theorem Btw.free (B : Btw X fp tn σ0 i H s) (hx : ∀ b ∈ fp, b ∈ X.ex) (hpn : X.pn = []) : ∀ b ∈ fp, FpOk X [] H b := fun b hb =>
  ⟨B.2.2 b hb, (B.1.ok.exf b (hx b hb)).1, B.1.ok.exfs b (hx b hb), .inl (hx b hb), fun x c e => (B.1.ok.exf b (hx b hb)).2 x c e, fun p hp => by rw [hpn] at hp; cases hp⟩
/-- the end -/
theorem Btw.ends (B : Btw X fp tn σ0 i H s) (hx : ∀ b ∈ fp, b ∈ X.ex) (hpn : X.pn = []) (hc : X.calm = true) (T : Turn X.prog X.w X.K tg J fp it tn) (h : J.stop i H) :
    wpAny (model X.prog X.w) X.A (pyNext (.ref it)) (fun r s1 => r = none ∧ Inv X [] σ0 H s1) E s := T.done X rfl rfl rfl hc i [] s σ0 H E B.1 (B.free hx hpn) B.2.1 h
/-- one more: its value, and how one comes back to the next turn from wherever the turn leads -/
theorem Btw.goes (B : Btw X fp tn σ0 i H s) (hx : ∀ b ∈ fp, b ∈ X.ex) (hpn : X.pn = []) (hc : X.calm = true) (T : Turn X.prog X.w X.K tg J fp it tn) (h : J.go i H) {Q : Option Value → Shared → Prop}
    (q : ∀ (u : Value) (s1 : Shared), wpAny (model X.prog X.w) X.A (letOwnedTupleGo tg (.ref it) u) (fun _ s2 => ∃ (x : V) (H2 : Hp) (pl : List (Addr × Obj)), RelV x u ∧ J.yld i H x H2 ∧ Inv X pl σ0 H2 s2 ∧
      ∀ (σ1 : L2.St) (H3 : Hp) (s3 : Shared) (own : List Nat), wipe σ1 own = σ0 → Inv X pl σ1 H3 s3 → Btw X fp tn σ0 (i + 1) H3 s3) (fun _ _ => False) s1 → Q (some u) s1) :
    wpAny (model X.prog X.w) X.A (pyNext (.ref it)) Q E s := by
  refine thnF (T.item X rfl rfl rfl hc i [] s σ0 H (fun _ _ => False) B.1 (B.free hx hpn) B.2.1 h) fun r s1 z => ?_
  obtain ⟨u, rfl, z⟩ := z
  refine q u s1 (thn z fun _ s2 z => ?_)
  obtain ⟨x, H2, I2, rx, yx, t2, n2⟩ := z
  have B2 : Btw X fp tn σ0 (i + 1) H2 s2 := ⟨I2, t2, n2⟩
  refine ⟨x, H2, _, rx, yx, I2.pinned (B2.free hx hpn) (T.obj _ _ t2), fun σ1 H3 s3 own ew I3 => ?_⟩
  have same : ∀ b ∈ fp, ∀ o, s2.heap.get? b = some o → s3.heap.get? b = some o ∧ H3 b = none := fun b hb o e =>
    have m : (b, o) ∈ X.pn ++ ([] ++ pinsAt fp s2.heap) := List.mem_append_right _ (mem_pinsAt hb e)
    ⟨(I3.pin _ m).1, (I3.pin _ m).2.1⟩
  refine ⟨(I3.unpinned (pins := [])).weak (by rw [← ew, wipe_length]) fun j v e => (wipe_some (by rw [ew]; exact e)).1, T.keep _ _ _ t2 fun b hb o e => (same b hb o e).1, fun b hb => ?_⟩
  obtain ⟨o, e, _⟩ := T.obj _ _ t2 b hb
  exact (same b hb o e).2
end
section
variable {X : Cx}
/-- the dict, step by step; D: the new dict -/
def tDcp (ini : HO) (wi : TI) (g : TG) (tt : TT) (tk tv : TE) (own : List Nat) : TE := fun σ H Q => wi σ H fun J H1 => ∀ D, H1 D = none → ∃ W : Nat → Nat → Hp → Prop, (∃ n, W n 0 (upd H1 D ini)) ∧
  ∀ n i H2, W n i H2 → (J.stop i H2 ∧ Q (.ref D) H2) ∨ (J.go i H2 ∧ ∀ x H3, J.yld i H2 x H3 → g x (wipe σ own) H3 fun σ4 H4 => wipe σ4 own = wipe σ own ∧ tt σ4 H4 fun b H5 =>
    if b = true then tk σ4 H5 fun y H6 => tv σ4 H6 fun z H7 => ∃ H8, DPut H7 D y z H8 ∧ ∃ n', n' < n ∧ W n' (i + 1) H8 else ∃ n', n' < n ∧ W n' (i + 1) H5)
/-- the comprehension runs; what becomes of the dict (use) is told by `last` -/
theorem dcp_run {pins : List (Addr × Obj)} {s : Shared} {σ : L2.St} {H : Hp} {Q : VK} {use : Option (Value → Sem Unit)} {Qf : Value → Shared → Prop} {kx vx tg iter : Expr} {ifs : List Expr} {scope : Scope} {own : List (Str × Nat)} {pos pos' : Pos} {ini : HO} {wi : TI} {g : TG} {tt : TT} {tk tv : TE} (hc : X.calm = true) (hN : X.N.Nodup) (hu : X.A.units < cLine) (hi : PI X tg iter wi)
    (ok : BlkOk X.N X.env.scope scope own) (hini : ∀ (h : Heap) (H : Hp), sysModules < h.objs.size → ObjOk X.prog X.w H (h.push { cls := .type "dict", data := .dict #[] }) h.objs.size ini)
    (hb : ∀ (s : Shared) (H : Hp) (C : Addr) (cl : List (Str × Addr)) (fp : List Addr), PG (X.blk s H scope (compEnvC scope cl C X.env) fp) tg g ∧ PTs (X.blk s H scope (compEnvC scope cl C X.env) fp) ifs tt ∧
      PE (X.blk s H scope (compEnvC scope cl C X.env) fp) kx tk ∧ PE (X.blk s H scope (compEnvC scope cl C X.env) fp) vx tv) (hs : ∀ x, foldedSetIterable iter X.env x = pure x)
    (I : Inv X pins σ H s) (h : tDcp ini wi g tt tk tv (own.map (·.2)) σ H Q)
    (last : ∀ (D C : Addr) (s1 : Shared) (m : Str → Option Value) (H1 : Hp), Inv X pins σ H1 s1 → Q (.ref D) H1 → s1.heap.Ns C m → FpOk X pins H1 C → compPost (model X.prog X.w) X.A X.xe use Qf (.ref D) C (.ok .next) s1) :
    wpAny (model X.prog X.w) X.A (comprehension (.DictComp kx vx [⟨tg, iter, ifs, 0⟩] scope pos) scope X.env pos' newDict false (eval iter X.env) use) Qf X.xe s := by
  have cells : ∀ y ∈ scope.names, y.2 = .free → ∃ c, X.env.cells.lookup y.1 = some c := fun y hy e => (ok.free y hy e).elim (fun k => I.ok.has _ (.inl k)) fun k => I.ok.has _ (.inr k)
  refine wpAny_comprehension_free (use := use) rfl hs (closure_ok cells) ok.kind (fun y hy e => (ok.uniq y hy).trans (by rw [e])) ?_
  refine thn (hi.run pins s σ H _ I h) fun v0 s1 z => thn z fun v1 s2 z => ?_
  obtain ⟨it, fp, tn, J, H1, rfl, I1, T, t0, free0, w⟩ := z
  refine wpAny_newObj_type (newEnv_comp ?_)
  have fresh : H1 s2.heap.objs.size = none := I1.hok.fresh (Nat.le_refl _)
  obtain ⟨W, ⟨n0, w0⟩, step⟩ := w _ fresh
  have new := hini s2.heap (upd H1 s2.heap.objs.size ini) I1.big
  have old : ∀ b o, s2.heap.get? b = some o → (s2.heap.push { cls := .type "dict", data := .dict #[] }).get? b = some o := fun b o e => Heap.get?_push_of_some _ e
  have I2 := I1.laid (t' := s2.toks) old (Nat.le_refl _) new
  have low : ∀ b ∈ fp, b < s2.heap.objs.size := fun b hb => let ⟨_, e, _⟩ := T.obj _ _ t0 b hb; Heap.lt_size e
  have free2 : ∀ b ∈ fp, FpOk X pins (upd H1 s2.heap.objs.size ini) b ∧ b < (s2.heap.push { cls := .type "dict", data := .dict #[] }).objs.size := fun b hb =>
    ⟨⟨(upd_ne (Nat.ne_of_lt (low b hb))).trans (free0 b hb).1, (free0 b hb).2⟩, by rw [Heap.size_push]; exact Nat.lt_succ_of_lt (low b hb)⟩
  have I3 := block_start I2 ok hN free2
  generalize upd H1 s2.heap.objs.size ini = Hn at *
  generalize s2.heap.objs.size = D at *
  generalize hp : s2.heap.push { cls := .type "dict", data := .dict #[] } = hn at *
  have B0 : ∀ (ce : Env), Inv (X.blk { s2 with heap := hn } Hn scope ce fp) [] (wipe σ (own.map (·.2))) Hn { s2 with heap := pushCells (hn.push { cls := .type "dict", data := .dict #[] }) scope.names } →
      Btw (X.blk { s2 with heap := hn } Hn scope ce fp) fp tn (wipe σ (own.map (·.2))) 0 Hn { s2 with heap := pushCells (hn.push { cls := .type "dict", data := .dict #[] }) scope.names } := fun ce I =>
    ⟨I, T.keep _ _ _ t0 fun b _ o e => pushCells_keeps _ _ _ _ (Heap.get?_push_of_some _ (old b o e)), fun b hb => (free2 b hb).1.1⟩
  have parts := hb { s2 with heap := hn } Hn hn.objs.size (cellsFrom (hn.objs.size + 1) scope.names (cloFrom X.env.cells scope.names [])) fp
  have B1 := B0 _ I3
  have eL : (compEnvC scope (cellsFrom (hn.objs.size + 1) scope.names (cloFrom X.env.cells scope.names [])) hn.objs.size X.env).locals = hn.objs.size := rfl
  show codeAny _ _ (.compStart _ 0 (.ref it) (.ref D) (compEnvC scope (cellsFrom (hn.objs.size + 1) scope.names (cloFrom X.env.cells scope.names [])) hn.objs.size X.env)) _ _
  generalize compEnvC scope (cellsFrom (hn.objs.size + 1) scope.names (cloFrom X.env.cells scope.names [])) hn.objs.size X.env = ce at *
  obtain ⟨pg, pt, pk, pv⟩ := parts
  have ex : ∀ b ∈ fp, b ∈ (X.blk { s2 with heap := hn } Hn scope ce fp).ex := fun b hb => hb
  have pn : (X.blk { s2 with heap := hn } Hn scope ce fp).pn = [] := rfl
  have cb : (X.blk { s2 with heap := hn } Hn scope ce fp).calm = true := hc
  refine codeAny_compStart_dict (s := { s2 with heap := pushCells (hn.push { cls := .type "dict", data := .dict #[] }) scope.names }) ?_ (T.self X.A 0 _ _ _ B1.2.1 ?_) <;>
  · refine compLoop_anyD (fun n s3 => ∃ i H3, W n i H3 ∧ Btw (X.blk { s2 with heap := hn } Hn scope ce fp) fp tn (wipe σ (own.map (·.2))) i H3 s3) (fun n s3 z => ?_) n0 ⟨0, Hn, w0, B1⟩
    obtain ⟨i, H3, w3, B⟩ := z
    rcases step n i H3 w3 with ⟨stop, q⟩ | ⟨go, st⟩
    · refine thnF (B.ends ex pn cb T stop) fun r s4 z => ?_
      obtain ⟨rfl, I4⟩ := z
      have I5 : Inv X pins σ H3 s4 := I2.call' (ch := fp) I4.os I4.base I4.hok I4.bare fun b hb => let f := (free2 b hb).1; ⟨f.2.2.2.1, f.2.1, f.2.2.2.2.1, f.2.2.2.2.2⟩
      have hC : H3 hn.objs.size = none := eL ▸ I4.free
      obtain ⟨m, ns, _⟩ := I4.loc
      have ns : s4.heap.Ns ce.locals m := ns
      rw [eL] at ns
      exact last D hn.objs.size s4 m H3 I5 q ns (I2.fpOk (b := hn.objs.size) (H' := H3) (Nat.le_refl _) hC)
    · refine B.goes ex pn cb T go fun u s4 z => thnF z fun _ s5 z => ?_
      obtain ⟨x, H5, pl, rx, yx, I5, back⟩ := z
      refine thnF (pg.run pl s5 _ H5 x u _ I5 rx (st x H5 yx)) fun _ s6 z => ?_
      obtain ⟨σ6, H6, I6, ew, q6⟩ := z
      refine thnF (pt.run pl s6 σ6 H6 _ I6 q6) fun b s7 z => ?_
      obtain ⟨H7, I7, q7⟩ := z
      by_cases hb : b = true
      · rw [if_pos hb] at q7 ⊢
        refine thnF (pk.run pl s7 σ6 H7 _ I7 q7) fun k8 s8 z => ?_
        obtain ⟨y, H8, I8, ry, q8⟩ := z
        refine thnF (pv.run pl s8 σ6 H8 _ I8 q8) fun v9 s9 z => ?_
        obtain ⟨zv, H9, I9, rz, H10, put, n', lt, w'⟩ := z
        exact dset_put (X := X.blk { s2 with heap := hn } Hn scope ce fp) hu I9 put ry rz fun s10 I10 => ⟨n', lt, i + 1, H10, w', back _ _ _ (own.map (·.2)) ew I10⟩
      · rw [if_neg hb] at q7 ⊢
        obtain ⟨n', lt, w'⟩ := q7
        exact ⟨n', lt, i + 1, H7, w', back _ _ _ (own.map (·.2)) ew I7⟩
/-- as a value -/
theorem pe_dcp {kx vx tg iter : Expr} {ifs : List Expr} {scope : Scope} {own : List (Str × Nat)} {pos : Pos} {ini : HO} {wi : TI} {g : TG} {tt : TT} {tk tv : TE} (hc : X.calm = true) (hN : X.N.Nodup) (hu : X.A.units < cLine) (hi : PI X tg iter wi)
    (ok : BlkOk X.N X.env.scope scope own) (hini : ∀ (h : Heap) (H : Hp), sysModules < h.objs.size → ObjOk X.prog X.w H (h.push { cls := .type "dict", data := .dict #[] }) h.objs.size ini)
    (hb : ∀ (s : Shared) (H : Hp) (C : Addr) (cl : List (Str × Addr)) (fp : List Addr), PG (X.blk s H scope (compEnvC scope cl C X.env) fp) tg g ∧ PTs (X.blk s H scope (compEnvC scope cl C X.env) fp) ifs tt ∧
      PE (X.blk s H scope (compEnvC scope cl C X.env) fp) kx tk ∧ PE (X.blk s H scope (compEnvC scope cl C X.env) fp) vx tv) (hs : ∀ x, foldedSetIterable iter X.env x = pure x) :
    PE X (.DictComp kx vx [⟨tg, iter, ifs, 0⟩] scope pos) (tDcp ini wi g tt tk tv (own.map (·.2))) := by
  constructor
  intro pins s σ H Q I h
  rw [arm_eval_DictComp]
  refine dcp_run hc hN hu hi ok hini hb hs I h fun D C s1 m H1 I1 q ns f => ⟨m, ns, fun h2 sb => ?_⟩
  exact ⟨.ref D, H1, I1.turned (t' := s1.toks) (fun b o hb e => (sb.2 b hb).trans e) f.1 f.2.1 f.2.2.2.1 f.2.2.2.2.1 f.2.2.2.2.2, rfl, q⟩
/-- d = {..}, where the name takes the dict ahead of the block's end -/
theorem ps_dcp {i : Nat} {y : Str} {py spos : Pos} {kx vx tg iter : Expr} {ifs : List Expr} {scope : Scope} {own : List (Str × Nat)} {pos : Pos} {ini : HO} {wi : TI} {g : TG} {tt : TT} {tk tv : TE} (hc : X.calm = true) (hN : X.N.Nodup) (hu : X.A.units < cLine) (hi : PI X tg iter wi)
    (ok : BlkOk X.N X.env.scope scope own) (hini : ∀ (h : Heap) (H : Hp), sysModules < h.objs.size → ObjOk X.prog X.w H (h.push { cls := .type "dict", data := .dict #[] }) h.objs.size ini)
    (hb : ∀ (s : Shared) (H : Hp) (C : Addr) (cl : List (Str × Addr)) (fp : List Addr), PG (X.blk s H scope (compEnvC scope cl C X.env) fp) tg g ∧ PTs (X.blk s H scope (compEnvC scope cl C X.env) fp) ifs tt ∧
      PE (X.blk s H scope (compEnvC scope cl C X.env) fp) kx tk ∧ PE (X.blk s H scope (compEnvC scope cl C X.env) fp) vx tv) (hs : ∀ x, foldedSetIterable iter X.env x = pure x)
    (hy : X.N[i]? = some y) (loc : X.env.scope.names.lookup y = some .local) (sw : swapsWith (.DictComp kx vx [⟨tg, iter, ifs, 0⟩] scope pos) (some (.Name y py)) spos.line X.env = pure true) :
    PS X (.Assign [.Name y py] (.DictComp kx vx [⟨tg, iter, ifs, 0⟩] scope pos) spos) (tAsg (tDcp ini wi g tt tk tv (own.map (·.2))) (gName i)) := by
  constructor
  intro pins s σ H D I h
  rw [exec_Assign_Name_used _ _ _ _ sw]
  have h : tDcp ini wi g tt tk tv (own.map (·.2)) σ H (fun x H1 => gName i x σ H1 D.nx) := h
  have whole := dcp_run (Qf := fun _ s1 => SP X pins D .next s1) (use := some (assign (.Name y py) X.env)) (pos' := firstIterPos [⟨tg, iter, ifs, 0⟩] pos) (pos := pos) hc hN hu hi ok hini hb hs I h
    fun L C s1 m H1 I1 q ns f => wpAny_assign_Name (store_ok2 (v := V.ref L) I1 hN hy (.inl loc) rfl (fun s2 I2 w => by
      obtain ⟨a, sb, ha⟩ := w
      have ne : C ≠ a := fun e => ha.elim (fun z => f.2.1 (e.trans z)) fun z => f.2.2.2.2.1 y a z e.symm
      exact ⟨m, ns.sameBut sb ne, fun h3 sb3 => ⟨_, H1, I2.turned (t' := s2.toks) (fun b o hb e => (sb3.2 b hb).trans e) f.1 f.2.1 f.2.2.2.1 f.2.2.2.2.1 f.2.2.2.2.2, q⟩⟩) (.inr loc))
  exact wpAny_bind (wpAny_standAt (wpAny_bind (wpAny_bind (thn whole fun _ _ hq => wpAny_pure (wpAny_pure hq)))))
end
section
variable {T : XT} {K : PySem.W.Frag} {W : WX} {cf : Nat → List Sl → CR}
theorem dcL_cons {own : List Nat} {bd : D → List Sl → Option (List Sl)} {cnd : List Sl → RB} {ek el : List Sl → R} {x : D} {xs : List D} {σ : List Sl} {ks : List (List Int)} {vs : List D} : dcL own bd cnd ek el (x :: xs) σ ks vs = (match bd x (dropS σ own) with
    | none => .bad
    | some σ1 => match cnd σ1 with
      | .ok true σ2 => match ek σ2 with
        | .ok [.tv (.tup l)] σ3 => match Fly.toInts l with
          | some k => match el σ3 with
            | .ok [u] σ4 => match val σ4 u with
              | some d => if ks.length < szLine then (match dput ks vs k d with
                | .dic ks' vs' => dcL own bd cnd ek el xs σ4 ks' vs'
                | _ => .bad) else .bad
              | none => .bad
            | _ => .bad
          | none => .bad
        | _ => .bad
      | .ok false σ2 => dcL own bd cnd ek el xs σ2 ks vs
      | _ => .bad) := rfl
theorem dput_dic (ks : List (List Int)) (vs : List D) (k : List Int) (d : D) : ∃ ks' vs', dput ks vs k d = .dic ks' vs' := by
  unfold dput
  split <;> exact ⟨_, _, rfl⟩
theorem ge_dcp {kx vx cnd : E} {t : Tg} {k : Ik} {es : E} {wi : TI} {g : TG} {tt : TT} {tk tv : TE} (hi : GI T K W cf k es wi) (hg : GG t K g) (hc : GB T K WF cf cnd tt) (hk : GE T K WF cf kx tk) (he : GE T K WF cf vx tv) :
    GE T K W cf (.dcp kx vx t k es cnd) (tDcp (.dT []) wi g tt tk tv t.own) := fun G fr Fo H σv σd Q S hq => by
  simp only [ev, R.andThen] at hq
  refine hi G fr Fo H σv σd _ S ?_
  cases ee : ev cf es σd with
  | bad => rw [ee] at hq; exact hq.elim
  | ex c fs σ1 => rw [ee] at hq; exact hq
  | ok ts σ1 =>
    rw [ee] at hq
    simp only at hq
    simp only [IPost]
    split at hq
    · exact hq.elim
    rename_i ds el
    split at hq
    rotate_left
    · exact hq.elim
    rename_i xs ei
    split at hq
    rotate_left
    · exact hq.elim
    rename_i ec
    try rw [el]
    simp only [ei]
    refine fun vs fr1 H1 J A1 S1 R1 wk => fun D0 hD => ?_
    have SL := (S1.hide (ts := ts)).moreA (srcF_none S1 (ts0 := ts) (fun _ f => f) (fun _ m => m) R1)
    have up : ∀ x, (Fo x ∨ srcF σ1 vs ts x) → ((Fo x ∨ srcF σ1 vs ts x) ∨ x = D0) := fun x f => .inl f
    have nD : ¬ (Fo D0 ∨ srcF σ1 vs ts D0) := fun f => (SL.fos _ f).1 hD
    have nF : ¬ fr1 D0 := fun f => S1.frs _ f hD
    let St : Nat → Hp → Prop := fun i H2 => ∃ fr2 σ2 ks ds, Aft fr1 (fun x => Fo x ∨ srcF σ1 vs ts x) H1 fr2 H2 ∧ Sim K G fr2 (fun x => (Fo x ∨ srcF σ1 vs ts x) ∨ x = D0) H2 (wipe σv t.own) (dropS σ2 t.own) ∧ RepO K fr2 H2 D0 (.dic ks ds) ∧
      RPost T K W G fr Fo H σv ((dcL t.own (fun x s => bindT s t x false) (fun s => asB (ev cf cnd s)) (fun s => ev cf kx s) (fun s => ev cf vx s) (xs.drop i) σ2 ks ds).andThen fun us σ3 => .ok us (showS σ1 (unwipeS (hideS σ1 ts) σ3 t.own) ts)) (fun vs H' => ∀ v, vs = [v] → Q v H')
    refine ⟨fun n i H2 => n = xs.length - i ∧ i ≤ xs.length ∧ St i H2, ⟨xs.length, by simp, Nat.zero_le _, fr1, hideS σ1 ts, [], [], .grow SL hD (fun _ f => f) fun _ f => .inl f, ?_, .dic upd_same (Nat.zero_le _) rfl .nil, by rw [List.drop_zero]; exact hq⟩, ?_⟩
    · exact ((SL.grow hD (fun _ f => f) fun _ f => .inl f).block).more (by rw [upd_same]; simp) nF (SL.block.apart_new hD) (fun xs z => by rw [upd_same] at z; cases z)
    rintro n i H2 ⟨rfl, hi2, fr2, σ2, ks, dv, A2, S2, r2, F2⟩
    obtain ⟨w1, w2⟩ := wk.at A2.keep (fun a f => (A2.out a (.inr f)).2) S2
    by_cases hlt : i < xs.length
    · obtain ⟨g1, g2⟩ := w2 i xs[i] (List.getElem?_eq_getElem hlt)
      refine .inr ⟨g1, fun x H3 y => ?_⟩
      have fin : ∀ H', St (i + 1) H' → ∃ n', n' < xs.length - i ∧ n' = xs.length - (i + 1) ∧ i + 1 ≤ xs.length ∧ St (i + 1) H' := fun H' p => ⟨xs.length - (i + 1), by omega, rfl, hlt, p⟩
      obtain ⟨fr3, A3, S3, r3⟩ := g2 x H3 y
      rw [List.drop_eq_getElem_cons hlt, dcL_cons] at F2
      split at F2
      · exact F2.elim
      rename_i σ4 eb
      refine hg G fr3 _ H3 _ _ x xs[i] false σ4 _ S3 (.sh r3) eb fun σv4 hw4 S4 => ?_
      rw [wipe_wipe] at hw4
      refine ⟨hw4, ?_⟩
      refine hc G fr3 _ H3 σv4 σ4 _ S4 ?_
      cases ec2 : asB (ev cf cnd σ4) with
      | bad => rw [ec2] at F2; exact F2.elim
      | ex c fs σ5 => rw [ec2] at F2; exact F2.elim
      | ok b σ5 =>
        rw [ec2] at F2
        intro fr5 H5 A5 S5
        have A25 := A2.trans ((A3.trans A5).less up)
        have r5 := r2.keep (A3.trans A5).keep ((A3.trans A5).out D0 (.inr rfl)).2
        cases b with
        | false =>
          rw [if_neg (by decide)]
          exact fin _ ⟨fr5, σ5, ks, dv, A25, S5.turn hw4, r5, F2⟩
        | true =>
          rw [if_pos rfl]
          refine hk G fr5 _ H5 σv4 σ5 _ S5 ?_
          simp only at F2
          cases e6 : ev cf kx σ5 with
          | bad => rw [e6] at F2; exact F2.elim
          | ex c fs σ6 => rw [e6] at F2; exact F2.elim
          | ok us σ6 =>
            rw [e6] at F2
            intro vs6 fr6 H6 A6 S6 R6 v6 hv6
            subst hv6
            split at F2
            rotate_left
            · exact F2.elim
            rename_i l σ6' eu
            cases eu
            obtain ⟨t6, et6, q6⟩ := R6.one'
            cases et6
            cases q6 with
            | tv q6 =>
            split at F2
            rotate_left
            · exact F2.elim
            rename_i key ek
            obtain ⟨b6, eb6, hb6⟩ := (Rep0.sh q6).key ek
            have fb6 : fr6 b6 := by
              cases q6 with
              | tup rt _ _ => cases eb6; exact rt.1
            refine he G fr6 _ H6 σv4 σ6 _ S6 ?_
            cases e7 : ev cf vx σ6 with
            | bad => rw [e7] at F2; exact F2.elim
            | ex c fs σ7 => rw [e7] at F2; exact F2.elim
            | ok us σ7 =>
              rw [e7] at F2
              intro vs7 fr7 H7 A7 S7 R7 v7 hv7
              subst hv7
              obtain ⟨t7, rfl, r7⟩ := R7.one'
              simp only at F2
              split at F2
              rotate_left
              · exact F2.elim
              rename_i d ev7
              obtain ⟨fr8, A8, S8, R8⟩ := R7.vals (ds := [d]) S7 (by simp [Fly.vals, ev7])
              split at F2
              rotate_left
              · exact F2.elim
              rename_i hz
              have A68 := (A6.trans A7).trans A8
              have A28 := A25.trans (A68.less up)
              have r8 := r5.keep A68.keep (A68.out D0 (.inr rfl)).2
              have nf8 : ¬ fr8 D0 := (S8.fos D0 (.inr rfl)).2.1
              cases R8 with
              | cons rv _ =>
              cases r8 with
              | @dic kvs _ _ h8 z8 k8 x8 =>
              have few : kvs.length < sizeLine := by rw [dic_len k8, ← szLine_eq]; exact hz
              have hb8 : H7 b6 = some (.tup ((keyI key).map kV)) := ((A7.trans A8).keep b6 fb6).2.trans hb6
              refine ⟨_, eb6 ▸ DPut.t h8 hb8 few, fin _ ?_⟩
              obtain ⟨ks', vs', ep⟩ := dput_dic ks dv key d
              have ro := dic_put (o := .dT kvs) (k := key) (ds := dv) rv k8 x8 few nf8
              rw [ep] at ro F2
              refine ⟨fr8, σ7, ks', vs', ⟨fun a f => ⟨(A28.keep a f).1, ?_⟩, fun a f => ⟨(A28.out a f).1, ?_⟩⟩, (S8.poke (.inr rfl) fun _ z => by cases z).turn hw4, ro, F2⟩
              · rw [upd_ne fun (z : a = D0) => nF (z ▸ f)]; exact (A28.keep a f).2
              · rw [upd_ne fun (z : a = D0) => nD (z ▸ f)]; exact (A28.out a f).2
    · have e : i = xs.length := by omega
      subst e
      rw [List.drop_length] at F2
      refine .inl ⟨w1 _ rfl, ?_⟩
      have Sw : Sim K G fr2 (fun x => Fo x ∨ srcF σ1 vs ts x) H2 (wipe σv t.own) (dropS σ2 t.own) := S2.less fun x f => .inl f
      have Su := S1.unhide R1 (SL.unblock A2 ec Sw) A2.keep fun a f => (A2.out a (.inr f)).2
      refine (show RPost T K W G fr Fo H σv (.ok [.tf (.dic ks dv)] (showS σ1 (unwipeS (hideS σ1 ts) σ2 t.own) ts)) _ from F2) [.ref D0] fr2 H2 (A1.trans (A2.less fun x f => .inl f)) Su ⟨.tf r2 (S2.fos D0 (.inr rfl)).2.1 (fun f => nD (.inl f)) ?_, True.intro⟩ _ rfl
      intro j p d0 ej evj
      rcases showS_get ej with ⟨m, p1, d1, e0, _⟩ | ⟨ej, _⟩
      · exact nD (.inr (srcF_br R1 m e0 evj))
      have hl : σ2.length = (hideS σ1 ts).length := by
        have := S2.len
        rw [dropS_length, wipe_length] at this
        rw [this, SL.len]
      rcases unwipe_get hl ej with ⟨m, z⟩ | ⟨n, z⟩
      · rcases calmO_get ec m z with z | ⟨_, _, z⟩ <;> cases z
      · obtain ⟨b, k1, _, _, k4, _⟩ := S2.slot j _ (dropS_at n z)
        rw [wipe_get n, evj] at k1
        cases k1
        exact k4 (.inr rfl)
end
/-! ### list(d): the rows that are the keys -/
section
variable {K : PySem.W.Frag} {G : Nat → V} {fr Fo : AP} {H : Hp} {σv : L2.St} {σd : List Sl}
theorem rep_ints : ∀ k : List Int, Reps K fr H (k.map V.int) (k.map D.int)
  | [] => .nil
  | i :: k => .cons (.int i) (rep_ints k)
theorem rep_key {b : Addr} {k : List Int} (h : H b = some (.tup ((keyI k).map kV))) (z : k.length ≤ szLine) (f : fr b) : Rep K fr H (.ref b) (keyD k) := by
  rw [keyI_kV] at h
  exact .tup ⟨f, h⟩ (by rw [List.length_map, ← szLine_eq]; exact z) (rep_ints k)
theorem rep_keys : ∀ {kvs : List (List Key × V)} {ks : List (List Int)} {bs : List Addr}, kvs.map (·.1) = keysI ks → IsKeys H kvs bs → keysZ ks = true → (∀ b xs, H b = some (.tup xs) → fr b) → Reps K fr H (bs.map V.ref) (ks.map keyD)
  | [], [], _, _, .nil, _, _ => .nil
  | [], _ :: _, _, e, _, _, _ => nomatch e
  | _ :: _, [], _, e, _, _, _ => nomatch e
  | (q, v) :: kvs, k :: ks, b :: bs, e, .cons h t, z, f => by
    simp only [List.map_cons, keysI, List.cons.injEq] at e
    have z2 : k.length ≤ szLine ∧ keysZ ks = true := by simpa [keysZ] using z
    have h : H b = some (.tup (q.map kV)) := h
    rw [e.1] at h
    exact .cons (rep_key h z2.1 (f _ _ h)) (rep_keys e.2 t z2.2 f)
theorem paired_length {α β : Type} {F : α → β → Prop} {l : List α} {m : List β} (h : Paired F l m) : l.length = m.length := Paired.length h
end
section
variable {T : XT} {K : PySem.W.Frag} {W : WX} {cf : Nat → List Sl → CR}
def rLsd : List V → Hp → VK → Prop := fun xs H Q => ∃ d kvs, xs = [V.ref d] ∧ Rd H d (.dT kvs) ∧ ∀ p bs, H p = none → IsKeys H kvs bs → Q (.ref p) (upd H p (.lst (bs.map V.ref)))
theorem ge_lsd {es : E} {t : TA} (h : GA T K W cf es t) : GE T K W cf (.lsd es) (tCB rLsd t) := fun G fr Fo H σv σd Q S hq => by
  refine h G fr Fo H σv σd _ S ?_
  simp only [ev, R.andThen] at hq
  cases e : ev cf es σd with
  | bad => rw [e] at hq; exact hq
  | ex c fs σ1 => rw [e] at hq; exact hq
  | ok ts σ1 =>
    rw [e] at hq
    intro vs fr1 H1 A1 S1 R1
    simp only at hq
    have key : ∀ (x : D) (p : List (List Int) × List D), Fly.looks σ1 ts = some [x] → dprt x = some p → keysZ p.1 = true → (∀ vs fr' H', Aft fr Fo H fr' H' → Sim K G fr' Fo H' σv σ1 → TRs K fr' H' σv σ1 Fo vs [.tf (.lst (p.1.map keyD))] → ∀ v, vs = [v] → Q v H') → rLsd vs H1 Q := fun x p el ep kz hq => by
      cases R1.looks (fun _ f => f) S1 el with
      | cons r1 r2 =>
      cases r2
      obtain ⟨a, kvs, rfl, h1, z1, k1, x1⟩ := r1.dprt ep
      refine ⟨a, kvs, rfl, h1, fun p bs hp hb => ?_⟩
      have S2 := S1.tups
      have A2 := Aft.tups S1
      have rk := rep_keys (K := K) (fr := frT fr1 H1) k1 hb kz fun b xs e => .inr ⟨xs, e⟩
      refine hq [.ref p] (frT fr1 H1) (upd H1 p (.lst (bs.map V.ref))) ((A1.trans A2).trans (.grow S2 hp (fun _ f => f) fun _ f => .inl f)) (S2.grow hp (fun _ f => f) fun _ f => .inl f)
        ⟨.tf (.lst upd_same ?_ (rk.keep fun x f => ⟨f, upd_ne fun (z : x = p) => S2.frs x f (z ▸ hp)⟩)) (fun f => S2.frs p f hp) (fun f => (S2.fos p f).1 hp) (S2.apart_new hp), True.intro⟩ _ rfl
      rw [List.length_map, ← paired_length hb]
      exact z1
    split at hq
    · rename_i ks xs el
      split at hq
      · rename_i kz
        exact key _ (ks, xs) el rfl kz hq
      · exact hq.elim
    · rename_i ks xs el
      split at hq
      · rename_i kz
        exact key _ (ks, xs) el rfl kz hq
      · exact hq.elim
    · exact hq.elim
end
end Fly
end

section
set_option Elab.async false
set_option linter.all false
set_option maxRecDepth 100000
set_option maxHeartbeats 4000000
/-! Dicts that are shared and stay as they are: walks along their keys and their pairs (FlyKd). -/
namespace Fly
open PySem L2 PySem.Spec PyProof.Rows
/-! ### from here on it stays -/
section
variable {T : XT} {K : PySem.W.Frag} {W : WX} {cf : Nat → List Sl → CR} {G : Nat → V} {fr Fo : AP} {H : Hp} {σv : L2.St} {σd : List Sl}
/-- a thing that stands apart is shared from now on, its cell another one -/
theorem Sim.freeze {a : Addr} {u : HO} (S : Sim K G fr Fo H σv σd) (ha : H a ≠ none) (hf : ¬ fr a) (hF : ¬ Fo a) (ap : Apart σv σd a) (n1 : NT (H a)) (n2 : NT (some u)) : Sim K G (fun x => fr x ∨ x = a) Fo (upd H a u) σv σd := by
  have S3 : Sim K G fr Fo (upd H a u) σv σd := ((S.more ha hf ap n1).poke (.inr rfl) n2).less fun x f => .inl f
  exact S3.share (by rw [upd_same]; exact nofun) hF ap
theorem Aft.freeze {a : Addr} {u : HO} (S : Sim K G fr Fo H σv σd) (hf : ¬ fr a) (hF : ¬ Fo a) : Aft fr Fo H (fun x => fr x ∨ x = a) (upd H a u) :=
  ⟨fun x f => ⟨.inl f, upd_ne fun e => hf (e ▸ f)⟩, fun x f => ⟨fun z => z.elim (S.fos x f).2.1 fun e => hF (e ▸ f), upd_ne fun e => hF (e ▸ f)⟩⟩
def tFrd (t : TE) : TE := fun σ H Q => t σ H fun v H1 => Q v H1 ∨ ∃ d kvs, v = .ref d ∧ H1 d = some (.dT kvs) ∧ ∀ o, Q v (upd H1 d (.frz o (.dT kvs)))
theorem pe_frd {X : Cx} {e : Expr} {t : TE} (h : PE X e t) : PE X e (tFrd t) := by
  constructor
  intro pins s σ H Q I w
  refine thn (h.run pins s σ H _ I w) fun u s1 z => ?_
  obtain ⟨x, H1, I1, rx, z⟩ := z
  rcases z with z | ⟨d, kvs, ex, hd, z⟩
  · exact ⟨x, H1, I1, rx, z⟩
  · obtain ⟨o, I2⟩ := I1.lock hd trivial
    exact ⟨x, _, I2, rx, z o⟩
theorem frd_own {a : Addr} {d : D} (r : RepO K fr H a d) : frD d = d ∨ ∃ ks vs kvs, d = .dic ks vs ∧ H a = some (.dT kvs) ∧ kvs.length ≤ sizeLine ∧ kvs.map (·.1) = keysI ks ∧ Reps K fr H (kvs.map (·.2)) vs := by
  cases r with
  | dic h z k r => exact .inr ⟨_, _, _, rfl, h, z, k, r⟩
  | lst h z r => exact .inl rfl
  | ins h z r => exact .inl rfl
theorem ge_frd {m : E} {t : TE} (h : GE T K W cf m t) : GE T K W cf (.frd m) (tFrd t) := fun G fr Fo H σv σd Q S hq => by
  refine h G fr Fo H σv σd _ S ?_
  simp only [ev, R.andThen] at hq
  cases e : ev cf m σd with
  | bad => rw [e] at hq; exact hq
  | ex c fs σ1 => rw [e] at hq; exact hq
  | ok ts σ1 =>
    rw [e] at hq
    intro vs fr1 H1 A1 S1 R1 v hv
    subst hv
    obtain ⟨t0, rfl, r0⟩ := R1.one'
    cases r0 with
    | tv r => exact .inl (hq [v] fr1 H1 A1 S1 ⟨.tv r, True.intro⟩ v rfl)
    | @tf a d r n1 n2 ap =>
      have fin : ∀ fr2 H2, Aft fr1 Fo H1 fr2 H2 → Sim K G fr2 Fo H2 σv σ1 → Rep K fr2 H2 (.ref a) (frD d) → Q (.ref a) H2 := fun fr2 H2 A2 S2 r2 => hq [.ref a] fr2 H2 (A1.trans A2) S2 ⟨.tv r2, True.intro⟩ _ rfl
      rcases frd_own r with e | ⟨ks, ds, kvs, rfl, ha, z, k, x⟩
      · exact .inl (fin _ H1 (.share S1 n2) (S1.share r.some n2 ap) (by rw [e]; exact r.rep))
      · refine .inr ⟨a, kvs, rfl, ha, fun o => ?_⟩
        have A2 := Aft.freeze (u := .frz o (.dT kvs)) S1 n1 n2
        exact fin _ _ A2 (S1.freeze r.some n1 n2 ap r.nt fun xs z => nomatch z) (.kd (.inr rfl) upd_same z k (x.keep A2.keep))
    | @br i v hi =>
      simp only at hq
      split at hq
      · rename_i p d q
        obtain ⟨u, h1, h2, _⟩ := S1.slot i _ q
        rw [hi] at h1
        cases h1
        exact .inl (hq [v] fr1 H1 A1 S1 ⟨.tv h2, True.intro⟩ v rfl)
      · rename_i p d q
        obtain ⟨a, h1, r, n1, n2, h5⟩ := S1.slot i _ q
        rw [hi] at h1
        cases h1
        have ap := S1.leave q hi
        have Sd := S1.drop (i := i)
        have fin : ∀ fr2 H2, Aft fr1 Fo H1 fr2 H2 → Sim K G fr2 Fo H2 σv (σ1.set i .un) → Rep K fr2 H2 (.ref a) (frD d) → Q (.ref a) H2 := fun fr2 H2 A2 S2 r2 => hq [.ref a] fr2 H2 (A1.trans A2) (S2.setFz hi r2 h5) ⟨.tv r2, True.intro⟩ _ rfl
        rcases frd_own r with e | ⟨ks, ds, kvs, rfl, ha, z, k, x⟩
        · exact .inl (fin _ H1 (.share S1 n2) (Sd.share r.some n2 ap) (by rw [e]; exact r.rep))
        · refine .inr ⟨a, kvs, rfl, ha, fun o => ?_⟩
          have A2 := Aft.freeze (u := .frz o (.dT kvs)) S1 n1 n2
          exact fin _ _ A2 (Sd.freeze r.some n1 n2 ap r.nt fun xs z => nomatch z) (.kd (.inr rfl) upd_same z k (x.keep A2.keep))
      · exact hq.elim
end
/-! ### walks -/
/-- the pairs of a dict that stays, each a new tuple: the key's own tuple and its value -/
def Itp (d : Addr) (o : Obj) (kvs : List (List Key × V)) : It where
  go i H := i < kvs.length ∧ H d = some (.frz o (.dT kvs))
  yld i H x H2 := ∃ (p b : Addr) (e : List Key × V), kvs[i]? = some e ∧ H b = some (.tup (e.1.map kV)) ∧ H p = none ∧ x = .ref p ∧ H2 = upd H p (.tup [.ref b, e.2])
  stop i H := kvs.length ≤ i ∧ H d = some (.frz o (.dT kvs))
section
variable {X : Cx} {pins : List (Addr × Obj)} {σ : L2.St} {H : Hp} {s : Shared} {d : Addr} {o : Obj} {kvs : List (List Key × V)}
/-- a dict that stays, as the heap has it -/
theorem inv_stays (I : Inv X pins σ H s) (h : H d = some (.frz o (.dT kvs))) : (d == sysModules) = false ∧ s.heap.get? d = some o ∧ o.ExactDict ∧ kvs.length ≤ sizeLine ∧ ∃ (es : Array DictEntry) (ep : Nat), o.data = .dict es ep ∧ es.size = kvs.length ∧
    ∀ (i : Nat) (e : List Key × V), kvs[i]? = some e → ∃ (en : DictEntry) (b : Addr), es[i]? = some en ∧ en.key = .ref b ∧ H b = some (.tup (e.1.map kV)) ∧ RelV e.2 en.val := by
  obtain ⟨live, big, sys, ys, rel, o2, es, ep, live2, exact_, data, rows, -⟩ := I.hok d _ h
  obtain rfl : o2 = o := Option.some.inj (live2.symm.trans live)
  have many := size_of_entries rows
  have many2 : kvs.length = ys.length := Paired.length rel
  refine ⟨sys, live, exact_, big, es, ep, data, many.trans many2.symm, fun i e he => ?_⟩
  obtain ⟨y, hy, -, tup, val⟩ := paired_get rel he
  have at_ := entry_at rows i
  rw [hy] at at_
  exact ⟨_, y.2.1, at_, rfl, tup, val⟩
theorem turn_itp {P : Program} {w : World} {K : PySem.W.Frag} {elts : List Expr} {kk : Nat} {tpos : Pos} {es : Array DictEntry} {ep : Nat} (it : Addr) (data : o.data = .dict es ep) :
    Turn P w K (.Tuple elts kk tpos) (Itp d o kvs) [it] it (fun i h => ∃ x y, IsItemIter h it d i kvs.length ep x y) where
  mem := List.mem_singleton.mpr rfl
  obj i h st b hb := by
    obtain ⟨x, y, st⟩ := st
    rw [List.mem_singleton.mp hb]
    exact ⟨_, st, nofun⟩
  keep i h h2 st k := by
    obtain ⟨x, y, st⟩ := st
    exact ⟨x, y, k it (List.mem_singleton.mpr rfl) _ st⟩
  item X e1 e2 e3 calm i pins s σ H E I free st g := by
    subst e1 e2 e3
    obtain ⟨lt, hd⟩ := g
    obtain ⟨x, y, st⟩ := st
    obtain ⟨sys, live, exact_, big, es2, ep2, data2, many, ent⟩ := inv_stays I hd
    obtain ⟨rfl, rfl⟩ := dict_ep data data2
    obtain ⟨en, b, hen, key, tup, val⟩ := ent i kvs[i] (List.getElem?_eq_getElem lt)
    have lt2 : i < es2.size := many ▸ lt
    obtain rfl : es2[i] = en := Option.some.inj ((Array.getElem?_eq_getElem lt2).symm.trans hen)
    have young := Heap.lt_size st
    rw [← many] at st
    refine DT.nextI st ⟨o, live, exact_, data2⟩ lt2 fun h2 out tup2 size2 keep2 => ⟨_, rfl, wpAny_letOwnedTupleGo_items (s := { s with heap := h2 }) out fun h3 st3 same => ?_⟩
    have there : h3.get? s.heap.objs.size = some { cls := .type "tuple", data := .seq #[es2[i].key, es2[i].val] } := (same.2 _ (Nat.ne_of_gt young)).trans tup2
    have two : (2 : Nat) ≤ sizeLine := by decide
    have new : ObjOk X.prog X.w (upd H s.heap.objs.size (.tup [.ref b, (kvs[i]).2])) h3 s.heap.objs.size (.tup [.ref b, (kvs[i]).2]) := ⟨two, [es2[i].key, es2[i].val], .cons (show RelV (.ref b) es2[i].key from key) (.cons val .nil), _, there, rfl, _, rfl⟩
    refine ⟨.ref s.heap.objs.size, _, I.turnedNew (t' := s.toks) (ch := [it]) (fun c u hc e => ?_) free (Nat.le_refl _) new, rfl, ⟨_, b, _, List.getElem?_eq_getElem lt, tup, I.hok.fresh (Nat.le_refl _), rfl, rfl⟩, ⟨_, _, many ▸ st3⟩, fun c hc => ?_⟩
    · have ne : c ≠ it := fun z => hc (z ▸ List.mem_singleton.mpr rfl)
      exact (same.2 c ne).trans (keep2 c u ne e)
    · rw [upd_ne (by rw [List.mem_singleton.mp hc]; exact Nat.ne_of_lt young)]
      exact (free c hc).1
  done X e1 e2 e3 calm i pins s σ H E I free st g := by
    subst e1 e2 e3
    obtain ⟨le, hd⟩ := g
    obtain ⟨x, y, st⟩ := st
    obtain ⟨sys, live, exact_, big, es2, ep2, data2, many, ent⟩ := inv_stays I hd
    obtain ⟨rfl, rfl⟩ := dict_ep data data2
    rw [← many] at st
    obtain ⟨f0, f1, f2, f3, f4, f5⟩ := free it (List.mem_singleton.mpr rfl)
    exact DT.endI (I.ok.hd calm) st ⟨o, live, exact_, data2⟩ (many ▸ le) fun h2 ext => ⟨rfl, I.turned (t' := s.toks) (fun c u hc e => ext c u hc e) f0 f1 f3 f4 f5⟩
  self A i s Q E st h := by
    obtain ⟨x, y, st⟩ := st
    exact PySem.W.kcp_self st h
def iItp (t : TE) : TI := fun σ H R => t σ H fun x H1 => ∃ d o kvs, H1 d = some (.frz o (.dT kvs)) ∧ x = .ref d ∧ R (Itp d o kvs) H1
theorem pi_itp {e : Expr} {t : TE} {apos cpos tpos : Pos} {elts : List Expr} {kk : Nat} (h : PE X e t) (base : attributeBase e "items" X.env (eval e X.env) = eval e X.env) (line : (apos.endLine == cpos.line) = true) : PI X (.Tuple elts kk tpos) (.Call (.Attribute e "items" apos) [] [] cpos) (iItp t) := by
  constructor
  intro pins s σ H R I w
  refine wpAny_Call_method (T := "dict") (id := "dict.items") base rfl line PySem.F.plainAttrs_dict PySem.F.slot_dict_items PySem.F.type_dict_items ?_
  refine thn (h.run pins s σ H _ I w) fun u s1 z => ?_
  obtain ⟨x, H1, I1, rx, d, o, kvs, hd, rfl, w⟩ := z
  cases rx
  obtain ⟨sys, live, exact_, big, es, ep, data, many, -⟩ := inv_stays I1 hd
  have raw : DT.Raw s1.heap d es ep := ⟨o, live, exact_, data⟩
  refine ⟨raw.typeIs, fun a ea => ?_, ?_⟩
  · cases ea
    exact ⟨o, live, exact_.2.1⟩
  · refine method_meetsIn PySem.F.slot_dict_items PySem.F.entry_dict_items rfl (PySem.evalArgs_none ⟨rfl, raw.typeIs, PySem.F.args_dict_items_1 _, _, DT.meetsItems (es := es) (ep := ep) sys, raw, ?_⟩)
    have I2 := I1.kept (t' := s1.toks) (h' := s1.heap.push { cls := .type "dict_items", data := .fields #[.ref d] }) fun b v e => Heap.get?_push_of_some _ e
    refine DT.iterI (d := d) (es := es) (ep := ep) ⟨_, Heap.get?_push_size _ rfl, rfl, rfl⟩ (raw.push _) (pi_one (tk := s1.toks) I2 _ (turn_itp _ data) ⟨.none, .none, ?_⟩ w)
    rw [← many]
    exact Heap.get?_push_size _ rfl
end
/-! ### the walks of the small language -/
section
variable {T : XT} {K : PySem.W.Frag} {W : WX} {cf : Nat → List Sl → CR} {fr : AP} {H : Hp} {L : AP}
theorem kd_at {kvs : List (List Key × V)} {ks : List (List Int)} (h : kvs.map (·.1) = keysI ks) {i : Nat} {k : List Int} {e : List Key × V} (hk : ks[i]? = some k) (he : kvs[i]? = some e) : e.1 = keyI k := by
  have h1 : (kvs.map (·.1))[i]? = some e.1 := by rw [List.getElem?_map, he]; rfl
  rw [h, keysI, List.getElem?_map, hk] at h1
  exact (Option.some.inj h1).symm
theorem kd_len {kvs : List (List Key × V)} {ks : List (List Int)} (h : kvs.map (·.1) = keysI ks) : kvs.length = ks.length := by
  have := congrArg List.length h
  rwa [List.length_map, keysI, List.length_map] at this
theorem keysZ_at {ks : List (List Int)} (z : keysZ ks = true) {i : Nat} {k : List Int} (h : ks[i]? = some k) : k.length ≤ szLine := by
  unfold keysZ at z
  rw [List.all_eq_true] at z
  exact of_decide_eq_true (z k (List.mem_of_getElem? h))
theorem walk_keysD {v : V} {ks : List (List Int)} {vs : List D} (r : Rep K fr H v (.kd ks vs)) (z : keysZ ks = true) : ∃ a o kvs, v = .ref a ∧ H a = some (.frz o (.dT kvs)) ∧ Walk K (Itkt a o kvs) (ks.map keyD) fr H L := by
  cases r with
  | @kd a o kvs _ _ f h big keys reps =>
    refine ⟨a, o, kvs, rfl, h, fun fr2 H2 k1 k2 k3 => ?_⟩
    have hd := (k1 a f).2.trans h
    have len := kd_len keys
    refine ⟨fun i e => ⟨hd, by rw [List.length_map] at e; omega⟩, fun i d e => ?_⟩
    rw [List.getElem?_map, Option.map_eq_some_iff] at e
    obtain ⟨k, hk, rfl⟩ := e
    have lt := (List.getElem?_eq_some_iff.mp hk).1
    refine ⟨⟨hd, by omega⟩, fun x H3 y => ?_⟩
    obtain ⟨rfl, k', v', q, e1, rfl, e2⟩ := y
    have ek := kd_at keys hk e1
    simp only at ek
    subst ek
    exact .inr (.inr ⟨.inl rfl, rep_key e2 (keysZ_at z hk) (.inr ⟨_, e2⟩)⟩)
theorem walk_itpD {v : V} {ks : List (List Int)} {vs : List D} (r : Rep K fr H v (.kd ks vs)) (z : keysZ ks = true) : ∃ a o kvs, v = .ref a ∧ H a = some (.frz o (.dT kvs)) ∧ Walk K (Itp a o kvs) ((ks.zip vs).map fun p => .tup [keyD p.1, p.2]) fr H L := by
  cases r with
  | @kd a o kvs _ _ f h big keys reps =>
    refine ⟨a, o, kvs, rfl, h, fun fr2 H2 k1 k2 k3 => ?_⟩
    have hd := (k1 a f).2.trans h
    have len := kd_len keys
    have len2 : kvs.length = vs.length := by
      have := reps.length
      rwa [List.length_map] at this
    refine ⟨fun i e => ⟨by rw [List.length_map, List.length_zip] at e; omega, hd⟩, fun i d e => ?_⟩
    rw [List.getElem?_map, Option.map_eq_some_iff] at e
    obtain ⟨⟨k, w⟩, hz, rfl⟩ := e
    obtain ⟨hk, hw⟩ := List.getElem?_zip_eq_some.mp hz
    have lt := (List.getElem?_eq_some_iff.mp hk).1
    refine ⟨⟨by omega, hd⟩, fun x H3 y => ?_⟩
    obtain ⟨p, b, e, e1, e2, e3, rfl, rfl⟩ := y
    have ek := kd_at keys hk e1
    obtain ⟨u, hu, ru⟩ := reps.get hw
    rw [List.getElem?_map, e1] at hu
    obtain rfl : e.2 = u := Option.some.inj hu
    rw [ek] at e2
    have nb : b ≠ p := fun z => by rw [z, e3] at e2; cases e2
    have e4 : upd H2 p (.tup [.ref b, e.2]) b = some (.tup ((keyI k).map kV)) := (upd_ne nb).trans e2
    refine .inr (.inr ⟨.inr ⟨p, _, e3, rfl⟩, .tup ⟨.inr ⟨_, upd_same⟩, upd_same⟩ (by show 2 ≤ sizeLine; decide) (.cons (rep_key e4 (keysZ_at z hk) (.inr ⟨_, e4⟩)) (.cons (ru.keep fun c fc => ⟨.inl (k1 c fc).1, ?_⟩) .nil))⟩)
    exact (upd_ne fun (z : c = p) => k3 c (k1 c fc).1 (by rw [z]; exact e3)).trans (k1 c fc).2
/-- a walk whose source is one such dict -/
theorem gi_kd {k : Ik} {m : E} {t : TE} {w : V → Hp → (It → Hp → Prop) → Prop} (h : GE T K W cf m t) (hk : ∀ ds xs, items k ds = some xs → ∃ ks vs, ds = [.kd ks vs])
    (hw : ∀ fr H L v ks vs xs (Rr : It → Hp → Prop), Rep K fr H v (.kd ks vs) → items k [.kd ks vs] = some xs → (∀ J, Walk K J xs fr H L → Rr J H) → w v H Rr) : GI T K W cf k (.cons m .nil) (fun σ H Rr => t σ H fun v H1 => w v H1 Rr) := fun G fr Fo H σv σd Rr S hq => by
  refine h G fr Fo H σv σd _ S ?_
  simp only [ev, R.andThen] at hq
  cases e : ev cf m σd with
  | bad => rw [e] at hq; exact hq.elim
  | ex c fs σ1 => rw [e] at hq; exact hq
  | ok ts σ1 =>
    rw [e] at hq
    simp only [IPost, List.append_nil] at hq
    intro vs fr1 H1 A1 S1 R1 v hv
    subst hv
    split at hq
    · exact hq.elim
    · rename_i ds el
      split at hq
      · exact hq.elim
      · rename_i xs ei
        obtain ⟨ks, us, rfl⟩ := hk ds xs ei
        cases R1.looks (fun _ f => f) S1 el with
        | cons r1 r2 =>
        cases r1 with
        | ow r => cases r
        | sh r => exact hw fr1 H1 (srcF σ1 [v] ts) v ks us xs Rr r ei fun J wk => hq [v] fr1 H1 J A1 S1 R1 wk
theorem gi_keys {m : E} {t : TE} (h : GE T K W cf m t) : GI T K W cf .keys (.cons m .nil) (iKeys t) :=
  gi_kd (w := fun x H1 R => ∃ d o, x = .ref d ∧ ((∃ kvs, H1 d = some (.frz o (.dK kvs)) ∧ R (Itk d o kvs) H1) ∨ ∃ kvs, H1 d = some (.frz o (.dT kvs)) ∧ R (Itkt d o kvs) H1)) h (fun ds xs e => by
    unfold items at e
    split at e <;> first | contradiction | exact ⟨_, _, rfl⟩) fun fr H L v ks vs xs R r e q => by
      simp only [items] at e
      split at e
      · rename_i z
        cases e
        obtain ⟨a, o, kvs, rfl, hd, wk⟩ := walk_keysD (L := L) r z
        exact ⟨a, o, rfl, .inr ⟨kvs, hd, q _ wk⟩⟩
      · cases e
theorem gi_itp {m : E} {t : TE} (h : GE T K W cf m t) : GI T K W cf .itm (.cons m .nil) (iItp t) :=
  gi_kd (w := fun x H1 R => ∃ d o kvs, H1 d = some (.frz o (.dT kvs)) ∧ x = .ref d ∧ R (Itp d o kvs) H1) h (fun ds xs e => by
    unfold items at e
    split at e <;> first | contradiction | exact ⟨_, _, rfl⟩) fun fr H L v ks vs xs R r e q => by
      simp only [items] at e
      split at e
      · rename_i z
        cases e
        obtain ⟨a, o, kvs, rfl, hd, wk⟩ := walk_itpD (L := L) r z
        exact ⟨a, o, kvs, hd, rfl, q _ wk⟩
      · cases e
end
end Fly
end

section
set_option Elab.async false
set_option linter.all false
set_option maxRecDepth 100000
set_option maxHeartbeats 4000000
/-! Steps over dicts with rows as keys: len, isinstance, sorted, the list of the pairs (FlyKo). -/
namespace Fly
open PySem L2 PySem.Spec PyProof.Rows
/-! ### a step that lays things; tuples that are laid are shared -/
/-- all cells stay, what is shared besides is a tuple -/
structure Grown (fr : AP) (H : Hp) (fr2 : AP) (H2 : Hp) : Prop where
  cells : ∀ a o, H a = some o → H2 a = some o
  more : ∀ a, fr a → fr2 a
  only : ∀ a, fr2 a → fr a ∨ ∃ xs, H2 a = some (.tup xs)
section
variable {T : XT} {K : PySem.W.Frag} {W : WX} {cf : Nat → List Sl → CR} {G : Nat → V} {fr fr2 Fo : AP} {H H2 : Hp} {σv : L2.St} {σd : List Sl}
theorem cell_at {a : Addr} (g : Grown fr H fr2 H2) (h : H a ≠ none) : H2 a = H a := by
  cases e : H a with
  | none => exact absurd e h
  | some o => exact g.cells a o e
theorem Grown.keep (g : Grown fr H fr2 H2) (h : ∀ a, fr a → H a ≠ none) : ∀ a, fr a → fr2 a ∧ H2 a = H a := fun a f => ⟨g.more a f, cell_at g (h a f)⟩
theorem Grown.not (g : Grown fr H fr2 H2) {a : Addr} (h : H a ≠ none) (hf : ¬ fr a) (ht : NT (H a)) : ¬ fr2 a := fun z => by
  rcases g.only a z with z | ⟨xs, z⟩
  · exact hf z
  · rw [cell_at g h] at z
    exact ht xs z
theorem Sim.grown (S : Sim K G fr Fo H σv σd) (g : Grown fr H fr2 H2) : Sim K G fr2 Fo H2 σv σd := by
  have k := g.keep S.frs
  refine ⟨S.len, fun i s e => ?_, S.sep, fun a f => ?_, fun a f => ?_⟩
  · have q := S.slot i s e
    cases s with
    | un => exact q
    | lk => exact q
    | fz p d => obtain ⟨v, h1, h2, h3⟩ := q; exact ⟨v, h1, h2.keep k, h3⟩
    | ow p d =>
      obtain ⟨a, h1, h2, h3, h4, h5⟩ := q
      exact ⟨a, h1, h2.keep k (cell_at g h2.some), g.not h2.some h3 h2.nt, h4, h5⟩
  · rcases g.only a f with f | ⟨xs, e⟩
    · rw [cell_at g (S.frs a f)]
      exact S.frs a f
    · rw [e]; exact nofun
  · obtain ⟨h1, h2, h3⟩ := S.fos a f
    rw [cell_at g h1]
    exact ⟨h1, g.not h1 h2 h3, h3⟩
theorem Aft.grown (S : Sim K G fr Fo H σv σd) (g : Grown fr H fr2 H2) : Aft fr Fo H fr2 H2 :=
  ⟨g.keep S.frs, fun a f => let ⟨h1, h2, h3⟩ := S.fos a f; ⟨g.not h1 h2 h3, cell_at g h1⟩⟩
/-- what follows such a step -/
def XPost (K : PySem.W.Frag) (fr : AP) (H : Hp) (b : Bool) (d : D) (Q : VK) : Prop :=
  ∀ fr2 H2, Grown fr H fr2 H2 → (b = false → ∀ v, Rep K fr2 H2 v d → Q v H2) ∧ (b = true → ∀ p, H p = none → RepO K fr2 H2 p d → Q (.ref p) H2)
def OpOkX (K : PySem.W.Frag) (o : Op) (r : List V → Hp → VK → Prop) : Prop :=
  ∀ fr H vs ds b d Q, (∀ a, fr a → H a ≠ none) → Rep0s K fr H vs ds → opf o ds = some (b, d) → XPost K fr H b d Q → r vs H Q
theorem ge_opX {o : Op} {es : E} {r : List V → Hp → VK → Prop} {t : TA} (ho : OpOkX K o r) (h : GA T K W cf es t) : GE T K W cf (.op o es) (tCB r t) := fun G fr Fo H σv σd Q S hq => by
  refine h G fr Fo H σv σd _ S ?_
  simp only [ev, R.andThen] at hq
  cases e : ev cf es σd with
  | bad => rw [e] at hq; exact hq
  | ex c fs σ1 => rw [e] at hq; exact hq
  | ok ts σ1 =>
    rw [e] at hq
    intro vs fr1 H1 A1 S1 R1
    simp only at hq
    split at hq
    rotate_left
    · exact hq.elim
    rename_i ds el
    have r0 := R1.looks (fun _ f => f) S1 el
    split at hq
    · rename_i d eo
      refine ho fr1 H1 vs ds true d Q S1.frs r0 eo fun fr2 H2 g => ⟨nofun, fun _ p hp ro => ?_⟩
      have n1 : ¬ fr2 p := fun z => by
        rcases g.only p z with z | ⟨xs, z⟩
        · exact S1.frs p z hp
        · exact ro.nt xs z
      exact hq [.ref p] fr2 H2 (A1.trans (.grown S1 g)) (S1.grown g) ⟨.tf ro n1 (fun f => (S1.fos p f).1 hp) (S1.apart_new hp), True.intro⟩ _ rfl
    · rename_i d eo
      exact ho fr1 H1 vs ds false d Q S1.frs r0 eo fun fr2 H2 g => ⟨fun _ v rv => hq [v] fr2 H2 (A1.trans (.grown S1 g)) (S1.grown g) ⟨.tv rv, True.intro⟩ v rfl, nofun⟩
    · exact hq.elim
theorem Grown.refl : Grown fr H fr H := ⟨fun _ _ e => e, fun _ f => f, fun _ f => .inl f⟩
theorem Grown.tups (g : Grown fr H fr2 H2) : Grown fr H (frT fr2 H2) H2 := ⟨g.cells, fun a f => .inl (g.more a f), fun a f => f.elim (g.only a) .inr⟩
theorem Grown.lay {p : Addr} {o : HO} (hp : H p = none) : Grown fr H fr (upd H p o) := ⟨fun a u e => by rw [upd_ne (fun z => by rw [z, hp] at e; cases e)]; exact e, fun _ f => f, fun _ f => .inl f⟩
end
/-! ### len(d) -/
section
variable {X : Cx} {K : PySem.W.Frag}
def rLenD : List V → Hp → VK → Prop := fun xs H Q => ∃ (d : Addr) (kvs : List (List Key × V)), xs = [.ref d] ∧ Rd H d (.dT kvs) ∧ Q (.int (kvs.length : Nat)) H
theorem cr_lenD : CallR X (.builtin "len") rLenD := by
  intro pins s σ H xs us Q I r h
  obtain ⟨d, kvs, rfl, rd, q⟩ := h
  rw [Vals.ref1 r]
  obtain ⟨big, sys, ys, rel, st⟩ := dt_rd I.hok rd
  have len : kvs.length = ys.length := Paired.length rel
  rw [sizeLine_eq] at big
  refine PySem.call_len_dictH sys st (by omega) ⟨.int (kvs.length : Nat), H, I.tok _, ⟨_, by rw [len]⟩, q⟩
theorem one_arg {K : PySem.W.Frag} {fr : AP} {H : Hp} {vs : List V} {x : D} (r : Rep0s K fr H vs [x]) : ∃ v, vs = [v] ∧ Rep0 K fr H v x := by
  cases r with
  | cons r1 r2 =>
    cases r2
    exact ⟨_, rfl, r1⟩
theorem ok_lend : OpOkX K .lend rLenD := by
  intro fr H vs ds b d Q hf r e q
  have e : fLend ds = some (b, d) := e
  unfold fLend at e
  split at e
  · rw [Option.map_eq_some_iff] at e
    obtain ⟨p, e1, e2⟩ := e
    cases e2
    obtain ⟨v, rfl, r1⟩ := one_arg r
    obtain ⟨a, kvs, rfl, h1, z1, k1, x1⟩ := r1.dprt e1
    exact ⟨a, kvs, rfl, h1, (q fr H .refl).1 rfl _ (by rw [kd_len k1]; exact .int _)⟩
  · cases e
end
/-! ### isinstance(d, dict), d a dict that stays -/
section
variable {X : Cx} {K : PySem.W.Frag}
theorem isd_meets {a : Addr} (dep : Int) (tk : PySem.Tok) :
    Meets (Builtin.«isinstance.nested» ⟨[.ref a, .type "dict", .int dep tk], []⟩) (fun _ R s => s.TypeIs (.ref a) "dict" ∧ ∀ t, R (.ok (.ret (.bool true))) { s with toks := t }) := by
  intro prog w A R s hs
  obtain ⟨h, g, d, tt, os⟩ := s
  unfold Builtin.«isinstance.nested»
  refine wpAny_bind (wpAny_typeOf hs.1 ?_)
  simp only [beq_self_eq_true, if_true]
  first
    | exact wpAny_bind (wpAny_rule (wpAny_pure (hs.2 _)))
    | exact wpAny_bind (wpAny_rule (hs.2 _))
    | exact wpAny_pure (hs.2 tt)
    | exact hs.2 tt
def rIsdF : List V → Hp → VK → Prop := fun xs H Q => ∃ (a : Addr) (o : Obj) (kvs : List (List Key × V)), xs = [.ref a, .ty "dict"] ∧ H a = some (.frz o (.dT kvs)) ∧ Q (.bl true) H
theorem cr_isdF : CallR X (.builtin "isinstance") rIsdF := by
  intro pins s σ H xs us Q I r h
  obtain ⟨a, o, kvs, rfl, ha, q⟩ := h
  obtain ⟨u, u2, rfl, ru, ru2⟩ := vals2 r
  cases (show u2 = Value.type "dict" from ru2)
  cases (show u = Value.ref a from ru)
  obtain ⟨sys, live, exact_, -⟩ := inv_stays I ha
  exact call_isinstance (S := fun _ R s => s.TypeIs (.ref a) "dict" ∧ ∀ t, R (.ok (.ret (.bool true))) { s with toks := t })
    (fun prog w A R s hs => isinstance_outer (isd_meets 0 _ prog w A R s hs) (fun z => nomatch z)) ⟨⟨o, live, exact_.1⟩, fun t => ⟨.bl true, H, I.tok t, rfl, q⟩⟩
def rIsdA (K : PySem.W.Frag) : List V → Hp → VK → Prop := fun xs H Q => rIsi K xs H Q ∨ rIsdF xs H Q
theorem cr_isdA : CallR X (.builtin "isinstance") (rIsdA X.K) := CallR.or call_isi cr_isdF
theorem ok_isd : OpOk K .isd (l1 fun x H Q => rIsdA K [x, .ty "dict"] H Q) := by
  intro fr H vs ds b d Q hf r e q
  have e : fIsd ds = some (b, d) := e
  unfold fIsd at e
  split at e
  · cases e
    obtain ⟨v, rfl, r1⟩ := one_arg r
    cases r1 with
    | ow r => cases r
    | sh r => cases r with
      | kd f h z k r => exact .inr ⟨_, _, _, rfl, h, q.1 rfl _ (.bl _)⟩
  · have z := ok_isi1 (K := K) (t := 6) (by decide) fr H vs ds b d Q hf r e q
    match vs, z with
    | [x], z => exact .inl z
end
/-! ### sorted(d) -/
section
variable {P : Program} {w : World} {A : Around} {E : Value → Shared → Prop} {s : Shared}
/-- the rows that are the keys, as the heap has them -/
structure KeyRows (P : Program) (w : World) (h : Heap) (es : Array DictEntry) (L : List (Addr × List Int)) : Prop where
  many : es.size = L.length
  key : ∀ (i : Nat) (en : DictEntry) (p : Addr × List Int), es[i]? = some en → L[i]? = some p → en.key = .ref p.1
  row : ∀ p ∈ L, IsT P w h p.2 p.1
theorem KeyRows.got {es : Array DictEntry} {L : List (Addr × List Int)} {h : Heap} (R : KeyRows P w h es L) {acc : Array Value} (it : ItemsOf (fun i v => ∃ en : DictEntry, es[i]? = some en ∧ v = en.key) acc es.size) : acc.toList = L.map fun q => Value.ref q.1 := by
  refine List.ext_getElem? fun i => ?_
  rw [List.getElem?_map, Array.getElem?_toList]
  have size := it.1
  have many := R.many
  by_cases h : i < L.length
  · obtain ⟨en, he, ev⟩ := it.2 i acc[i] (Array.getElem?_eq_getElem (by omega))
    rw [Array.getElem?_eq_getElem (by omega), List.getElem?_eq_getElem h, ev, R.key i en L[i] he (List.getElem?_eq_getElem h)]
    rfl
  · rw [Array.getElem?_eq_none (by omega), List.getElem?_eq_none (by omega)]
    rfl
theorem sorted_dict {d : Addr} {o : Obj} {es : Array DictEntry} {ep : Nat} {L : List (Addr × List Int)} {Q : Value → Shared → Prop} (sys : (d == sysModules) = false) (live : s.heap.get? d = some o) (exact_ : o.ExactDict) (data : o.data = .dict es ep) (R : KeyRows P w s.heap es L) (ne : ∀ p ∈ L, p.2 ≠ [])
    (big : L.length ≤ sizeLine) (hh : A.handled = none)
    (hQ : ∀ (h1 h2 : Heap) (tk c : Nat) (L2 : List (Addr × List Int)), (∀ b u, s.heap.get? b = some u → h1.get? b = some u) → (∀ b u, h1.get? b = some u → h2.get? b = some u) → h2.get? h1.objs.size = some (seqObj "list" (L2.map fun q => Value.ref q.1).toArray c) → L2.Perm L →
      L2.Pairwise (fun q r => HT.lexLt r.2 q.2 = false) → Q (.ref h1.objs.size) { s with heap := h2, toks := tk }) :
    wpAny (model P w) A (call (.builtin "sorted") [.ref d]) Q E s := by
  refine Calls.call_function_entry kind_sorted plain_sorted entry_sorted (args_sorted1 _) ?_
  unfold Builtin.«sorted»
  refine wpAny_bind (m := checkCount "sorted" 1 1 _) (wpAny_pure (wpAny_bind (PySem.W.kdu_collect (A := A.in1) (kdl_raw sys exact_ data) hh live (by rw [R.many]; exact big) fun h1 tk acc k1 it => ?_)))
  rw [R.got it]
  refine wpAny_bind (wpAny_newList ?_ (by rw [List.length_map]; exact big))
  dsimp only
  have lst : (h1.push (seqObj "list" (L.map fun q => Value.ref q.1).toArray 0)).get? h1.objs.size = some (seqObj "list" (L.map fun q => Value.ref q.1).toArray 0) := Heap.get?_push_size _ rfl
  have rows : ∀ q ∈ L, TS.TupInts (h1.push (seqObj "list" (L.map fun q => Value.ref q.1).toArray 0)) (.ref q.1) q.2 := fun q hq => tupInts_of (P := P) (w := w) (isT_keep (R.row q hq) fun b u e => Heap.get?_push_of_some _ (k1 b u e))
  refine wpAny_bind (wpAny_holding (wpAny_call_entry slot_list_sort ⟨_, lst, rfl⟩ entry_list_sort (SrtO.list_sort_ord (s := { s with heap := h1.push (seqObj "list" (L.map fun q => Value.ref q.1).toArray 0), toks := tk })
    (NtL.swo_lexL fun v => TS.intsOf (h1.push (seqObj "list" (L.map fun q => Value.ref q.1).toArray 0)) v) lst (by rw [List.length_map]; exact big) (fun two => TupO.tup_sortable (by omega) (fun v hv => ?_) fun u hu => ?_) fun out srt bal => ⟨_, rfl, ?_⟩) (args_list_sort _)))
  · obtain ⟨q, hq, rfl⟩ := List.mem_map.mp hv
    rw [(rows q hq).ints]
    exact ⟨rows q hq, ne q hq⟩
  · obtain rfl : seqObj "list" _ 0 = u := Option.some.inj (lst.symm.trans hu)
    intro c
    exact absurd (Value.type.inj c) (by decide)
  · obtain ⟨L2, p2, e2⟩ := perm_lift (fun q : Addr × List Int => Value.ref q.1) bal.perm.symm L rfl
    subst e2
    obtain ⟨c, hc⟩ := sortedHeap_at (vs := L.map fun q => Value.ref q.1) (out := (L2.map fun q => Value.ref q.1).toArray) lst
    refine wpAny_pure ⟨_, rfl, hQ h1 _ tk c L2 k1 (fun b u q => ?_) hc p2 ?_⟩
    · have lt := Heap.lt_size q
      show (sortedHeap (h1.push _) h1.objs.size _ _).get? b = some u
      rw [sortedHeap_old (Nat.ne_of_lt lt) (by rw [size_push']; exact Nat.lt_succ_of_lt lt)]
      exact Heap.get?_push_of_some _ q
    · refine List.Pairwise.imp_of_mem (fun {q r} hq hr h => ?_) (List.pairwise_map.mp srt)
      rw [← (rows q (p2.mem_iff.mp hq)).ints, ← (rows r (p2.mem_iff.mp hr)).ints]
      exact h
end
section
variable {X : Cx} {K : PySem.W.Frag}
def rSortD : List V → Hp → VK → Prop := fun xs H Q => ∃ (d : Addr) (kvs : List (List Key × V)) (ks : List (List Int)), xs = [.ref d] ∧ Rd H d (.dT kvs) ∧ kvs.map (·.1) = keysI ks ∧ keysN ks = true ∧
  ∀ (p : Addr) (L : List (Addr × List Int)), H p = none → L.map (·.2) = lsort ks → (∀ q ∈ L, H q.1 = some (.tup (q.2.map V.int))) → Q (.ref p) (upd H p (.lst (L.map fun q => V.ref q.1)))
/-- the keys' own tuples -/
theorem key_rows {H : Hp} : ∀ {kvs : List (List Key × V)} {ks : List (List Int)} {xs : List (List Key × Addr × Value)}, KT H kvs xs → kvs.map (·.1) = keysI ks → ∃ L : List (Addr × List Int), L.map (·.2) = ks ∧ L.map (·.1) = xs.map (·.2.1) ∧ ∀ q ∈ L, H q.1 = some (.tup (q.2.map V.int))
  | [], ks, [], .nil, e => by
    cases ks with
    | nil => exact ⟨[], rfl, rfl, nofun⟩
    | cons => cases e
  | (k, v) :: kvs, ks, x :: xs, .cons h t, e => by
    cases ks with
    | nil => cases e
    | cons n ks =>
      rw [List.map_cons, keysI, List.map_cons, List.cons.injEq] at e
      obtain ⟨L, h1, h2, h3⟩ := key_rows t e.2
      refine ⟨(x.2.1, n) :: L, by rw [List.map_cons, h1], by rw [List.map_cons, List.map_cons, h2], fun q hq => ?_⟩
      rcases List.mem_cons.mp hq with rfl | hq
      · have h4 : H x.2.1 = some (.tup (k.map kV)) := h.2.1
        have e1 : k = keyI n := e.1
        rw [h4, e1, keyI_kV]
      · exact h3 q hq
theorem cr_sortD (hc : X.calm = true) : CallR X (.builtin "sorted") rSortD := by
  intro pins s σ H vs us Q I r h
  obtain ⟨d, kvs, ks, rfl, rd, keys, ne, q⟩ := h
  rw [Vals.ref1 r]
  obtain ⟨big, sys, xs, rel, o, es, ep, live, exact_, data, rows, -⟩ := dt_rd I.hok rd
  obtain ⟨L, l1, l2, l3⟩ := key_rows rel keys
  have n1 := size_of_entries rows
  have n2 : L.length = xs.length := by
    have := congrArg List.length l2
    rwa [List.length_map, List.length_map] at this
  have n3 : kvs.length = xs.length := Paired.length rel
  have R : KeyRows X.prog X.w s.heap es L := by
    refine ⟨by omega, fun i en p he hp => ?_, fun p hp => I.isT (.inl (.inl (l3 p hp)))⟩
    have a1 := entry_at rows i
    have a2 : (L.map (·.1))[i]? = some p.1 := by rw [List.getElem?_map, hp]; rfl
    rw [l2, List.getElem?_map] at a2
    cases hx : xs[i]? with
    | none => rw [hx] at a2; cases a2
    | some x =>
      rw [hx] at a2 a1
      rw [he] at a1
      have e1 := Option.some.inj a1
      have e2 : x.2.1 = p.1 := Option.some.inj a2
      rw [e1, ← e2]
      rfl
  refine sorted_dict sys live exact_ data R (fun p hp => ?_) (by omega) (I.ok.hd hc) fun h1 h2 tk c L2 k1 k2 hg pm pw => ?_
  · have hm : p.2 ∈ ks := l1 ▸ List.mem_map_of_mem hp
    unfold keysN at ne
    rw [List.all_eq_true] at ne
    exact of_decide_eq_true (ne _ hm)
  · have I1 : Inv X pins σ H { s with heap := h1, toks := tk } := I.kept k1
    have hlen : (L2.map fun q => V.ref q.1).length ≤ sizeLine := by rw [List.length_map, pm.length_eq]; omega
    refine ⟨.ref h1.objs.size, _, I1.laid (o := .lst (L2.map fun q => V.ref q.1)) (t' := tk) (h' := h2) k2 (Nat.le_refl _) ⟨hlen, _, c, vals_of_refs L2, hg⟩, rfl, q _ L2 (I1.hok.fresh (Nat.le_refl _)) ?_ fun z hz => l3 z (pm.mem_iff.mp hz)⟩
    rw [← l1]
    exact ((pm.map (·.2)).trans (lsort_perm _).symm).eq_of_pairwise (fun a b _ _ h3 h4 => lex_anti h4 h3) (List.pairwise_map.mpr pw) (lsort_sorted _)
theorem rows_rep {fr : AP} {H : Hp} : ∀ {L : List (Addr × List Int)}, (∀ q ∈ L, fr q.1 ∧ H q.1 = some (.tup (q.2.map V.int)) ∧ q.2.length ≤ szLine) → Reps K fr H (L.map fun q => V.ref q.1) ((L.map (·.2)).map keyD)
  | [], _ => .nil
  | q :: L, h => by
    obtain ⟨h1, h2, h3⟩ := h q List.mem_cons_self
    exact .cons (.tup ⟨h1, h2⟩ (by rw [List.length_map, ← szLine_eq]; exact h3) (rep_ints q.2)) (rows_rep fun r hr => h r (List.mem_cons_of_mem _ hr))
theorem ok_sortd : OpOkX K .sortd rSortD := by
  intro fr H vs ds b d Q hf r e q
  have e : fSortd ds = some (b, d) := e
  unfold fSortd at e
  split at e
  · rw [Option.bind_eq_some_iff] at e
    obtain ⟨p, e1, e2⟩ := e
    split at e2
    · rename_i z
      cases e2
      rw [Bool.and_eq_true] at z
      obtain ⟨v, rfl, r1⟩ := one_arg r
      obtain ⟨a, kvs, rfl, h1, z1, k1, x1⟩ := r1.dprt e1
      refine ⟨a, kvs, p.1, rfl, h1, k1, z.1, fun l L hl eL hL => ?_⟩
      have at_ : ∀ q ∈ L, upd H l (.lst (L.map fun q => V.ref q.1)) q.1 = some (.tup (q.2.map V.int)) := fun w hw => by
        rw [upd_ne fun e => by have := hL w hw; rw [e, hl] at this; cases this]
        exact hL w hw
      have zl : ∀ w ∈ L, w.2.length ≤ szLine := fun w hw => by
        have m : w.2 ∈ lsort p.1 := eL ▸ List.mem_map_of_mem hw
        have m : w.2 ∈ p.1 := (lsort_perm _).mem_iff.mp m
        have z2 := z.2
        unfold keysZ at z2
        rw [List.all_eq_true] at z2
        exact of_decide_eq_true (z2 _ m)
      refine (q (frT fr (upd H l _)) _ (Grown.lay hl).tups).2 rfl l hl (.lst upd_same ?_ ?_)
      · rw [List.length_map, ← List.length_map (f := (·.2)), eL, (lsort_perm _).length_eq, ← kd_len k1]
        exact z1
      · rw [← eL]
        exact rows_rep fun w hw => ⟨.inr ⟨_, at_ w hw⟩, at_ w hw, zl w hw⟩
    · cases e2
  · cases e
end
/-! ### list(d.items()) -/
section
variable {X : Cx} {K : PySem.W.Frag}
/-- a dict that is looked at, as the heap has it -/
theorem inv_rd {pins : List (Addr × Obj)} {σ : L2.St} {H : Hp} {s : Shared} {d : Addr} {kvs : List (List Key × V)} (I : Inv X pins σ H s) (h : Rd H d (.dT kvs)) : (d == sysModules) = false ∧ kvs.length ≤ sizeLine ∧ ∃ (o : Obj) (es : Array DictEntry) (ep : Nat), s.heap.get? d = some o ∧ o.ExactDict ∧ o.data = .dict es ep ∧ es.size = kvs.length ∧
    ∀ (i : Nat) (e : List Key × V), kvs[i]? = some e → ∃ (en : DictEntry) (b : Addr), es[i]? = some en ∧ en.key = .ref b ∧ H b = some (.tup (e.1.map kV)) ∧ RelV e.2 en.val := by
  obtain ⟨big, sys, ys, rel, o, es, ep, live, exact_, data, rows, -⟩ := dt_rd I.hok h
  have many := size_of_entries rows
  have many2 : kvs.length = ys.length := Paired.length rel
  refine ⟨sys, big, o, es, ep, live, exact_, data, many.trans many2.symm, fun i e he => ?_⟩
  obtain ⟨y, hy, -, tup, val⟩ := paired_get rel he
  have at_ := entry_at rows i
  rw [hy] at at_
  exact ⟨_, y.2.1, at_, rfl, tup, val⟩
def tItems (t : TE) : TE := fun σ H Q => t σ H fun x H1 => ∃ (d : Addr) (kvs : List (List Key × V)), x = .ref d ∧ Rd H1 d (.dT kvs) ∧ ∀ p, H1 p = none → Q (.ref p) (upd H1 p (L2.DX.itemsO p d))
theorem pe_items {e : Expr} {t : TE} {apos cpos : Pos} (h : PE X e t) (base : attributeBase e "items" X.env (eval e X.env) = eval e X.env) (line : (apos.endLine == cpos.line) = true) : PE X (.Call (.Attribute e "items" apos) [] [] cpos) (tItems t) := by
  constructor
  intro pins s σ H Q I w
  refine wpAny_Call_method (T := "dict") (id := "dict.items") base rfl line PySem.F.plainAttrs_dict PySem.F.slot_dict_items PySem.F.type_dict_items ?_
  refine thn (h.run pins s σ H _ I w) fun u s1 z => ?_
  obtain ⟨x, H1, I1, rx, d, kvs, rfl, hd, w⟩ := z
  cases rx
  obtain ⟨sys, big, o, es, ep, live, exact_, data, -⟩ := inv_rd I1 hd
  have raw : DT.Raw s1.heap d es ep := ⟨o, live, exact_, data⟩
  refine ⟨raw.typeIs, fun a ea => ?_, ?_⟩
  · cases ea
    exact ⟨o, live, exact_.2.1⟩
  · refine method_meetsIn PySem.F.slot_dict_items PySem.F.entry_dict_items rfl (PySem.evalArgs_none ⟨rfl, raw.typeIs, PySem.F.args_dict_items_1 _, _, DT.meetsItems (es := es) (ep := ep) sys, raw, ?_⟩)
    exact ⟨.ref s1.heap.objs.size, _, I1.laid (t' := s1.toks) (fun b v e => Heap.get?_push_of_some _ e) (Nat.le_refl _) (L2.DX.itemsO_ok (Heap.get?_push_size _ rfl)), rfl, w _ (I1.hok.fresh (Nat.le_refl _))⟩
/-- list(v), v the view of a dict's pairs: new tuples (the first of ps), each of the key's own tuple (the second) and the value -/
def rListV : List V → Hp → VK → Prop := fun xs H Q => ∃ (v d : Addr) (kvs : List (List Key × V)), xs = [.ref v] ∧ H v = some (L2.DX.itemsO v d) ∧ Rd H d (.dT kvs) ∧
  ∀ (H2 : Hp) (l : Addr) (ps : List (Addr × Addr)), (∀ a u, H a = some u → H2 a = some u) → H l = none → H2 l = some (.lst (ps.map fun q => V.ref q.1)) → ps.length = kvs.length →
    (∀ (i : Nat) (q : Addr × Addr) (e : List Key × V), ps[i]? = some q → kvs[i]? = some e → H2 q.1 = some (.tup [.ref q.2, e.2]) ∧ H2 q.2 = some (.tup (e.1.map kV))) → Q (.ref l) H2
theorem list_of {α β : Type} {p : Nat → α → β → Prop} : ∀ (l : List α), (∀ i a, l[i]? = some a → ∃ b, p i a b) → ∃ m : List (α × β), m.map (·.1) = l ∧ ∀ i q, m[i]? = some q → p i q.1 q.2
  | [], _ => ⟨[], rfl, fun i q h => by cases h⟩
  | a :: l, h => by
    obtain ⟨b, hb⟩ := h 0 a rfl
    obtain ⟨m, e, hm⟩ := list_of (p := fun i => p (i + 1)) l fun i a e => h (i + 1) a e
    refine ⟨(a, b) :: m, by rw [List.map_cons, e], fun i q hq => ?_⟩
    cases i with
    | zero =>
      cases hq
      exact hb
    | succ i => exact hm i q hq
theorem cr_listV (hc : X.calm = true) : CallR X (.type "list") rListV := by
  intro pins s σ H xs us Q I r h
  obtain ⟨v, d, kvs, rfl, hv, rd, q⟩ := h
  rw [Vals.ref1 r]
  have view : s.heap.IsItemsView v d := (show ObjOk X.prog X.w H s.heap v (L2.DX.itemsO v d) from I.hok v _ hv).1
  obtain ⟨sys, big, o, es, ep, live, exact_, data, many, ent⟩ := inv_rd I rd
  refine PySem.W.dil_call (es := es) (ep := ep) (I.ok.hd hc) view ⟨o, live, exact_, data⟩ (by omega) fun h2 tk acc c as keep lst len G eacc => ?_
  obtain ⟨m, em, hm⟩ := list_of (p := fun i a b => ∃ e, kvs[i]? = some e ∧ H b = some (.tup (e.1.map kV)) ∧ ∀ H2, ObjOk X.prog X.w H2 h2 a (.tup [.ref b, e.2])) as fun i a ha => by
    have lt : i < kvs.length := by
      have := (List.getElem?_eq_some_iff.mp ha).1
      omega
    obtain ⟨en, b, hen, key, tup, val⟩ := ent i kvs[i] (List.getElem?_eq_getElem lt)
    obtain ⟨lt2, there⟩ := G.pairs i a ha
    obtain rfl : es[i] = en := Option.some.inj ((Array.getElem?_eq_getElem lt2).symm.trans hen)
    have two : (2 : Nat) ≤ sizeLine := by decide
    exact ⟨b, _, List.getElem?_eq_getElem lt, tup, fun H2 => ⟨two, [es[i].key, es[i].val], .cons (show RelV (.ref b) es[i].key from key) (.cons val .nil), _, there, rfl, _, rfl⟩⟩
  have hl : H s.heap.objs.size = none := I.hok.fresh (Nat.le_refl _)
  have small : (m.map fun q => V.ref q.1).length ≤ sizeLine := by
    have := congrArg List.length em
    rw [List.length_map] at this ⊢
    omega
  have refs : acc.toList = m.map fun q => Value.ref q.1 := by rw [eacc, ← em, List.map_map]; rfl
  have vals : Vals (m.map fun q => V.ref q.1) acc.toList := by
    rw [refs]
    clear refs small em hm
    induction m with
    | nil => exact .nil
    | cons q m ih => exact .cons rfl ih
  have I1 : Inv X pins σ (upd H s.heap.objs.size (.lst (m.map fun q => V.ref q.1))) { s with heap := h2, toks := tk } := I.laid (t' := tk) keep (Nat.le_refl _) ⟨small, acc.toList, c, vals, by rw [Array.toArray_toList]; exact lst⟩
  obtain ⟨H2, I2, k2, t2⟩ := L2.DX.takeT (P := fun a vs => ∃ (i : Nat) (q : Addr × Addr) (e : List Key × V), m[i]? = some q ∧ kvs[i]? = some e ∧ q.1 = a ∧ vs = [.ref q.2, e.2]) I as _ I1 (G.rise.imp fun h => Nat.ne_of_lt h) fun a ha => by
    have up := G.above a ha
    obtain ⟨i, hi⟩ := List.mem_iff_getElem?.mp ha
    have hq : (m.map (·.1))[i]? = some a := by rw [em]; exact hi
    rw [List.getElem?_map, Option.map_eq_some_iff] at hq
    obtain ⟨w, hw, rfl⟩ := hq
    obtain ⟨e, he, tup, ok⟩ := hm i w hw
    exact ⟨Nat.le_of_lt up, (upd_ne (Nat.ne_of_gt up)).trans (I.hok.fresh (Nat.le_of_lt up)), _, ⟨i, w, e, hw, he, rfl, rfl⟩, ok⟩
  have nd : as.Nodup := G.rise.imp fun h => Nat.ne_of_lt h
  refine ⟨.ref s.heap.objs.size, H2, I2, rfl, q H2 _ m (fun a u e => k2 a u ((upd_ne fun z => by rw [z, hl] at e; cases e).trans e)) hl (k2 _ _ upd_same) ?_ fun i w e hw he => ?_⟩
  · have := congrArg List.length em
    rw [List.length_map] at this
    omega
  · obtain ⟨e2, he2, tup, -⟩ := hm i w hw
    obtain rfl : e = e2 := Option.some.inj (he.symm.trans he2)
    have hi : as[i]? = some w.1 := by rw [← em, List.getElem?_map, hw]; rfl
    obtain ⟨vs, ⟨j, w2, e3, hw2, he3, ew, rfl⟩, hcell⟩ := t2 w.1 (List.mem_of_getElem? hi)
    have hj : as[j]? = some w.1 := by rw [← em, List.getElem?_map, hw2, ← ew]; rfl
    obtain rfl : i = j := by
      have h1 := List.getElem?_eq_some_iff.mp hi
      have h2 := List.getElem?_eq_some_iff.mp hj
      exact (List.getElem_inj nd).mp (h1.2.trans h2.2.symm)
    cases hw.symm.trans hw2
    cases he.symm.trans he3
    exact ⟨hcell, k2 _ _ ((upd_ne fun z => by rw [z, hl] at tup; cases tup).trans tup)⟩
theorem reps_at {fr : AP} {H : Hp} : ∀ {vs : List V} {ds : List D}, vs.length = ds.length → (∀ (i : Nat) (v : V) (d : D), vs[i]? = some v → ds[i]? = some d → Rep K fr H v d) → Reps K fr H vs ds
  | [], [], _, _ => .nil
  | [], _ :: _, e, _ => nomatch e
  | _ :: _, [], e, _ => nomatch e
  | v :: vs, d :: ds, e, h => .cons (h 0 v d rfl rfl) (reps_at (by simpa using e) fun i v d h1 h2 => h (i + 1) v d h1 h2)
def rLit : V → Hp → VK → Prop := fun x H Q => ∃ (d : Addr) (kvs : List (List Key × V)), x = .ref d ∧ Rd H d (.dT kvs) ∧ ∀ p, H p = none → rListV [.ref p] (upd H p (L2.DX.itemsO p d)) Q
theorem ok_lit : OpOkX K .lit (l1 rLit) := by
  intro fr H vs ds b d Q hf r e q
  have e : fLit ds = some (b, d) := e
  unfold fLit at e
  split at e
  · rw [Option.bind_eq_some_iff] at e
    obtain ⟨p, e1, e2⟩ := e
    split at e2
    · rename_i z
      cases e2
      obtain ⟨v, rfl, r1⟩ := one_arg r
      obtain ⟨a, kvs, rfl, h1, z1, k1, x1⟩ := r1.dprt e1
      refine ⟨a, kvs, rfl, h1, fun w hw => ⟨w, a, kvs, rfl, upd_same, ?_, fun H2 l ps keep hl hlst len at_ => ?_⟩⟩
      · have na : a ≠ w := fun z => by
          rcases h1 with h1 | ⟨o, h1⟩ <;> rw [z, hw] at h1 <;> cases h1
        exact rd_at h1 (upd_ne na)
      · have hl2 : H l = none := by
          by_cases e : l = w
          · rw [e]; exact hw
          · rwa [upd_ne e] at hl
        have g : Grown fr H fr H2 := ⟨fun c u e => keep c u ((upd_ne fun z => by rw [z, hw] at e; cases e).trans e), fun _ f => f, fun _ f => .inl f⟩
        have gk := g.tups.keep hf
        refine (q _ H2 g.tups).2 rfl l hl2 (.lst hlst (by rw [List.length_map, len]; exact z1) (reps_at ?_ fun i v d hv hd => ?_))
        · have n1 := x1.length
          have n2 := kd_len k1
          rw [List.length_map] at n1
          rw [List.length_map, List.length_map, List.length_zip]
          omega
        · rw [List.getElem?_map, Option.map_eq_some_iff] at hv hd
          obtain ⟨u, hu, rfl⟩ := hv
          obtain ⟨⟨k, y⟩, hz, rfl⟩ := hd
          obtain ⟨hk, hy⟩ := List.getElem?_zip_eq_some.mp hz
          have lt : i < kvs.length := by
            have := (List.getElem?_eq_some_iff.mp hu).1
            omega
          have he := List.getElem?_eq_getElem lt
          obtain ⟨t1, t2⟩ := at_ i u kvs[i] hu he
          have ek := kd_at k1 hk he
          rw [ek] at t2
          obtain ⟨x, hx, rx⟩ := x1.get hy
          rw [List.getElem?_map, he] at hx
          obtain rfl : (kvs[i]).2 = x := Option.some.inj hx
          exact .tup ⟨.inr ⟨_, t1⟩, t1⟩ (by show 2 ≤ sizeLine; decide) (.cons (rep_key t2 (keysZ_at z hk) (.inr ⟨_, t2⟩)) (.cons (rx.keep gk) .nil))
    · cases e2
  · cases e
end
/-! ### max(d.values()), list(d.values()) -/
section
variable {X : Cx} {K : PySem.W.Frag}
/-- the view d.values() at p -/
def valO (p d : Addr) : HO := .ext fun h => h.IsValuesView p d
theorem valO_ok {P : Program} {w : World} {H : Hp} {h : Heap} {p d : Addr} (e : h.get? p = some { cls := .type "dict_values", data := .fields #[.ref d] }) : ObjOk P w H h p (valO p d) := by
  refine ⟨⟨_, e, rfl, rfl⟩, ⟨_, e⟩, fun h1 h2 z k => ?_⟩
  obtain ⟨o, ho, z⟩ := z
  exact ⟨o, k o ho, z⟩
def tValues (t : TE) : TE := fun σ H Q => t σ H fun x H1 => ∃ (d : Addr) (kvs : List (List Key × V)), x = .ref d ∧ Rd H1 d (.dT kvs) ∧ ∀ p, H1 p = none → Q (.ref p) (upd H1 p (valO p d))
theorem pe_values {e : Expr} {t : TE} {apos cpos : Pos} (h : PE X e t) (base : attributeBase e "values" X.env (eval e X.env) = eval e X.env) (line : (apos.endLine == cpos.line) = true) : PE X (.Call (.Attribute e "values" apos) [] [] cpos) (tValues t) := by
  constructor
  intro pins s σ H Q I w
  refine wpAny_Call_method (T := "dict") (id := "dict.values") base rfl line PySem.F.plainAttrs_dict PySem.F.slot_dict_values PySem.F.type_dict_values ?_
  refine thn (h.run pins s σ H _ I w) fun u s1 z => ?_
  obtain ⟨x, H1, I1, rx, d, kvs, rfl, hd, w⟩ := z
  cases rx
  obtain ⟨sys, big, o, es, ep, live, exact_, data, -⟩ := inv_rd I1 hd
  have raw : s1.heap.DictRaw d es ep := ⟨o, live, exact_, data⟩
  refine ⟨raw.typeIs, fun a ea => ?_, ?_⟩
  · cases ea
    exact ⟨o, live, exact_.2.1⟩
  · refine method_meetsIn PySem.F.slot_dict_values PySem.F.entry_dict_values rfl (PySem.evalArgs_none ⟨rfl, raw.typeIs, PySem.F.args_dict_values_1 _, _, PySem.meets_dict_values_raw d sys, ⟨es, ep, raw⟩, ?_⟩)
    exact ⟨.ref s1.heap.objs.size, _, I1.laid (t' := s1.toks) (fun b v e => Heap.get?_push_of_some _ e) (Nat.le_refl _) (valO_ok (Heap.get?_push_size _ rfl)), rfl, w _ (I1.hok.fresh (Nat.le_refl _))⟩
def rMaxV : List V → Hp → VK → Prop := fun xs H Q => ∃ (v d : Addr) (kvs : List (List Key × V)) (ns : List Int), xs = [.ref v] ∧ H v = some (valO v d) ∧ Rd H d (.dT kvs) ∧ kvs.map (·.2) = ns.map V.int ∧ ns ≠ [] ∧ ∀ m, m ∈ ns → (∀ y ∈ ns, y ≤ m) → Q (.int m) H
theorem cr_maxV (hc : X.calm = true) : CallR X (.builtin "max") rMaxV := by
  intro pins s σ H vs us Q I r h
  obtain ⟨v, d, kvs, ns, rfl, hv, rd, vals, ne, q⟩ := h
  rw [Vals.ref1 r]
  have view : s.heap.IsValuesView v d := (show ObjOk X.prog X.w H s.heap v (valO v d) from I.hok v _ hv).1
  obtain ⟨sys, big, o, es, ep, live, exact_, data, many, ent⟩ := inv_rd I rd
  have raw : s.heap.DictRaw d es ep := ⟨o, live, exact_, data⟩
  have lt := Heap.lt_size live
  have len : kvs.length = ns.length := by
    have := congrArg List.length vals
    rwa [List.length_map, List.length_map] at this
  have pos : 0 < ns.length := List.length_pos_iff.mpr ne
  have val : ∀ (i : Nat) (u : Value), (∃ hi : i < es.size, u = es[i].val) → ∃ t, u = Value.int (ns.getD i 0) t := fun i u z => by
    obtain ⟨hi, rfl⟩ := z
    have lt2 : i < kvs.length := by omega
    obtain ⟨en, b, hen, -, -, rv⟩ := ent i kvs[i] (List.getElem?_eq_getElem lt2)
    obtain rfl : es[i] = en := Option.some.inj ((Array.getElem?_eq_getElem hi).symm.trans hen)
    have e1 : (kvs.map (·.2))[i]? = some (kvs[i]).2 := by rw [List.getElem?_map, List.getElem?_eq_getElem lt2]; rfl
    rw [vals, List.getElem?_map, List.getElem?_eq_getElem (by omega)] at e1
    have e2 : V.int ns[i] = (kvs[i]).2 := Option.some.inj e1
    rw [← e2] at rv
    obtain ⟨t, ht⟩ := rv
    exact ⟨t, by rw [ht, List.getD_eq_getElem?_getD, List.getElem?_eq_getElem (by omega)]; rfl⟩
  refine call_max_walk (PySem.wpAny_pyIter_values_raw view raw ?_)
  refine ⟨_, _, _, _, _, _, _, rfl, PySem.Walks.rawValues (A := X.A.in1) (I.ok.hd hc) s.heap.objs.size d (Nat.ne_of_lt lt) es ep, ⟨⟨_, Heap.get?_push_size _ rfl, rfl, rfl⟩, raw.push _⟩, fun b hb => ?_, by omega, CmpOf.ints_gt (fun i => ns.getD i 0) val, fun u h2 tk hu keep => ?_⟩
  · show b < (s.heap.push _).objs.size
    rw [Heap.size_push]
    rcases List.mem_cons.mp hb with e | hb
    · rw [e]; exact Nat.lt_succ_self _
    · rw [List.mem_singleton.mp hb]; exact Nat.lt_succ_of_lt lt
  · obtain ⟨t, rfl⟩ := val _ u hu
    obtain ⟨h1, h3⟩ := argBest_gt (fun i => ns.getD i 0) (es.size - 1)
    refine ⟨.int _, H, I.kept (t' := tk) fun b o e => keep b o (fun z => ?_) (Heap.get?_push_of_some _ e), ⟨t, rfl⟩, q _ ?_ fun y hy => ?_⟩
    · have lt3 := Heap.lt_size e
      rw [List.mem_singleton.mp z] at lt3
      exact Nat.lt_irrefl _ lt3
    · have : argBest (fun i j => decide (ns.getD i 0 > ns.getD j 0)) (es.size - 1) < ns.length := by omega
      rw [List.getD_eq_getElem?_getD, List.getElem?_eq_getElem this]
      exact List.getElem_mem this
    · obtain ⟨j, hj, rfl⟩ := List.getElem_of_mem hy
      have := h3 j (by omega)
      rwa [List.getD_eq_getElem?_getD, List.getElem?_eq_getElem hj] at this
def rListW : List V → Hp → VK → Prop := fun xs H Q => ∃ (v d : Addr) (kvs : List (List Key × V)), xs = [.ref v] ∧ H v = some (valO v d) ∧ Rd H d (.dT kvs) ∧ ∀ l, H l = none → Q (.ref l) (upd H l (.lst (kvs.map (·.2))))
theorem cr_listW (hc : X.calm = true) : CallR X (.type "list") rListW := by
  intro pins s σ H vs us Q I r h
  obtain ⟨v, d, kvs, rfl, hv, rd, q⟩ := h
  rw [Vals.ref1 r]
  have view : s.heap.IsValuesView v d := (show ObjOk X.prog X.w H s.heap v (valO v d) from I.hok v _ hv).1
  obtain ⟨sys, big, o, es, ep, live, exact_, data, many, ent⟩ := inv_rd I rd
  refine PySem.W.kdl_call (PySem.KdlSrc.rawValues (d := d) (r := v) (es := es) (ep := ep)) (I.ok.hd hc) ⟨view, o, live, exact_, data⟩ (by omega) fun h2 tk acc c keep lst it => ?_
  have vals : Vals (kvs.map (·.2)) acc.toList := by
    have n1 := it.1
    have go : ∀ (xs : List V) (us : List Value), xs.length = us.length → (∀ (i : Nat) x u, xs[i]? = some x → us[i]? = some u → RelV x u) → Vals xs us := by
      intro xs
      induction xs with
      | nil =>
        intro us e _
        cases us with
        | nil => exact .nil
        | cons => cases e
      | cons x xs ih =>
        intro us e hh
        cases us with
        | nil => cases e
        | cons u us => exact .cons (hh 0 x u rfl rfl) (ih us (by simpa using e) fun i x u h1 h2 => hh (i + 1) x u h1 h2)
    refine go _ _ (by have n2 := Array.length_toList (xs := acc); rw [List.length_map]; omega) fun i x u hx hu => ?_
    rw [List.getElem?_map, Option.map_eq_some_iff] at hx
    obtain ⟨e, he, rfl⟩ := hx
    obtain ⟨en, b, hen, -, -, rv⟩ := ent i e he
    obtain ⟨hi, rfl⟩ := it.2 i u (by rw [← Array.getElem?_toList]; exact hu)
    obtain rfl : es[i] = en := Option.some.inj ((Array.getElem?_eq_getElem hi).symm.trans hen)
    exact rv
  exact ⟨.ref s.heap.objs.size, _, I.laid (o := .lst (kvs.map (·.2))) (t' := tk) keep (Nat.le_refl _) ⟨by rw [List.length_map]; exact big, acc.toList, c, vals, by rw [Array.toArray_toList]; exact lst⟩, rfl, q _ (I.hok.fresh (Nat.le_refl _))⟩
def rMaxv : V → Hp → VK → Prop := fun x H Q => ∃ (d : Addr) (kvs : List (List Key × V)), x = .ref d ∧ Rd H d (.dT kvs) ∧ ∀ p, H p = none → rMaxV [.ref p] (upd H p (valO p d)) Q
def rLvl : V → Hp → VK → Prop := fun x H Q => ∃ (d : Addr) (kvs : List (List Key × V)), x = .ref d ∧ Rd H d (.dT kvs) ∧ ∀ p, H p = none → rListW [.ref p] (upd H p (valO p d)) Q
theorem rd_up {H : Hp} {a w : Addr} {u : HO} {kvs : List (List Key × V)} (h : Rd H a (.dT kvs)) (hw : H w = none) : Rd (upd H w u) a (.dT kvs) := by
  have na : a ≠ w := fun z => by rcases h with h | ⟨o, h⟩ <;> rw [z, hw] at h <;> cases h
  exact rd_at h (upd_ne na)
theorem ok_maxv : OpOkX K .maxv (l1 rMaxv) := by
  intro fr H vs ds b d Q hf r e q
  have e : fMaxv ds = some (b, d) := e
  unfold fMaxv at e
  split at e
  · rw [Option.bind_eq_some_iff] at e
    obtain ⟨p, e1, e2⟩ := e
    rw [Option.map_eq_some_iff] at e2
    obtain ⟨m, e2, e3⟩ := e2
    rw [Option.bind_eq_some_iff] at e2
    obtain ⟨ns, e2, e4⟩ := e2
    cases e3
    obtain ⟨v, rfl, r1⟩ := one_arg r
    obtain ⟨a, kvs, rfl, h1, z1, k1, x1⟩ := r1.dprt e1
    have ev := x1.of_ints e2
    obtain ⟨m1, m2⟩ := maxOf_spec e4
    refine ⟨a, kvs, rfl, h1, fun w hw => ⟨w, a, kvs, ns, rfl, upd_same, rd_up h1 hw, ev, fun z => by rw [z] at m1; (exact absurd m1 (by simp)), fun n n1 n2 => ?_⟩⟩
    obtain rfl : n = m := Int.le_antisymm (m2 n n1) (n2 m m1)
    exact (q fr _ (Grown.lay hw)).1 rfl _ (.int _)
  · cases e
theorem ok_lvl : OpOkX K .lvl (l1 rLvl) := by
  intro fr H vs ds b d Q hf r e q
  have e : fLvl ds = some (b, d) := e
  unfold fLvl at e
  split at e
  · rw [Option.map_eq_some_iff] at e
    obtain ⟨p, e1, e2⟩ := e
    cases e2
    obtain ⟨v, rfl, r1⟩ := one_arg r
    obtain ⟨a, kvs, rfl, h1, z1, k1, x1⟩ := r1.dprt e1
    refine ⟨a, kvs, rfl, h1, fun w hw => ⟨w, a, kvs, rfl, upd_same, rd_up h1 hw, fun l hl => ?_⟩⟩
    have hl2 : H l = none := by
      by_cases e : l = w
      · rw [e]; exact hw
      · rwa [upd_ne e] at hl
    have g : Grown fr H fr (upd (upd H w (valO w a)) l (.lst (kvs.map (·.2)))) := ⟨fun c u e => (upd_ne fun z => by rw [z, hl2] at e; cases e).trans ((upd_ne fun z => by rw [z, hw] at e; cases e).trans e), fun _ f => f, fun _ f => .inl f⟩
    exact (q fr _ g).2 rfl l hl2 (.lst upd_same (by rw [List.length_map]; exact z1) (x1.keep (g.keep hf)))
  · cases e
end
end Fly
end

section
set_option Elab.async false
set_option linter.all false
set_option maxRecDepth 100000
set_option maxHeartbeats 4000000
/-! The Python text and the small program agree: a test by computation, and what it is worth (FlyAgree). -/
namespace Fly
open PySem L2

/-- what the text's names are -/
structure Cg where
  N : List Str
  fns : List (Str × Nat × Nat)
  cns : List (Str × Int)
  exs : List (Str × Nat)
  blt : List Str
  /-- classes that are made: their __init__ and its parameters; methods; attributes -/
  mks : List (Str × Nat × Nat) := []
  mts : List ((Str × Str) × Nat × Nat) := []
  fls : List (Str × Str) := []
  /-- dicts of the module: texts and numbers -/
  gds : List (Str × List (List Nat × Int)) := []
/-- no call of super -/
def plainO : Expr → Bool
  | .Call (.Name _ _) [] [] _ => false
  | _ => true

def visB (sc : Scope) (x : Str) : Bool := match sc.names.lookup x with | some .local => true | some .cell => true | some .free => true | _ => false
def gloB (sc : Scope) (x : Str) : Bool := match sc.names.lookup x with | some .globalImplicit => true | _ => false
def locB (sc : Scope) (x : Str) : Bool := match sc.names.lookup x with | some .local => true | _ => false
def dbg (x : Str) : Bool := !(x == ("__debug__" : Str)) && !(x == ("__classdict__" : Str)) && !(x == ("__name__" : Str))
def nameB (C : Cg) (sc : Scope) (i : Nat) (x : Str) : Bool := decide (C.N[i]? = some x) && visB sc x && dbg x
def cstB : D → Const → Bool
  | .int i, .int j => i == j
  | .bl a, .bool b => a == b
  | .non, .none => true
  | .str x, .str y => toS x == y
  | _, _ => false
/-- a built-in's name -/
def bltB (C : Cg) (sc : Scope) (x : Str) (y : String) : Bool := x == (Str.ofString y) && gloB sc x && dbg x && C.blt.contains x
def tyNames (C : Cg) (sc : Scope) : List Nat → List Expr → Bool
  | [], [] => true
  | t :: ts, .Name y _ :: es => bltB C sc y (tyN t) && decide (1 ≤ t ∧ t ≤ 6) && tyNames C sc ts es
  | _, _ => false
def isSlice : Expr → Bool
  | .Slice _ _ _ _ => true
  | _ => false
/-- a display of texts and numbers -/
def cI : Expr → Option Int
  | .Constant (.int i) _ _ => some i
  | .UnaryOp .USub (.Constant (.int i) _ _) _ => some (-i)
  | _ => none
def selB : List (List Nat × Int) → List (Option Expr) → List Expr → Bool
  | [], [], [] => true
  | q :: r, some (.Constant (.str y) _ _) :: ks, v :: vs => toS q.1 == y && decide (cI v = some q.2) && selB r ks vs
  | _, _, _ => false
/-- the same, of the steps that look at a dict -/
def opForm2 (C : Cg) (sc : Scope) : Op → Expr → Option (List Expr)
  | .lend, .Call (.Name x _) [a] [] _ => if bltB C sc x "len" then some [a] else none
  | .sortd, .Call (.Name x _) [a] [] _ => if bltB C sc x "sorted" then some [a] else none
  | .isd, .Call (.Name x _) [a, .Name y _] [] _ => if bltB C sc x "isinstance" && bltB C sc y "dict" then some [a] else none
  | .lit, .Call (.Name x _) [.Call (.Attribute o n apos) [] [] pos2] [] _ => if bltB C sc x "list" && n == ("items" : Str) && plainO o && (apos.endLine == pos2.line) then some [o] else none
  | .lvl, .Call (.Name x _) [.Call (.Attribute o n apos) [] [] pos2] [] _ => if bltB C sc x "list" && n == ("values" : Str) && plainO o && (apos.endLine == pos2.line) then some [o] else none
  | .maxv, .Call (.Name x _) [.Call (.Attribute o n apos) [] [] pos2] [] _ => if bltB C sc x "max" && n == ("values" : Str) && plainO o && (apos.endLine == pos2.line) then some [o] else none
  | _, _ => none
/-- the arguments of a built-in step -/
def opForm (C : Cg) (sc : Scope) : Op → Expr → Option (List Expr)
  | .add, .BinOp l .Add r _ => some [l, r]
  | .sub, .BinOp l .Sub r _ => some [l, r]
  | .mul, .BinOp l .Mult r _ => some [l, r]
  | .fdiv, .BinOp l .FloorDiv r _ => some [l, r]
  | .mod, .BinOp l .Mod r _ => some [l, r]
  | .pow, .BinOp l .Pow r _ => some [l, r]
  | .neg, .UnaryOp .USub x _ => some [x]
  | .lt, .Compare a [.Lt] [b] _ => some [a, b]
  | .le, .Compare a [.LtE] [b] _ => some [a, b]
  | .gt, .Compare a [.Gt] [b] _ => some [a, b]
  | .ge, .Compare a [.GtE] [b] _ => some [a, b]
  | .eq, .Compare a [.Eq] [b] _ => some [a, b]
  | .ne, .Compare a [.NotEq] [b] _ => some [a, b]
  | .isN, .Compare a [.Is] [.Constant .none _ _] _ => some [a]
  | .notN, .Compare a [.IsNot] [.Constant .none _ _] _ => some [a]
  | .isB, .Compare a [.Is] [b] _ => some [a, b]
  | .notB, .Compare a [.IsNot] [b] _ => some [a, b]
  | .isIn, .Compare a [.In] [b] _ => some [a, b]
  | .notIn, .Compare a [.NotIn] [b] _ => some [a, b]
  | .sortset, .Call (.Name x _) [.Call (.Name y _) [a] [] _] [] _ => if bltB C sc x "sorted" && bltB C sc y "set" then some [a] else none
  | .listrg, .Call (.Name x _) [.Call (.Name y _) [a] [] _] [] _ => if bltB C sc x "list" && bltB C sc y "range" then some [a] else none
  | .idx, .Subscript a b _ => if isSlice b then none else some [a, b]
  | .rev, .Subscript a (.Slice none none (some (.UnaryOp .USub (.Constant (.int 1) _ _) _)) _) _ => some [a]
  | .len, .Call (.Name x _) [a] [] _ => if bltB C sc x "len" then some [a] else none
  | .int, .Call (.Name x _) [a] [] _ => if bltB C sc x "int" then some [a] else none
  | .abs, .Call (.Name x _) [a] [] _ => if bltB C sc x "abs" then some [a] else none
  | .tuple, .Call (.Name x _) [a] [] _ => if bltB C sc x "tuple" then some [a] else none
  | .list, .Call (.Name x _) [a] [] _ => if bltB C sc x "list" then some [a] else none
  | .all, .Call (.Name x _) [a] [] _ => if bltB C sc x "all" then some [a] else none
  | .any, .Call (.Name x _) [a] [] _ => if bltB C sc x "any" then some [a] else none
  | .sum, .Call (.Name x _) [a] [] _ => if bltB C sc x "sum" then some [a] else none
  | .sorted, .Call (.Name x _) [a] [] _ => if bltB C sc x "sorted" then some [a] else none
  | .max2, .Call (.Name x _) [a, b] [] _ => if bltB C sc x "max" then some [a, b] else none
  | .min2, .Call (.Name x _) [a, b] [] _ => if bltB C sc x "min" then some [a, b] else none
  | .isi [t], .Call (.Name x _) [a, .Name y _] [] _ => if bltB C sc x "isinstance" && bltB C sc y (tyN t) && decide (1 ≤ t ∧ t ≤ 6) then some [a] else none
  | .isi ts, .Call (.Name x _) [a, .Tuple els _ _] [] _ => if bltB C sc x "isinstance" && tyNames C sc ts els && decide (ts.length ≤ 20) then some [a] else none
  | .att c f, .Attribute o g _ => if g == toS f && C.fls.contains (toS c, g) && plainO o then some [o] else none
  | .lenset, .Call (.Name x _) [.Call (.Name y _) [a] [] _] [] _ => if bltB C sc x "len" && bltB C sc y "set" then some [a] else none
  | .max1, .Call (.Name x _) [a] [] _ => if bltB C sc x "max" then some [a] else none
  | .min1, .Call (.Name x _) [a] [] _ => if bltB C sc x "min" then some [a] else none
  | .tuplek, .Call (.Name x _) [a] [] _ => if bltB C sc x "tuple" then some [a] else none
  | .dictp, .Call (.Name x _) [a] [] _ => if bltB C sc x "dict" then some [a] else none
  | .selS kvs, .Subscript (.Dict keys values _) b _ => if selB kvs keys values && decide ((kvs.map (·.1)).Nodup) && decide (1 ≤ kvs.length ∧ kvs.length ≤ 15) && !(isSlice b) then some [b] else none
  | .gsel g kvs, .Subscript (.Name x _) b _ => if x == toS g && gloB sc x && dbg x && decide (C.gds.lookup x = some kvs) && !(isSlice b) then some [b] else none
  | .gin g kvs, .Compare a [.In] [.Name x _] _ => if x == toS g && gloB sc x && dbg x && decide (C.gds.lookup x = some kvs) then some [a] else none
  | .isc c, .Call (.Name x _) [a, .Name y _] [] _ => if bltB C sc x "isinstance" && y == toS c && gloB sc y && dbg y && (C.mks.lookup y).isSome then some [a] else none
  | .sortp, .Call (.Name x _) [a] [] _ => if bltB C sc x "sorted" then some [a] else none
  | o, e => opForm2 C sc o e
def meB : Me → Str → Bool
  | .append, x => x == ("append" : Str)
  | .extend, x => x == ("extend" : Str)
  | .pop, x => x == ("pop" : Str)
  | .popAt, x => x == ("pop" : Str)
  | .reverse, x => x == ("reverse" : Str)
  | .insert, x => x == ("insert" : Str)
  | .clear, x => x == ("clear" : Str)
def meN : Me → Nat
  | .append => 1
  | .extend => 1
  | .insert => 2
  | .popAt => 1
  | _ => 0
def cmpB : Op → CmpOp → Bool
  | .lt, .Lt => true
  | .le, .LtE => true
  | .gt, .Gt => true
  | .ge, .GtE => true
  | _, _ => false
def tgB (C : Cg) (sc : Scope) (loc : Str → Bool) : Tg → Expr → Bool
  | .nm i, .Name x _ => decide (C.N[i]? = some x) && loc x && dbg x
  | .tp is, .Tuple els _ _ => decide (is.length = els.length) && (is.zip els).all fun p => match p.2 with | .Name x _ => decide (C.N[p.1]? = some x) && loc x && dbg x | _ => false
  | _, _ => false
def zipI (is : List Nat) (N : List Str) : List (Str × Nat) := is.filterMap fun i => (N[i]?).map fun x => (x, i)
/-- what a loop walks: its arguments -/
def ikForm (C : Cg) (sc : Scope) : Ik → Expr → Option (List Expr)
  | .seq, e => some [e]
  | .range1, .Call (.Name x _) [a] [] _ => if bltB C sc x "range" then some [a] else none
  | .range2, .Call (.Name x _) [a, b] [] _ => if bltB C sc x "range" then some [a, b] else none
  | .zip, .Call (.Name x _) [a, b] [] _ => if bltB C sc x "zip" then some [a, b] else none
  | .enum, .Call (.Name x _) [a] [] _ => if bltB C sc x "enumerate" then some [a] else none
  | .range3, .Call (.Name x _) [a, b, c] [] _ => if bltB C sc x "range" then some [a, b, c] else none
  | .keys, e => some [e]
  | .itm, .Call (.Attribute o n apos) [] [] pos => if n == ("items" : Str) && plainO o && (apos.endLine == pos.line) then some [o] else none
  | _, _ => none
def ikT : Ik → Tg → Bool
  | .zip, .nm _ => false
  | .enum, .nm _ => false
  | .itm, .nm _ => false
  | _, _ => true

/-- a display's keys and values, one by one -/
def ilv : List (Option Expr) → List Expr → List Expr
  | some k :: ks, v :: vs => k :: v :: ilv ks vs
  | _, _ => []
def notStar : Expr → Bool
  | .Starred _ _ => false
  | .Set _ _ _ => false
  | _ => true
mutual
def agE (C : Cg) (sc : Scope) : E → Expr → Bool
  | .c d, .Constant k _ _ => cstB d k
  | .v i, .Name x _ => nameB C sc i x
  | .fz i, .Name x _ => nameB C sc i x
  | .mv i, .Name x _ => nameB C sc i x
  | .gl y (.int d), .Name x _ => x == toS y && gloB sc x && dbg x && decide (C.cns.lookup x = some d)
  | .op o es, e => match opForm C sc o e with | some args => agA C sc es args | none => false
  | .tup es, .Tuple els _ _ => agA C sc es els
  | .ktp es, .Tuple els _ _ => agA C sc es els
  | .lst es, .List els _ => agA C sc es els
  | .dct es, .Dict keys values _ => keys.all (·.isSome) && decide (keys.length = values.length) && decide (keys.length ≤ 15) && agA C sc es (ilv keys values)
  | .and a b, .BoolOp .And (x :: y :: rest) pos => agE C sc a x && (match rest with | [] => agE C sc b y | _ => agE C sc b (.BoolOp .And (y :: rest) pos))
  | .or a b, .BoolOp .Or (x :: y :: rest) pos => agE C sc a x && (match rest with | [] => agE C sc b y | _ => agE C sc b (.BoolOp .Or (y :: rest) pos))
  | .not a, .UnaryOp .Not x _ => agE C sc a x
  | .ite c a b, .IfExp c' a' b' _ => agE C sc c c' && agE C sc a a' && agE C sc b b'
  | .call f es, .Call (.Name x _) (a :: args) [] _ => agA C sc es (a :: args) && gloB sc x && dbg x && decide (C.fns.lookup x = some (f, args.length + 1))
  | .mk c f es, .Call (.Name x _) (a :: args) [] _ => x == toS c && agA C sc es (a :: args) && gloB sc x && dbg x && decide (C.mks.lookup x = some (f, args.length + 2))
  | .meth c m f a es, .Call (.Attribute o n apos) args [] pos => n == toS m && plainO o && (apos.endLine == pos.line) && decide (args.length < 29) && agE C sc a o && agA C sc es args && decide (C.mts.lookup (toS c, n) = some (f, args.length + 1))
  | .bm m i es, .Call (.Attribute (.Name x _) n apos) args [] pos => nameB C sc i x && meB m n && decide (args.length = meN m) && (apos.endLine == pos.line) && agA C sc es args
  | .lc elt t k es cnd, .ListComp elt' [⟨tg, iter, ifs, 0⟩] scope _ =>
      blkC C.N sc scope (zipI t.own C.N) && decide ((zipI t.own C.N).map (·.2) = t.own) && tgB C scope (fun x => locB (relS scope sc) x || (match (relS scope sc).names.lookup x with | some .cell => (scope.names.lookup x == some .cell) | _ => false)) t tg && ikT k t &&
      (match ikForm C sc k iter with | some args => agA C sc es args | none => false) &&
      (match ifs with | [] => (match cnd with | .c (.bl true) => true | _ => false) | [c] => agE C (relS scope sc) cnd c | _ => false) &&
      agE C (relS scope sc) elt elt'
  | .sl a lo hi, .Subscript a' (.Slice l h none _) _ => agE C sc a a' && (match l with | none => (match lo with | .nil => true | _ => false) | some l => agE C sc lo l) && (match h with | none => (match hi with | .nil => true | _ => false) | some h => agE C sc hi h)
  | .tmt m a k, .Call (.Attribute o n apos) [k'] [] pos => n == (if m then ("count" : Str) else "index") && plainO o && (apos.endLine == pos.line) && agE C sc a o && agE C sc k k'
  | .lsd es, .Call (.Name x _) [a] [] _ => bltB C sc x "list" && agA C sc es [a]
  | .frd m, .Name x p => agE C sc m (.Name x p)
  | .frd m, .Call f as ks p => agE C sc m (.Call f as ks p)
  | .dcp kx vx t k es cnd, .DictComp kx' vx' [⟨tg, iter, ifs, 0⟩] scope _ =>
      blkC C.N sc scope (zipI t.own C.N) && decide ((zipI t.own C.N).map (·.2) = t.own) && tgB C scope (fun x => locB (relS scope sc) x || (match (relS scope sc).names.lookup x with | some .cell => (scope.names.lookup x == some .cell) | _ => false)) t tg && ikT k t &&
      (match ikForm C sc k iter with | some args => agA C sc es args | none => false) &&
      (match ifs with | [] => (match cnd with | .c (.bl true) => true | _ => false) | [c] => agE C (relS scope sc) cnd c | _ => false) &&
      agE C (relS scope sc) kx kx' && agE C (relS scope sc) vx vx'
  | .dgt a k d, .Call (.Attribute o n apos) [k', d'] [] pos => n == ("get" : Str) && plainO o && (apos.endLine == pos.line) && agE C sc a o && agE C sc k k' && agE C sc d d'
  | .no, e => notStar e
  | .chn a l, .Compare a' (op :: op' :: ops) (b :: c :: cs) _ => agE C sc a a' && agC C sc l (op :: op' :: ops) (b :: c :: cs)
  | _, _ => false
def agA (C : Cg) (sc : Scope) : E → List Expr → Bool
  | .nil, [] => true
  | .cons a b, e :: es => agE C sc a e && agA C sc b es
  | _, _ => false
def agC (C : Cg) (sc : Scope) : E → List CmpOp → List Expr → Bool
  | .lk1 o b, [op], [e] => cmpB o op && agE C sc b e
  | .lks o b l, op :: op' :: ops, e :: e' :: es => cmpB o op && agE C sc b e && agC C sc l (op' :: ops) (e' :: es)
  | _, _, _ => false
end
end Fly
end

section
set_option Elab.async false
set_option linter.all false
set_option maxRecDepth 100000
set_option maxHeartbeats 4000000
/-! What the agreement is worth: expressions (FlyRefl). -/
namespace Fly
open PySem L2

structure CtxOk (C : Cg) (T : XT) (cf : Nat → List Sl → CR) (K : PySem.W.Frag) (sc : Scope) (X : Cx) (W : WX) : Prop where
  k : X.K = K
  w : X.w = T.w
  s : X.env.scope = sc
  n : X.N = C.N
  nd : X.N.Nodup
  calm : X.calm = true
  pass : PassesOwn (model X.prog X.w) X.A X.env X.xe
  tk : Takes X W
  un : X.A.units + 200 < cLine
  cns : ∀ x i, C.cns.lookup x = some i → ∃ t, X.mg x = some (.int i t)
  blt : ∀ x, x ∈ C.blt → X.mg x = none
  fls : ∀ c f, (c, f) ∈ C.fls → Cls X.K (He.ga X.K c) ∧ NoAttr X.K (He.ga X.K c) f
  gds : ∀ x kvs, C.gds.lookup x = some kvs → X.mg x = some (.ref (He.ga X.K x)) ∧ GdOk X.K X.w (He.ga X.K x) kvs
  mks : ∀ c f np, C.mks.lookup c = some (f, np) → ∃ (fa : Addr) (fd : FuncData) (ps : List Str) (k : Nat), X.mg c = some (.ref (He.ga X.K c)) ∧ Mk X.K (He.ga X.K c) fa ∧ Binds X.K fd ps [] ∧
    FnOk X.prog X.w X.K X.mg X.base (L2.CX X.prog X.w) k fa fd ps (SpF T X.K cf np f) ∧ Room (k + 1) X.A
  mts : ∀ c m f np, C.mts.lookup (c, m) = some (f, np) → ∃ (fa : Addr) (fd : FuncData) (ps : List Str) (k : Nat), Cls X.K (He.ga X.K c) ∧ Meth X.K (He.ga X.K c) m fa ∧ Binds X.K fd ps [] ∧
    FnOk X.prog X.w X.K X.mg X.base (L2.CX X.prog X.w) k fa fd ps (SpF T X.K cf np f) ∧ Room k X.A
  fns : ∀ x f np, C.fns.lookup x = some (f, np) → ∃ (fa : Addr) (fd : FuncData) (ps : List Str) (k : Nat), X.mg x = some (.ref fa) ∧ PySem.W.keepIn X.K (.ref fa) = true ∧ Binds X.K fd ps [] ∧
    FnOk X.prog X.w X.K X.mg X.base (L2.CX X.prog X.w) k fa fd ps (SpF T X.K cf np f) ∧ Room k X.A ∧ ∀ args, cf f args = .bad ∨ args.length = np

/-- how many parameters each def has -/
def LenOk (C : Cg) (cf : Nat → List Sl → CR) : Prop := ∀ x f np, (C.fns.lookup x = some (f, np) ∨ C.mks.lookup x = some (f, np) ∨ ∃ m, C.mts.lookup (x, m) = some (f, np)) → ∀ args, cf f args = .bad ∨ args.length = np
theorem folded_ns {e : Expr} (h : notStar e = true) (env : Env) (x : Value) : foldedSetIterable e env x = pure x := by
  cases e with
  | Set _ _ _ => cases h
  | _ => rfl
def plainT : Expr → Bool
  | .BoolOp _ _ _ => false
  | .Compare _ _ _ _ => false
  | .IfExp _ _ _ _ => false
  | .UnaryOp .Not _ _ => false
  | _ => true
theorem isTrue_plainT {e : Expr} (h : plainT e = true) (env : Env) (whole : Sem Value) : isTrue e env whole = (do let v ← whole; standAt e.pos; holding [v] (truthy v)) := by
  cases e with
  | BoolOp _ _ _ => cases h
  | Compare _ _ _ _ => cases h
  | IfExp _ _ _ _ => cases h
  | UnaryOp op x p =>
    cases op with
    | Not => cases h
    | _ => rfl
  | _ => rfl
theorem starEach_ns {e : Expr} (h : notStar e = true) (es : List Expr) (env : Env) : starEach (e :: es) env = (false, eval e env) :: starEach es env := by
  cases e with
  | Starred _ _ => cases h
  | _ => rfl

/-- the small program m does what the text e does, in each such context -/
structure SEB (C : Cg) (T : XT) (cf : Nat → List Sl → CR) (K : PySem.W.Frag) (sc : Scope) (W : WX) (m : E) (e : Expr) : Prop where
  pe : ∃ t, GE T K W cf m t ∧ ∀ X, CtxOk C T cf K sc X W → PE X e t
  pt : ∃ t, GB T K W cf m t ∧ ∀ X, CtxOk C T cf K sc X W → PT X e t
  ns : notStar e = true
inductive SAs (C : Cg) (T : XT) (cf : Nat → List Sl → CR) (K : PySem.W.Frag) (sc : Scope) (W : WX) : E → List Expr → Prop
  | nil : SAs C T cf K sc W .nil []
  | cons {a b e es} : SEB C T cf K sc W a e → SAs C T cf K sc W b es → SAs C T cf K sc W (.cons a b) (e :: es)
section
variable {C : Cg} {T : XT} {cf : Nat → List Sl → CR} {K : PySem.W.Frag} {W : WX} {m es : E} {e : Expr} {pos : Pos} {sc : Scope}
theorem SAs.ns {args : List Expr} (h : SAs C T cf K sc W es args) (env : Env) : ∀ p ∈ starEach args env, p.1 = false := by
  induction h with
  | nil => intro p hp; exact nomatch hp
  | cons h _ ih =>
    rw [starEach_ns h.ns]
    intro p hp
    rcases List.mem_cons.mp hp with rfl | hp
    · rfl
    · exact ih p hp
theorem SAs.plain {args : List Expr} (h : SAs C T cf K sc W es args) (pos : Pos) (env : Env) : (backTo pos (starEach args env)).any (·.1) = false := by
  have q := h.ns env
  unfold backTo
  rw [List.any_map, List.any_eq_false]
  intro p hp
  simp only [Function.comp]
  rw [q p hp]
  simp
theorem SAs.pa {args : List Expr} (h : SAs C T cf K sc W es args) : ∃ t, GA T K W cf es t ∧ ∀ X, CtxOk C T cf K sc X W → PA X args t := by
  induction h with
  | nil => exact ⟨_, ga_nil, fun X c => pa_nil⟩
  | cons h _ ih =>
    obtain ⟨t, g, p⟩ := h.pe
    obtain ⟨t', g', p'⟩ := ih
    exact ⟨_, ga_cons g g', fun X c => pa_cons (p X c) (p' X c) (starEach_ns h.ns _ _)⟩
theorem seb_of {t : TE} (hg : GE T K W cf m t) (hp : ∀ X, CtxOk C T cf K sc X W → PE X e t) (h : plainT e = true) (hn : notStar e = true) : SEB C T cf K sc W m e :=
  ⟨⟨t, hg, hp⟩, ⟨_, gb_of hg, fun X c => pt_val (hp X c) (isTrue_plainT h _)⟩, hn⟩
theorem seb_bin {o : Op} {r : R2} {op : Operator} {l r' : Expr} (ho : ∀ X : Cx, X.K = K → OpR X (binaryOp op) r) (ok : OpOk K o (l2 r)) (h : SAs C T cf K sc W es [l, r']) : SEB C T cf K sc W (.op o es) (.BinOp l op r' pos) := by
  match h with
  | .cons h1 (.cons h2 .nil) =>
    obtain ⟨t1, g1, p1⟩ := h1.pe
    obtain ⟨t2, g2, p2⟩ := h2.pe
    exact seb_of (t := tOp r t1 t2) (ge_op ok (ga_cons g1 (ga_cons g2 ga_nil))) (fun X c => pe_op (ho X c.k) (p1 X c) (p2 X c)) rfl rfl
theorem seb_cmp {o : Op} {r : R2} {op : CmpOp} {l r' : Expr} (hpl : plainC op = true) (ho : ∀ X : Cx, X.K = K → X.A.units + 200 < cLine → OpR X (compareOp op) r) (ok : OpOk K o (l2 r)) (h : SAs C T cf K sc W es [l, r']) : SEB C T cf K sc W (.op o es) (.Compare l [op] [r'] pos) := by
  have hm : behindInMarks op r' = false := nobehind r' (fun z => by rw [z] at hpl; cases hpl) (fun z => by rw [z] at hpl; cases hpl)
  match h with
  | .cons h1 (.cons h2 .nil) =>
    obtain ⟨t1, g1, p1⟩ := h1.pe
    obtain ⟨t2, g2, p2⟩ := h2.pe
    have g : GE T K W cf (.op o (.cons _ (.cons _ .nil))) (tOp r t1 t2) := ge_op ok (ga_cons g1 (ga_cons g2 ga_nil))
    exact ⟨⟨_, g, fun X c => pe_cmpR (ho X c.k c.un) (p1 X c) (p2 X c) hm⟩, ⟨_, gb_of g, fun X c => pt_cmpR (ho X c.k c.un) (p1 X c) (p2 X c) hm⟩, rfl⟩
theorem noMarks {op : CmpOp} {e : Expr} (h : notStar e = true) : behindInMarks op e = false := by
  cases e with
  | Set _ _ _ => cases h
  | _ => rfl
/-- x in y -/
theorem seb_in {o : Op} {r : R2} {op : CmpOp} {l r' : Expr} (ho : ∀ X : Cx, X.K = K → X.A.units + 200 < cLine → OpR X (compareOp op) r) (ok : OpOk K o (l2 r)) (h : SAs C T cf K sc W es [l, r']) : SEB C T cf K sc W (.op o es) (.Compare l [op] [r'] pos) := by
  match h with
  | .cons h1 (.cons h2 .nil) =>
    have hm : behindInMarks op r' = false := noMarks h2.ns
    obtain ⟨t1, g1, p1⟩ := h1.pe
    obtain ⟨t2, g2, p2⟩ := h2.pe
    have g : GE T K W cf (.op o (.cons _ (.cons _ .nil))) (tOp r t1 t2) := ge_op ok (ga_cons g1 (ga_cons g2 ga_nil))
    exact ⟨⟨_, g, fun X c => pe_cmpR (ho X c.k c.un) (p1 X c) (p2 X c) hm⟩, ⟨_, gb_of g, fun X c => pt_cmpR (ho X c.k c.un) (p1 X c) (p2 X c) hm⟩, rfl⟩
/-- the pairs of a display -/
theorem SAs.pps : ∀ {keys : List (Option Expr)} {values : List Expr} {es : E}, keys.all (·.isSome) = true → keys.length = values.length → SAs C T cf K sc W es (ilv keys values) →
    ∃ trs, GA T K W cf es (taOf trs) ∧ ∀ X pos, CtxOk C T cf K sc X W → PPs X pos keys values trs
  | [], [], es, _, _, h => by
    cases h
    exact ⟨[], ga_nil, fun X pos c => pps_nil⟩
  | some k :: ks, v :: vs, es, h1, h2, h => by
    unfold ilv at h
    cases h with
    | cons a h =>
      cases h with
      | cons b h =>
        obtain ⟨ta, ga, pa⟩ := a.pe
        obtain ⟨tb, gb, pb⟩ := b.pe
        obtain ⟨trs, g, p⟩ := SAs.pps (keys := ks) (values := vs) (by simpa using h1) (by simpa using h2) h
        exact ⟨(ta, tb) :: trs, ga_cons ga (ga_cons gb g), fun X pos c => pps_cons (pa X c) (pb X c) (p X pos c)⟩
  | none :: _, _, _, h1, _, _ => by simp at h1
  | [], _ :: _, _, _, h2, _ => by simp at h2
  | _ :: _, [], _, _, h2, _ => by simp at h2
theorem ge_dct0 : GE T K W cf (.dct .nil) tDNewT := fun G fr Fo H σv σd Q S hq p hp => by
  have e : ev cf (.dct .nil) σd = .ok [.tf (.dic [] [])] σd := by simp [ev, R.andThen, vals, dmake]
  rw [e] at hq
  refine hq [.ref p] fr _ (.grow S hp (fun _ f => f) fun _ f => .inl f) (S.grow hp (fun _ f => f) fun _ f => .inl f) ⟨.tf (.dic (kvs := []) upd_same (Nat.zero_le _) rfl .nil) (fun f => S.frs p f hp) (fun f => (S.fos p f).1 hp) (S.apart_new hp), True.intro⟩ _ rfl
theorem seb_dct {keys : List (Option Expr)} {values : List Expr} (h1 : keys.all (·.isSome) = true) (h2 : keys.length = values.length) (h3 : keys.length ≤ 15) (h : SAs C T cf K sc W es (ilv keys values)) : SEB C T cf K sc W (.dct es) (.Dict keys values pos) := by
  by_cases h0 : keys = []
  · subst h0
    have hv : values = [] := List.length_eq_zero_iff.mp h2.symm
    subst hv
    cases h
    exact seb_of ge_dct0 (fun X c => pe_dnewT) rfl rfl
  · obtain ⟨trs, g, p⟩ := h.pps h1 h2
    exact seb_of (ge_dct g) (fun X c => pe_dispD (by have := c.un; omega) (p X pos c) h1 h2 h0 h3) rfl rfl
/-- x is None -/
theorem seb_isN {o : Op} {r : R2} {op : CmpOp} {l : Expr} {j : Nat} {p2 : Pos} (hpl : plainC op = true) (ho : ∀ X : Cx, OpR X (compareOp op) r) (ok : OpOk K o (l1 fun x H Q => r x .non H Q)) (h : SAs C T cf K sc W es [l]) : SEB C T cf K sc W (.op o es) (.Compare l [op] [.Constant .none j p2] pos) := by
  have hm : behindInMarks op (.Constant .none j p2) = false := nobehind _ (fun z => by rw [z] at hpl; cases hpl) (fun z => by rw [z] at hpl; cases hpl)
  match h with
  | .cons h1 .nil =>
    obtain ⟨t1, g1, p1⟩ := h1.pe
    have g : GE T K W cf (.op o (.cons _ .nil)) (tOp r t1 (tC .non)) := ge_op ok (ga_cons g1 ga_nil)
    exact ⟨⟨_, g, fun X c => pe_cmpR (ho X) (p1 X c) pe_non hm⟩, ⟨_, gb_of g, fun X c => pt_cmpR (ho X) (p1 X c) pe_non hm⟩, rfl⟩
theorem bltB_get {x : Str} {y : String} (h : bltB C sc x y = true) : x = Str.ofString y ∧ (x == ("__debug__" : Str)) = false ∧ x ≠ "__name__" ∧ ∀ X, CtxOk C T cf K sc X W → Gl X x ∧ X.mg x = none := by
  unfold bltB gloB dbg at h
  simp only [Bool.and_eq_true, Bool.not_eq_true', List.contains_iff_mem] at h
  obtain ⟨⟨⟨h1, h2⟩, ⟨h3, _⟩, h5⟩, h4⟩ := h
  refine ⟨by simpa using h1, h3, by simpa using h5, fun X c => ⟨?_, c.blt x (by simpa using h4)⟩⟩
  split at h2
  · rename_i q
    rw [← c.s] at q
    exact q
  · cases h2
theorem seb_fun1 {o : Op} {id : String} {r : List V → Hp → VK → Prop} {x : Str} {p : Pos} {a : Expr} {y : String} (hb : bltB C sc x y = true) (hv : bootBuiltins (Str.ofString y) = some (.builtin id)) (hc : ∀ X : Cx, X.K = K → X.calm = true → CallR X (.builtin id) r) (ok : OpOk K o r)
    (h : SAs C T cf K sc W es [a]) : SEB C T cf K sc W (.op o es) (.Call (.Name x p) [a] [] pos) := by
  obtain ⟨e1, e4, e5, e2⟩ := bltB_get (T := T) (cf := cf) (K := K) (W := W) hb
  match h with
  | .cons h1 .nil =>
    obtain ⟨t1, g1, p1⟩ := h1.pe
    exact seb_of (ge_op ok (ga_cons g1 ga_nil)) (fun X c => pe_callB (hc X c.k c.calm) (e2 X c).1 (e2 X c).2 (e1 ▸ hv) (pa_cons (p1 X c) pa_nil (starEach_ns h1.ns _ _)) e5 e4 (starEach_ns h1.ns _ _) rfl) rfl rfl
theorem seb_funU {o : Op} {id : String} {r : List V → Hp → VK → Prop} {x : Str} {p : Pos} {a : Expr} {y : String} (hb : bltB C sc x y = true) (hv : bootBuiltins (Str.ofString y) = some (.builtin id)) (hc : ∀ X : Cx, X.K = K → X.A.units + 200 < cLine → CallR X (.builtin id) r) (ok : OpOk K o r)
    (h : SAs C T cf K sc W es [a]) : SEB C T cf K sc W (.op o es) (.Call (.Name x p) [a] [] pos) := by
  obtain ⟨e1, e4, e5, e2⟩ := bltB_get (T := T) (cf := cf) (K := K) (W := W) hb
  match h with
  | .cons h1 .nil =>
    obtain ⟨t1, g1, p1⟩ := h1.pe
    exact seb_of (ge_op ok (ga_cons g1 ga_nil)) (fun X c => pe_callB (hc X c.k c.un) (e2 X c).1 (e2 X c).2 (e1 ▸ hv) (pa_cons (p1 X c) pa_nil (starEach_ns h1.ns _ _)) e5 e4 (starEach_ns h1.ns _ _) rfl) rfl rfl
theorem seb_fun2 {o : Op} {id : String} {r : List V → Hp → VK → Prop} {x : Str} {p : Pos} {a b : Expr} {y : String} (hb : bltB C sc x y = true) (hv : bootBuiltins (Str.ofString y) = some (.builtin id)) (hc : ∀ X : Cx, X.K = K → X.calm = true → CallR X (.builtin id) r) (ok : OpOk K o r)
    (h : SAs C T cf K sc W es [a, b]) : SEB C T cf K sc W (.op o es) (.Call (.Name x p) [a, b] [] pos) := by
  obtain ⟨e1, e4, e5, e2⟩ := bltB_get (T := T) (cf := cf) (K := K) (W := W) hb
  match h with
  | .cons h1 (.cons h2 .nil) =>
    obtain ⟨t1, g1, p1⟩ := h1.pe
    obtain ⟨t2, g2, p2⟩ := h2.pe
    exact seb_of (ge_op ok (ga_cons g1 (ga_cons g2 ga_nil))) (fun X c => pe_callB (hc X c.k c.calm) (e2 X c).1 (e2 X c).2 (e1 ▸ hv) (pa_cons (p1 X c) (pa_cons (p2 X c) pa_nil (starEach_ns h2.ns _ _)) (starEach_ns h1.ns _ _)) e5 e4 (starEach_ns h1.ns _ _) (SAs.plain (.cons h2 .nil) _ _)) rfl rfl
theorem seb_ty1 {o : Op} {id : String} {r : List V → Hp → VK → Prop} {x : Str} {p : Pos} {a : Expr} {y : String} (hb : bltB C sc x y = true) (hv : bootBuiltins (Str.ofString y) = some (.type id)) (hc : ∀ X : Cx, X.K = K → X.calm = true → CallR X (.type id) r) (ok : OpOk K o r)
    (h : SAs C T cf K sc W es [a]) : SEB C T cf K sc W (.op o es) (.Call (.Name x p) [a] [] pos) := by
  obtain ⟨e1, e4, e5, e2⟩ := bltB_get (T := T) (cf := cf) (K := K) (W := W) hb
  match h with
  | .cons h1 .nil =>
    obtain ⟨t1, g1, p1⟩ := h1.pe
    exact seb_of (ge_op ok (ga_cons g1 ga_nil)) (fun X c => pe_callTy (hc X c.k c.calm) (e2 X c).1 (e2 X c).2 (e1 ▸ hv) (pa_cons (p1 X c) pa_nil (starEach_ns h1.ns _ _)) e5 e4 (starEach_ns h1.ns _ _) rfl) rfl rfl
theorem ty_boot : ∀ t, 1 ≤ t ∧ t ≤ 6 → bootBuiltins (Str.ofString (tyN t)) = some (.type (tyN t)) := by
  intro t ht
  have : t = 1 ∨ t = 2 ∨ t = 3 ∨ t = 4 ∨ t = 5 ∨ t = 6 := by omega
  rcases this with rfl | rfl | rfl | rfl | rfl | rfl <;> decide +kernel
theorem pe_ty {x : Str} {t : Nat} (hb : bltB C sc x (tyN t) = true) (ht : 1 ≤ t ∧ t ≤ 6) : ∀ X, CtxOk C T cf K sc X W → PE X (.Name x pos) (tC (.ty (tyN t))) := by
  obtain ⟨e1, e4, e5, e2⟩ := bltB_get (T := T) (cf := cf) (K := K) (W := W) hb
  exact fun X c => pe_bltn (e2 X c).1 (e2 X c).2 (e1 ▸ ty_boot t ht) rfl e5 e4
theorem b_isi : bootBuiltins (Str.ofString "isinstance") = some (.builtin "isinstance") := by decide +kernel
theorem seb_isi1 {x y : Str} {p p2 : Pos} {a : Expr} {t : Nat} (hb : bltB C sc x "isinstance" = true) (hy : bltB C sc y (tyN t) = true) (ht : 1 ≤ t ∧ t ≤ 6)
    (h : SAs C T cf K sc W es [a]) : SEB C T cf K sc W (.op (.isi [t]) es) (.Call (.Name x p) [a, .Name y p2] [] pos) := by
  obtain ⟨e1, e4, e5, e2⟩ := bltB_get (T := T) (cf := cf) (K := K) (W := W) hb
  match h with
  | .cons h1 .nil =>
    obtain ⟨t1, g1, p1⟩ := h1.pe
    refine seb_of (t := tCB (rIsi K) (tCons t1 (tCons (tC (.ty (tyN t))) tNil))) ?_ (fun X c => pe_callB (c.k ▸ call_isi) (e2 X c).1 (e2 X c).2 (e1 ▸ b_isi) (pa_cons (p1 X c) (pa_cons (pe_ty hy ht X c) pa_nil rfl) (starEach_ns h1.ns _ _)) e5 e4 (starEach_ns h1.ns _ _) rfl) rfl rfl
    show GE T K W cf _ (tCB (l1 fun x H Q => rIsi K [x, .ty (tyN t)] H Q) (tCons t1 tNil))
    exact ge_op (ok_isi1 ht.2) (ga_cons g1 ga_nil)
def tyTA (ts : List Nat) : TA := fun _ H Q => Q (tyVs ts) H
theorem tys_pa : ∀ {ts : List Nat} {els : List Expr}, tyNames C sc ts els = true → (∀ X, CtxOk C T cf K sc X W → PA X els (tyTA ts)) ∧ ∀ t ∈ ts, t ≤ 6
  | [], [], _ => ⟨fun X c => pa_nil, fun t ht => nomatch ht⟩
  | t :: ts, .Name y p :: els, h => by
    simp only [tyNames, Bool.and_eq_true, decide_eq_true_eq] at h
    obtain ⟨p1, h2⟩ := tys_pa h.2
    refine ⟨fun X c => pa_cons (pe_ty h.1.1 h.1.2 X c) (p1 X c) rfl, fun k hk => ?_⟩
    rcases List.mem_cons.mp hk with rfl | hk
    · exact h.1.2.2
    · exact h2 k hk
theorem seb_isiT {x : Str} {p p2 : Pos} {k2 : Nat} {a : Expr} {ts : List Nat} {els : List Expr} (hb : bltB C sc x "isinstance" = true) (hy : tyNames C sc ts els = true) (hl : ts.length ≤ 20)
    (h : SAs C T cf K sc W es [a]) : SEB C T cf K sc W (.op (.isi ts) es) (.Call (.Name x p) [a, .Tuple els k2 p2] [] pos) := by
  obtain ⟨e1, e4, e5, e2⟩ := bltB_get (T := T) (cf := cf) (K := K) (W := W) hb
  obtain ⟨pt, ht⟩ := tys_pa (T := T) (cf := cf) (K := K) (W := W) hy
  match h with
  | .cons h1 .nil =>
    obtain ⟨t1, g1, p1⟩ := h1.pe
    refine seb_of (t := tCB (rIsiT K) (tCons t1 (tCons (tTup (tyTA ts)) tNil))) ?_ (fun X c => pe_callB (c.k ▸ call_isiT) (e2 X c).1 (e2 X c).2 (e1 ▸ b_isi) (pa_cons (p1 X c) (pa_cons (pe_tup (pt X c)) pa_nil rfl) (starEach_ns h1.ns _ _)) e5 e4 (starEach_ns h1.ns _ _) rfl) rfl rfl
    show GE T K W cf _ (tCB (l1 fun x H Q => (tyVs ts).length ≤ sizeLine ∧ ∀ p, H p = none → rIsiT K [x, .ref p] (upd H p (.tup (tyVs ts))) Q) (tCons t1 tNil))
    exact ge_op (ok_isiT ht hl) (ga_cons g1 ga_nil)

/-! ### one built-in step -/
theorem b_len : bootBuiltins (Str.ofString "len") = some (.builtin "len") := by decide +kernel
theorem b_int : bootBuiltins (Str.ofString "int") = some (.type "int") := by decide +kernel
theorem b_abs : bootBuiltins (Str.ofString "abs") = some (.builtin "abs") := by decide +kernel
theorem b_tuple : bootBuiltins (Str.ofString "tuple") = some (.type "tuple") := by decide +kernel
theorem b_list : bootBuiltins (Str.ofString "list") = some (.type "list") := by decide +kernel
theorem b_all : bootBuiltins (Str.ofString "all") = some (.builtin "all") := by decide +kernel
theorem b_any : bootBuiltins (Str.ofString "any") = some (.builtin "any") := by decide +kernel
theorem b_sum : bootBuiltins (Str.ofString "sum") = some (.builtin "sum") := by decide +kernel
theorem b_sorted : bootBuiltins (Str.ofString "sorted") = some (.builtin "sorted") := by decide +kernel
theorem b_max : bootBuiltins (Str.ofString "max") = some (.builtin "max") := by decide +kernel
theorem b_min : bootBuiltins (Str.ofString "min") = some (.builtin "min") := by decide +kernel
theorem plainIx {b : Expr} (h : isSlice b = false) : PlainIx b := by
  intro o i
  cases b with
  | Slice _ _ _ _ => cases h
  | _ => rfl
theorem noSl {b : Expr} (h : isSlice b = false) : NoSl b := by
  intro ov iv
  cases b with
  | Slice _ _ _ _ => cases h
  | _ => rfl
/-- sorted(set(x)) -/
theorem seb_sortset {x y : Str} {p p2 pos2 : Pos} {a : Expr} (hx : bltB C sc x "sorted" = true) (hy : bltB C sc y "set" = true) (h : SAs C T cf K sc W es [a]) : SEB C T cf K sc W (.op .sortset es) (.Call (.Name x p) [.Call (.Name y p2) [a] [] pos2] [] pos) := by
  obtain ⟨e1, e4, e5, e2⟩ := bltB_get (T := T) (cf := cf) (K := K) (W := W) hx
  obtain ⟨f1, f4, f5, f2⟩ := bltB_get (T := T) (cf := cf) (K := K) (W := W) hy
  match h with
  | .cons h1 .nil =>
    obtain ⟨t1, g1, p1⟩ := h1.pe
    have hs : bootBuiltins (Str.ofString "set") = some (.type "set") := by decide +kernel
    have ps : ∀ X, CtxOk C T cf K sc X W → PE X (.Call (.Name y p2) [a] [] pos2) (tCB (rSetX K T.w) (tCons t1 tNil)) := fun X c =>
      c.w ▸ c.k ▸ pe_callTy (cr_setX c.calm (by have := c.un; omega)) (f2 X c).1 (f2 X c).2 (f1 ▸ hs) (pa_cons (p1 X c) pa_nil (starEach_ns h1.ns _ _)) f5 f4 (starEach_ns h1.ns _ _) rfl
    exact seb_of (ge_sortset g1) (fun X c => pe_callB (c.w ▸ c.k ▸ cr_srtX c.calm) (e2 X c).1 (e2 X c).2 (e1 ▸ b_sorted) (pa_cons (ps X c) pa_nil rfl) e5 e4 rfl rfl) rfl rfl
/-- len(set(x)) -/
theorem seb_lenset {x y : Str} {p p2 pos2 : Pos} {a : Expr} (hx : bltB C sc x "len" = true) (hy : bltB C sc y "set" = true) (h : SAs C T cf K sc W es [a]) : SEB C T cf K sc W (.op .lenset es) (.Call (.Name x p) [.Call (.Name y p2) [a] [] pos2] [] pos) := by
  obtain ⟨e1, e4, e5, e2⟩ := bltB_get (T := T) (cf := cf) (K := K) (W := W) hx
  obtain ⟨f1, f4, f5, f2⟩ := bltB_get (T := T) (cf := cf) (K := K) (W := W) hy
  match h with
  | .cons h1 .nil =>
    obtain ⟨t1, g1, p1⟩ := h1.pe
    have hs : bootBuiltins (Str.ofString "set") = some (.type "set") := by decide +kernel
    have ps : ∀ X, CtxOk C T cf K sc X W → PE X (.Call (.Name y p2) [a] [] pos2) (tCB (rCntSet K) (tCons t1 tNil)) := fun X c =>
      c.k ▸ pe_callTy (cr_cntSet c.calm) (f2 X c).1 (f2 X c).2 (f1 ▸ hs) (pa_cons (p1 X c) pa_nil (starEach_ns h1.ns _ _)) f5 f4 (starEach_ns h1.ns _ _) rfl
    exact seb_of (ge_lenset g1) (fun X c => pe_callB cr_cntLen (e2 X c).1 (e2 X c).2 (e1 ▸ b_len) (pa_cons (ps X c) pa_nil rfl) e5 e4 rfl rfl) rfl rfl
theorem seb_tyX {o : Op} {id : String} {r : List V → Hp → VK → Prop} {x : Str} {p : Pos} {a : Expr} {y : String} (hb : bltB C sc x y = true) (hv : bootBuiltins (Str.ofString y) = some (.type id)) (hc : ∀ X : Cx, X.K = K → X.calm = true → X.A.units + 200 < cLine → CallR X (.type id) r) (ok : OpOk K o r)
    (h : SAs C T cf K sc W es [a]) : SEB C T cf K sc W (.op o es) (.Call (.Name x p) [a] [] pos) := by
  obtain ⟨e1, e4, e5, e2⟩ := bltB_get (T := T) (cf := cf) (K := K) (W := W) hb
  match h with
  | .cons h1 .nil =>
    obtain ⟨t1, g1, p1⟩ := h1.pe
    exact seb_of (ge_op ok (ga_cons g1 ga_nil)) (fun X c => pe_callTy (hc X c.k c.calm c.un) (e2 X c).1 (e2 X c).2 (e1 ▸ hv) (pa_cons (p1 X c) pa_nil (starEach_ns h1.ns _ _)) e5 e4 (starEach_ns h1.ns _ _) rfl) rfl rfl
theorem b_dict : bootBuiltins (Str.ofString "dict") = some (.type "dict") := by decide +kernel
theorem sel_pps {X : Cx} : ∀ {kvs : List (List Nat × Int)} {keys : List (Option Expr)} {values : List Expr}, selB kvs keys values = true → PPs X pos keys values (selT kvs) ∧ keys.all (·.isSome) = true ∧ keys.length = values.length ∧ keys.length = kvs.length
  | [], [], [], _ => ⟨pps_nil, rfl, rfl, rfl⟩
  | q :: r, some (.Constant (.str y) j p) :: ks, v :: vs, h => by
    simp only [selB, Bool.and_eq_true, beq_iff_eq, decide_eq_true_eq] at h
    obtain ⟨⟨rfl, h2⟩, h3⟩ := h
    obtain ⟨p1, p2, p3, p4⟩ := sel_pps h3
    refine ⟨pps_cons pe_str ?_ p1, by simpa using p2, by simp [p3], by simp [p4]⟩
    unfold cI at h2
    split at h2
    · rw [← Option.some.inj h2]; exact pe_int
    · rw [← Option.some.inj h2]; exact pe_negI
    · cases h2
theorem seb_selS {kvs : List (List Nat × Int)} {keys : List (Option Expr)} {values : List Expr} {b : Expr} {p : Pos} (h1 : selB kvs keys values = true) (h2 : (kvs.map (·.1)).Nodup) (h3 : 1 ≤ kvs.length ∧ kvs.length ≤ 15) (h4 : isSlice b = false) (h : SAs C T cf K sc W es [b]) :
    SEB C T cf K sc W (.op (.selS kvs) es) (.Subscript (.Dict keys values p) b pos) := by
  match h with
  | .cons e1 .nil =>
    obtain ⟨t1, g1, p1⟩ := e1.pe
    refine seb_of (ge_selS h2 h3.2 g1) (fun X c => ?_) rfl rfl
    obtain ⟨q1, q2, q3, q4⟩ := sel_pps (X := X) (pos := p) h1
    refine pe_dget (by have := c.un; omega) (pe_disp q1 q2 q3 (fun z => ?_) (by omega)) (p1 X c) (noSl h4)
    rw [z] at q4
    rw [← q4] at h3
    exact absurd h3.1 (by decide)
theorem gdB_get {x : Str} (h1 : gloB sc x = true) (h2 : dbg x = true) {X : Cx} (c : CtxOk C T cf K sc X W) {kvs : List (List Nat × Int)} (h3 : C.gds.lookup x = some kvs) : PE X (.Name x pos) (tC (.ref (He.ga K x))) := by
  unfold dbg at h2
  simp only [Bool.and_eq_true, Bool.not_eq_true'] at h2
  have hg : Gl X x := by
    unfold gloB at h1
    split at h1
    · rename_i q
      rw [← c.s] at q
      exact q
    · cases h1
  exact c.k ▸ pe_glob hg (c.gds x kvs h3).1 rfl h2.1.1
theorem seb_gsel {g : List Nat} {kvs : List (List Nat × Int)} {x : Str} {b : Expr} {p : Pos} (hx : x = toS g) (h1 : gloB sc x = true) (h2 : dbg x = true) (h3 : C.gds.lookup x = some kvs) (h4 : isSlice b = false) (h : SAs C T cf K sc W es [b]) :
    SEB C T cf K sc W (.op (.gsel g kvs) es) (.Subscript (.Name x p) b pos) := by
  match h with
  | .cons e1 .nil =>
    obtain ⟨t1, g1, p1⟩ := e1.pe
    subst hx
    exact seb_of (t := tOp (rGsel K g kvs) (tC (.ref (He.ga K (toS g)))) t1) (ge_op ok_gsel (ga_cons g1 ga_nil)) (fun X c => pe_ix (c.k ▸ ix_gsel (c.gds _ _ h3).2) (gdB_get h1 h2 c h3) (p1 X c) (plainIx h4)) rfl rfl
theorem mgN_get {x : Str} (h1 : gloB sc x = true) (h2 : dbg x = true) {X : Cx} (c : CtxOk C T cf K sc X W) {a : Addr} (h3 : X.mg x = some (.ref a)) : PE X (.Name x pos) (tC (.ref a)) := by
  have hd : (x == ("__debug__" : Str)) = false := by
    unfold dbg at h2
    simp only [Bool.and_eq_true, Bool.not_eq_true'] at h2
    first | exact h2.1.1 | exact h2.1 | exact h2
  refine pe_glob ?_ h3 rfl hd
  unfold gloB at h1
  split at h1
  · rename_i q; exact (c.s ▸ q :)
  · cases h1
theorem seb_isc {c : List Nat} {x y : Str} {p p2 : Pos} {a : Expr} (hb : bltB C sc x "isinstance" = true) (hy : y = toS c) (h1 : gloB sc y = true) (h2 : dbg y = true) (h3 : (C.mks.lookup y).isSome = true)
    (h : SAs C T cf K sc W es [a]) : SEB C T cf K sc W (.op (.isc c) es) (.Call (.Name x p) [a, .Name y p2] [] pos) := by
  obtain ⟨e1, e4, e5, e2⟩ := bltB_get (T := T) (cf := cf) (K := K) (W := W) hb
  obtain ⟨⟨f, np⟩, h3⟩ := Option.isSome_iff_exists.mp h3
  subst hy
  match h with
  | .cons g1 .nil =>
    obtain ⟨t1, g1', p1⟩ := g1.pe
    have pc : ∀ X, CtxOk C T cf K sc X W → PE X (.Name (toS c) p2) (tC (.ref (He.ga K (toS c)))) := fun X k => by
      obtain ⟨fa, fd, ps, j, m1, -⟩ := k.mks _ f np h3
      rw [← k.k]
      exact mgN_get h1 h2 k m1
    refine seb_of (t := tCB (rIsc K c) (tCons t1 (tCons (tC (.ref (He.ga K (toS c)))) tNil))) ?_ (fun X k => pe_callB cr_isc (e2 X k).1 (e2 X k).2 (e1 ▸ b_isi) (pa_cons (p1 X k) (pa_cons (pc X k) pa_nil rfl) (starEach_ns g1.ns _ _)) e5 e4 (starEach_ns g1.ns _ _) rfl) rfl rfl
    show GE T K W cf _ (tCB (l1 fun x H Q => rIsc K c [x, .ref (He.ga K (toS c))] H Q) (tCons t1 tNil))
    exact ge_op ok_isc (ga_cons g1' ga_nil)
theorem seb_gin {g : List Nat} {kvs : List (List Nat × Int)} {x : Str} {a : Expr} {p : Pos} (hx : x = toS g) (h1 : gloB sc x = true) (h2 : dbg x = true) (h3 : C.gds.lookup x = some kvs) (h : SAs C T cf K sc W es [a]) :
    SEB C T cf K sc W (.op (.gin g kvs) es) (.Compare a [.In] [.Name x p] pos) := by
  match h with
  | .cons e1 .nil =>
    obtain ⟨t1, g1, p1⟩ := e1.pe
    subst hx
    have q : GE T K W cf (.op (.gin g kvs) (.cons _ .nil)) (tOp (rGin K g kvs) t1 (tC (.ref (He.ga K (toS g))))) := ge_op ok_gin (ga_cons g1 ga_nil)
    exact ⟨⟨_, q, fun X c => pe_cmpR (c.k ▸ op_gin (c.gds _ _ h3).2) (p1 X c) (gdB_get h1 h2 c h3) rfl⟩, ⟨_, gb_of q, fun X c => pt_cmpR (c.k ▸ op_gin (c.gds _ _ h3).2) (p1 X c) (gdB_get h1 h2 c h3) rfl⟩, rfl⟩
/-- list(range(n)) -/
theorem seb_listrg {x y : Str} {p p2 pos2 : Pos} {a : Expr} (hx : bltB C sc x "list" = true) (hy : bltB C sc y "range" = true) (h : SAs C T cf K sc W es [a]) : SEB C T cf K sc W (.op .listrg es) (.Call (.Name x p) [.Call (.Name y p2) [a] [] pos2] [] pos) := by
  obtain ⟨e1, e4, e5, e2⟩ := bltB_get (T := T) (cf := cf) (K := K) (W := W) hx
  obtain ⟨f1, f4, f5, f2⟩ := bltB_get (T := T) (cf := cf) (K := K) (W := W) hy
  subst e1
  subst f1
  match h with
  | .cons h1 .nil =>
    obtain ⟨t1, g1, p1⟩ := h1.pe
    exact seb_of (ge_listrg g1) (fun X c => pe_listRg c.calm (e2 X c).1 (e2 X c).2 (prg_one (f2 X c).1 (f2 X c).2 (p1 X c) (starEach_ns h1.ns _ _)) rfl) rfl rfl
theorem att_base {o : Expr} (h : plainO o = true) (m : Str) (env : Env) (t : Sem Value) : attributeBase o m env t = t := by
  unfold attributeBase
  split
  · cases h
  · rfl
theorem seb_att {c f : List Nat} {o : Expr} {g : Str} (hg : g = toS f) (hf : (toS c, g) ∈ C.fls) (hp : plainO o = true) (h : SAs C T cf K sc W es [o]) : SEB C T cf K sc W (.op (.att c f) es) (.Attribute o g pos) := by
  match h with
  | .cons h1 .nil =>
    obtain ⟨t1, g1, p1⟩ := h1.pe
    exact seb_of (ge_op ok_att (ga_cons g1 ga_nil)) (fun X k => k.k ▸ pe_att hg (p1 X k) (k.fls _ _ hf).1 (k.fls _ _ hf).2 (att_base hp _ _ _)) rfl rfl
theorem u64 {A : Around} (h : A.units + 200 < cLine) : A.units + 64 < cLine := by omega
/-! ### dicts -/
theorem seb_funX {o : Op} {id : String} {r : List V → Hp → VK → Prop} {x : Str} {p : Pos} {a : Expr} {y : String} (hb : bltB C sc x y = true) (hv : bootBuiltins (Str.ofString y) = some (.builtin id)) (hc : ∀ X : Cx, X.K = K → X.calm = true → X.A.units + 200 < cLine → CallR X (.builtin id) r) (ok : OpOkX K o r)
    (h : SAs C T cf K sc W es [a]) : SEB C T cf K sc W (.op o es) (.Call (.Name x p) [a] [] pos) := by
  obtain ⟨e1, e4, e5, e2⟩ := bltB_get (T := T) (cf := cf) (K := K) (W := W) hb
  match h with
  | .cons h1 .nil =>
    obtain ⟨t1, g1, p1⟩ := h1.pe
    exact seb_of (ge_opX ok (ga_cons g1 ga_nil)) (fun X c => pe_callB (hc X c.k c.calm c.un) (e2 X c).1 (e2 X c).2 (e1 ▸ hv) (pa_cons (p1 X c) pa_nil (starEach_ns h1.ns _ _)) e5 e4 (starEach_ns h1.ns _ _) rfl) rfl rfl
theorem seb_isd {x y : Str} {p p2 : Pos} {a : Expr} (hb : bltB C sc x "isinstance" = true) (hy : bltB C sc y "dict" = true) (h : SAs C T cf K sc W es [a]) : SEB C T cf K sc W (.op .isd es) (.Call (.Name x p) [a, .Name y p2] [] pos) := by
  obtain ⟨e1, e4, e5, e2⟩ := bltB_get (T := T) (cf := cf) (K := K) (W := W) hb
  match h with
  | .cons h1 .nil =>
    obtain ⟨t1, g1, p1⟩ := h1.pe
    refine seb_of (t := tCB (rIsdA K) (tCons t1 (tCons (tC (.ty (tyN 6))) tNil))) ?_ (fun X c => pe_callB (c.k ▸ cr_isdA) (e2 X c).1 (e2 X c).2 (e1 ▸ b_isi) (pa_cons (p1 X c) (pa_cons (pe_ty hy (by decide) X c) pa_nil rfl) (starEach_ns h1.ns _ _)) e5 e4 (starEach_ns h1.ns _ _) rfl) rfl rfl
    show GE T K W cf _ (tCB (l1 fun x H Q => rIsdA K [x, .ty "dict"] H Q) (tCons t1 tNil))
    exact ge_op ok_isd (ga_cons g1 ga_nil)
section
variable {x n : Str} {p apos pos2 : Pos} {o : Expr}
theorem seb_lit (hb : bltB C sc x "list" = true) (hn : n = ("items" : Str)) (ho : plainO o = true) (hl : (apos.endLine == pos2.line) = true) (h : SAs C T cf K sc W es [o]) : SEB C T cf K sc W (.op .lit es) (.Call (.Name x p) [.Call (.Attribute o n apos) [] [] pos2] [] pos) := by
  subst hn
  obtain ⟨e1, e4, e5, e2⟩ := bltB_get (T := T) (cf := cf) (K := K) (W := W) hb
  match h with
  | .cons h1 .nil =>
    obtain ⟨t1, g1, p1⟩ := h1.pe
    refine seb_of (t := tCB rListV (tCons (tItems t1) tNil)) ?_ (fun X c => pe_callTy (cr_listV c.calm) (e2 X c).1 (e2 X c).2 (e1 ▸ b_list) (pa_cons (pe_items (p1 X c) (att_base ho _ _ _) hl) pa_nil rfl) e5 e4 rfl rfl) rfl rfl
    show GE T K W cf _ (tCB (l1 rLit) (tCons t1 tNil))
    exact ge_opX ok_lit (ga_cons g1 ga_nil)
theorem seb_lvl (hb : bltB C sc x "list" = true) (hn : n = ("values" : Str)) (ho : plainO o = true) (hl : (apos.endLine == pos2.line) = true) (h : SAs C T cf K sc W es [o]) : SEB C T cf K sc W (.op .lvl es) (.Call (.Name x p) [.Call (.Attribute o n apos) [] [] pos2] [] pos) := by
  subst hn
  obtain ⟨e1, e4, e5, e2⟩ := bltB_get (T := T) (cf := cf) (K := K) (W := W) hb
  match h with
  | .cons h1 .nil =>
    obtain ⟨t1, g1, p1⟩ := h1.pe
    refine seb_of (t := tCB rListW (tCons (tValues t1) tNil)) ?_ (fun X c => pe_callTy (cr_listW c.calm) (e2 X c).1 (e2 X c).2 (e1 ▸ b_list) (pa_cons (pe_values (p1 X c) (att_base ho _ _ _) hl) pa_nil rfl) e5 e4 rfl rfl) rfl rfl
    show GE T K W cf _ (tCB (l1 rLvl) (tCons t1 tNil))
    exact ge_opX ok_lvl (ga_cons g1 ga_nil)
theorem seb_maxv (hb : bltB C sc x "max" = true) (hn : n = ("values" : Str)) (ho : plainO o = true) (hl : (apos.endLine == pos2.line) = true) (h : SAs C T cf K sc W es [o]) : SEB C T cf K sc W (.op .maxv es) (.Call (.Name x p) [.Call (.Attribute o n apos) [] [] pos2] [] pos) := by
  subst hn
  obtain ⟨e1, e4, e5, e2⟩ := bltB_get (T := T) (cf := cf) (K := K) (W := W) hb
  match h with
  | .cons h1 .nil =>
    obtain ⟨t1, g1, p1⟩ := h1.pe
    refine seb_of (t := tCB rMaxV (tCons (tValues t1) tNil)) ?_ (fun X c => pe_callB (cr_maxV c.calm) (e2 X c).1 (e2 X c).2 (e1 ▸ b_max) (pa_cons (pe_values (p1 X c) (att_base ho _ _ _) hl) pa_nil rfl) e5 e4 rfl rfl) rfl rfl
    show GE T K W cf _ (tCB (l1 rMaxv) (tCons t1 tNil))
    exact ge_opX ok_maxv (ga_cons g1 ga_nil)
end
theorem seb_op2 {o : Op} {args : List Expr} (h : opForm2 C sc o e = some args) (ha : SAs C T cf K sc W es args) : SEB C T cf K sc W (.op o es) e := by
  unfold opForm2 at h
  split at h
  case h_1 =>
    split at h
    · rename_i hb; cases h; exact seb_funX hb b_len (fun X k c u => cr_lenD) ok_lend ha
    · cases h
  case h_2 =>
    split at h
    · rename_i hb; cases h; exact seb_funX hb b_sorted (fun X k c u => cr_sortD c) ok_sortd ha
    · cases h
  case h_3 =>
    split at h
    · rename_i hb
      rw [Bool.and_eq_true] at hb
      cases h
      exact seb_isd hb.1 hb.2 ha
    · cases h
  case h_4 =>
    split at h
    · rename_i hb
      simp only [Bool.and_eq_true, beq_iff_eq] at hb
      cases h
      exact seb_lit hb.1.1.1 hb.1.1.2 hb.1.2 (beq_iff_eq.mpr hb.2) ha
    · cases h
  case h_5 =>
    split at h
    · rename_i hb
      simp only [Bool.and_eq_true, beq_iff_eq] at hb
      cases h
      exact seb_lvl hb.1.1.1 hb.1.1.2 hb.1.2 (beq_iff_eq.mpr hb.2) ha
    · cases h
  case h_6 =>
    split at h
    · rename_i hb
      simp only [Bool.and_eq_true, beq_iff_eq] at hb
      cases h
      exact seb_maxv hb.1.1.1 hb.1.1.2 hb.1.2 (beq_iff_eq.mpr hb.2) ha
    · cases h
  case h_7 => cases h
theorem seb_op {o : Op} {args : List Expr} (h : opForm C sc o e = some args) (ha : SAs C T cf K sc W es args) : SEB C T cf K sc W (.op o es) e := by
  unfold opForm at h
  split at h
  case h_1 => cases h; exact seb_bin (fun X k => k ▸ op_addA) ok_add ha
  case h_2 => cases h; exact seb_bin (fun X k => op_sub) ok_sub ha
  case h_3 => cases h; exact seb_bin (fun X k => k ▸ op_mulA) ok_mul ha
  case h_4 => cases h; exact seb_bin (fun X k => op_fdivW) ok_fdiv ha
  case h_5 => cases h; exact seb_bin (fun X k => op_mod) ok_mod ha
  case h_6 => cases h; exact seb_bin (fun X k => op_pow) ok_pow ha
  case h_7 =>
    cases h
    match ha with
    | .cons h1 .nil =>
      obtain ⟨t1, g1, p1⟩ := h1.pe
      refine seb_of (t := tUn (rU fun i => .int (-i)) t1) ?_ (fun X c => pe_un un_neg (p1 X c)) rfl rfl
      show GE T K W cf _ (tCB (l1 (rU fun i => .int (-i))) (tCons t1 tNil))
      exact ge_op ok_neg (ga_cons g1 ga_nil)
  case h_8 => cases h; exact seb_cmp rfl (fun X k u => k ▸ op_ltA (by omega)) ok_lt ha
  case h_9 => cases h; exact seb_cmp rfl (fun X k u => op_le) ok_le ha
  case h_10 => cases h; exact seb_cmp rfl (fun X k u => op_gt) ok_gt ha
  case h_11 => cases h; exact seb_cmp rfl (fun X k u => op_ge) ok_ge ha
  case h_12 => cases h; exact seb_cmp rfl (fun X k u => k ▸ op_eqD (u64 u)) ok_eq ha
  case h_13 => cases h; exact seb_cmp rfl (fun X k u => k ▸ op_neD (u64 u)) ok_ne ha
  case h_14 => cases h; exact seb_isN rfl (fun X => op_isN) ok_isN ha
  case h_15 => cases h; exact seb_isN rfl (fun X => op_notN) ok_notN ha
  case h_16 => cases h; exact seb_cmp rfl (fun X k u => op_isBl) ok_isB ha
  case h_17 => cases h; exact seb_cmp rfl (fun X k u => op_notBl) ok_notB ha
  case h_18 => cases h; exact seb_in (fun X k u => k ▸ op_inAll (by omega)) ok_isIn ha
  case h_19 => cases h; exact seb_in (fun X k u => k ▸ op_notInAll (by omega)) ok_notIn ha
  case h_20 =>
    split at h
    · rename_i hb
      cases h
      rw [Bool.and_eq_true] at hb
      exact seb_sortset hb.1 hb.2 ha
    · cases h
  case h_21 =>
    split at h
    · rename_i hb
      cases h
      rw [Bool.and_eq_true] at hb
      exact seb_listrg hb.1 hb.2 ha
    · cases h
  case h_22 =>
    split at h
    · cases h
    · rename_i hb
      cases h
      match ha with
      | .cons h1 (.cons h2 .nil) =>
        obtain ⟨t1, g1, p1⟩ := h1.pe
        obtain ⟨t2, g2, p2⟩ := h2.pe
        exact seb_of (t := tOp (rIxA K) t1 t2) (ge_op ok_idx (ga_cons g1 (ga_cons g2 ga_nil))) (fun X c => pe_ix (c.k ▸ ix_A (by have := c.un; omega)) (p1 X c) (p2 X c) (plainIx (by simpa using hb))) rfl rfl
  case h_23 =>
    cases h
    match ha with
    | .cons h1 .nil =>
      obtain ⟨t1, g1, p1⟩ := h1.pe
      refine seb_of (t := tRevA K t1) ?_ (fun X c => c.k ▸ pe_revA (p1 X c)) rfl rfl
      exact ge_op ok_rev (ga_cons g1 ga_nil)
  case h_24 =>
    split at h
    · rename_i hb; cases h; exact seb_fun1 hb b_len (fun X k _ => k ▸ call_len_seq) ok_len ha
    · cases h
  case h_25 =>
    split at h
    · rename_i hb; cases h; exact seb_ty1 hb b_int (fun X k _ => call_int1) ok_int ha
    · cases h
  case h_26 =>
    split at h
    · rename_i hb; cases h; exact seb_fun1 hb b_abs (fun X k _ => call_abs) ok_abs ha
    · cases h
  case h_27 =>
    split at h
    · rename_i hb; cases h; exact seb_ty1 hb b_tuple (fun X k _ => k ▸ call_tuple_of) ok_tuple ha
    · cases h
  case h_28 =>
    split at h
    · rename_i hb; cases h; exact seb_ty1 hb b_list (fun X k _ => k ▸ call_list_of) ok_list ha
    · cases h
  case h_29 =>
    split at h
    · rename_i hb; cases h; exact seb_fun1 hb b_all (fun X k c => k ▸ cr_all c) ok_all ha
    · cases h
  case h_30 =>
    split at h
    · rename_i hb; cases h; exact seb_fun1 hb b_any (fun X k c => k ▸ cr_any c) ok_any ha
    · cases h
  case h_31 =>
    split at h
    · rename_i hb; cases h; exact seb_fun1 hb b_sum (fun X k c => k ▸ cr_sum c) ok_sum ha
    · cases h
  case h_32 =>
    split at h
    · rename_i hb; cases h; exact seb_fun1 hb b_sorted (fun X k c => k ▸ cr_sortB) ok_sorted ha
    · cases h
  case h_33 =>
    split at h
    · rename_i hb; cases h; exact seb_fun2 hb b_max (fun X k c => call_max2 c) ok_max2 ha
    · cases h
  case h_34 =>
    split at h
    · rename_i hb; cases h; exact seb_fun2 hb b_min (fun X k c => call_min2 c) ok_min2 ha
    · cases h
  case h_35 =>
    split at h
    · rename_i hb
      simp only [Bool.and_eq_true, decide_eq_true_eq] at hb
      cases h
      exact seb_isi1 hb.1.1 hb.1.2 hb.2 ha
    · cases h
  case h_36 =>
    split at h
    · rename_i hb
      simp only [Bool.and_eq_true, decide_eq_true_eq] at hb
      cases h
      exact seb_isiT hb.1.1 hb.1.2 hb.2 ha
    · cases h
  case h_37 =>
    split at h
    · rename_i hb
      simp only [Bool.and_eq_true, beq_iff_eq, List.contains_iff_mem] at hb
      cases h
      exact seb_att hb.1.1 hb.1.2 hb.2 ha
    · cases h
  case h_38 =>
    split at h
    · rename_i hb
      cases h
      rw [Bool.and_eq_true] at hb
      exact seb_lenset hb.1 hb.2 ha
    · cases h
  case h_39 =>
    split at h
    · rename_i hb; cases h; exact seb_fun1 hb b_max (fun X k c => k ▸ cr_max1 c) ok_max1 ha
    · cases h
  case h_40 =>
    split at h
    · rename_i hb; cases h; exact seb_fun1 hb b_min (fun X k c => k ▸ cr_min1 c) ok_min1 ha
    · cases h
  case h_41 =>
    split at h
    · rename_i hb; cases h; exact seb_ty1 hb b_tuple (fun X k _ => k ▸ cr_tupK) ok_tuplek ha
    · cases h
  case h_42 =>
    split at h
    · rename_i hb; cases h; exact seb_tyX hb b_dict (fun X k c u => k ▸ cr_dictP c (by omega)) ok_dictp ha
    · cases h
  case h_43 =>
    split at h
    · rename_i hb
      simp only [Bool.and_eq_true, decide_eq_true_eq, Bool.not_eq_true'] at hb
      cases h
      exact seb_selS hb.1.1.1 hb.1.1.2 hb.1.2 hb.2 ha
    · cases h
  case h_44 =>
    split at h
    · rename_i hb
      simp only [Bool.and_eq_true, decide_eq_true_eq, Bool.not_eq_true', beq_iff_eq] at hb
      cases h
      exact seb_gsel hb.1.1.1.1 hb.1.1.1.2 hb.1.1.2 hb.1.2 hb.2 ha
    · cases h
  case h_45 =>
    split at h
    · rename_i hb
      simp only [Bool.and_eq_true, decide_eq_true_eq, beq_iff_eq] at hb
      cases h
      exact seb_gin hb.1.1.1 hb.1.1.2 hb.1.2 hb.2 ha
    · cases h
  case h_46 =>
    split at h
    · rename_i hb
      simp only [Bool.and_eq_true, beq_iff_eq] at hb
      cases h
      exact seb_isc hb.1.1.1.1 hb.1.1.1.2 hb.1.1.2 hb.1.2 hb.2 ha
    · cases h
  case h_47 =>
    split at h
    · rename_i hb; cases h; exact seb_funU hb b_sorted (fun X k u => k ▸ cr_sortPr (by omega)) ok_sortp ha
    · cases h
  case h_48 => exact seb_op2 h ha
end
end Fly
end

section
set_option Elab.async false
set_option linter.all false
set_option maxRecDepth 100000
set_option maxHeartbeats 4000000
/-! What the agreement is worth: all expressions (FlyReflE). -/
namespace Fly
open PySem L2
section
variable {C : Cg} {T : XT} {cf : Nat → List Sl → CR} {K : PySem.W.Frag} {W : WX} {m es : E} {e : Expr} {pos : Pos} {sc : Scope}
theorem CtxOk.blk {X : Cx} (c : CtxOk C T cf K sc X W) (s : Shared) (H : Hp) (scope : Scope) (Cc : Addr) (cl : List (Str × Addr)) (fp : List Addr) : CtxOk C T cf K (relS scope sc) (X.blk s H scope (compEnvC scope cl Cc X.env) fp) WF where
  k := c.k
  w := c.w
  fls := c.fls
  gds := c.gds
  mks := c.mks
  mts := c.mts
  s := by rw [← c.s] <;> rfl
  n := c.n
  nd := c.nd
  calm := c.calm
  pass := PassesOwn.never
  tk := fun u s' ⟨_, _, _, _, _, _, _, _, _, _, _, _, _, _, _, _, w⟩ => w.elim
  un := c.un
  cns := c.cns
  blt := c.blt
  fns := c.fns
theorem nameB_get {i : Nat} {x : Str} (h : nameB C sc i x = true) : ∀ X, CtxOk C T cf K sc X W → PE X (.Name x pos) (tVar i) := by
  unfold nameB visB dbg at h
  simp only [Bool.and_eq_true, Bool.not_eq_true', decide_eq_true_eq] at h
  obtain ⟨⟨h1, h2⟩, ⟨h3, h4⟩, h5⟩ := h
  refine fun X c => pe_var (by rw [c.n]; exact h1) ?_ h3 h4
  rw [c.s]
  split at h2
  · rename_i q; exact .inl q
  · rename_i q; exact .inr (.inl q)
  · rename_i q; exact .inr (.inr q)
  · cases h2
theorem seb_name {m : E} {i : Nat} {x : Str} (hm : GE T K W cf m (tVar i)) (h : nameB C sc i x = true) : SEB C T cf K sc W m (.Name x pos) :=
  seb_of hm (nameB_get h) rfl rfl
theorem seb_const {d : D} {k : Const} {j : Nat} (h : cstB d k = true) : SEB C T cf K sc W (.c d) (.Constant k j pos) := by
  unfold cstB at h
  split at h
  · have e := eq_of_beq h
    subst e
    exact seb_of (ge_c fun fr H => .int _) (fun X c => pe_int) rfl rfl
  · have e := eq_of_beq h
    subst e
    exact seb_of (ge_c fun fr H => .bl _) (fun X c => pe_bl) rfl rfl
  · exact seb_of (ge_c fun fr H => .non) (fun X c => pe_non) rfl rfl
  · have e := eq_of_beq h
    subst e
    exact seb_of (ge_c fun fr H => .str _) (fun X c => pe_str) rfl rfl
  · cases h
theorem gloB_get {x : Str} (h : gloB sc x = true) : ∀ X, CtxOk C T cf K sc X W → Gl X x := by
  unfold gloB at h
  split at h
  · rename_i q
    intro X c
    have q' := q
    rw [← c.s] at q'
    exact q'
  · cases h
/-! ### targets -/
theorem pg_tgB {t : Tg} {tg : Expr} {loc : Str → Bool} (h : tgB C sc loc t tg = true) {P : Cx → Prop} (hP : ∀ X, P X → X.N = C.N ∧ X.N.Nodup ∧ X.calm = true ∧ X.K = K ∧ ∀ x, loc x = true → Loc X.env.scope x ∧ (X.fn x = true ∨ X.env.scope.names.lookup x = some .local)) :
    ∃ g, GG t K g ∧ ∀ X, P X → PG X tg g := by
  unfold tgB at h
  split at h
  · rename_i i x p
    simp only [Bool.and_eq_true, decide_eq_true_eq] at h
    refine ⟨_, gg_nm, fun X px => ?_⟩
    obtain ⟨h1, h2, h3, h4, h5⟩ := hP X px
    exact pg_name h2 (by rw [h1]; exact h.1.1) (h5 x h.1.2).1 (h5 x h.1.2).2
  · rename_i is els k p
    simp only [Bool.and_eq_true, decide_eq_true_eq] at h
    obtain ⟨hl, ha⟩ := h
    have go : ∀ (is : List Nat) (els : List Expr), is.length = els.length → ((is.zip els).all fun p => match p.2 with | .Name x _ => decide (C.N[p.1]? = some x) && loc x && dbg x | _ => false) = true →
        (∀ X, P X → PGs X els (gNames is)) ∧ (∀ env : Env, (assignEach els env).length = is.length ∧ (assignEach els env).findIdx? (·.1) = none) := by
      intro is
      induction is with
      | nil =>
        intro els hl _
        cases els with
        | nil => exact ⟨fun X _ => pgs_nil, fun env => ⟨rfl, rfl⟩⟩
        | cons _ _ => cases hl
      | cons i is ih =>
        intro els hl ha
        cases els with
        | nil => cases hl
        | cons e els =>
          simp only [List.zip_cons_cons, List.all_cons, Bool.and_eq_true] at ha
          obtain ⟨i1, i2⟩ := ih els (by simpa using hl) ha.2
          cases e with
          | Name x p =>
            have hx := ha.1
            simp only [Bool.and_eq_true, decide_eq_true_eq] at hx
            refine ⟨fun X px => ?_, fun env => ?_⟩
            · obtain ⟨h1, h2, h3, h4, h5⟩ := hP X px
              exact pgs_cons (pg_name h2 (by rw [h1]; exact hx.1.1) (h5 x hx.1.2).1 (h5 x hx.1.2).2) (i1 X px) rfl
            · obtain ⟨j1, j2⟩ := i2 env
              refine ⟨?_, ?_⟩
              · show (assignEach els env).length + 1 = is.length + 1
                rw [j1]
              · show ((false, assign (.Name x p) env) :: assignEach els env).findIdx? (·.1) = none
                rw [List.findIdx?_cons]
                simp [j2]
          | _ => exact absurd ha.1 (by simp)
    obtain ⟨g1, g2⟩ := go is els hl ha
    refine ⟨_, gg_tp, fun X px => ?_⟩
    obtain ⟨h1, h2, h3, h4, h5⟩ := hP X px
    exact h4 ▸ pg_tup h3 (g1 X px) (g2 _).1 (g2 _).2
  · cases h
/-! ### sources -/
theorem ik_ok {k : Ik} {t : Tg} {tg iter : Expr} {args : List Expr} {loc : Str → Bool} {sc2 : Scope} (h : ikForm C sc k iter = some args) (hk : ikT k t = true) (ht : tgB C sc2 loc t tg = true) (ha : SAs C T cf K sc W es args) :
    ∃ wi, GI T K W cf k es wi ∧ (∀ X, CtxOk C T cf K sc X W → PI X tg iter wi) ∧ ∀ (env : Env) x, foldedSetIterable iter env x = pure x := by
  unfold ikForm at h
  split at h
  · cases h
    match ha with
    | .cons h1 .nil =>
      obtain ⟨t1, g1, p1⟩ := h1.pe
      exact ⟨_, gi_seq (ga_cons g1 ga_nil), fun X c => c.k ▸ pi_seq (p1 X c), folded_ns h1.ns⟩
  · split at h
    · rename_i hb
      cases h
      obtain ⟨e1, e4, e5, e2⟩ := bltB_get (T := T) (cf := cf) (K := K) (W := W) hb
      match ha with
      | .cons h1 .nil =>
        obtain ⟨t1, g1, p1⟩ := h1.pe
        refine ⟨_, gi_range1 (ga_cons g1 ga_nil), fun X c => ?_, fun env x => rfl⟩
        obtain ⟨k1, k2⟩ := e2 X c
        rw [e1] at k1 k2 ⊢
        exact pi_range1 k1 k2 (pa_cons (p1 X c) pa_nil (starEach_ns h1.ns _ _)) (starEach_ns h1.ns _ _)
    · cases h
  · split at h
    · rename_i hb
      cases h
      obtain ⟨e1, e4, e5, e2⟩ := bltB_get (T := T) (cf := cf) (K := K) (W := W) hb
      match ha with
      | .cons h1 (.cons h2 .nil) =>
        obtain ⟨t1, g1, p1⟩ := h1.pe
        obtain ⟨t2, g2, p2⟩ := h2.pe
        refine ⟨_, gi_range2 (ga_cons g1 (ga_cons g2 ga_nil)), fun X c => ?_, fun env x => rfl⟩
        obtain ⟨k1, k2⟩ := e2 X c
        rw [e1] at k1 k2 ⊢
        exact pi_range2 k1 k2 (pa_cons (p1 X c) (pa_cons (p2 X c) pa_nil (starEach_ns h2.ns _ _)) (starEach_ns h1.ns _ _)) (by rw [starEach_ns h1.ns, starEach_ns h2.ns] <;> rfl) (starEach_ns h2.ns _ _)
    · cases h
  · split at h
    · rename_i hb
      cases h
      obtain ⟨e1, e4, e5, e2⟩ := bltB_get (T := T) (cf := cf) (K := K) (W := W) hb
      match ha with
      | .cons h1 (.cons h2 .nil) =>
        obtain ⟨t1, g1, p1⟩ := h1.pe
        obtain ⟨t2, g2, p2⟩ := h2.pe
        cases t with
        | nm i => cases hk
        | tp is =>
          cases tg with
          | Tuple elts kk tpos =>
            refine ⟨_, gi_zip (ga_cons g1 (ga_cons g2 ga_nil)), fun X c => ?_, fun env x => rfl⟩
            obtain ⟨k1, k2⟩ := e2 X c
            rw [e1] at k1 k2 ⊢
            exact c.k ▸ pi_zipG k1 k2 (pa_cons (p1 X c) (pa_cons (p2 X c) pa_nil (starEach_ns h2.ns _ _)) (starEach_ns h1.ns _ _)) (starEach_ns h1.ns _ _) (SAs.plain (.cons h2 .nil) _ _)
          | _ => cases ht
    · cases h
  · split at h
    · rename_i hb
      cases h
      obtain ⟨e1, e4, e5, e2⟩ := bltB_get (T := T) (cf := cf) (K := K) (W := W) hb
      match ha with
      | .cons h1 .nil =>
        obtain ⟨t1, g1, p1⟩ := h1.pe
        cases t with
        | nm i => cases hk
        | tp is =>
          cases tg with
          | Tuple elts kk tpos =>
            refine ⟨_, gi_enum (ga_cons g1 ga_nil), fun X c => ?_, fun env x => rfl⟩
            obtain ⟨k1, k2⟩ := e2 X c
            rw [e1] at k1 k2 ⊢
            exact c.k ▸ pi_enumA k1 k2 (pa_cons (p1 X c) pa_nil (starEach_ns h1.ns _ _)) (starEach_ns h1.ns _ _)
          | _ => cases ht
    · cases h
  · split at h
    · rename_i hb
      cases h
      obtain ⟨e1, e4, e5, e2⟩ := bltB_get (T := T) (cf := cf) (K := K) (W := W) hb
      match ha with
      | .cons h1 (.cons h2 (.cons h3 .nil)) =>
        obtain ⟨t1, g1, p1⟩ := h1.pe
        obtain ⟨t2, g2, p2⟩ := h2.pe
        obtain ⟨t3, g3, p3⟩ := h3.pe
        refine ⟨_, gi_range3 (ga_cons g1 (ga_cons g2 (ga_cons g3 ga_nil))), fun X c => ?_, fun env x => rfl⟩
        obtain ⟨k1, k2⟩ := e2 X c
        rw [e1] at k1 k2 ⊢
        exact pi_range3 k1 k2 (pa_cons (p1 X c) (pa_cons (p2 X c) (pa_cons (p3 X c) pa_nil (starEach_ns h3.ns _ _)) (starEach_ns h2.ns _ _)) (starEach_ns h1.ns _ _)) (starEach_ns h1.ns _ _) (SAs.plain (.cons h2 (.cons h3 .nil)) _ _)
    · cases h
  · cases h
    match ha with
    | .cons h1 .nil =>
      obtain ⟨t1, g1, p1⟩ := h1.pe
      exact ⟨_, gi_keys g1, fun X c => pi_keys (p1 X c), folded_ns h1.ns⟩
  · split at h
    · rename_i hb
      cases h
      simp only [Bool.and_eq_true, beq_iff_eq] at hb
      obtain ⟨⟨rfl, ho⟩, hl⟩ := hb
      match ha with
      | .cons h1 .nil =>
        obtain ⟨t1, g1, p1⟩ := h1.pe
        cases t with
        | nm i => cases hk
        | tp is =>
          cases tg with
          | Tuple elts kk tpos => exact ⟨_, gi_itp g1, fun X c => pi_itp (p1 X c) (att_base ho _ _ _) (beq_iff_eq.mpr hl), fun env x => rfl⟩
          | _ => cases ht
    · cases h
  · cases h
/-! ### methods -/
theorem meB_get {me : Me} {x : Str} {args : List Expr} {i : Nat} {y : Str} {p apos : Pos} (h : meB me x = true) (hn : nameB C sc i y = true) (hl : args.length = meN me) (hp : (apos.endLine == pos.line) = true) (ha : SAs C T cf K sc W es args) :
    SEB C T cf K sc W (.bm me i es) (.Call (.Attribute (.Name y p) x apos) args [] pos) := by
  have hv := nameB_get (T := T) (cf := cf) (K := K) (W := W) (pos := p) hn
  cases me with
  | append =>
    have e := eq_of_beq h
    subst e
    match args, ha, hl with
    | [a], .cons h1 .nil, _ =>
      obtain ⟨t1, g1, p1⟩ := h1.pe
      exact seb_of (ge_bm me_append (ga_cons g1 ga_nil)) (fun X c => c.k ▸ pe_bm PySem.F.plainAttrs_list PySem.F.slot_list_append PySem.F.type_list_append mt_append (hv X c) (pa_cons (p1 X c) pa_nil (starEach_ns h1.ns _ _)) rfl (by rw [starEach_ns h1.ns] <;> rfl) hp (starEach_ns h1.ns _ _) rfl) rfl rfl
  | extend =>
    have e := eq_of_beq h
    subst e
    match args, ha, hl with
    | [a], .cons h1 .nil, _ =>
      obtain ⟨t1, g1, p1⟩ := h1.pe
      exact seb_of (ge_bm me_extend (ga_cons g1 ga_nil)) (fun X c => c.k ▸ pe_bm PySem.F.plainAttrs_list PySem.F.slot_list_extend PySem.F.type_list_extend mt_extend (hv X c) (pa_cons (p1 X c) pa_nil (starEach_ns h1.ns _ _)) rfl (by rw [starEach_ns h1.ns] <;> rfl) hp (starEach_ns h1.ns _ _) rfl) rfl rfl
  | pop =>
    have e := eq_of_beq h
    subst e
    match args, ha, hl with
    | [], .nil, _ =>
      exact seb_of (ge_bm me_pop ga_nil) (fun X c => c.k ▸ pe_bm0 PySem.F.plainAttrs_list PySem.F.slot_list_pop PySem.F.type_list_pop mt_pop (hv X c) rfl hp) rfl rfl
  | reverse =>
    have e := eq_of_beq h
    subst e
    match args, ha, hl with
    | [], .nil, _ =>
      exact seb_of (ge_bm me_reverse ga_nil) (fun X c => c.k ▸ pe_bm0 PySem.F.plainAttrs_list PySem.F.slot_list_reverse PySem.F.type_list_reverse mt_reverse (hv X c) rfl hp) rfl rfl
  | clear =>
    have e := eq_of_beq h
    subst e
    match args, ha, hl with
    | [], .nil, _ =>
      exact seb_of (ge_bm me_clear ga_nil) (fun X c => c.k ▸ pe_bm0 PySem.F.plainAttrs_list PySem.F.slot_list_clear PySem.F.type_list_clear mt_clear (hv X c) rfl hp) rfl rfl
  | popAt =>
    have e := eq_of_beq h
    subst e
    match args, ha, hl with
    | [a], .cons h1 .nil, _ =>
      obtain ⟨t1, g1, p1⟩ := h1.pe
      exact seb_of (ge_bm me_popAt (ga_cons g1 ga_nil)) (fun X c => c.k ▸ pe_bm PySem.F.plainAttrs_list PySem.F.slot_list_pop PySem.F.type_list_pop mt_popAt (hv X c) (pa_cons (p1 X c) pa_nil (starEach_ns h1.ns _ _)) rfl (by rw [starEach_ns h1.ns] <;> rfl) hp (starEach_ns h1.ns _ _) rfl) rfl rfl
  | insert =>
    have e := eq_of_beq h
    subst e
    match args, ha, hl with
    | [a, b], .cons h1 (.cons h2 .nil), _ =>
      obtain ⟨t1, g1, p1⟩ := h1.pe
      obtain ⟨t2, g2, p2⟩ := h2.pe
      exact seb_of (ge_bm me_insert (ga_cons g1 (ga_cons g2 ga_nil))) (fun X c => c.k ▸ pe_bm PySem.F.plainAttrs_list PySem.F.slot_list_insert PySem.F.type_list_insert mt_insert (hv X c) (pa_cons (p1 X c) (pa_cons (p2 X c) pa_nil (starEach_ns h2.ns _ _)) (starEach_ns h1.ns _ _)) rfl (by rw [starEach_ns h1.ns, starEach_ns h2.ns] <;> rfl) hp (starEach_ns h1.ns _ _) (SAs.plain (.cons h2 .nil) _ _)) rfl rfl
end
end Fly
end

section
set_option Elab.async false
set_option linter.all false
set_option maxRecDepth 100000
set_option maxHeartbeats 4000000
/-! What the agreement is worth: the joint theorem of expressions (FlyReflX). -/
namespace Fly
open PySem L2
section
variable {C : Cg} {T : XT} {cf : Nat → List Sl → CR} {K : PySem.W.Frag} {m es : E} {e : Expr} {pos : Pos}
def isBo : Expr → Bool
  | .BoolOp _ _ _ => true
  | _ => false
theorem pt_ifExp {X : Cx} {c a b : Expr} {tA t1 t2 : TT} (hc : PT X c tA) (ha : PT X a t1) (hb : PT X b t2) : PT X (.IfExp c a b pos) (fun σ H Q => tA σ H fun d H1 => if d = true then t1 σ H1 Q else t2 σ H1 Q) := by
  refine ⟨fun pins s σ H Q I h => ?_⟩
  refine PyProof.Rows.isTrue_IfExp (thn (hc.run pins s σ H _ I h) fun d s1 ⟨H1, I1, q1⟩ => ?_)
  cases d with
  | true => exact ha.run pins s1 σ H1 Q I1 q1
  | false => exact hb.run pins s1 σ H1 Q I1 q1
theorem gb_ite {W : WX} {c a b : E} {tc t1 t2 : TT} (hc : GB T K W cf c tc) (ha : GB T K W cf a t1) (hb : GB T K W cf b t2) : GB T K W cf (.ite c a b) (fun σ H Q => tc σ H fun d H1 => if d = true then t1 σ H1 Q else t2 σ H1 Q) := fun G fr Fo H σv σd Q S hq => by
  refine hc G fr Fo H σv σd _ S ?_
  simp only [ev, RB.toR] at hq
  cases e : asB (ev cf c σd) with
  | bad => rw [e] at hq; exact hq
  | ex c fs σ1 => rw [e] at hq; exact hq
  | ok x σ1 =>
    rw [e] at hq
    cases x with
    | true =>
      intro fr1 H1 A1 S1
      exact ha G fr1 Fo H1 σv σ1 Q S1 (BPost.from (by simpa using hq) A1)
    | false =>
      intro fr1 H1 A1 S1
      exact hb G fr1 Fo H1 σv σ1 Q S1 (BPost.from (by simpa using hq) A1)

/-- with a reading whatever the 'whole' is, for 'and' and 'or' -/
structure SEX (C : Cg) (T : XT) (cf : Nat → List Sl → CR) (K : PySem.W.Frag) (sc : Scope) (W : WX) (m : E) (e : Expr) : Prop where
  b : SEB C T cf K sc W m e
  w : isBo e = true → ∃ t, GB T K W cf m t ∧ ∀ X, CtxOk C T cf K sc X W → PW X e t
structure SCH (C : Cg) (T : XT) (cf : Nat → List Sl → CR) (K : PySem.W.Frag) (sc : Scope) (W : WX) (m : E) (ops : List CmpOp) (cs : List Expr) : Prop where
  h : ∃ t, GCh T K W cf m t ∧ ∀ X, CtxOk C T cf K sc X W → PCh X ops cs t
  p : ops.all plainC = true
theorem SEB.x {sc : Scope} {W : WX} (h : SEB C T cf K sc W m e) (hb : isBo e = false) : SEX C T cf K sc W m e := ⟨h, fun z => by rw [hb] at z; cases z⟩
theorem sex_and {sc : Scope} {W : WX} {a b : E} {x y : Expr} {rest : List Expr} (ha : SEX C T cf K sc W a x) (hb : (rest = [] ∧ SEX C T cf K sc W b y) ∨ SEX C T cf K sc W b (.BoolOp .And (y :: rest) pos)) : SEX C T cf K sc W (.and a b) (.BoolOp .And (x :: y :: rest) pos) := by
  obtain ⟨ta, ga, pa⟩ := ha.b.pe
  obtain ⟨ua, gua, pua⟩ := ha.b.pt
  have e1 : ∃ t, GE T K W cf b t ∧ ∀ X, CtxOk C T cf K sc X W → PE X (.BoolOp .And (y :: rest) pos) t := by
    rcases hb with ⟨rfl, hb⟩ | hb
    · obtain ⟨t, g, p⟩ := hb.b.pe
      exact ⟨t, g, fun X c => pe_one (p X c)⟩
    · exact hb.b.pe
  have e2 : ∃ t, GB T K W cf b t ∧ ∀ X, CtxOk C T cf K sc X W → PW X (.BoolOp .And (y :: rest) pos) t := by
    rcases hb with ⟨rfl, hb⟩ | hb
    · obtain ⟨t, g, p⟩ := hb.b.pt
      exact ⟨t, g, fun X c => pw_and1 (p X c)⟩
    · exact hb.w rfl
  obtain ⟨t1, g1, p1⟩ := e1
  obtain ⟨t2, g2, p2⟩ := e2
  exact ⟨⟨⟨_, ge_and ga g1, fun X c => pe_and (pa X c) (p1 X c)⟩, ⟨_, gb_and gua g2, fun X c => (pw_and (pua X c) (p2 X c)).pt⟩, rfl⟩, fun _ => ⟨_, gb_and gua g2, fun X c => pw_and (pua X c) (p2 X c)⟩⟩
theorem sex_or {sc : Scope} {W : WX} {a b : E} {x y : Expr} {rest : List Expr} (ha : SEX C T cf K sc W a x) (hb : (rest = [] ∧ SEX C T cf K sc W b y) ∨ SEX C T cf K sc W b (.BoolOp .Or (y :: rest) pos)) : SEX C T cf K sc W (.or a b) (.BoolOp .Or (x :: y :: rest) pos) := by
  obtain ⟨ta, ga, pa⟩ := ha.b.pe
  obtain ⟨ua, gua, pua⟩ := ha.b.pt
  have e1 : ∃ t, GE T K W cf b t ∧ ∀ X, CtxOk C T cf K sc X W → PE X (.BoolOp .Or (y :: rest) pos) t := by
    rcases hb with ⟨rfl, hb⟩ | hb
    · obtain ⟨t, g, p⟩ := hb.b.pe
      exact ⟨t, g, fun X c => pe_one (p X c)⟩
    · exact hb.b.pe
  have e2 : ∃ t, GB T K W cf b t ∧ ∀ X, CtxOk C T cf K sc X W → PW X (.BoolOp .Or (y :: rest) pos) t := by
    rcases hb with ⟨rfl, hb⟩ | hb
    · obtain ⟨t, g, p⟩ := hb.b.pt
      exact ⟨t, g, fun X c => pw_or1 (p X c)⟩
    · exact hb.w rfl
  obtain ⟨t1, g1, p1⟩ := e1
  obtain ⟨t2, g2, p2⟩ := e2
  exact ⟨⟨⟨_, ge_or ga g1, fun X c => pe_or (pa X c) (p1 X c)⟩, ⟨_, gb_or gua g2, fun X c => (pw_or (pua X c) (p2 X c)).pt⟩, rfl⟩, fun _ => ⟨_, gb_or gua g2, fun X c => pw_or (pua X c) (p2 X c)⟩⟩

theorem sex_tup {sc : Scope} {W : WX} {els : List Expr} {k : Nat} (h : SAs C T cf K sc W es els) : SEX C T cf K sc W (.tup es) (.Tuple els k pos) := by
  obtain ⟨t, g, p⟩ := h.pa
  exact (seb_of (ge_tup g) (fun X c => pe_tup (p X c)) rfl rfl).x rfl
theorem sex_ktp {sc : Scope} {W : WX} {els : List Expr} {k : Nat} (h : SAs C T cf K sc W es els) : SEX C T cf K sc W (.ktp es) (.Tuple els k pos) := by
  obtain ⟨t, g, p⟩ := h.pa
  exact (seb_of (ge_ktp g) (fun X c => pe_ktp (p X c)) rfl rfl).x rfl
theorem sex_lst {sc : Scope} {W : WX} {els : List Expr} (h : SAs C T cf K sc W es els) : SEX C T cf K sc W (.lst es) (.List els pos) := by
  obtain ⟨t, g, p⟩ := h.pa
  exact (seb_of (ge_lst g) (fun X c => pe_lst (p X c)) rfl rfl).x rfl
theorem sex_not {sc : Scope} {W : WX} {a : E} {x : Expr} (ha : SEX C T cf K sc W a x) : SEX C T cf K sc W (.not a) (.UnaryOp .Not x pos) := by
  obtain ⟨ta, ga, pa⟩ := ha.b.pe
  obtain ⟨ua, gua, pua⟩ := ha.b.pt
  exact (⟨⟨_, ge_not ga, fun X c => pe_not (pa X c)⟩, ⟨_, gb_not gua, fun X c => pt_not (pua X c)⟩, rfl⟩ : SEB C T cf K sc W _ _).x rfl
theorem sex_ite {sc : Scope} {W : WX} {c a b : E} {c' a' b' : Expr} (hc : SEX C T cf K sc W c c') (ha : SEX C T cf K sc W a a') (hb : SEX C T cf K sc W b b') : SEX C T cf K sc W (.ite c a b) (.IfExp c' a' b' pos) := by
  obtain ⟨uc, guc, puc⟩ := hc.b.pt
  obtain ⟨ta, ga, pa⟩ := ha.b.pe
  obtain ⟨ua, gua, pua⟩ := ha.b.pt
  obtain ⟨tb, gb, pb⟩ := hb.b.pe
  obtain ⟨ub, gub, pub⟩ := hb.b.pt
  exact (⟨⟨_, ge_ite guc ga gb, fun X c => pe_ifExp (puc X c) (pa X c) (pb X c)⟩, ⟨_, gb_ite guc gua gub, fun X c => pt_ifExp (puc X c) (pua X c) (pub X c)⟩, rfl⟩ : SEB C T cf K sc W _ _).x rfl
theorem sex_gl {sc : Scope} {W : WX} {x : Str} {y : List Nat} {d : Int} (h1 : gloB sc x = true) (h2 : dbg x = true) (h3 : C.cns.lookup x = some d) : SEX C T cf K sc W (.gl y (.int d)) (.Name x pos) := by
  unfold dbg at h2
  simp only [Bool.and_eq_true, Bool.not_eq_true'] at h2
  refine (seb_of (t := tC (.int d)) (fun G fr Fo H σv σd Q S hq => ?_) (fun X c => ?_) rfl rfl).x rfl
  · exact ge_c (T := T) (W := W) (cf := cf) (d := .int d) (fun fr H => .int d) G fr Fo H σv σd Q S hq
  · obtain ⟨t, ht⟩ := c.cns x d h3
    exact pe_glob (gloB_get h1 X c) ht ⟨t, rfl⟩ h2.1.1
theorem sex_call {sc : Scope} {W : WX} {x : Str} {f np : Nat} {a : Expr} {args : List Expr} {p : Pos} (h1 : gloB sc x = true) (h2 : dbg x = true) (h3 : C.fns.lookup x = some (f, np)) (ha : SAs C T cf K sc W es (a :: args)) (hn : ∀ args, cf f args = .bad ∨ args.length = np) :
    SEX C T cf K sc W (.call f es) (.Call (.Name x p) (a :: args) [] pos) := by
  unfold dbg at h2
  simp only [Bool.and_eq_true, Bool.not_eq_true'] at h2
  obtain ⟨t, g, pa⟩ := ha.pa
  match ha with
  | .cons h4 h5 =>
    refine (seb_of (t := tCallS (SpF T K cf np f) (WE W) t) ?_ (fun X c => ?_) rfl rfl).x rfl
    · exact ge_call hn g
    · obtain ⟨fa, fd, ps, k, e1, e2, e3, e4, e5, e6⟩ := c.fns x f np h3
      exact pe_callS (c.k ▸ e4) e5 (gloB_get h1 X c) e1 e2 e3 (passAt c.tk) (pa X c) h2.1.1 (starEach_ns h4.ns _ _) (SAs.plain h5 _ _)
theorem sex_mk {sc : Scope} {W : WX} {x : Str} {c : List Nat} {f np : Nat} {a : Expr} {args : List Expr} {p : Pos} (hx : x = toS c) (h1 : gloB sc x = true) (h2 : dbg x = true) (h3 : C.mks.lookup x = some (f, np)) (ha : SAs C T cf K sc W es (a :: args)) (hn : ∀ args, cf f args = .bad ∨ args.length = np) :
    SEX C T cf K sc W (.mk c f es) (.Call (.Name x p) (a :: args) [] pos) := by
  unfold dbg at h2
  simp only [Bool.and_eq_true, Bool.not_eq_true'] at h2
  obtain ⟨t, g, pa⟩ := ha.pa
  match ha with
  | .cons h4 h5 =>
    refine (seb_of (t := tMakeE K c (SpF T K cf np f) (WE W) t) (ge_mk hn g) (fun X k => ?_) rfl rfl).x rfl
    obtain ⟨fa, fd, ps, j, e1, e2, e3, e4, e5⟩ := k.mks x f np h3
    subst hx
    exact k.k ▸ pe_makeE e2 e4 e5 (gloB_get h1 X k) e1 e3 (passAt k.tk) (pa X k) h2.1.1 (starEach_ns h4.ns _ _) (SAs.plain h5 _ _)
/-- a method's call, its receiver no call of super, its name on the call's first row -/
theorem meth_eq {o : Expr} {m : Str} {apos pos : Pos} {args : List Expr} {env : Env} (hp : plainO o = true) (hl : (apos.endLine == pos.line) = true) (hn : args.length < 29) (hs : (backTo pos (starEach args env)).any (·.1) = false) :
    eval (.Call (.Attribute o m apos) args [] pos) env = (do
      let ov ← eval o env
      standAt apos.atName
      let (g, first) ← holding [ov] (getMethod ov m (do return (← importBound o env).getD true))
      callWith pos g first (backTo pos (starEach args env)) (backToKw pos (keywordEach [] env))) := by
  have hform : methodCallForm (args.length + ([] : List Keyword).length) (backTo pos (starEach args env)) (backToKw pos (keywordEach [] env)) = true := by
    unfold methodCallForm
    rw [Bool.and_eq_true, Bool.and_eq_true]
    refine ⟨⟨?_, rfl⟩, ?_⟩
    · rw [List.all_eq_true]
      rw [List.any_eq_false] at hs
      intro x hx
      have := hs x hx
      revert this
      cases x.1 <;> simp
    · show decide (_ < 30) = true
      rw [decide_eq_true_eq]
      show args.length + 0 + 0 < 30
      omega
  have hpos : methodCallPos true o env apos pos = pure pos := by
    unfold methodCallPos
    simp [hl]
  rw [arm_eval_Call, att_base hp]
  unfold methodCall
  rw [hform, hpos]
  rfl
theorem sex_meth {sc : Scope} {W : WX} {n : Str} {c m : List Nat} {f np : Nat} {a : E} {o : Expr} {args : List Expr} {apos : Pos} (hx : n = toS m) (hr : plainO o = true) (hl : (apos.endLine == pos.line) = true) (hn9 : args.length < 29) (h3 : C.mts.lookup (toS c, n) = some (f, np)) (ho : SEX C T cf K sc W a o) (ha : SAs C T cf K sc W es args) (hn : ∀ args, cf f args = .bad ∨ args.length = np) :
    SEX C T cf K sc W (.meth c m f a es) (.Call (.Attribute o n apos) args [] pos) := by
  obtain ⟨t, g, pa⟩ := ha.pa
  obtain ⟨ta, go, po⟩ := ho.b.pe
  match ha with
  | .nil =>
    refine (seb_of (t := tMethE K c m (SpF T K cf np f) (WE W) ta tNil) (ge_meth hn go ga_nil) (fun X k => ?_) rfl rfl).x rfl
    obtain ⟨fa, fd, ps, j, e1, e2, e3, e4, e5⟩ := k.mts _ n f np h3
    exact k.k ▸ pe_methE0 hx (po X k) e1 e2 e4 e5 e3 (passAt k.tk) (meth_eq hr hl hn9 rfl)
  | .cons h4 h5 =>
    refine (seb_of (t := tMethE K c m (SpF T K cf np f) (WE W) ta t) (ge_meth hn go g) (fun X k => ?_) rfl rfl).x rfl
    obtain ⟨fa, fd, ps, j, e1, e2, e3, e4, e5⟩ := k.mts _ n f np h3
    exact k.k ▸ pe_methE hx (po X k) e1 e2 e4 e5 e3 (passAt k.tk) (pa X k) (starEach_ns h4.ns _ _) (SAs.plain h5 _ _) (meth_eq hr hl hn9 (SAs.plain (.cons h4 h5) _ _))
theorem sex_sl {sc : Scope} {W : WX} {a lo hi : E} {a' : Expr} {l h : Option Expr} {p2 : Pos} (ha : SEX C T cf K sc W a a')
    (hl : (l = none ∧ lo = .nil) ∨ ∃ e, l = some e ∧ SEX C T cf K sc W lo e) (hh : (h = none ∧ hi = .nil) ∨ ∃ e, h = some e ∧ SEX C T cf K sc W hi e) : SEX C T cf K sc W (.sl a lo hi) (.Subscript a' (.Slice l h none p2) pos) := by
  obtain ⟨ta, ga, pa⟩ := ha.b.pe
  have go : ∀ {o : Option Expr} {m : E}, ((o = none ∧ m = .nil) ∨ ∃ e, o = some e ∧ SEX C T cf K sc W m e) → ∃ t, GP T K W cf m t ∧ ∀ X, CtxOk C T cf K sc X W → PO X o t := by
    intro o m q
    rcases q with ⟨rfl, rfl⟩ | ⟨e, rfl, q⟩
    · exact ⟨_, gp_none, fun X c => po_none⟩
    · obtain ⟨t, g, p⟩ := q.b.pe
      exact ⟨_, gp_some g, fun X c => po_some (p X c)⟩
  obtain ⟨tl, gl, pl⟩ := go hl
  obtain ⟨th, gh, ph⟩ := go hh
  exact (seb_of (ge_sl ga gl gh) (fun X c => pe_slice (c.k ▸ sl_all) (pa X c) (pl X c) (ph X c)) rfl rfl).x rfl
theorem sex_dgt {sc : Scope} {W : WX} {a k d : E} {o k' d' : Expr} {n : Str} {apos : Pos} (hn : n = ("get" : Str)) (hr : plainO o = true) (hl : (apos.endLine == pos.line) = true) (ho : SEX C T cf K sc W a o) (hk : SEX C T cf K sc W k k') (hd : SEX C T cf K sc W d d') :
    SEX C T cf K sc W (.dgt a k d) (.Call (.Attribute o n apos) [k', d'] [] pos) := by
  subst hn
  obtain ⟨ta, ga, pa⟩ := ho.b.pe
  obtain ⟨tk, gk, pk⟩ := hk.b.pe
  obtain ⟨td, gd, pd⟩ := hd.b.pe
  have trees : ∀ env : Env, backTo pos (starEach [k', d'] env) = [(false, eval k' env), (false, eval d' env)] := fun env => by
    rw [starEach_ns hk.b.ns, starEach_ns hd.b.ns]
    rfl
  exact (seb_of (ge_dgt ga gk gd) (fun X c => pe_dget2 (by have := c.un; omega) (pa X c) (pk X c) (pd X c) ⟨att_base hr _ _ _, by rw [trees]; rfl, hl, trees _⟩) rfl rfl).x rfl
theorem sex_tmt {sc : Scope} {W : WX} {m : Bool} {a k : E} {o k' : Expr} {n : Str} {apos : Pos} (hn : n = (if m then ("count" : Str) else "index")) (hr : plainO o = true) (hl : (apos.endLine == pos.line) = true) (ho : SEX C T cf K sc W a o) (hk : SEX C T cf K sc W k k') :
    SEX C T cf K sc W (.tmt m a k) (.Call (.Attribute o n apos) [k'] [] pos) := by
  subst hn
  obtain ⟨ta, ga, pa⟩ := ho.b.pe
  obtain ⟨tk, gk, pk⟩ := hk.b.pe
  have trees : ∀ env : Env, backTo pos (starEach [k'] env) = [(false, eval k' env)] := fun env => by
    rw [starEach_ns hk.b.ns]
    rfl
  cases m with
  | true => exact (seb_of (ge_tct ga gk) (fun X c => pe_tct (by have := c.un; omega) (pa X c) (pk X c) ⟨att_base hr _ _ _, by rw [trees]; rfl, hl, trees _⟩) rfl rfl).x rfl
  | false => exact (seb_of (ge_tix ga gk) (fun X c => pe_tix (pa X c) (pk X c) ⟨att_base hr _ _ _, by rw [trees]; rfl, hl, trees _⟩) rfl rfl).x rfl
theorem sex_chn {sc : Scope} {W : WX} {a l : E} {a' b c : Expr} {op op' : CmpOp} {ops : List CmpOp} {cs : List Expr} (ha : SEX C T cf K sc W a a') (hl : SCH C T cf K sc W l (op :: op' :: ops) (b :: c :: cs)) :
    SEX C T cf K sc W (.chn a l) (.Compare a' (op :: op' :: ops) (b :: c :: cs) pos) := by
  obtain ⟨ta, ga, pa⟩ := ha.b.pe
  obtain ⟨tl, gl, pl⟩ := hl.h
  have g := ge_chn ga gl
  exact (⟨⟨_, g, fun X c => pe_chn (pa X c) (pl X c) (lastMarks_plain hl.p)⟩, ⟨_, gb_of g, fun X c => pt_chn (pa X c) (pl X c) (lastMarks_plain hl.p)⟩, rfl⟩ : SEB C T cf K sc W _ _).x rfl
theorem cmp_ok {o : Op} {op : CmpOp} (h : cmpB o op = true) : plainC op = true ∧ ∃ r, OpOk K o (l2 r) ∧ ∀ X : Cx, X.K = K → X.A.units + 200 < cLine → OpR X (compareOp op) r := by
  unfold cmpB at h
  split at h
  · exact ⟨rfl, _, ok_lt, fun X k u => k ▸ op_ltA (by omega)⟩
  · exact ⟨rfl, _, ok_le, fun X k u => op_le⟩
  · exact ⟨rfl, _, ok_gt, fun X k u => op_gt⟩
  · exact ⟨rfl, _, ok_ge, fun X k u => op_ge⟩
  · cases h
theorem sch_last {sc : Scope} {W : WX} {o : Op} {b : E} {op : CmpOp} {e : Expr} (h : cmpB o op = true) (hb : SEX C T cf K sc W b e) : SCH C T cf K sc W (.lk1 o b) [op] [e] := by
  obtain ⟨h1, r, h2, h3⟩ := cmp_ok (K := K) h
  obtain ⟨t, g, p⟩ := hb.b.pe
  exact ⟨⟨_, gch_last h2 g, fun X c => pch_last (h3 X c.k c.un) (p X c)⟩, by simp [h1]⟩
theorem sch_link {sc : Scope} {W : WX} {o : Op} {b l : E} {op op' : CmpOp} {ops : List CmpOp} {e e' : Expr} {es' : List Expr} (h : cmpB o op = true) (hb : SEX C T cf K sc W b e) (hl : SCH C T cf K sc W l (op' :: ops) (e' :: es')) : SCH C T cf K sc W (.lks o b l) (op :: op' :: ops) (e :: e' :: es') := by
  obtain ⟨h1, r, h2, h3⟩ := cmp_ok (K := K) h
  obtain ⟨t, g, p⟩ := hb.b.pe
  obtain ⟨t2, g2, p2⟩ := hl.h
  refine ⟨⟨_, gch_link h2 g g2, fun X c => pch_link (h3 X c.k c.un) (p X c) (p2 X c)⟩, ?_⟩
  have q := hl.p
  simp only [List.all_cons] at q ⊢
  rw [h1, q]
  rfl
def locL (sc scope : Scope) (x : Str) : Bool := locB (relS scope sc) x || (match (relS scope sc).names.lookup x with | some .cell => (scope.names.lookup x == some .cell) | _ => false)
theorem ge_no : GE T K W cf .no (fun _ _ _ => False) := fun G fr Fo H σv σd Q S hq => by
  simp only [ev] at hq
  exact hq
theorem gb_no : GB T K W cf .no (fun _ _ _ => False) := fun G fr Fo H σv σd Q S hq => by
  simp only [ev, asB] at hq
  exact hq
theorem sex_no {e : Expr} {sc : Scope} {W : WX} (h : notStar e = true) : SEX C T cf K sc W .no e :=
  ⟨⟨⟨_, ge_no, fun X _ => ⟨fun _ _ _ _ _ _ f => f.elim⟩⟩, ⟨_, gb_no, fun X _ => ⟨fun _ _ _ _ _ _ f => f.elim⟩⟩, h⟩, fun _ => ⟨_, gb_no, fun X _ => ⟨fun _ _ _ _ _ _ _ f => f.elim⟩⟩⟩
theorem sex_lc {sc : Scope} {W : WX} {elt cnd : E} {t : Tg} {k : Ik} {elt' tg iter : Expr} {ifs args : List Expr} {scope : Scope} (h1 : blkC C.N sc scope (zipI t.own C.N) = true) (h2 : (zipI t.own C.N).map (·.2) = t.own)
    (h3 : tgB C scope (locL sc scope) t tg = true) (h4 : ikT k t = true) (h5 : ikForm C sc k iter = some args) (ha : SAs C T cf K sc W es args)
    (hc : (ifs = [] ∧ cnd = .c (.bl true)) ∨ ∃ e, ifs = [e] ∧ SEX C T cf K (relS scope sc) WF cnd e) (he : SEX C T cf K (relS scope sc) WF elt elt') : SEX C T cf K sc W (.lc elt t k es cnd) (.ListComp elt' [⟨tg, iter, ifs, 0⟩] scope pos) := by
  obtain ⟨wi, gi, pi, pf⟩ := ik_ok h5 h4 h3 ha
  obtain ⟨g, gg, pg⟩ := pg_tgB (K := K) h3 (P := fun X => X.N = C.N ∧ X.N.Nodup ∧ X.calm = true ∧ X.K = K ∧ X.env.scope = relS scope sc ∧ X.fn = fun x => scope.names.lookup x == some .cell) (by
    intro X ⟨q1, q2, q3, q4, q5, q6⟩
    refine ⟨q1, q2, q3, q4, fun x hx => ?_⟩
    rw [q5, q6]
    unfold locL locB at hx
    rw [Bool.or_eq_true] at hx
    rcases hx with hx | hx
    · split at hx
      · rename_i q; exact ⟨.inl q, .inr q⟩
      · cases hx
    · split at hx
      · rename_i q; exact ⟨.inr q, .inl hx⟩
      · cases hx)
  obtain ⟨te, ge, pe⟩ := he.b.pe
  have hcnd : ∃ tt, GB T K WF cf cnd tt ∧ ∀ X, CtxOk C T cf K (relS scope sc) X WF → PTs X ifs tt := by
    rcases hc with ⟨rfl, rfl⟩ | ⟨e, rfl, q⟩
    · refine ⟨_, fun G fr Fo H σv σd Q S hq => ?_, fun X c => pts_nil⟩
      exact hq fr H (.refl S) S
    · obtain ⟨t, g, p⟩ := q.b.pt
      exact ⟨_, g, fun X c => pts_one (p X c)⟩
  obtain ⟨tt, gt, pt⟩ := hcnd
  have gg2 := ge_lc (T := T) (W := W) (cf := cf) gi gg gt ge
  refine (seb_of gg2 (fun X c => ?_) rfl rfl).x rfl
  have q := pe_lc (X := X) (pos := pos) c.calm c.nd (pi X c) (blkOk_by (own := zipI t.own C.N) (by rw [c.n, c.s]; exact h1))
    (fun s H Cc cl fp => pg _ ⟨c.n, c.nd, c.calm, c.k, (c.blk s H scope Cc cl fp).s, rfl⟩)
    (fun s H Cc cl fp => pt _ (c.blk s H scope Cc cl fp)) (fun s H Cc cl fp => pe _ (c.blk s H scope Cc cl fp)) (pf X.env)
  rw [h2] at q
  exact q

theorem sex_dcp {sc : Scope} {W : WX} {kx vx cnd : E} {t : Tg} {k : Ik} {kx' vx' tg iter : Expr} {ifs args : List Expr} {scope : Scope} (h1 : blkC C.N sc scope (zipI t.own C.N) = true) (h2 : (zipI t.own C.N).map (·.2) = t.own)
    (h3 : tgB C scope (locL sc scope) t tg = true) (h4 : ikT k t = true) (h5 : ikForm C sc k iter = some args) (ha : SAs C T cf K sc W es args)
    (hc : (ifs = [] ∧ cnd = .c (.bl true)) ∨ ∃ e, ifs = [e] ∧ SEX C T cf K (relS scope sc) WF cnd e) (hk : SEX C T cf K (relS scope sc) WF kx kx') (he : SEX C T cf K (relS scope sc) WF vx vx') :
    SEX C T cf K sc W (.dcp kx vx t k es cnd) (.DictComp kx' vx' [⟨tg, iter, ifs, 0⟩] scope pos) := by
  obtain ⟨wi, gi, pi, pf⟩ := ik_ok h5 h4 h3 ha
  obtain ⟨g, gg, pg⟩ := pg_tgB (K := K) h3 (P := fun X => X.N = C.N ∧ X.N.Nodup ∧ X.calm = true ∧ X.K = K ∧ X.env.scope = relS scope sc ∧ X.fn = fun x => scope.names.lookup x == some .cell) (by
    intro X ⟨q1, q2, q3, q4, q5, q6⟩
    refine ⟨q1, q2, q3, q4, fun x hx => ?_⟩
    rw [q5, q6]
    unfold locL locB at hx
    rw [Bool.or_eq_true] at hx
    rcases hx with hx | hx
    · split at hx
      · rename_i q; exact ⟨.inl q, .inr q⟩
      · cases hx
    · split at hx
      · rename_i q; exact ⟨.inr q, .inl hx⟩
      · cases hx)
  obtain ⟨tk, gk, pk⟩ := hk.b.pe
  obtain ⟨tv, gv, pv⟩ := he.b.pe
  have hcnd : ∃ tt, GB T K WF cf cnd tt ∧ ∀ X, CtxOk C T cf K (relS scope sc) X WF → PTs X ifs tt := by
    rcases hc with ⟨rfl, rfl⟩ | ⟨e, rfl, q⟩
    · exact ⟨_, fun G fr Fo H σv σd Q S hq => hq fr H (.refl S) S, fun X c => pts_nil⟩
    · obtain ⟨t, g, p⟩ := q.b.pt
      exact ⟨_, g, fun X c => pts_one (p X c)⟩
  obtain ⟨tt, gt, pt⟩ := hcnd
  refine (seb_of (ge_dcp (T := T) (W := W) (cf := cf) gi gg gt gk gv) (fun X c => ?_) rfl rfl).x rfl
  have q := pe_dcp (X := X) (pos := pos) (ini := .dT []) c.calm c.nd (by have := c.un; omega) (pi X c) (blkOk_by (own := zipI t.own C.N) (by rw [c.n, c.s]; exact h1)) (fun h H hb => dt_empty h hb)
    (fun s H Cc cl fp => ⟨pg _ ⟨c.n, c.nd, c.calm, c.k, (c.blk s H scope Cc cl fp).s, rfl⟩, pt _ (c.blk s H scope Cc cl fp), pk _ (c.blk s H scope Cc cl fp), pv _ (c.blk s H scope Cc cl fp)⟩) (pf X.env)
  rw [h2] at q
  exact q
theorem sex_lsd {sc : Scope} {W : WX} {x : Str} {p : Pos} {a : Expr} (hb : bltB C sc x "list" = true) (h : SAs C T cf K sc W es [a]) : SEX C T cf K sc W (.lsd es) (.Call (.Name x p) [a] [] pos) := by
  obtain ⟨e1, e4, e5, e2⟩ := bltB_get (T := T) (cf := cf) (K := K) (W := W) hb
  match h with
  | .cons h1 .nil =>
    obtain ⟨t1, g1, p1⟩ := h1.pe
    exact (seb_of (ge_lsd (ga_cons g1 ga_nil)) (fun X c => pe_callTy (call_list_dT c.calm) (e2 X c).1 (e2 X c).2 (e1 ▸ b_list) (pa_cons (p1 X c) pa_nil (starEach_ns h1.ns _ _)) e5 e4 (starEach_ns h1.ns _ _) rfl) rfl rfl).x rfl
theorem sex_frd {sc : Scope} {W : WX} {m : E} {e : Expr} (h : SEX C T cf K sc W m e) (hp : plainT e = true) (hb : isBo e = false) : SEX C T cf K sc W (.frd m) e := by
  obtain ⟨t, g, p⟩ := h.b.pe
  exact (seb_of (ge_frd g) (fun X c => pe_frd (p X c)) hp h.b.ns).x hb
variable (hn : LenOk C cf)
include hn
mutual
theorem agE_ok : ∀ (m : E) {e : Expr} {sc : Scope} {W : WX}, agE C sc m e = true → SEX C T cf K sc W m e
  | .c d, e, sc, W, h => by
    unfold agE at h
    split at h <;> first | contradiction | skip
    rename_i q; cases q; exact (seb_const h).x rfl
  | .v i, e, sc, W, h => by
    unfold agE at h
    split at h <;> first | contradiction | skip
    rename_i q; cases q; exact (seb_name ge_v h).x rfl
  | .fz i, e, sc, W, h => by
    unfold agE at h
    split at h <;> first | contradiction | skip
    rename_i q; cases q; exact (seb_name ge_fz h).x rfl
  | .mv i, e, sc, W, h => by
    unfold agE at h
    split at h <;> first | contradiction | skip
    rename_i q; cases q; exact (seb_name ge_mv h).x rfl
  | .gl y d, e, sc, W, h => by
    unfold agE at h
    split at h <;> first | contradiction | skip
    rename_i q; cases q
    simp only [Bool.and_eq_true, decide_eq_true_eq] at h
    exact sex_gl h.1.1.2 h.1.2 h.2
  | .no, e, sc, W, h => by
    unfold agE at h
    exact sex_no h
  | .nil, e, sc, W, h => by
    unfold agE at h
    first | (split at h <;> contradiction) | cases h
  | .cons a b, e, sc, W, h => by
    unfold agE at h
    first | (split at h <;> contradiction) | cases h
  | .op o es, e, sc, W, h => by
    unfold agE at h
    split at h
    · rename_i args q
      exact (seb_op q (agA_ok es h)).x (by
        unfold opForm at q
        split at q
        case h_48 =>
          unfold opForm2 at q
          split at q <;> first | rfl | contradiction
        all_goals first | rfl | contradiction)
    · cases h
  | .tup es, e, sc, W, h => by
    unfold agE at h
    split at h <;> first | contradiction | skip
    rename_i q; cases q
    exact sex_tup (agA_ok es h)
  | .ktp es, e, sc, W, h => by
    unfold agE at h
    split at h <;> first | contradiction | skip
    rename_i q; cases q
    exact sex_ktp (agA_ok es h)
  | .lst es, e, sc, W, h => by
    unfold agE at h
    split at h <;> first | contradiction | skip
    rename_i q; cases q
    exact sex_lst (agA_ok es h)
  | .dct es, e, sc, W, h => by
    unfold agE at h
    split at h <;> first | contradiction | skip
    rename_i q; cases q
    simp only [Bool.and_eq_true, decide_eq_true_eq] at h
    exact (seb_dct h.1.1.1 h.1.1.2 h.1.2 (agA_ok es h.2)).x rfl
  | .and a b, e, sc, W, h => by
    unfold agE at h
    split at h <;> first | contradiction | skip
    rename_i q; cases q
    rw [Bool.and_eq_true] at h
    refine sex_and (agE_ok a h.1) ?_
    split at h
    · exact .inl ⟨rfl, agE_ok b h.2⟩
    · exact .inr (agE_ok b h.2)
  | .or a b, e, sc, W, h => by
    unfold agE at h
    split at h <;> first | contradiction | skip
    rename_i q; cases q
    rw [Bool.and_eq_true] at h
    refine sex_or (agE_ok a h.1) ?_
    split at h
    · exact .inl ⟨rfl, agE_ok b h.2⟩
    · exact .inr (agE_ok b h.2)
  | .not a, e, sc, W, h => by
    unfold agE at h
    split at h <;> first | contradiction | skip
    rename_i q; cases q
    exact sex_not (agE_ok a h)
  | .ite c a b, e, sc, W, h => by
    unfold agE at h
    split at h <;> first | contradiction | skip
    rename_i q; cases q
    simp only [Bool.and_eq_true] at h
    exact sex_ite (agE_ok c h.1.1) (agE_ok a h.1.2) (agE_ok b h.2)
  | .call f es, e, sc, W, h => by
    unfold agE at h
    split at h <;> first | contradiction | skip
    rename_i q; cases q
    simp only [Bool.and_eq_true, decide_eq_true_eq] at h
    exact sex_call h.1.1.2 h.1.2 h.2 (agA_ok es h.1.1.1) (hn _ _ _ (.inl h.2))
  | .mk c f es, e, sc, W, h => by
    unfold agE at h
    split at h <;> first | contradiction | skip
    rename_i q; cases q
    simp only [Bool.and_eq_true, decide_eq_true_eq, beq_iff_eq] at h
    exact sex_mk h.1.1.1.1 h.1.1.2 h.1.2 h.2 (agA_ok es h.1.1.1.2) (hn _ _ _ (.inr (.inl h.2)))
  | .meth c m f a es, e, sc, W, h => by
    unfold agE at h
    split at h <;> first | contradiction | skip
    rename_i q; cases q
    simp only [Bool.and_eq_true, decide_eq_true_eq, beq_iff_eq] at h
    obtain ⟨⟨⟨⟨⟨⟨h1, h2⟩, h3⟩, h4⟩, h5⟩, h6⟩, h7⟩ := h
    exact sex_meth h1 h2 (beq_iff_eq.mpr h3) h4 h7 (agE_ok a h5) (agA_ok es h6) (hn _ _ _ (.inr (.inr ⟨_, h7⟩)))
  | .bm me i es, e, sc, W, h => by
    unfold agE at h
    split at h <;> first | contradiction | skip
    rename_i q; cases q
    simp only [Bool.and_eq_true, decide_eq_true_eq] at h
    exact (meB_get h.1.1.1.2 h.1.1.1.1 h.1.1.2 h.1.2 (agA_ok es h.2)).x rfl
  | .lc elt t k es cnd, e, sc, W, h => by
    unfold agE at h
    split at h <;> first | contradiction | skip
    rename_i q; cases q
    simp only [Bool.and_eq_true, decide_eq_true_eq] at h
    obtain ⟨⟨⟨⟨⟨⟨h1, h2⟩, h3⟩, h4⟩, h5⟩, h6⟩, h7⟩ := h
    split at h5
    · rename_i args q
      refine sex_lc h1 h2 h3 h4 q (agA_ok es h5) ?_ (agE_ok elt h7)
      split at h6
      · split at h6
        · exact .inl ⟨rfl, rfl⟩
        · cases h6
      · exact .inr ⟨_, rfl, agE_ok cnd h6⟩
      · cases h6
    · cases h5
  | .chn a l, e, sc, W, h => by
    unfold agE at h
    split at h <;> first | contradiction | skip
    rename_i q; cases q
    rw [Bool.and_eq_true] at h
    exact sex_chn (agE_ok a h.1) (agC_ok l h.2)
  | .sl a lo hi, e, sc, W, h => by
    unfold agE at h
    split at h <;> first | contradiction | skip
    rename_i q; cases q
    simp only [Bool.and_eq_true] at h
    obtain ⟨⟨h1, h2⟩, h3⟩ := h
    refine sex_sl (agE_ok a h1) ?_ ?_
    · split at h2
      · split at h2
        · exact .inl ⟨rfl, rfl⟩
        · cases h2
      · exact .inr ⟨_, rfl, agE_ok lo h2⟩
    · split at h3
      · split at h3
        · exact .inl ⟨rfl, rfl⟩
        · cases h3
      · exact .inr ⟨_, rfl, agE_ok hi h3⟩
  | .dgt a k d, e, sc, W, h => by
    unfold agE at h
    split at h <;> first | contradiction | skip
    rename_i q; cases q
    simp only [Bool.and_eq_true, beq_iff_eq] at h
    obtain ⟨⟨⟨⟨⟨h1, h2⟩, h3⟩, h4⟩, h5⟩, h6⟩ := h
    exact sex_dgt h1 h2 (beq_iff_eq.mpr h3) (agE_ok a h4) (agE_ok k h5) (agE_ok d h6)
  | .lsd es, e, sc, W, h => by
    unfold agE at h
    split at h <;> first | contradiction | skip
    rename_i q; cases q
    rw [Bool.and_eq_true] at h
    exact sex_lsd h.1 (agA_ok es h.2)
  | .dcp kx vx t k es cnd, e, sc, W, h => by
    unfold agE at h
    split at h <;> first | contradiction | skip
    rename_i q; cases q
    simp only [Bool.and_eq_true, decide_eq_true_eq] at h
    obtain ⟨⟨⟨⟨⟨⟨⟨h1, h2⟩, h3⟩, h4⟩, h5⟩, h6⟩, h7⟩, h8⟩ := h
    split at h5
    · rename_i args q
      refine sex_dcp h1 h2 h3 h4 q (agA_ok es h5) ?_ (agE_ok kx h7) (agE_ok vx h8)
      split at h6
      · split at h6
        · exact .inl ⟨rfl, rfl⟩
        · cases h6
      · exact .inr ⟨_, rfl, agE_ok cnd h6⟩
      · cases h6
    · cases h5
  | .frd m, e, sc, W, h => by
    unfold agE at h
    split at h <;> first | contradiction | skip
    · rename_i q; cases q
      exact sex_frd (agE_ok m h) rfl rfl
    · rename_i q; cases q
      exact sex_frd (agE_ok m h) rfl rfl
  | .tmt m a k, e, sc, W, h => by
    unfold agE at h
    split at h <;> first | contradiction | skip
    rename_i q; cases q
    simp only [Bool.and_eq_true, beq_iff_eq] at h
    obtain ⟨⟨⟨⟨h1, h2⟩, h3⟩, h4⟩, h5⟩ := h
    exact sex_tmt h1 h2 (beq_iff_eq.mpr h3) (agE_ok a h4) (agE_ok k h5)
  | .lk1 o b, e, sc, W, h => by
    unfold agE at h
    first | (split at h <;> contradiction) | cases h
  | .lks o b l, e, sc, W, h => by
    unfold agE at h
    first | (split at h <;> contradiction) | cases h
theorem agA_ok : ∀ (m : E) {es : List Expr} {sc : Scope} {W : WX}, agA C sc m es = true → SAs C T cf K sc W m es
  | .nil, es, sc, W, h => by
    unfold agA at h
    split at h <;> first | contradiction | skip
    exact .nil
  | .cons a b, es, sc, W, h => by
    unfold agA at h
    split at h <;> first | contradiction | skip
    rename_i q; cases q
    rw [Bool.and_eq_true] at h
    exact .cons (agE_ok a h.1).b (agA_ok b h.2)
  | .c _, es, sc, W, h | .v _, es, sc, W, h | .fz _, es, sc, W, h | .mv _, es, sc, W, h | .gl _ _, es, sc, W, h | .op _ _, es, sc, W, h | .tup _, es, sc, W, h | .ktp _, es, sc, W, h | .lst _, es, sc, W, h | .and _ _, es, sc, W, h | .or _ _, es, sc, W, h | .not _, es, sc, W, h | .ite _ _ _, es, sc, W, h | .call _ _, es, sc, W, h | .bm _ _ _, es, sc, W, h | .lc _ _ _ _ _, es, sc, W, h | .dcp _ _ _ _ _ _, es, sc, W, h | .lsd _, es, sc, W, h | .frd _, es, sc, W, h | .chn _ _, es, sc, W, h | .sl _ _ _, es, sc, W, h | .dgt _ _ _, es, sc, W, h | .tmt _ _ _, es, sc, W, h | .lk1 _ _, es, sc, W, h | .lks _ _ _, es, sc, W, h | .no, es, sc, W, h => by
    unfold agA at h
    first | (split at h <;> contradiction) | cases h
theorem agC_ok : ∀ (m : E) {ops : List CmpOp} {es : List Expr} {sc : Scope} {W : WX}, agC C sc m ops es = true → SCH C T cf K sc W m ops es
  | .lk1 o b, ops, es, sc, W, h => by
    unfold agC at h
    split at h <;> first | contradiction | skip
    rename_i q; cases q
    rw [Bool.and_eq_true] at h
    exact sch_last h.1 (agE_ok b h.2)
  | .lks o b l, ops, es, sc, W, h => by
    unfold agC at h
    split at h <;> first | contradiction | skip
    rename_i q; cases q
    simp only [Bool.and_eq_true] at h
    exact sch_link h.1.1 (agE_ok b h.1.2) (agC_ok l h.2)
  | .c _, ops, es, sc, W, h | .v _, ops, es, sc, W, h | .fz _, ops, es, sc, W, h | .mv _, ops, es, sc, W, h | .gl _ _, ops, es, sc, W, h | .nil, ops, es, sc, W, h | .cons _ _, ops, es, sc, W, h | .op _ _, ops, es, sc, W, h | .tup _, ops, es, sc, W, h | .ktp _, ops, es, sc, W, h | .lst _, ops, es, sc, W, h | .and _ _, ops, es, sc, W, h | .or _ _, ops, es, sc, W, h | .not _, ops, es, sc, W, h | .ite _ _ _, ops, es, sc, W, h | .call _ _, ops, es, sc, W, h | .bm _ _ _, ops, es, sc, W, h | .lc _ _ _ _ _, ops, es, sc, W, h | .dcp _ _ _ _ _ _, ops, es, sc, W, h | .lsd _, ops, es, sc, W, h | .frd _, ops, es, sc, W, h | .chn _ _, ops, es, sc, W, h | .sl _ _ _, ops, es, sc, W, h | .dgt _ _ _, ops, es, sc, W, h | .tmt _ _ _, ops, es, sc, W, h | .no, ops, es, sc, W, h => by
    unfold agC at h
    first | (split at h <;> contradiction) | cases h
end
end
end Fly
end

section
set_option Elab.async false
set_option linter.all false
set_option maxRecDepth 100000
set_option maxHeartbeats 4000000
namespace Fly
open PySem L2
/-- a, b = x, y is stored from the right -/
def parV (els : List Expr) : Bool := !(els.any fun | .Starred .. => true | _ => false) && !(els.all (foldedForSure 8)) && !(els.all (constantsAlone 8))
theorem kind_of {x : Str} {env : Env} (h : env.scope.names.lookup x = some .local) : env.kindOf x = some .local := by
  unfold Env.kindOf
  rw [h]
theorem swap2 {x y : Str} {px py pt p2 : Pos} {kt k2 : Nat} {a b : Expr} {env : Env} (hb : env.blockKind = .function) (hx : env.scope.names.lookup x = some .local) (hy : env.scope.names.lookup y = some .local) (hxy : x ≠ y) (hl : (px.line == py.line) = true) (hv : parV [a, b] = true) :
    swappedStores [.Tuple [.Name x px, .Name y py] kt pt] (.Tuple [a, b] k2 p2) env = pure (some [x, y]) := by
  have e1 := kind_of hx
  have e2 := kind_of hy
  unfold parV at hv
  rw [Bool.and_eq_true, Bool.and_eq_true, Bool.not_eq_true', Bool.not_eq_true', Bool.not_eq_true'] at hv
  obtain ⟨⟨v1, v2⟩, v3⟩ := hv
  have e3 : py.line = px.line := (eq_of_beq hl).symm
  have hn : ([.Name x px, .Name y py] : List Expr).filterMap (fun
    | .Name id pos => if env.kindOf id == some .local && pos.line == (([.Name x px, .Name y py] : List Expr).head?.map (·.pos.line)).getD 0 then some id else none
    | _ => none) = [x, y] := by
    show ([.Name x px, .Name y py] : List Expr).filterMap (fun
    | .Name id pos => if env.kindOf id == some .local && pos.line == px.line then some id else none
    | _ => none) = [x, y]
    simp [e1, e2, e3]
  have hd : ([x, y] : List Str).eraseDups.length = 2 := by
    have e4 : (y == x) = false := beq_eq_false_iff_ne.mpr fun z => hxy z.symm
    simp [List.eraseDups, List.eraseDupsBy, List.eraseDupsBy.loop, e4]
  have key : ∀ n : List Str, n = [x, y] → (if (n.length != 2 || n.eraseDups.length != n.length) = true then (pure none : Sem (Option (List Str))) else if ([a, b].all (foldedForSure 8)) = true then pure none else
      (fun jp : Unit → Sem (Option (List Str)) => if [a, b].all (constantsAlone 8) = true then (do let r ← unsupported "assign.tuple-of-constant-expressions:order-of-the-stores"; jp r) else jp ()) (fun _ => pure (some n))) = pure (some [x, y]) := by
    intro n e
    subst e
    rw [if_neg (by rw [hd]; simp), if_neg (by rw [v2]; decide)]
    show ite _ _ _ = _
    rw [if_neg (by rw [v3]; decide)]
  unfold swappedStores
  refine (if_neg (fun z => ?_)).trans ((if_neg (fun z => Bool.noConfusion (v1.symm.trans z))).trans (key _ hn))
  rw [hb] at z
  exact Bool.noConfusion (show false = true from z)
theorem swap3 {x y z : Str} {px py pz pt p2 : Pos} {kt k2 : Nat} {a b c : Expr} {env : Env} (hb : env.blockKind = .function) (hx : env.scope.names.lookup x = some .local) (hy : env.scope.names.lookup y = some .local) (hz : env.scope.names.lookup z = some .local) (hxy : x ≠ y) (hxz : x ≠ z) (hyz : y ≠ z) (hl : (px.line == py.line) = true) (hl2 : (px.line == pz.line) = true) (hv : parV [a, b, c] = true) :
    swappedStores [.Tuple [.Name x px, .Name y py, .Name z pz] kt pt] (.Tuple [a, b, c] k2 p2) env = pure (some [x, y, z]) := by
  have e1 := kind_of hx
  have e2 := kind_of hy
  have e5 := kind_of hz
  have e6 : pz.line = px.line := (eq_of_beq hl2).symm
  unfold parV at hv
  rw [Bool.and_eq_true, Bool.and_eq_true, Bool.not_eq_true', Bool.not_eq_true', Bool.not_eq_true'] at hv
  obtain ⟨⟨v1, v2⟩, v3⟩ := hv
  have e3 : py.line = px.line := (eq_of_beq hl).symm
  have hn : ([.Name x px, .Name y py, .Name z pz] : List Expr).filterMap (fun
    | .Name id pos => if env.kindOf id == some .local && pos.line == (([.Name x px, .Name y py, .Name z pz] : List Expr).head?.map (·.pos.line)).getD 0 then some id else none
    | _ => none) = [x, y, z] := by
    show ([.Name x px, .Name y py, .Name z pz] : List Expr).filterMap (fun
    | .Name id pos => if env.kindOf id == some .local && pos.line == px.line then some id else none
    | _ => none) = [x, y, z]
    simp [e1, e2, e3, e5, e6]
  have hd : ([x, y, z] : List Str).eraseDups.length = 3 := by
    have e4 : (y == x) = false := beq_eq_false_iff_ne.mpr fun q => hxy q.symm
    have e7 : (z == x) = false := beq_eq_false_iff_ne.mpr fun q => hxz q.symm
    have e8 : (z == y) = false := beq_eq_false_iff_ne.mpr fun q => hyz q.symm
    simp [List.eraseDups, List.eraseDupsBy, List.eraseDupsBy.loop, e4, e7, e8]
  have key : ∀ n : List Str, n = [x, y, z] → (if (n.length != 3 || n.eraseDups.length != n.length) = true then (pure none : Sem (Option (List Str))) else if ([a, b, c].all (foldedForSure 8)) = true then pure none else
      (fun jp : Unit → Sem (Option (List Str)) => if [a, b, c].all (constantsAlone 8) = true then (do let r ← unsupported "assign.tuple-of-constant-expressions:order-of-the-stores"; jp r) else jp ()) (fun _ => pure (some n))) = pure (some [x, y, z]) := by
    intro n e
    subst e
    rw [if_neg (by rw [hd]; simp), if_neg (by rw [v2]; decide)]
    show ite _ _ _ = _
    rw [if_neg (by rw [v3]; decide)]
  unfold swappedStores
  refine (if_neg (fun zz => ?_)).trans ((if_neg (fun zz => Bool.noConfusion (v1.symm.trans zz))).trans (key _ hn))
  rw [hb] at zz
  exact Bool.noConfusion (show false = true from zz)
end Fly
end

section
set_option Elab.async false
set_option linter.all false
set_option maxRecDepth 100000
set_option maxHeartbeats 4000000
/-! The Python text and the small program agree: statements (FlyAgreeS). -/
namespace Fly
open PySem L2
def locS (sc : Scope) (x : Str) : Bool := match sc.names.lookup x with | some .local => true | some .cell => true | _ => false
def notComp : Expr → Bool
  | .ListComp _ _ _ _ => false
  | .SetComp _ _ _ _ => false
  | .DictComp _ _ _ _ _ => false
  | _ => true
/-- does a comprehension store its list at once -/
def swB (sc s : Scope) (x : Str) (px p : Pos) : Bool := (sc.names.lookup x == some .local) && px.line == p.line && !(s.names.any fun (n, k) => n == x && (k == .local || k == .cell))
def opOf : Op → Operator → Bool
  | .add, .Add => true
  | .sub, .Sub => true
  | _, _ => false
def notPar : Expr → Expr → Bool
  | .Tuple _ _ _, .Tuple _ _ _ => false
  | .List _ _, .Tuple _ _ _ => false
  | _, _ => true
/-- a target that comprehensions look at is stored from the left -/
def celB (sc : Scope) : Expr → Bool
  | .Name x _ => sc.names.lookup x == some .cell
  | _ => false
def leftB (sc : Scope) : Expr → Expr → Bool
  | .Tuple ts _ _, .Tuple _ _ _ => ts.any (celB sc)
  | _, _ => false
def locN (C : Cg) (sc : Scope) (i : Nat) (x : Str) : Bool := decide (C.N[i]? = some x) && (sc.names.lookup x == some .local)
mutual
def agL (C : Cg) (sc : Scope) : S → List Stmt → Bool
  | .nil, [] => true
  | .seq a b, st :: rest => ag1 C sc a st && agL C sc b rest
  | _, _ => false
def ag1 (C : Cg) (sc : Scope) : S → Stmt → Bool
  | .asg (.nm i) (.lc elt t k es cnd), .Assign [.Name x px] (.ListComp elt' gs s p) pos => agE C sc (.lc elt t k es cnd) (.ListComp elt' gs s p) && tgB C sc (locS sc) (.nm i) (.Name x px)
  | .asg (.nm i) (.dcp kx vx t k es cnd), .Assign [.Name x px] (.DictComp kx' vx' gs s p) pos => agE C sc (.dcp kx vx t k es cnd) (.DictComp kx' vx' gs s p) && tgB C sc (locS sc) (.nm i) (.Name x px)
  | .asg t e, .Assign [tg] val pos => agE C sc e val && tgB C sc (locS sc) t tg && notComp val && (notPar tg val || leftB sc tg val)
  | .aug i o e, .AugAssign (.Name x px) op val pos => tgB C sc (locS sc) (.nm i) (.Name x px) && opOf o op && agE C sc e val
  | .setF i c f e, .Assign [.Attribute (.Name x px) g p2] val pos => agE C sc e val && nameB C sc i x && g == toS f && C.fls.contains (toS c, g)
  | .setS i lo hi e, .Assign [.Subscript (.Name x px) (.Slice l h none p3) p2] val pos => agE C sc e val && nameB C sc i x && (match l with | none => (match lo with | .nil => true | _ => false) | some l => agE C sc lo l) && (match h with | none => (match hi with | .nil => true | _ => false) | some h => agE C sc hi h)
  | .setI i k e, .Assign [.Subscript (.Name x px) k' p2] val pos => agE C sc e val && nameB C sc i x && agE C sc k k' && !(isSlice k') && notComp val
  | .ex e, .Expr val pos => agE C sc e val && notComp val
  | .ifs c a b, .If c' a' b' pos => agE C sc c c' && agL C sc a a' && agL C sc b b'
  | .for t k es b, .For tg iter body [] pos => tgB C sc (locS sc) t tg && ikT k t && (match ikForm C sc k iter with | some args => agA C sc es args | none => false) && agL C sc b body
  | .whl c b, .While c' body [] pos => agE C sc c c' && agL C sc b body
  | .ret e, .Return (some e') pos => agE C sc e e'
  | .retn, .Return none pos => true
  | .brk, .Break pos => true
  | .cnt, .Continue pos => true
  | .pass, .Pass pos => true
  | .no, _ => true
  | .tryR b c (.bl v), .Try body [.ExceptHandler (some (.Name x np)) none [.Return (some (.Constant (.bool v') j p1)) p2] p3] [] [] pos => agL C sc b body && (v == v') && gloB sc x && dbg x && decide (C.exs.lookup x = some c)
  | .augI i k o e, .AugAssign (.Subscript (.Name x px) k' p2) op val pos => nameB C sc i x && agE C sc k k' && !(isSlice k') && opOf o op && agE C sc e val
  | .par [i, j] es, .Assign [.Tuple [.Name x px, .Name y py] kt pt] (.Tuple [a, b] k2 p2) pos => locN C sc i x && locN C sc j y && decide (i ≠ j) && decide (x ≠ y) && px.line == py.line && parV [a, b] && agA C sc es [a, b]
  | .parG [i, j] es, .Assign [.Tuple [.Name x px, .Name y py] kt pt] (.Tuple [a, b] k2 p2) pos => locN C sc i x && locN C sc j y && decide (i ≠ j) && decide (x ≠ y) && px.line == py.line && parV [a, b] && agA C sc es [a, b]
  | .par [i, j, l] es, .Assign [.Tuple [.Name x px, .Name y py, .Name z pz] kt pt] (.Tuple [a, b, c] k2 p2) pos => locN C sc i x && locN C sc j y && locN C sc l z && decide (i ≠ j) && decide (i ≠ l) && decide (j ≠ l) && decide (x ≠ y) && decide (x ≠ z) && decide (y ≠ z) && px.line == py.line && px.line == pz.line && parV [a, b, c] && agA C sc es [a, b, c]
  | .raise c .nil, .Raise (some (.Call (.Name x p) [] [] p2)) none pos => gloB sc x && dbg x && decide (C.exs.lookup x = some c)
  | _, _ => false
end

/-- a context of statements -/
structure StOk (C : Cg) (T : XT) (cf : Nat → List Sl → CR) (K : PySem.W.Frag) (sc : Scope) (X : Cx) (W : WX) : Prop where
  c : CtxOk C T cf K sc X W
  fn : X.fn = fun _ => true
  bk : X.env.blockKind = .function
  exs : ∀ x c, C.exs.lookup x = some c → ∃ (Ca : Addr) (B newId initId : String) (bmB : List Value), T.cls c = .ref Ca ∧ X.mg x = some (.ref Ca) ∧ PySem.W.keepIn X.K (.ref Ca) = true ∧ Raises X (.ref Ca) ∧ ExcBaseFacts B newId initId bmB ∧ PySem.W.excIn X.K Ca bmB newId = true ∧ PySem.W.exmOne X.K (.ref Ca) (.ref Ca) = some true
  stk : X.stack = X.env :: X.outer
  frm : X.env.frame = some X.env.locals

structure SST (C : Cg) (T : XT) (cf : Nat → List Sl → CR) (K : PySem.W.Frag) (sc : Scope) (W : WX) (m : S) (st : Stmt) : Prop where
  h : ∃ t, GS T K W cf m t ∧ ∀ X, StOk C T cf K sc X W → PS X st t
structure SSL (C : Cg) (T : XT) (cf : Nat → List Sl → CR) (K : PySem.W.Frag) (sc : Scope) (W : WX) (m : S) (sts : List Stmt) : Prop where
  h : ∃ t, GS T K W cf m t ∧ ∀ X, StOk C T cf K sc X W → PSs X sts t
section
variable {C : Cg} {T : XT} {cf : Nat → List Sl → CR} {K : PySem.W.Frag} {m es : E} {e : Expr} {pos : Pos} {sc : Scope} {W : WX}
theorem swaps_nc {e : Expr} (h : notComp e = true) (t : Option Expr) (l : Nat) (env : Env) : swapsWith e t l env = pure false := by
  cases e with
  | ListComp _ _ _ _ => cases h
  | SetComp _ _ _ _ => cases h
  | DictComp _ _ _ _ _ => cases h
  | _ => rfl
theorem swaps_att {o : Expr} {g : Str} {p : Pos} (e : Expr) (l : Nat) (env : Env) : swapsWith e (some (.Attribute o g p)) l env = pure false := by
  cases e <;> rfl
theorem swaps_sub {o i : Expr} {p : Pos} (e : Expr) (l : Nat) (env : Env) : swapsWith e (some (.Subscript o i p)) l env = pure false := by
  cases e <;> rfl
theorem stores_np {tg e : Expr} (h : notPar tg e = true) (env : Env) : swappedStores [tg] e env = pure none := by
  unfold swappedStores
  cases tg <;> cases e <;> first | rfl | cases h
theorem any_short {α β : Type} (f : α → Option β) (g : α → Bool) (hg : ∀ x, g x = true → f x = none) : ∀ l : List α, l.any g = true → (l.filterMap f).length < l.length
  | [], h => Bool.noConfusion h
  | x :: l, h => by
    rw [List.any_cons, Bool.or_eq_true] at h
    rw [List.filterMap_cons, List.length_cons]
    have le := List.length_filterMap_le f l
    rcases h with h | h
    · rw [hg x h]
      exact Nat.lt_succ_of_le le
    · have lt := any_short f g hg l h
      cases f x with
      | none => exact Nat.lt_succ_of_le le
      | some _ => exact Nat.succ_lt_succ lt
theorem stores_left {tg e : Expr} {env : Env} (h : leftB env.scope tg e = true) : swappedStores [tg] e env = pure none := by
  unfold leftB at h
  split at h
  · rename_i ts kt pt vs k2 p2
    have key : ∀ f : Expr → Option Str, (∀ x, celB env.scope x = true → f x = none) → ((ts.filterMap f).length != ts.length) = true := fun f q =>
      bne_iff_ne.mpr (Nat.ne_of_lt (any_short f _ q _ h))
    have hc : ∀ x (l : Nat), celB env.scope x = true → (match x with
      | .Name id pos => if env.kindOf id == some .local && pos.line == l then some id else none
      | _ => none : Option Str) = none := by
      intro x l q
      unfold celB at q
      split at q
      · rename_i id pos
        have e : env.kindOf id = some .cell := by
          unfold Env.kindOf
          rw [eq_of_beq q]
        show (if env.kindOf id == some .local && pos.line == l then some id else none) = none
        rw [e]
        rfl
      · cases q
    have k2 := key _ (fun x q => hc x ((ts.head?.map (·.pos.line)).getD 0) q)
    unfold swappedStores
    by_cases a1 : (!(ts.length == 2 || ts.length == 3) || vs.length != ts.length || env.blockKind != .function) = true
    · exact if_pos a1
    · by_cases a2 : (vs.any fun | .Starred .. => true | _ => false) = true
      · exact (if_neg a1).trans (if_pos a2)
      · exact (if_neg a1).trans ((if_neg a2).trans (if_pos (by
          rw [Bool.or_eq_true]
          exact .inl k2)))
  · cases h
theorem tg_ok {t : Tg} {tg : Expr} (h : tgB C sc (locS sc) t tg = true) : ∃ g, GG t K g ∧ ∀ X, StOk C T cf K sc X W → PG X tg g := by
  obtain ⟨g, gg, pg⟩ := pg_tgB (K := K) h (P := fun X => StOk C T cf K sc X W) (fun X o => ⟨o.c.n, o.c.nd, o.c.calm, o.c.k, fun x hx => by
    rw [o.c.s, o.fn]
    refine ⟨?_, .inl rfl⟩
    unfold locS at hx
    split at hx
    · rename_i q; exact .inl q
    · rename_i q; exact .inr q
    · cases hx⟩)
  exact ⟨g, gg, pg⟩
theorem assign_sub {o i : Expr} (h : isSlice i = false) (env : Env) (v : Value) : assign (.Subscript o i pos) env v = (do
      let ov ← holding [v] (eval o env)
      let iv ← holding [v, ov] (eval i env)
      standAt pos
      holding [v, ov, iv] (setItem ov iv v)
      release [v, ov, iv] []) := by
  cases i with
  | Slice _ _ _ _ => cases h
  | _ => rfl
theorem sst_asg {t : Tg} {m : E} {tg val : Expr} (h : SEX C T cf K sc W m val) (ht : tgB C sc (locS sc) t tg = true) (hc : notComp val = true) (hp : (notPar tg val || leftB sc tg val) = true) : SST C T cf K sc W (.asg t m) (.Assign [tg] val pos) := by
  obtain ⟨te, ge, pe⟩ := h.b.pe
  obtain ⟨g, gg, pg⟩ := tg_ok (T := T) (cf := cf) (K := K) (W := W) ht
  refine ⟨_, gs_asg ge gg, fun X o => ?_⟩
  refine ps_asg (pe X o.c) (pg X o) (swaps_nc hc _ _ _) ((Bool.or_eq_true _ _ ▸ hp).elim (fun q => stores_np q _) fun q => stores_left (by rw [o.c.s]; exact q)) ?_
  unfold tgB at ht
  split at ht
  · rfl
  · rfl
  · cases ht
theorem ip_of {o : Op} {op : Operator} (h : opOf o op = true) : (∀ X : Cx, PIp X op (rIop o)) ∧ ∀ i j b d, opf o [.int i, .int j] = some (b, d) → ∃ z, b = false ∧ d = .int z := by
  unfold opOf at h
  split at h
  · refine ⟨fun X pins s σ H x y v u Q I rx ry ⟨i, j, z, e1, e2, e3, q⟩ => ip_add pins s σ H x y v u Q I rx ry ⟨i, j, e1, e2, ?_⟩, fun i j b d e => ?_⟩
    · cases e3; exact q
    · cases e; exact ⟨_, rfl, rfl⟩
  · refine ⟨fun X pins s σ H x y v u Q I rx ry ⟨i, j, z, e1, e2, e3, q⟩ => ip_sub pins s σ H x y v u Q I rx ry ⟨i, j, e1, e2, ?_⟩, fun i j b d e => ?_⟩
    · cases e3; exact q
    · cases e; exact ⟨_, rfl, rfl⟩
  · cases h
theorem sst_aug {i : Nat} {o : Op} {op : Operator} {m : E} {x : Str} {px : Pos} {val : Expr} (h : SEX C T cf K sc W m val) (ht : tgB C sc (locS sc) (.nm i) (.Name x px) = true) (ho : opOf o op = true) : SST C T cf K sc W (.aug i o m) (.AugAssign (.Name x px) op val pos) := by
  obtain ⟨te, ge, pe⟩ := h.b.pe
  obtain ⟨h1, h2⟩ := ip_of ho
  simp only [tgB, Bool.and_eq_true, decide_eq_true_eq] at ht
  refine ⟨_, gs_aug h2 ge, fun X k => ?_⟩
  refine ps_aug k.c.nd (by rw [k.c.n]; exact ht.1.1) ?_ (pe X k.c) (h1 X) (by rw [k.fn]; exact .inl rfl)
  have hx := ht.1.2
  rw [k.c.s]
  unfold locS at hx
  split at hx
  · rename_i q; exact .inl q
  · rename_i q; exact .inr q
  · cases hx
theorem sst_setI {i : Nat} {k m : E} {x : Str} {px p2 : Pos} {k' val : Expr} (h : SEX C T cf K sc W m val) (hn : nameB C sc i x = true) (hk : SEX C T cf K sc W k k') (hs : isSlice k' = false) (hc : notComp val = true) :
    SST C T cf K sc W (.setI i k m) (.Assign [.Subscript (.Name x px) k' p2] val pos) := by
  obtain ⟨te, ge, pe⟩ := h.b.pe
  obtain ⟨tk, gk, pk⟩ := hk.b.pe
  refine ⟨_, gs_setI ge gk, fun X o => ?_⟩
  have q : swapsWithSole [.Subscript (.Name x px) k' p2] val pos.line X.env = pure false := swaps_nc hc (some (.Subscript (.Name x px) k' p2)) pos.line X.env
  exact ps_asg (pe X o.c) (pg_sub (nameB_get hn X o.c) (pk X o.c) (set_A (by have := o.c.un; omega)) (assign_sub hs _)) q (stores_np (by cases val <;> rfl) _) rfl
theorem sst_setF {i : Nat} {c f : List Nat} {m : E} {x g : Str} {px p2 : Pos} {val : Expr} (h : SEX C T cf K sc W m val) (hn : nameB C sc i x = true) (hg : g = toS f) (hf : (toS c, g) ∈ C.fls) :
    SST C T cf K sc W (.setF i c f m) (.Assign [.Attribute (.Name x px) g p2] val pos) := by
  obtain ⟨te, ge, pe⟩ := h.b.pe
  exact ⟨_, gs_setF ge, fun X o => o.c.k ▸ ps_fldA hg (nameB_get hn X o.c) (pe X o.c) (o.c.fls _ _ hf).1 (o.c.fls _ _ hf).2 (swaps_att _ _ _)⟩
theorem sst_setS {i : Nat} {lo hi m : E} {x : Str} {px p2 p3 : Pos} {l h : Option Expr} {val : Expr} (hm : SEX C T cf K sc W m val) (hn : nameB C sc i x = true)
    (hl : (l = none ∧ lo = .nil) ∨ ∃ e, l = some e ∧ SEX C T cf K sc W lo e) (hh : (h = none ∧ hi = .nil) ∨ ∃ e, h = some e ∧ SEX C T cf K sc W hi e) :
    SST C T cf K sc W (.setS i lo hi m) (.Assign [.Subscript (.Name x px) (.Slice l h none p3) p2] val pos) := by
  obtain ⟨te, ge, pe⟩ := hm.b.pe
  have go : ∀ {o : Option Expr} {m : E}, ((o = none ∧ m = .nil) ∨ ∃ e, o = some e ∧ SEX C T cf K sc W m e) → ∃ t, GP T K W cf m t ∧ ∀ X, CtxOk C T cf K sc X W → PO X o t := by
    intro o m q
    rcases q with ⟨rfl, rfl⟩ | ⟨e, rfl, q⟩
    · exact ⟨_, gp_none, fun X c => po_none⟩
    · obtain ⟨t, g, p⟩ := q.b.pe
      exact ⟨_, gp_some g, fun X c => po_some (p X c)⟩
  obtain ⟨tl, gl, pl⟩ := go hl
  obtain ⟨th, gh, ph⟩ := go hh
  refine ⟨_, gs_setS ge gl gh, fun X o => ?_⟩
  have q : swapsWithSole [.Subscript (.Name x px) (.Slice l h none p3) p2] val pos.line X.env = pure false := swaps_sub (o := .Name x px) (i := .Slice l h none p3) (p := p2) val pos.line X.env
  exact ps_asg (pe X o.c) (pg_slice (nameB_get hn X o.c) (pl X o.c) (ph X o.c)) q (stores_np (by cases val <;> rfl) _) rfl
theorem sst_augI {i : Nat} {k m : E} {o : Op} {op : Operator} {x : Str} {px p2 : Pos} {k' val : Expr} (hn : nameB C sc i x = true) (hk : SEX C T cf K sc W k k') (hs : isSlice k' = false) (ho : opOf o op = true) (h : SEX C T cf K sc W m val) :
    SST C T cf K sc W (.augI i k o m) (.AugAssign (.Subscript (.Name x px) k' p2) op val pos) := by
  obtain ⟨te, ge, pe⟩ := h.b.pe
  obtain ⟨tk, gk, pk⟩ := hk.b.pe
  obtain ⟨ip, zz⟩ := ip_of ho
  exact ⟨_, gs_augI zz gk ge, fun X o => o.c.k ▸ ps_augS (nameB_get hn X o.c) (pk X o.c) (get_A (by have := o.c.un; omega)) (pe X o.c) (ip X) (set_A (by have := o.c.un; omega)) (by cases k' <;> first | (intros; rfl) | cases hs)⟩
theorem locN_get {i : Nat} {x : Str} {X : Cx} (h : locN C sc i x = true) (o : StOk C T cf K sc X W) : X.N[i]? = some x ∧ X.env.scope.names.lookup x = some .local := by
  unfold locN at h
  rw [Bool.and_eq_true, decide_eq_true_eq, beq_iff_eq] at h
  rw [o.c.n, o.c.s]
  exact h
theorem sst_par2 {i j : Nat} {x y : Str} {px py pt p2 : Pos} {kt k2 : Nat} {a b : Expr} (h1 : locN C sc i x = true) (h2 : locN C sc j y = true) (hij : i ≠ j) (hxy : x ≠ y) (hl : (px.line == py.line) = true) (hv : parV [a, b] = true) (ha : SAs C T cf K sc W es [a, b]) :
    SST C T cf K sc W (.par [i, j] es) (.Assign [.Tuple [.Name x px, .Name y py] kt pt] (.Tuple [a, b] k2 p2) pos) := by
  match ha with
  | .cons e1 (.cons e2 .nil) =>
    obtain ⟨t1, g1, q1⟩ := e1.pe
    obtain ⟨t2, g2, q2⟩ := e2.pe
    refine ⟨_, gs_par2 (ga_cons g1 (ga_cons g2 ga_nil)), fun X o => ?_⟩
    obtain ⟨n1, l1⟩ := locN_get (T := T) (cf := cf) (K := K) (W := W) h1 o
    obtain ⟨n2, l2⟩ := locN_get (T := T) (cf := cf) (K := K) (W := W) h2 o
    exact ps_par o.c.calm o.c.nd n1 n2 hij l1 l2 (pa_cons (q1 X o.c) (pa_cons (q2 X o.c) pa_nil (starEach_ns e2.ns _ _)) (starEach_ns e1.ns _ _)) (swap2 o.bk l1 l2 hxy hl hv)
theorem sst_parG2 {i j : Nat} {x y : Str} {px py pt p2 : Pos} {kt k2 : Nat} {a b : Expr} (h1 : locN C sc i x = true) (h2 : locN C sc j y = true) (hij : i ≠ j) (hxy : x ≠ y) (hl : (px.line == py.line) = true) (hv : parV [a, b] = true) (ha : SAs C T cf K sc W es [a, b]) :
    SST C T cf K sc W (.parG [i, j] es) (.Assign [.Tuple [.Name x px, .Name y py] kt pt] (.Tuple [a, b] k2 p2) pos) := by
  match ha with
  | .cons e1 (.cons e2 .nil) =>
    obtain ⟨t1, g1, q1⟩ := e1.pe
    obtain ⟨t2, g2, q2⟩ := e2.pe
    refine ⟨_, gs_parG2 (ga_cons g1 (ga_cons g2 ga_nil)), fun X o => ?_⟩
    obtain ⟨n1, l1⟩ := locN_get (T := T) (cf := cf) (K := K) (W := W) h1 o
    obtain ⟨n2, l2⟩ := locN_get (T := T) (cf := cf) (K := K) (W := W) h2 o
    exact ps_par o.c.calm o.c.nd n1 n2 hij l1 l2 (pa_cons (q1 X o.c) (pa_cons (q2 X o.c) pa_nil (starEach_ns e2.ns _ _)) (starEach_ns e1.ns _ _)) (swap2 o.bk l1 l2 hxy hl hv)
theorem sst_par3 {i j l : Nat} {x y z : Str} {px py pz pt p2 : Pos} {kt k2 : Nat} {a b c : Expr} (h1 : locN C sc i x = true) (h2 : locN C sc j y = true) (h3 : locN C sc l z = true) (hij : i ≠ j) (hil : i ≠ l) (hjl : j ≠ l) (hxy : x ≠ y) (hxz : x ≠ z) (hyz : y ≠ z) (hl : (px.line == py.line) = true) (hl2 : (px.line == pz.line) = true) (hv : parV [a, b, c] = true) (ha : SAs C T cf K sc W es [a, b, c]) :
    SST C T cf K sc W (.par [i, j, l] es) (.Assign [.Tuple [.Name x px, .Name y py, .Name z pz] kt pt] (.Tuple [a, b, c] k2 p2) pos) := by
  match ha with
  | .cons e1 (.cons e2 (.cons e3 .nil)) =>
    obtain ⟨t1, g1, q1⟩ := e1.pe
    obtain ⟨t2, g2, q2⟩ := e2.pe
    obtain ⟨t3, g3, q3⟩ := e3.pe
    refine ⟨_, gs_par3 (ga_cons g1 (ga_cons g2 (ga_cons g3 ga_nil))), fun X o => ?_⟩
    obtain ⟨n1, l1⟩ := locN_get (T := T) (cf := cf) (K := K) (W := W) h1 o
    obtain ⟨n2, l2⟩ := locN_get (T := T) (cf := cf) (K := K) (W := W) h2 o
    obtain ⟨n3, l3⟩ := locN_get (T := T) (cf := cf) (K := K) (W := W) h3 o
    exact ps_par3 o.c.calm o.c.nd n1 n2 n3 hij hil hjl l1 l2 l3 (pa_cons (q1 X o.c) (pa_cons (q2 X o.c) (pa_cons (q3 X o.c) pa_nil (starEach_ns e3.ns _ _)) (starEach_ns e2.ns _ _)) (starEach_ns e1.ns _ _)) (swap3 o.bk l1 l2 l3 hxy hxz hyz hl hl2 hv)
theorem StOk.tr {X : Cx} {W' : WX} (o : StOk C T cf K sc X W) (pn : List (Addr × Obj)) (xe : Value → Shared → Prop) (tk : Takes (X.tr pn xe) W') (ps : PassesOwn (model X.prog X.w) X.A X.env xe) : StOk C T cf K sc (X.tr pn xe) W' :=
  ⟨⟨o.c.k, o.c.w, o.c.s, o.c.n, o.c.nd, o.c.calm, ps, tk, o.c.un, o.c.cns, o.c.blt, o.c.fls, o.c.gds, o.c.mks, o.c.mts, o.c.fns⟩, o.fn, o.bk, o.exs, o.stk, o.frm⟩
theorem sst_tryR {b : S} {c j : Nat} {v : Bool} {x : Str} {np p1 p2 p3 : Pos} {body : List Stmt} (hb : ∀ W', SSL C T cf K sc W' b body) (hg : gloB sc x = true) (hd : dbg x = true) (he : C.exs.lookup x = some c) (hx : PySem.W.exmOne K (T.cls c) (T.cls c) = some true) :
    SST C T cf K sc W (.tryR b c (.bl v)) (.Try body [.ExceptHandler (some (.Name x np)) none [.Return (some (.Constant (.bool v) j p1)) p2] p3] [] [] pos) := by
  refine ⟨_, gs_tryR (v := .bl v) (cv := .non) (cu := T.cls c) (fun W' => (hb W').h.choose_spec.1) hx (fun _ _ => .bl _), fun X o => ?_⟩
  obtain ⟨Ca, B, newId, initId, bmB, q1, q2, q3, q4, q5, q6, q7⟩ := o.exs x c he
  have h2 : X.mg x = some (T.cls c) := by rw [q1]; exact q2
  have := ps_try_only (X := X) (x := x) (c := T.cls c) (np := np) (pos := pos) (pos' := p3) (b₀ := .Return (some (.Constant (.bool v) j p1)) p2) (suite := []) (body := body) (tb := fun W' => (hb W').h.choose) (ts := fun _ _ _ => tSeq (tRet (tC (.bl v))) tNext) (Wout := W) o.stk o.frm ⟨gloB_get hg X o.c, by
    unfold dbg at hd
    simp only [Bool.and_eq_true, Bool.not_eq_true'] at hd
    exact hd.1.1, .inl h2⟩ o.c.tk
    (fun W' pn xe tk ps => (hb W').h.choose_spec.2 _ (o.tr pn xe tk ps)) (fun a oe cls d pn _ _ => pss_cons (ps_ret pe_bl) pss_nil)
  rw [o.c.k] at this
  exact this
theorem sst_ex {m : E} {val : Expr} (h : SEX C T cf K sc W m val) (hc : notComp val = true) : SST C T cf K sc W (.ex m) (.Expr val pos) := by
  obtain ⟨te, ge, pe⟩ := h.b.pe
  exact ⟨_, gs_ex ge, fun X o => ps_expr (pe X o.c) (swaps_nc hc _ _ _)⟩
theorem sst_if {c : E} {a b : S} {c' : Expr} {a' b' : List Stmt} (h : SEX C T cf K sc W c c') (ha : SSL C T cf K sc W a a') (hb : SSL C T cf K sc W b b') : SST C T cf K sc W (.ifs c a b) (.If c' a' b' pos) := by
  obtain ⟨tc, gc, pc⟩ := h.b.pt
  obtain ⟨ta, ga, pa⟩ := ha.h
  obtain ⟨tb, gb, pb⟩ := hb.h
  exact ⟨_, gs_if gc ga gb, fun X o => ps_if (pc X o.c) (pa X o) (pb X o)⟩
theorem sst_for {t : Tg} {k : Ik} {b : S} {tg iter : Expr} {args : List Expr} {body : List Stmt} (ht : tgB C sc (locS sc) t tg = true) (hk : ikT k t = true) (hi : ikForm C sc k iter = some args) (ha : SAs C T cf K sc W es args) (hb : SSL C T cf K sc W b body) :
    SST C T cf K sc W (.for t k es b) (.For tg iter body [] pos) := by
  obtain ⟨g, gg, pg⟩ := tg_ok (T := T) (cf := cf) (K := K) (W := W) ht
  obtain ⟨wi, gi, pi, pf⟩ := ik_ok hi hk ht ha
  obtain ⟨tb, gb, pb⟩ := hb.h
  exact ⟨_, gs_for gi gg gb, fun X o => ps_for o.c.pass o.c.calm (pi X o.c) (pg X o) (pb X o) (pf X.env)⟩
theorem sst_while {c : E} {b : S} {c' : Expr} {body : List Stmt} (h : SEX C T cf K sc W c c') (hb : SSL C T cf K sc W b body) : SST C T cf K sc W (.whl c b) (.While c' body [] pos) := by
  obtain ⟨tc, gc, pc⟩ := h.b.pt
  obtain ⟨tb, gb, pb⟩ := hb.h
  exact ⟨_, gs_while gc gb, fun X o => ps_while o.c.pass (pc X o.c) (pb X o)⟩
theorem sst_ret {m : E} {val : Expr} (h : SEX C T cf K sc W m val) : SST C T cf K sc W (.ret m) (.Return (some val) pos) := by
  obtain ⟨te, ge, pe⟩ := h.b.pe
  exact ⟨_, gs_ret ge, fun X o => ps_ret (pe X o.c)⟩
theorem gs_raise0 {c : Nat} : GS T K W cf (.raise c .nil) (fun _ σ H => W (T.cls c) none σ H) := fun G fr Fo H σv σd D S hq =>
  hq σv _ none fr H (.refl S) S ⟨rfl, .inl ⟨rfl, rfl⟩⟩
theorem sst_raise {c : Nat} {x : Str} {p p2 : Pos} (h1 : gloB sc x = true) (h2 : dbg x = true) (h3 : C.exs.lookup x = some c) : SST C T cf K sc W (.raise c .nil) (.Raise (some (.Call (.Name x p) [] [] p2)) none pos) := by
  unfold dbg at h2
  simp only [Bool.and_eq_true, Bool.not_eq_true'] at h2
  refine ⟨_, gs_raise0, fun X o => ?_⟩
  obtain ⟨Ca, B, newId, initId, bmB, e1, e2, e3, e4, e5, e6, _⟩ := o.exs x c h3
  rw [e1]
  exact ps_raise o.c.calm o.c.tk (pmk_own0 e5 e6 e2 e3 e4 (gloB_get h1 X o.c) h2.1.1)
/-- name = [comprehension] -/
theorem sst_lc {i : Nat} {elt cnd : E} {t : Tg} {k : Ik} {es : E} {x : Str} {px p : Pos} {elt' : Expr} {gs : List Comprehension} {s : Scope} (h : SEX C T cf K sc W (.lc elt t k es cnd) (.ListComp elt' gs s p))
    (hl : ∃ tg iter ifs args, gs = [⟨tg, iter, ifs, 0⟩] ∧ blkC C.N sc s (zipI t.own C.N) = true ∧ (zipI t.own C.N).map (·.2) = t.own ∧ tgB C s (locL sc s) t tg = true ∧ ikT k t = true ∧ ikForm C sc k iter = some args ∧ SAs C T cf K sc W es args ∧
      ((ifs = [] ∧ cnd = .c (.bl true)) ∨ ∃ e, ifs = [e] ∧ SEX C T cf K (relS s sc) WF cnd e) ∧ SEX C T cf K (relS s sc) WF elt elt')
    (ht : tgB C sc (locS sc) (.nm i) (.Name x px) = true) : SST C T cf K sc W (.asg (.nm i) (.lc elt t k es cnd)) (.Assign [.Name x px] (.ListComp elt' gs s p) pos) := by
  obtain ⟨te, ge, pe⟩ := h.b.pe
  obtain ⟨tg, iter, ifs, args, rfl, h1, h2, h3, h4, h5, ha, hc, he⟩ := hl
  obtain ⟨wi, gi, pi, pf⟩ := ik_ok h5 h4 h3 ha
  obtain ⟨g, gg, pg⟩ := pg_tgB (K := K) h3 (P := fun X => X.N = C.N ∧ X.N.Nodup ∧ X.calm = true ∧ X.K = K ∧ X.env.scope = relS s sc ∧ X.fn = fun x => s.names.lookup x == some .cell) (by
    intro X ⟨q1, q2, q3, q4, q5, q6⟩
    refine ⟨q1, q2, q3, q4, fun x hx => ?_⟩
    rw [q5, q6]
    unfold locL locB at hx
    rw [Bool.or_eq_true] at hx
    rcases hx with hx | hx
    · split at hx
      · rename_i q; exact ⟨.inl q, .inr q⟩
      · cases hx
    · split at hx
      · rename_i q; exact ⟨.inr q, .inl hx⟩
      · cases hx)
  obtain ⟨te', ge', pe'⟩ := he.b.pe
  have hcnd : ∃ tt, GB T K WF cf cnd tt ∧ ∀ X, CtxOk C T cf K (relS s sc) X WF → PTs X ifs tt := by
    rcases hc with ⟨rfl, rfl⟩ | ⟨e, rfl, q⟩
    · refine ⟨_, fun G fr Fo H σv σd Q S hq => ?_, fun X c => pts_nil⟩
      exact hq fr H (.refl S) S
    · obtain ⟨t, g, p⟩ := q.b.pt
      exact ⟨_, g, fun X c => pts_one (p X c)⟩
  obtain ⟨tt, gt, pt⟩ := hcnd
  have gg2 := gs_asg (t := .nm i) (ge_lc (T := T) (W := W) (cf := cf) gi gg gt ge') gg_nm
  refine ⟨_, gg2, fun X o => ?_⟩
  simp only [tgB, Bool.and_eq_true, decide_eq_true_eq] at ht
  have hx := ht.1.2
  have hloc : Loc X.env.scope x := by
    rw [o.c.s]
    unfold locS at hx
    split at hx
    · rename_i q; exact .inl q
    · rename_i q; exact .inr q
    · cases hx
  have c := o.c
  have hs : swapsWith (.ListComp elt' [⟨tg, iter, ifs, 0⟩] s p) (some (.Name x px)) pos.line X.env = pure (swB sc s x px p) := by
    show pure (X.env.blockKind == .function && X.env.kindOf x == some .local && px.line == p.line && !(s.names.any fun (n, k) => n == x && (k == .local || k == .cell))) = _
    rw [o.bk]
    unfold swB Env.kindOf
    rw [c.s]
    rfl
  cases hb : swB sc s x px p with
  | true =>
    rw [hb] at hs
    have hlc : X.env.scope.names.lookup x = some .local := by
      unfold swB at hb
      simp only [Bool.and_eq_true] at hb
      rw [c.s]
      exact eq_of_beq hb.1.1
    have q := ps_setLc (X := X) (py := px) (pos := p) (spos := pos) c.calm c.nd (by rw [c.n]; exact ht.1.1) hlc hs (pi X c) (blkOk_by (own := zipI t.own C.N) (by rw [c.n, c.s]; exact h1))
      (fun s' H Cc cl fp => pg _ ⟨c.n, c.nd, c.calm, c.k, (c.blk s' H s Cc cl fp).s, rfl⟩)
      (fun s' H Cc cl fp => pt _ (c.blk s' H s Cc cl fp)) (fun s' H Cc cl fp => pe' _ (c.blk s' H s Cc cl fp)) (pf X.env)
    rw [h2] at q
    exact q
  | false =>
    rw [hb] at hs
    have q := pe_lc (X := X) (pos := p) c.calm c.nd (pi X c) (blkOk_by (own := zipI t.own C.N) (by rw [c.n, c.s]; exact h1))
      (fun s' H Cc cl fp => pg _ ⟨c.n, c.nd, c.calm, c.k, (c.blk s' H s Cc cl fp).s, rfl⟩)
      (fun s' H Cc cl fp => pt _ (c.blk s' H s Cc cl fp)) (fun s' H Cc cl fp => pe' _ (c.blk s' H s Cc cl fp)) (pf X.env)
    rw [h2] at q
    exact ps_set c.nd (by rw [c.n]; exact ht.1.1) hloc q hs (by rw [o.fn]; exact .inl rfl)
/-- name = {comprehension} -/
theorem sst_dcp {i : Nat} {kx vx cnd : E} {t : Tg} {k : Ik} {es : E} {x : Str} {px p : Pos} {kx' vx' : Expr} {gs : List Comprehension} {s : Scope} (h : SEX C T cf K sc W (.dcp kx vx t k es cnd) (.DictComp kx' vx' gs s p))
    (hl : ∃ tg iter ifs args, gs = [⟨tg, iter, ifs, 0⟩] ∧ blkC C.N sc s (zipI t.own C.N) = true ∧ (zipI t.own C.N).map (·.2) = t.own ∧ tgB C s (locL sc s) t tg = true ∧ ikT k t = true ∧ ikForm C sc k iter = some args ∧ SAs C T cf K sc W es args ∧
      ((ifs = [] ∧ cnd = .c (.bl true)) ∨ ∃ e, ifs = [e] ∧ SEX C T cf K (relS s sc) WF cnd e) ∧ SEX C T cf K (relS s sc) WF kx kx' ∧ SEX C T cf K (relS s sc) WF vx vx')
    (ht : tgB C sc (locS sc) (.nm i) (.Name x px) = true) : SST C T cf K sc W (.asg (.nm i) (.dcp kx vx t k es cnd)) (.Assign [.Name x px] (.DictComp kx' vx' gs s p) pos) := by
  obtain ⟨tg, iter, ifs, args, rfl, h1, h2, h3, h4, h5, ha, hc, hk, he⟩ := hl
  obtain ⟨wi, gi, pi, pf⟩ := ik_ok h5 h4 h3 ha
  obtain ⟨g, gg, pg⟩ := pg_tgB (K := K) h3 (P := fun X => X.N = C.N ∧ X.N.Nodup ∧ X.calm = true ∧ X.K = K ∧ X.env.scope = relS s sc ∧ X.fn = fun x => s.names.lookup x == some .cell) (by
    intro X ⟨q1, q2, q3, q4, q5, q6⟩
    refine ⟨q1, q2, q3, q4, fun x hx => ?_⟩
    rw [q5, q6]
    unfold locL locB at hx
    rw [Bool.or_eq_true] at hx
    rcases hx with hx | hx
    · split at hx
      · rename_i q; exact ⟨.inl q, .inr q⟩
      · cases hx
    · split at hx
      · rename_i q; exact ⟨.inr q, .inl hx⟩
      · cases hx)
  obtain ⟨tk, gk, pk⟩ := hk.b.pe
  obtain ⟨tv, gv, pv⟩ := he.b.pe
  have hcnd : ∃ tt, GB T K WF cf cnd tt ∧ ∀ X, CtxOk C T cf K (relS s sc) X WF → PTs X ifs tt := by
    rcases hc with ⟨rfl, rfl⟩ | ⟨e, rfl, q⟩
    · refine ⟨_, fun G fr Fo H σv σd Q S hq => ?_, fun X c => pts_nil⟩
      exact hq fr H (.refl S) S
    · obtain ⟨t, g, p⟩ := q.b.pt
      exact ⟨_, g, fun X c => pts_one (p X c)⟩
  obtain ⟨tt, gt, pt⟩ := hcnd
  have gg2 := gs_asg (t := .nm i) (ge_dcp (T := T) (W := W) (cf := cf) gi gg gt gk gv) gg_nm
  refine ⟨_, gg2, fun X o => ?_⟩
  simp only [tgB, Bool.and_eq_true, decide_eq_true_eq] at ht
  have hx := ht.1.2
  have hloc : Loc X.env.scope x := by
    rw [o.c.s]
    unfold locS at hx
    split at hx
    · rename_i q; exact .inl q
    · rename_i q; exact .inr q
    · cases hx
  have c := o.c
  have hs : swapsWith (.DictComp kx' vx' [⟨tg, iter, ifs, 0⟩] s p) (some (.Name x px)) pos.line X.env = pure (swB sc s x px p) := by
    show pure (X.env.blockKind == .function && X.env.kindOf x == some .local && px.line == p.line && !(s.names.any fun (n, k) => n == x && (k == .local || k == .cell))) = _
    rw [o.bk]
    unfold swB Env.kindOf
    rw [c.s]
    rfl
  have blk : ∀ (s' : Shared) (H : Hp) (Cc : Addr) (cl : List (Str × Addr)) (fp : List Addr), PG (X.blk s' H s (compEnvC s cl Cc X.env) fp) tg g ∧ PTs (X.blk s' H s (compEnvC s cl Cc X.env) fp) ifs tt ∧ PE (X.blk s' H s (compEnvC s cl Cc X.env) fp) kx' tk ∧ PE (X.blk s' H s (compEnvC s cl Cc X.env) fp) vx' tv :=
    fun s' H Cc cl fp => ⟨pg _ ⟨c.n, c.nd, c.calm, c.k, (c.blk s' H s Cc cl fp).s, rfl⟩, pt _ (c.blk s' H s Cc cl fp), pk _ (c.blk s' H s Cc cl fp), pv _ (c.blk s' H s Cc cl fp)⟩
  cases hb : swB sc s x px p with
  | true =>
    rw [hb] at hs
    have hlc : X.env.scope.names.lookup x = some .local := by
      unfold swB at hb
      simp only [Bool.and_eq_true] at hb
      rw [c.s]
      exact eq_of_beq hb.1.1
    have q := ps_dcp (X := X) (py := px) (pos := p) (spos := pos) (ini := .dT []) c.calm c.nd (by have := c.un; omega) (pi X c) (blkOk_by (own := zipI t.own C.N) (by rw [c.n, c.s]; exact h1)) (fun h H hb => dt_empty h hb) blk (pf X.env) (by rw [c.n]; exact ht.1.1) hlc hs
    rw [h2] at q
    exact q
  | false =>
    rw [hb] at hs
    have q := pe_dcp (X := X) (pos := p) (ini := .dT []) c.calm c.nd (by have := c.un; omega) (pi X c) (blkOk_by (own := zipI t.own C.N) (by rw [c.n, c.s]; exact h1)) (fun h H hb => dt_empty h hb) blk (pf X.env)
    rw [h2] at q
    exact ps_set c.nd (by rw [c.n]; exact ht.1.1) hloc q hs (by rw [o.fn]; exact .inl rfl)
variable (hn : LenOk C cf)
include hn
variable (hx : ∀ x c, C.exs.lookup x = some c → PySem.W.exmOne K (T.cls c) (T.cls c) = some true)
include hx
mutual
theorem agL_ok : ∀ (m : S) {sts : List Stmt} {sc : Scope} {W : WX}, agL C sc m sts = true → SSL C T cf K sc W m sts
  | .nil, sts, sc, W, h => by
    unfold agL at h
    split at h <;> first | contradiction | skip
    exact ⟨_, gs_nil, fun X o => pss_nil⟩
  | .seq a b, sts, sc, W, h => by
    unfold agL at h
    split at h <;> first | contradiction | skip
    rename_i q; cases q
    rw [Bool.and_eq_true] at h
    obtain ⟨ta, ga, pa⟩ := (ag1_ok a h.1).h
    obtain ⟨tb, gb, pb⟩ := (agL_ok b h.2).h
    exact ⟨_, gs_seq ga gb, fun X o => pss_cons (pa X o) (pb X o)⟩
  | .asg _ _, sts, sc, W, h | .aug _ _ _, sts, sc, W, h | .setI _ _ _, sts, sc, W, h | .setF _ _ _ _, sts, sc, W, h | .setS _ _ _ _, sts, sc, W, h | .augI _ _ _ _, sts, sc, W, h | .ex _, sts, sc, W, h | .ifs _ _ _, sts, sc, W, h | .for _ _ _ _, sts, sc, W, h | .whl _ _, sts, sc, W, h | .ret _, sts, sc, W, h
  | .retn, sts, sc, W, h | .brk, sts, sc, W, h | .cnt, sts, sc, W, h | .pass, sts, sc, W, h | .no, sts, sc, W, h | .par _ _, sts, sc, W, h | .parG _ _, sts, sc, W, h | .tryR _ _ _, sts, sc, W, h | .raise _ _, sts, sc, W, h => by
    unfold agL at h
    first | (split at h <;> contradiction) | cases h
theorem ag1_ok : ∀ (m : S) {st : Stmt} {sc : Scope} {W : WX}, ag1 C sc m st = true → SST C T cf K sc W m st
  | .asg t e, st, sc, W, h => by
    unfold ag1 at h
    split at h <;> first | contradiction | skip
    · rename_i q; cases q
      rw [Bool.and_eq_true] at h
      refine sst_lc (agE_ok hn _ h.1) ?_ h.2
      have h := h.1
      unfold agE at h
      split at h <;> first | contradiction | skip
      rename_i q q2; cases q; cases q2
      simp only [Bool.and_eq_true, decide_eq_true_eq] at h
      obtain ⟨⟨⟨⟨⟨⟨h1, h2⟩, h3⟩, h4⟩, h5⟩, h6⟩, h7⟩ := h
      split at h5
      · rename_i args q
        refine ⟨_, _, _, args, rfl, h1, h2, h3, h4, q, agA_ok hn _ h5, ?_, agE_ok hn _ h7⟩
        split at h6
        · split at h6
          · exact .inl ⟨rfl, rfl⟩
          · cases h6
        · exact .inr ⟨_, rfl, agE_ok hn _ h6⟩
        · cases h6
      · cases h5
    · rename_i q; cases q
      rw [Bool.and_eq_true] at h
      refine sst_dcp (agE_ok hn _ h.1) ?_ h.2
      have h := h.1
      unfold agE at h
      split at h <;> first | contradiction | skip
      rename_i q q2; cases q; cases q2
      simp only [Bool.and_eq_true, decide_eq_true_eq] at h
      obtain ⟨⟨⟨⟨⟨⟨⟨h1, h2⟩, h3⟩, h4⟩, h5⟩, h6⟩, h7⟩, h8⟩ := h
      split at h5
      · rename_i args q
        refine ⟨_, _, _, args, rfl, h1, h2, h3, h4, q, agA_ok hn _ h5, ?_, agE_ok hn _ h7, agE_ok hn _ h8⟩
        split at h6
        · split at h6
          · exact .inl ⟨rfl, rfl⟩
          · cases h6
        · exact .inr ⟨_, rfl, agE_ok hn _ h6⟩
        · cases h6
      · cases h5
    · rename_i q; cases q
      simp only [Bool.and_eq_true] at h
      exact sst_asg (agE_ok hn _ h.1.1.1) h.1.1.2 h.1.2 h.2
  | .aug i o e, st, sc, W, h => by
    unfold ag1 at h
    split at h <;> first | contradiction | skip
    rename_i q; cases q
    simp only [Bool.and_eq_true] at h
    exact sst_aug (agE_ok hn _ h.2) h.1.1 h.1.2
  | .setF i c f e, st, sc, W, h => by
    unfold ag1 at h
    split at h <;> first | contradiction | skip
    rename_i q; cases q
    simp only [Bool.and_eq_true, beq_iff_eq, List.contains_iff_mem] at h
    exact sst_setF (agE_ok hn _ h.1.1.1) h.1.1.2 h.1.2 h.2
  | .setS i lo hi e, st, sc, W, h => by
    unfold ag1 at h
    split at h <;> first | contradiction | skip
    rename_i q; cases q
    simp only [Bool.and_eq_true] at h
    obtain ⟨⟨⟨h1, h2⟩, h3⟩, h4⟩ := h
    refine sst_setS (agE_ok hn _ h1) h2 ?_ ?_
    · split at h3
      · split at h3
        · exact .inl ⟨rfl, rfl⟩
        · cases h3
      · exact .inr ⟨_, rfl, agE_ok hn lo h3⟩
    · split at h4
      · split at h4
        · exact .inl ⟨rfl, rfl⟩
        · cases h4
      · exact .inr ⟨_, rfl, agE_ok hn hi h4⟩
  | .setI i k e, st, sc, W, h => by
    unfold ag1 at h
    split at h <;> first | contradiction | skip
    rename_i q; cases q
    simp only [Bool.and_eq_true, Bool.not_eq_true'] at h
    exact sst_setI (agE_ok hn _ h.1.1.1.1) h.1.1.1.2 (agE_ok hn _ h.1.1.2) h.1.2 h.2
  | .ex e, st, sc, W, h => by
    unfold ag1 at h
    split at h <;> first | contradiction | skip
    rename_i q; cases q
    simp only [Bool.and_eq_true] at h
    exact sst_ex (agE_ok hn _ h.1) h.2
  | .ifs c a b, st, sc, W, h => by
    unfold ag1 at h
    split at h <;> first | contradiction | skip
    rename_i q; cases q
    simp only [Bool.and_eq_true] at h
    exact sst_if (agE_ok hn _ h.1.1) (agL_ok a h.1.2) (agL_ok b h.2)
  | .for t k es b, st, sc, W, h => by
    unfold ag1 at h
    split at h <;> first | contradiction | skip
    rename_i q; cases q
    simp only [Bool.and_eq_true] at h
    obtain ⟨⟨⟨h1, h2⟩, h3⟩, h4⟩ := h
    split at h3
    · rename_i args q
      exact sst_for h1 h2 q (agA_ok hn _ h3) (agL_ok b h4)
    · cases h3
  | .whl c b, st, sc, W, h => by
    unfold ag1 at h
    split at h <;> first | contradiction | skip
    rename_i q; cases q
    simp only [Bool.and_eq_true] at h
    exact sst_while (agE_ok hn _ h.1) (agL_ok b h.2)
  | .ret e, st, sc, W, h => by
    unfold ag1 at h
    split at h <;> first | contradiction | skip
    rename_i q; cases q
    exact sst_ret (agE_ok hn _ h)
  | .retn, st, sc, W, h => by
    unfold ag1 at h
    split at h <;> first | contradiction | skip
    exact ⟨_, gs_retn, fun X o => ps_retN⟩
  | .brk, st, sc, W, h => by
    unfold ag1 at h
    split at h <;> first | contradiction | skip
    exact ⟨_, gs_brk, fun X o => ps_break⟩
  | .cnt, st, sc, W, h => by
    unfold ag1 at h
    split at h <;> first | contradiction | skip
    exact ⟨_, gs_cnt, fun X o => ps_continue⟩
  | .pass, st, sc, W, h => by
    unfold ag1 at h
    split at h <;> first | contradiction | skip
    exact ⟨_, gs_pass, fun X o => ps_pass⟩
  | .augI i k o e, st, sc, W, h => by
    unfold ag1 at h
    split at h <;> first | contradiction | skip
    rename_i q; cases q
    simp only [Bool.and_eq_true, Bool.not_eq_true'] at h
    exact sst_augI h.1.1.1.1 (agE_ok hn _ h.1.1.1.2) h.1.1.2 h.1.2 (agE_ok hn _ h.2)
  | .par is es, st, sc, W, h => by
    unfold ag1 at h
    split at h <;> first | contradiction | skip
    · rename_i q; cases q
      simp only [Bool.and_eq_true, decide_eq_true_eq] at h
      obtain ⟨⟨⟨⟨⟨⟨h1, h2⟩, h3⟩, h4⟩, h5⟩, h6⟩, h7⟩ := h
      exact sst_par2 h1 h2 h3 h4 h5 h6 (agA_ok hn _ h7)
    · rename_i q; cases q
      simp only [Bool.and_eq_true, decide_eq_true_eq] at h
      obtain ⟨⟨⟨⟨⟨⟨⟨⟨⟨⟨⟨⟨h1, h2⟩, h3⟩, h4⟩, h5⟩, h6⟩, h7⟩, h8⟩, h9⟩, h10⟩, h11⟩, h12⟩, h13⟩ := h
      exact sst_par3 h1 h2 h3 h4 h5 h6 h7 h8 h9 h10 h11 h12 (agA_ok hn _ h13)
  | .parG is es, st, sc, W, h => by
    unfold ag1 at h
    split at h <;> first | contradiction | skip
    rename_i q; cases q
    simp only [Bool.and_eq_true, decide_eq_true_eq] at h
    obtain ⟨⟨⟨⟨⟨⟨h1, h2⟩, h3⟩, h4⟩, h5⟩, h6⟩, h7⟩ := h
    exact sst_parG2 h1 h2 h3 h4 h5 h6 (agA_ok hn _ h7)
  | .tryR b c d, st, sc, W, h => by
    unfold ag1 at h
    split at h <;> first | contradiction | skip
    rename_i q; cases q
    simp only [Bool.and_eq_true, decide_eq_true_eq] at h
    obtain ⟨⟨⟨⟨h1, h2⟩, h3⟩, h4⟩, h5⟩ := h
    have e := eq_of_beq h2
    subst e
    exact sst_tryR (fun W' => agL_ok b h1) h3 h4 h5 (hx _ _ h5)
  | .no, st, sc, W, h => ⟨_, gs_no, fun X o => ⟨fun _ _ _ _ _ _ f => f.elim⟩⟩
  | .raise c es, st, sc, W, h => by
    unfold ag1 at h
    split at h <;> first | contradiction | skip
    rename_i q; cases q
    simp only [Bool.and_eq_true, decide_eq_true_eq] at h
    exact sst_raise h.1.1 h.1.2 h.2
  | .nil, st, sc, W, h => by
    unfold ag1 at h
    first | (split at h <;> contradiction) | cases h
  | .seq _ _, st, sc, W, h => by
    unfold ag1 at h
    first | (split at h <;> contradiction) | cases h
end
end
end Fly
end

section
set_option Elab.async false
set_option linter.all false
set_option maxRecDepth 100000
set_option maxHeartbeats 4000000
/-! The bodies of the program's defs (FlyDef). -/
namespace Fly
open PySem L2
section
variable {T : XT} {K : PySem.W.Frag} {W : WX} {cf : Nat → List Sl → CR} {fr fr' Fo : AP} {H H' : Hp} {σv : St} {σd : List Sl}
theorem AR.len {vs : List V} {as : List Sl} {Fo : AP} (r : AR K fr H Fo vs as) : vs.length = as.length := by
  induction r with
  | nil => rfl
  | fz _ _ ih => simp [ih]
  | ow _ _ _ _ ih => simp [ih]
theorem AR.get {vs : List V} {as : List Sl} {Fo : AP} (r : AR K fr H Fo vs as) : ∀ (i : Nat) (s : Sl), as[i]? = some s → ∃ v, vs[i]? = some v ∧ ((∃ d, s = .fz false d ∧ Rep K fr H v d) ∨ ∃ p d a, s = .ow p d ∧ v = .ref a ∧ RepO K fr H a d ∧ ¬ fr a ∧ ¬ Fo a) := by
  induction r with
  | nil => intro i s e; simp at e
  | fz h _ ih =>
    intro i s e
    cases i with
    | zero => simp at e; subst e; exact ⟨_, rfl, .inl ⟨_, rfl, h⟩⟩
    | succ i => simpa using ih i s (by simpa using e)
  | ow h h1 h2 _ ih =>
    intro i s e
    cases i with
    | zero => simp at e; subst e; exact ⟨_, rfl, .inr ⟨_, _, _, rfl, rfl, h, h1, h2⟩⟩
    | succ i =>
      obtain ⟨v, e1, e2⟩ := ih i s (by simpa using e)
      refine ⟨v, by simpa using e1, e2.imp id ?_⟩
      rintro ⟨p, d, a, g1, g2, g3, g4, g5⟩
      exact ⟨p, d, a, g1, g2, g3, g4, fun z => g5 (.inl z)⟩
theorem AR.sep {vs : List V} {as : List Sl} {Fo : AP} (r : AR K fr H Fo vs as) : ∀ (i j : Nat) (p q : Bool) (d e : D) (a : Addr), as[i]? = some (.ow p d) → as[j]? = some (.ow q e) → vs[i]? = some (.ref a) → vs[j]? = some (.ref a) → i = j := by
  induction r with
  | nil => intro i j p q d e a h; simp at h
  | fz h _ ih =>
    intro i j p q d e a h1 h2 h3 h4
    cases i with
    | zero => simp at h1
    | succ i =>
      cases j with
      | zero => simp at h2
      | succ j => exact congrArg (· + 1) (ih i j p q d e a (by simpa using h1) (by simpa using h2) (by simpa using h3) (by simpa using h4))
  | @ow Fo0 a0 vs0 p0 d0 as0 h k1 k2 r ih =>
    have key : ∀ (j : Nat) (q : Bool) (e : D), as0[j]? = some (.ow q e) → vs0[j]? = some (.ref a0) → False := fun j q e h2 h4 => by
      obtain ⟨v, e1, e2⟩ := r.get j _ h2
      rw [h4] at e1
      cases e1
      rcases e2 with ⟨_, z, _⟩ | ⟨_, _, b, _, e3, _, _, e4⟩
      · cases z
      · cases e3
        exact e4 (.inr rfl)
    intro i j p q d e a h1 h2 h3 h4
    cases i with
    | zero =>
      cases j with
      | zero => rfl
      | succ j =>
        simp at h3
        subst h3
        exact (key j q e (by simpa using h2) (by simpa using h4)).elim
    | succ i =>
      cases j with
      | zero =>
        simp at h4
        subst h4
        exact (key i p d (by simpa using h1) (by simpa using h3)).elim
      | succ j => exact congrArg (· + 1) (ih i j p q d e a (by simpa using h1) (by simpa using h2) (by simpa using h3) (by simpa using h4))
def Gof (vs : List V) (i : Nat) : V := (vs[i]?).getD .non
theorem sim_start {vs : List V} {as : List Sl} {N : List Str} {ns : Nat} (r : AR K fr H Fo vs as) (hn : N.length = ns) (hl : vs.length ≤ ns) (hf : ∀ a, fr a → H a ≠ none) (ho : ∀ a, Fo a → H a ≠ none ∧ ¬ fr a ∧ NT (H a)) :
    Sim K (Gof vs) fr Fo H (start N vs) (as ++ List.replicate (ns - as.length) .un) := by
  have hva := r.len
  have hget : ∀ (i : Nat) (s : Sl), (as ++ List.replicate (ns - as.length) Sl.un)[i]? = some s → s = .un ∨ as[i]? = some s := fun i s e => by
    by_cases h : i < as.length
    · rw [List.getElem?_append_left h] at e; exact .inr e
    · rw [List.getElem?_append_right (Nat.le_of_not_lt h), List.getElem?_replicate] at e
      split at e
      · cases e; exact .inl rfl
      · cases e
  have hst : ∀ (i : Nat) (v : V), vs[i]? = some v → (start N vs)[i]? = some (some v) := fun i v e => by
    unfold L2.start
    have hi : i < vs.length := by
      rcases Nat.lt_or_ge i vs.length with h | h
      · exact h
      · rw [List.getElem?_eq_none h] at e; cases e
    rw [List.getElem?_append_left (by simpa using hi), List.getElem?_map, e]
    rfl
  refine ⟨?_, fun i s e => ?_, fun i j p q d e a h1 h2 h3 h4 => ?_, hf, ho⟩
  · unfold L2.start
    simp only [List.length_append, List.length_replicate, List.length_map]
    omega
  · rcases hget i s e with rfl | e
    · exact True.intro
    · obtain ⟨v, e1, e2⟩ := r.get i s e
      rcases e2 with ⟨d, rfl, h⟩ | ⟨p, d, a, rfl, rfl, h, g1, g2⟩
      · exact ⟨v, hst i v e1, h, fun z => nomatch z⟩
      · exact ⟨a, hst i _ e1, h, g1, g2, fun _ => by unfold Gof; rw [e1]; rfl⟩
  · rcases hget i _ h1 with z | h1
    · cases z
    rcases hget j _ h2 with z | h2
    · cases z
    obtain ⟨v, e1, _⟩ := r.get i _ h1
    obtain ⟨w, e2, _⟩ := r.get j _ h2
    rw [hst i v e1] at h3
    rw [hst j w e2] at h4
    cases h3; cases h4
    exact r.sep i j p q d e a h1 h2 e1 e2
theorem outs_of {vs : List V} {as : List Sl} {Fo0 : AP} (r : AR K fr H Fo0 vs as) : ∀ {os : List Sl} {k : Nat} {G : Nat → V}, (∀ (i : Nat) (v : V), vs[i]? = some v → G (k + i) = v) → (∀ (i : Nat) (s : Sl), os[i]? = some s → SlOk K G fr' Fo H' (k + i) σv[k + i]? s) → os.length ≤ as.length → outsOk as os = true → Outs K fr' H' vs as os := by
  induction r with
  | nil =>
    intro os k G hG hs hl ho
    cases os with
    | nil => exact .nil
    | cons _ _ => simp at hl
  | fz h _ ih =>
    intro os k G hG hs hl ho
    cases os with
    | nil => cases ho
    | cons o os =>
      refine .fz (ih (k := k + 1) (G := G) (fun i v e => ?_) (fun i s e => ?_) (by simpa using hl) ho)
      · rw [Nat.add_assoc, Nat.add_comm 1 i]; exact hG (i + 1) v (by simpa using e)
      · rw [Nat.add_assoc, Nat.add_comm 1 i]; exact hs (i + 1) s (by simpa using e)
  | @ow Fo0 a0 vs0 p0 d0 as0 h k1 k2 r ih =>
    intro os k G hG hs hl ho
    cases os with
    | nil => cases p0 <;> cases ho
    | cons o os =>
      have nxt : outsOk as0 os = true → Outs K fr' H' vs0 as0 os := fun ho => by
        refine ih (k := k + 1) (G := G) (fun i v e => ?_) (fun i s e => ?_) (by simpa using hl) ho
        · rw [Nat.add_assoc, Nat.add_comm 1 i]; exact hG (i + 1) v (by simpa using e)
        · rw [Nat.add_assoc, Nat.add_comm 1 i]; exact hs (i + 1) s (by simpa using e)
      cases p0 with
      | false => exact .new (nxt ho)
      | true =>
        simp only [outsOk, Bool.and_eq_true] at ho
        have h0 := hs 0 o rfl
        have g0 := hG 0 _ rfl
        split at ho
        · obtain ⟨a, q1, q2, q3, q4, q5⟩ := h0
          have e := (q5 rfl).trans g0
          cases e
          exact .ow q2 q3 (nxt ho.2)
        · obtain ⟨v, q1, q2, q3⟩ := h0
          have e := (q3 rfl).trans g0
          cases e
          exact .sh q2 (nxt ho.2)
        · cases ho.1
theorem body_post {vs : List V} {as : List Sl} {Q : VK} {E : XK} {np : Nat} {r : Fw} (ra : AR K fr H Fo vs as) (hl : as.length = np) (h : CPost T K fr Fo H vs as ((r.toCR np).chk as) Q E) :
    FPost T K (fun cls d _ H => E cls d H) (Gof vs) fr Fo H r { nx := fun _ H' => Q .non H', rt := Q } := by
  have hG : ∀ (i : Nat) (v : V), vs[i]? = some v → Gof vs (0 + i) = v := fun i v e => by unfold Gof; rw [Nat.zero_add, e]; rfl
  have out : ∀ {σd : List Sl} {σv : St} {fr' : AP} {H' : Hp}, Sim K (Gof vs) fr' Fo H' σv σd → outsOk as (σd.take np) = true → Outs K fr' H' vs as (σd.take np) := fun {σd σv fr' H'} S ho => by
    refine outs_of (σv := σv) (Fo := Fo) ra hG (fun i s e => ?_) (by rw [List.length_take]; omega) ho
    rw [Nat.zero_add]
    exact S.slot i s (by
      rw [List.getElem?_take] at e
      split at e
      · exact e
      · cases e)
  cases r with
  | nx σ =>
    intro σv fr' H' A S
    simp only [Fw.toCR, CR.chk] at h
    split at h
    · rename_i ho
      exact h .non fr' H' A S.frs (fun a f => (S.fos a f).1) (out S ho) (.sh .non)
    · exact h.elim
  | rt d o σ =>
    intro σv v fr' H' A S rv
    simp only [Fw.toCR, CR.chk] at h
    split at h
    · rename_i ho
      refine h v fr' H' A S.frs (fun a f => (S.fos a f).1) (out S ho) ?_
      cases rv with
      | sh q => exact .sh q
      | @ow a0 d0 q q1 q2 q3 =>
        refine .ow q q1 q2 fun k e ek ev => ?_
        have ek' : σ[k]? = some (.ow true e) := by
          rw [List.getElem?_take] at ek
          split at ek
          · exact ek
          · cases ek
        obtain ⟨b, g1, g2, g3, g4, g5⟩ := S.slot k _ ek'
        have e0 : Gof vs k = .ref a0 := by unfold Gof; rw [ev]; rfl
        have z := (g5 rfl).trans e0
        cases z
        exact q3 k true e ek' g1
    · exact h.elim
  | ex c fs σ =>
    intro σv cls dx fr' H' A S ex
    simp only [Fw.toCR, CR.chk] at h
    split at h
    · rename_i ho
      exact h cls dx fr' H' A S.frs (fun a f => (S.fos a f).1) (out S ho) ex
    · exact h.elim
  | bk σ => exact h.elim
  | ct σ => exact h.elim
  | bad => exact h.elim
end

/-- one def of the program: what is to be shown of it -/
structure DefOk (C : Cg) (K : PySem.W.Frag) (mg : Str → Option Value) (body : List Stmt) (scope : Scope) (F : Fn) (np : Nat) (fa : Addr) (fd : FuncData) (ps : List Str) : Prop where
  fu : ∃ x qual params, FunD K x qual params body scope [] [] fa fd
  sc : FnScope C.N ps scope
  bi : Binds K fd ps []
  hnp : F.np = np
  nps : ps.length = np
  hns : C.N.length = F.ns
  le : np ≤ F.ns
  ag : agL C scope F.body body = true

section
variable {T : XT} {K : PySem.W.Frag} {Pr : Program} {w : World} {mg : Str → Option Value} {base : Heap}
theorem fn_zero {fa : Addr} {fd : FuncData} {ps : List Str} {np f : Nat} {P : List Fn} {k : Nat} (hps : ps.length = np) : FnOk Pr w K mg base (L2.CX Pr w) k fa fd ps (SpF T K (run P 0) np f) := by
  refine ⟨fun vs H Q E h => by rw [hps]; exact h.1, fun A outer s H args us vs Q E hr e0 hb r h => ?_⟩
  obtain ⟨_, fr, Fo, as, _, _, _, z⟩ := h
  exact z.elim
/-- the names and exceptions that the bodies lean on -/
structure Glob (C : Cg) (T : XT) (K : PySem.W.Frag) (mg : Str → Option Value) : Prop where
  fls : ∀ c f, (c, f) ∈ C.fls → Cls K (He.ga K c) ∧ NoAttr K (He.ga K c) f
  cns : ∀ x i, C.cns.lookup x = some i → ∃ t, mg x = some (.int i t)
  blt : ∀ x, x ∈ C.blt → mg x = none
  gds : ∀ x kvs, C.gds.lookup x = some kvs → mg x = some (.ref (He.ga K x)) ∧ GdOk K T.w (He.ga K x) kvs
  exs : ∀ x c, C.exs.lookup x = some c → ∃ (Ca : Addr) (B newId initId : String) (bmB : List Value), T.cls c = .ref Ca ∧ mg x = some (.ref Ca) ∧ PySem.W.keepIn K (.ref Ca) = true ∧ PySem.W.subIn K (.ref Ca) (.type "BaseException") = some true ∧ PySem.W.typeIn K (.ref Ca) = some (.type "type") ∧ ExcBaseFacts B newId initId bmB ∧ PySem.W.excIn K Ca bmB newId = true ∧ PySem.W.exmOne K (.ref Ca) (.ref Ca) = some true
theorem run_len {P : List Fn} {n f np : Nat} {F : Fn} (h : P[f]? = some F) (hn : F.np = np) : ∀ args, run P n f args = .bad ∨ args.length = np := fun args => by
  cases n with
  | zero => exact .inl rfl
  | succ n =>
    simp only [run, h]
    split
    · rename_i e; exact .inr (e.trans hn)
    · exact .inl rfl
theorem def_ok {P : List Fn} {C : Cg} {body : List Stmt} {scope : Scope} {F : Fn} {np f n : Nat} {fa : Addr} {fd : FuncData} {ps : List Str} (D : DefOk C K mg body scope F np fa fd ps) (hf : P[f]? = some F) (Gl : Glob C T K mg) (hw : w = T.w)
    (hfn : ∀ x g m, C.fns.lookup x = some (g, m) → (∃ (fb : Addr) (fe : FuncData) (qs : List Str), mg x = some (.ref fb) ∧ PySem.W.keepIn K (.ref fb) = true ∧ Binds K fe qs [] ∧ FnOk Pr w K mg base (L2.CX Pr w) (2 * n) fb fe qs (SpF T K (run P n) m g)) ∧ ∃ G, P[g]? = some G ∧ G.np = m)
    (hmk : ∀ c g m, C.mks.lookup c = some (g, m) → (∃ (fb : Addr) (fe : FuncData) (qs : List Str), mg c = some (.ref (He.ga K c)) ∧ Mk K (He.ga K c) fb ∧ Binds K fe qs [] ∧ FnOk Pr w K mg base (L2.CX Pr w) (2 * n) fb fe qs (SpF T K (run P n) m g)) ∧ ∃ G, P[g]? = some G ∧ G.np = m)
    (hmt : ∀ c o g m, C.mts.lookup (c, o) = some (g, m) → (∃ (fb : Addr) (fe : FuncData) (qs : List Str), Cls K (He.ga K c) ∧ Meth K (He.ga K c) o fb ∧ Binds K fe qs [] ∧ FnOk Pr w K mg base (L2.CX Pr w) (2 * n) fb fe qs (SpF T K (run P n) m g)) ∧ ∃ G, P[g]? = some G ∧ G.np = m) :
    FnOk Pr w K mg base (L2.CX Pr w) (2 * n + 1 + 1) fa fd ps (SpF T K (run P (n + 1)) np f) := by
  obtain ⟨x, qual, params, Fu⟩ := D.fu
  refine Fu.ok D.sc (fun vs H Q E h => by rw [D.nps]; exact h.1) fun cdv A outer s H vs Q E hr h => ?_
  have hn : LenOk C (run P n) := fun x g m e => by
    rcases e with e | e | ⟨o, e⟩
    · obtain ⟨_, G, h1, h2⟩ := hfn x g m e
      exact run_len h1 h2
    · obtain ⟨_, G, h1, h2⟩ := hmk x g m e
      exact run_len h1 h2
    · obtain ⟨_, G, h1, h2⟩ := hmt x o g m e
      exact run_len h1 h2
  obtain ⟨t, gt, pt⟩ := (agL_ok (T := T) (K := K) (cf := run P n) (W := fun cls d _ H => E cls d H) hn (fun x c e => by
    obtain ⟨Ca, B, newId, initId, bmB, h1, h2, h3, h4, h5, h6, h7, h8⟩ := Gl.exs x c e
    rw [h1]
    exact h8) F.body D.ag).h
  refine ⟨t, pt _ ⟨⟨rfl, hw, rfl, rfl, D.sc.nd, rfl, passes_of rfl, takes_of rfl rfl rfl rfl, ?_, Gl.cns, Gl.blt, Gl.fls, fun y kvs e => hw ▸ Gl.gds y kvs e, fun y g m e => ?_, fun y o g m e => ?_, fun y g m e => ?_⟩, rfl, ?_, (fun y c e => ?_), rfl, rfl⟩, ?_⟩
  · have := hr.un
    show (A.deeper _).units + 200 < cLine
    omega
  · obtain ⟨⟨fb, fe, qs, h1, h2, h3, h4⟩, _⟩ := hmk y g m e
    exact ⟨fb, fe, qs, 2 * n, h1, h2, h3, h4, hr⟩
  · obtain ⟨⟨fb, fe, qs, h1, h2, h3, h4⟩, _⟩ := hmt y o g m e
    exact ⟨fb, fe, qs, 2 * n, h1, h2, h3, h4, hr.mono (Nat.le_succ _)⟩
  · obtain ⟨⟨fb, fe, qs, h1, h2, h3, h4⟩, G, h5, h6⟩ := hfn y g m e
    exact ⟨fb, fe, qs, 2 * n, h1, h2, h3, h4, hr.mono (Nat.le_succ _), run_len h5 h6⟩
  · show (if scope.kind.isAnnotationScope then ScopeKind.function else scope.kind) = .function
    rw [D.sc.kind]
    rfl
  · obtain ⟨Ca, B, newId, initId, bmB, h1, h2, h3, h4, h5, h6, h7, h8⟩ := Gl.exs y c e
    exact ⟨Ca, B, newId, initId, bmB, h1, h2, h3, raises_own h4 h5, h6, h7, h8⟩
  · obtain ⟨hl, fr, Fo, as, k1, k2, k3, k4⟩ := h
    have hla := k3.len
    refine gt (Gof vs) fr Fo H (start C.N vs) (as ++ List.replicate (F.ns - as.length) .un) _ (sim_start k3 D.hns (by rw [hl]; exact D.le) k1 k2) ?_
    simp only [run, hf] at k4
    rw [if_pos (by rw [← hla, hl, D.hnp])] at k4
    have e : F.np = as.length := by rw [← hla, hl, D.hnp]
    rw [e] at k4
    exact body_post k3 rfl k4
end
end Fly
end

section
set_option Elab.async false
set_option linter.all false
set_option maxRecDepth 100000
set_option maxHeartbeats 4000000
/-! The whole program (FlyProg). -/
namespace Fly
open PySem L2
def scB (N ps : List Str) (sc : Scope) : Bool :=
  (match sc.kind with | .function => true | _ => false) && !sc.isCoroutine && !sc.isGenerator && decide N.Nodup && decide (N.take ps.length = ps) && ps.all (fun x => locS sc x) && sc.names.all fun y => match y.2 with | .free => false | _ => true
theorem scB_ok {N ps : List Str} {sc : Scope} (h : scB N ps sc = true) : FnScope N ps sc := by
  unfold scB at h
  simp only [Bool.and_eq_true, Bool.not_eq_true', decide_eq_true_eq, List.all_eq_true] at h
  obtain ⟨⟨⟨⟨⟨⟨h1, h2⟩, h3⟩, h4⟩, h5⟩, h6⟩, h7⟩ := h
  refine ⟨?_, h2, h3, h4, h5, fun x hx => ?_, fun y hy e => ?_⟩
  · split at h1
    · assumption
    · cases h1
  · have q := h6 x hx
    unfold locS at q
    split at q
    · rename_i z; exact .inl z
    · rename_i z; exact .inr z
    · cases q
  · have q := h7 y hy
    rw [e] at q
    cases q
def Tabs.cg (T : Tabs) (N : List Str) : Cg := ⟨N, T.fns, T.cns, T.exs, T.blt, T.mks, T.mts, T.fls, T.gds⟩
def entB (T : Tabs) (e : Ent) (F : Fn) : Bool := decide (F.np = e.ps.length) && decide (e.N.length = F.ns) && decide (e.ps.length ≤ F.ns) && scB e.N e.ps (defScope e.st) && agL (T.cg e.N) (defScope e.st) F.body (defBody e.st)
def entsB (T : Tabs) : List Ent → List Fn → Bool
  | [], [] => true
  | e :: es, F :: Fs => entB T e F && entsB T es Fs
  | _, _ => false
theorem entsB_get {T : Tabs} : ∀ {es : List Ent} {Fs : List Fn}, entsB T es Fs = true → ∀ (f : Nat) (e : Ent), es[f]? = some e → ∃ F, Fs[f]? = some F ∧ entB T e F = true
  | [], _, _, f, e, h => by simp at h
  | a :: es, [], h, _, _, _ => by cases h
  | a :: es, F :: Fs, h, f, e, he => by
    simp only [entsB, Bool.and_eq_true] at h
    cases f with
    | zero =>
      simp at he
      subst he
      exact ⟨F, rfl, h.1⟩
    | succ f => simpa using entsB_get h.2 f e (by simpa using he)
/-- the tables' own fitness -/
def hasB (es : List Ent) (c : Option Str) (x : Str) (q : Nat × Nat) : Bool := match es[q.1]? with | some e => decide (e.x = x) && decide (e.cl = c) && decide (e.ps.length = q.2) | none => false
def tabB (T : Tabs) (es : List Ent) : Bool := (T.fns.all fun q => hasB es none q.1 q.2) && (T.mks.all fun q => hasB es (some q.1) ("__init__" : Str) q.2) && T.mts.all fun q => hasB es (some q.1.1) q.1.2 q.2
theorem hasB_get {es : List Ent} {c : Option Str} {x : Str} {g m : Nat} (h : hasB es c x (g, m) = true) : ∃ e, es[g]? = some e ∧ e.x = x ∧ e.cl = c ∧ e.ps.length = m := by
  unfold hasB at h
  simp only at h
  split at h
  · rename_i e he
    simp only [Bool.and_eq_true, decide_eq_true_eq] at h
    exact ⟨e, he, h.1.1, h.1.2, h.2⟩
  · cases h
theorem glo_mem {T : Tabs} {es : List Ent} {e : Ent} (h : e ∈ es) (hc : e.cl = none) : He.Fa.glo e.x ∈ facts T es := by
  unfold facts
  simp only [List.mem_append, List.mem_map, List.mem_filter]
  exact .inl (.inl (.inl (.inl ⟨e, ⟨h, by rw [hc]; rfl⟩, rfl⟩)))
theorem SaysD.mem {fa : List He.Fa} {fn : List He.DefD} {K : PySem.W.Frag} (c : He.SaysD fa fn K) {f : He.Fa} (h : f ∈ fa) : f.ok K = true := by
  obtain ⟨i, hi⟩ := List.getElem?_of_mem h
  exact c.fact i hi
def xtOf (w : World) (K : PySem.W.Frag) (T : Tabs) : XT := ⟨fun c => match T.exs.find? (fun q => q.2 == c) with | some q => .ref (He.ga K q.1) | none => .none, fun _ => [], w⟩
/-- each exception has its own number -/
def exB (T : Tabs) : Bool := T.exs.all fun q => match T.exs.find? (fun r => r.2 == q.2) with | some r => decide (r.1 = q.1) | none => false
theorem mem_of_lookup2 {α β : Type} [BEq α] [LawfulBEq α] {x : α} {b : β} : ∀ {l : List (α × β)}, l.lookup x = some b → (x, b) ∈ l
  | [], h => nomatch h
  | (y, c) :: l, h => by
    rw [List.lookup_cons] at h
    split at h
    · rename_i e
      cases h
      rw [eq_of_beq e]
      exact List.mem_cons_self
    · exact List.mem_cons_of_mem _ (mem_of_lookup2 h)
theorem mem_of_lookup' {α : Type} {l : List (Str × α)} {x : Str} {a : α} (h : l.lookup x = some a) : (x, a) ∈ l := PySem.mem_of_lookup h
section
variable {K : PySem.W.Frag} {Pr : Program} {w : World} {mg : Str → Option Value} {base h : Heap} {T : Tabs} {es : List Ent} {P : List Fn}
theorem glob_ok {N : List Str} (X : K.In h) (G : h.Ns mainGlobals mg) (c : He.SaysD (facts T es) (es.map Ent.d) K) (hgd : ∀ x kvs, T.gds.lookup x = some kvs → GdOk K w (He.ga K x) kvs) (hx : exB T = true) : Glob (T.cg N) (xtOf w K T) K mg := by
  have mem : ∀ f, f ∈ facts T es → f.ok K = true := fun f hf => SaysD.mem c hf
  refine ⟨fun x f e => ?_, fun x i e => ?_, fun x hxb => ?_, fun x kvs e => ⟨He.glo_ok X G (mem _ ?_), hgd x kvs e⟩, fun x n e => ?_⟩
  · have m1 : He.Fa.cls x ∈ facts T es := by
      unfold facts
      simp only [List.mem_append, List.mem_flatMap]
      exact .inr (.inl (.inr ⟨(x, f), e, by simp⟩))
    have m2 : He.Fa.noat x f ∈ facts T es := by
      unfold facts
      simp only [List.mem_append, List.mem_flatMap]
      exact .inr (.inl (.inr ⟨(x, f), e, by simp⟩))
    exact ⟨He.cls_ok (mem _ m1), He.noat_ok (mem _ m2)⟩
  · refine He.int_ok X G (mem _ ?_)
    unfold facts
    simp only [List.mem_append, List.mem_map]
    exact .inl (.inl (.inl (.inr ⟨(x, i), mem_of_lookup' e, rfl⟩)))
  · refine He.free_ok X G (mem _ ?_)
    unfold facts
    simp only [List.mem_append, List.mem_map]
    exact .inl (.inr ⟨x, hxb, rfl⟩)
  · unfold facts
    simp only [List.mem_append, List.mem_map]
    exact .inr (.inr ⟨(x, kvs), mem_of_lookup' e, rfl⟩)
  · have hm := mem_of_lookup' e
    have m1 : He.Fa.glo x ∈ facts T es := by
      unfold facts
      simp only [List.mem_append, List.mem_flatMap]
      exact .inl (.inl (.inr ⟨(x, n), hm, by simp⟩))
    have m2 : He.Fa.exc x ∈ facts T es := by
      unfold facts
      simp only [List.mem_append, List.mem_flatMap]
      exact .inl (.inl (.inr ⟨(x, n), hm, by simp⟩))
    have m3 : He.Fa.exm x x true ∈ facts T es := by
      unfold facts
      simp only [List.mem_append, List.mem_flatMap]
      exact .inl (.inl (.inr ⟨(x, n), hm, by simp⟩))
    obtain ⟨h1, h2, h3, h4⟩ := He.exc_ok (mem _ m2)
    refine ⟨He.ga K x, "ValueError", "ValueError.__new__", "ValueError.__init__", He.veBase, ?_, He.glo_ok X G (mem _ m1), h2, h3, h4, PySem.F.excBase_ValueError, h1, He.exm_ok (mem _ m3)⟩
    unfold exB at hx
    rw [List.all_eq_true] at hx
    have q := hx _ hm
    unfold xtOf
    simp only at q ⊢
    split at q
    · rename_i r er
      rw [of_decide_eq_true q]
    · cases q
theorem prog_ok (X : K.In h) (G : h.Ns mainGlobals mg) (c : He.SaysD (facts T es) (es.map Ent.d) K) (hgd : ∀ x kvs, T.gds.lookup x = some kvs → GdOk K w (He.ga K x) kvs) (hx : exB T = true) (ht : tabB T es = true) (he : entsB T es P = true)
    (hb : ∀ e ∈ es, ∀ fd, FunD K e.x e.qual (defArgs e.st) (defBody e.st) (defScope e.st) [] [] (He.fAd K e.at_) fd → Binds K fd e.ps []) :
    ∀ (n f : Nat) (e : Ent), es[f]? = some e → ∀ fd, FunD K e.x e.qual (defArgs e.st) (defBody e.st) (defScope e.st) [] [] (He.fAd K e.at_) fd → FnOk Pr w K mg base (L2.CX Pr w) (2 * n) (He.fAd K e.at_) fd e.ps (SpF (xtOf w K T) K (run P n) e.ps.length f) := by
  unfold tabB at ht
  simp only [Bool.and_eq_true, List.all_eq_true] at ht
  obtain ⟨⟨ht1, ht2⟩, ht3⟩ := ht
  intro n
  induction n with
  | zero => exact fun f e _ fd _ => fn_zero rfl
  | succ n ih =>
    intro f e hf fd F
    obtain ⟨Fn, hP, hE⟩ := entsB_get he f e hf
    unfold entB at hE
    simp only [Bool.and_eq_true, decide_eq_true_eq] at hE
    obtain ⟨⟨⟨⟨h1, h2⟩, h3⟩, h4⟩, h5⟩ := hE
    have key : ∀ {cl : Option Str} {x : Str} {g m : Nat}, hasB es cl x (g, m) = true → ∃ e2, e2 ∈ es ∧ e2.x = x ∧ e2.cl = cl ∧ (∃ fe, PySem.W.keepIn K (.ref (He.fAd K e2.at_)) = true ∧ Binds K fe e2.ps [] ∧
        FnOk Pr w K mg base (L2.CX Pr w) (2 * n) (He.fAd K e2.at_) fe e2.ps (SpF (xtOf w K T) K (run P n) m g)) ∧ ∃ G, P[g]? = some G ∧ G.np = m := fun q => by
      obtain ⟨e2, he2, q1, q2, rfl⟩ := hasB_get q
      obtain ⟨F2, hP2, hE2⟩ := entsB_get he _ e2 he2
      unfold entB at hE2
      simp only [Bool.and_eq_true, decide_eq_true_eq] at hE2
      obtain ⟨fe, Fe⟩ := c.def_ _ (d := e2.d) (by rw [List.getElem?_map, he2]; rfl)
      exact ⟨e2, List.mem_of_getElem? he2, q1, q2, ⟨fe, Fe.kp, hb e2 (List.mem_of_getElem? he2) fe Fe, ih _ e2 he2 fe Fe⟩, F2, hP2, hE2.1.1.1.1⟩
    refine def_ok (C := T.cg e.N) ⟨⟨_, _, _, F⟩, scB_ok h4, hb e (List.mem_of_getElem? hf) fd F, h1, rfl, h2, h3, h5⟩ hP (glob_ok X G c hgd hx) rfl (fun x g m ex => ?_) (fun x g m ex => ?_) fun x o g m ex => ?_
    · obtain ⟨e2, he2, rfl, q2, ⟨fe, k1, k2, k3⟩, k4⟩ := key (ht1 _ (mem_of_lookup' ex))
      have ea : He.fAd K e2.at_ = He.ga K e2.x := by unfold Ent.at_; rw [q2]; rfl
      rw [ea] at k1 k3
      exact ⟨⟨_, fe, e2.ps, He.glo_ok X G (SaysD.mem c (glo_mem he2 q2)), k1, k2, k3⟩, k4⟩
    · have hm := mem_of_lookup' ex
      obtain ⟨e2, he2, q1, q2, ⟨fe, k1, k2, k3⟩, k4⟩ := key (ht2 _ hm)
      have ea : He.fAd K e2.at_ = He.ma K (He.ga K x) ("__init__" : Str) := by unfold Ent.at_; rw [q2, q1]; rfl
      rw [ea] at k3
      have m1 : He.Fa.glo x ∈ facts T es := by
        unfold facts
        simp only [List.mem_append, List.mem_flatMap]
        exact .inr (.inl (.inl (.inl ⟨(x, g, m), hm, by simp⟩)))
      have m2 : He.Fa.mkr x ∈ facts T es := by
        unfold facts
        simp only [List.mem_append, List.mem_flatMap]
        exact .inr (.inl (.inl (.inl ⟨(x, g, m), hm, by simp⟩)))
      exact ⟨⟨_, fe, e2.ps, He.glo_ok X G (SaysD.mem c m1), He.mkr_ok (SaysD.mem c m2), k2, k3⟩, k4⟩
    · have hm := mem_of_lookup2 ex
      obtain ⟨e2, he2, q1, q2, ⟨fe, k1, k2, k3⟩, k4⟩ := key (ht3 _ hm)
      have ea : He.fAd K e2.at_ = He.ma K (He.ga K x) o := by unfold Ent.at_; rw [q2, q1]; rfl
      rw [ea] at k3
      have m1 : He.Fa.cls x ∈ facts T es := by
        unfold facts
        simp only [List.mem_append, List.mem_flatMap]
        exact .inr (.inl (.inl (.inr ⟨((x, o), g, m), hm, by simp⟩)))
      have m2 : He.Fa.meth x o ∈ facts T es := by
        unfold facts
        simp only [List.mem_append, List.mem_flatMap]
        exact .inr (.inl (.inl (.inr ⟨((x, o), g, m), hm, by simp⟩)))
      exact ⟨⟨_, fe, e2.ps, He.cls_ok (SaysD.mem c m1), He.meth_ok (SaysD.mem c m2), k2, k3⟩, k4⟩
/-- the module's dicts of texts -/
theorem gds_of {h2 : Heap} (c : He.SaysX (facts T es) (es.map Ent.d) (tabsOf T) [] (gdB T) w h2 K) : ∀ x kvs, T.gds.lookup x = some kvs → GdOk K w (He.ga K x) kvs := by
  intro x kvs e
  have hm := mem_of_lookup' e
  obtain ⟨i, hi⟩ := List.getElem?_of_mem hm
  obtain ⟨es', n, d⟩ := c.t.tab i (t := ((fun K => He.ga K x), kvs.map fun p => toS p.1)) (by unfold tabsOf; rw [List.getElem?_map, hi]; rfl)
  refine ⟨es', n, d, fun q hq => ?_⟩
  have h1 := List.all_eq_true.mp c.more (x, kvs) hm
  obtain ⟨u, h3, h4⟩ := He.valsB_ok h1 (q := (toS q.1, He.Dv.int q.2)) (List.mem_map.mpr ⟨q, hq, rfl⟩)
  exact ⟨u, h3, h4⟩
/-- the law's promise from the plain law -/
theorem law_sp {XX : XT} {n law : Nat} {l : List Int} {H : Hp} {a : Addr} (hs : SqL K H a (l.map V.int)) (hl : l.length ≤ 63) (hr : ∃ os, run P n law [.fz false (.scr (l.map .int))] = .ret (.bl true) false os) :
    SpF XX K (run P n) 1 law [.ref a] H (fun v _ => v = .bl true) fun _ _ _ => False := by
  obtain ⟨os, hr⟩ := hr
  refine ⟨rfl, fun x => H x ≠ none, fun _ => False, [.fz false (.scr (l.map .int))], fun _ f => f, fun _ f => f.elim, .fz (.scr ?_ ?_ Reps.toInts) .nil, ?_⟩
  · rcases hs with q | q
    · refine .inl ⟨?_, q⟩
      intro z
      rcases q with q | ⟨o, q⟩
      · exact nomatch z.symm.trans q
      · exact nomatch z.symm.trans q
    · exact .inr (.inr q)
  · rw [List.length_map]
    exact Nat.le_trans hl (by decide)
  · rw [hr]
    intro v fr' H' _ _ _ _ rc
    cases rc with
    | sh r => cases r; rfl
end
end Fly
namespace Fly
open PySem L2
theorem fn_calm {Pr : Program} {w : World} {K : PySem.W.Frag} {mg : Str → Option Value} {base : Heap} {k : Nat} {f : Addr} {fd : FuncData} {ps : List Str} {sp : Sp} (F : FnOk Pr w K mg base (L2.CX Pr w) k f fd ps sp) :
    FnOk Pr w K mg base CX0 k f fd ps (fun vs H Q _ => sp vs H Q fun _ _ _ => False) :=
  ⟨fun vs H Q E h => F.len vs H Q _ h, fun A outer s H args us vs Q E hr e0 hb r h => by
    refine codeAny_mono (F.run A outer s H args us vs Q _ hr e0 hb r h) fun r' s' q => ?_
    cases r' with
    | ok u => cases u <;> exact q
    | error e =>
      obtain ⟨a, B, H', cls, d, _, _, _, _, _, _, _, z⟩ := q
      exact z.elim⟩
end Fly
end

section
set_option linter.all false
set_option maxRecDepth 100000
set_option maxHeartbeats 2000000
/-! Runs of the small language, by rewriting (FlyRun). -/
namespace Fly
/-- what follows, held so that the rewriting does not look into it -/
class KR where f : List Tok → List Sl → R
class KW where f : List Tok → List Sl → Fw
class BR where f : Bool → List Sl → R
class BW where f : Bool → List Sl → Fw
class FF where f : List Sl → Fw
def R.th (r : R) [k : KR] : R := r.andThen k.f
def R.tw (r : R) [k : KW] : Fw := r.toFw k.f
def RB.tr (r : RB) [k : BR] : R := r.toR k.f
def RB.tw (r : RB) [k : BW] : Fw := r.toFw k.f
def Fw.th (r : Fw) [k : FF] : Fw := r.andThen k.f
section
variable {cf : Nat → List Sl → CR} {σ σ1 : List Sl} {ts : List Tok}
theorem R.andThen_ok {g} : @R.th (.ok ts σ) ⟨g⟩ = g ts σ := rfl
theorem R.toFw_ok {g} : @R.tw (.ok ts σ) ⟨g⟩ = g ts σ := rfl
theorem RB.toR_ok {b g} : @RB.tr (.ok b σ) ⟨g⟩ = g b σ := rfl
theorem RB.toFw_ok {b g} : @RB.tw (.ok b σ) ⟨g⟩ = g b σ := rfl
theorem Fw.andThen_nx {g} : @Fw.th (.nx σ) ⟨g⟩ = g σ := rfl
theorem Fw.andThen_rt {d o g} : @Fw.th (.rt d o σ) ⟨g⟩ = .rt d o σ := rfl
theorem Fw.andThen_ex {c fs g} : @Fw.th (.ex c fs σ) ⟨g⟩ = .ex c fs σ := rfl
theorem Fw.andThen_bk {g} : @Fw.th (.bk σ) ⟨g⟩ = .bk σ := rfl
theorem Fw.andThen_ct {g} : @Fw.th (.ct σ) ⟨g⟩ = .ct σ := rfl
theorem if_t {α : Type} {a b : α} : (if true = true then a else b) = a := rfl
theorem if_f {α : Type} {a b : α} : (if false = true then a else b) = b := rfl

/-! ### the built-in steps, by conditions -/
theorem place_at {n : Nat} {i : Int} (h0 : 0 ≤ i) (h1 : i < n) : place n i = some i.toNat := if_pos ⟨h0, h1⟩
theorem idx_lst {l : List D} {i : Int} {d : D} (h0 : 0 ≤ i) (h : l[i.toNat]? = some d) : opf .idx [.lst l, .int i] = some (false, d) := by
  have h1 : i.toNat < l.length := (List.getElem?_eq_some_iff.mp h).1
  simp [opf, fIdx, place_at h0 (by omega : i < l.length), h]
theorem idx_tup {l : List D} {i : Int} {d : D} (h0 : 0 ≤ i) (h : l[i.toNat]? = some d) : opf .idx [.tup l, .int i] = some (false, d) := by
  have h1 : i.toNat < l.length := (List.getElem?_eq_some_iff.mp h).1
  simp [opf, fIdx, place_at h0 (by omega : i < l.length), h]
theorem mod_ok {i j : Int} (h : 0 < j) : opf .mod [.int i, .int j] = some (false, .int (i % j)) := by simp [opf, fMod, h]
theorem fdiv_ok {i j : Int} (h : 0 < j) (h2 : j < 1073741824) : opf .fdiv [.int i, .int j] = some (false, .int (i / j)) := by simp [opf, fFdiv, h, h2]
theorem mul_ok {i j : Int} (h : okMul i j = true) : opf .mul [.int i, .int j] = some (false, .int (i * j)) := by simp [opf, fMul, h]
theorem okMul_l {i j : Int} (h1 : -(2 ^ 64) < i) (h2 : i < 2 ^ 64) : okMul i j = true := by simp only [okMul, Bool.or_eq_true, Bool.and_eq_true, decide_eq_true_eq]; exact .inl ⟨h1, h2⟩
theorem okMul_r {i j : Int} (h1 : -(2 ^ 64) < j) (h2 : j < 2 ^ 64) : okMul i j = true := by simp only [okMul, Bool.or_eq_true, Bool.and_eq_true, decide_eq_true_eq]; exact .inr ⟨h1, h2⟩
theorem mul_l {i j : Int} (h1 : -18446744073709551616 < i) (h2 : i < 18446744073709551616) : opf .mul [.int i, .int j] = some (false, .int (i * j)) := mul_ok (okMul_l (by omega) (by omega))
theorem mul_r {i j : Int} (h1 : -18446744073709551616 < j) (h2 : j < 18446744073709551616) : opf .mul [.int i, .int j] = some (false, .int (i * j)) := mul_ok (okMul_r (by omega) (by omega))
end
section
variable {σ : List Sl} {a b c d e : D} {l : List D} {i j : Int} {u : Tok} {u' : D}
theorem idl0 : opf .idx [.lst (a :: l), .int 0] = some (false, a) := idx_lst (by decide) rfl
theorem idl1 : opf .idx [.lst (a :: b :: l), .int 1] = some (false, b) := idx_lst (by decide) rfl
theorem idl2 : opf .idx [.lst (a :: b :: c :: l), .int 2] = some (false, c) := idx_lst (by decide) rfl
theorem idl3 : opf .idx [.lst (a :: b :: c :: d :: l), .int 3] = some (false, d) := idx_lst (by decide) rfl
theorem idl4 : opf .idx [.lst (a :: b :: c :: d :: e :: l), .int 4] = some (false, e) := idx_lst (by decide) rfl
theorem idt0 : opf .idx [.tup (a :: l), .int 0] = some (false, a) := idx_tup (by decide) rfl
theorem idt1 : opf .idx [.tup (a :: b :: l), .int 1] = some (false, b) := idx_tup (by decide) rfl
theorem idt2 : opf .idx [.tup (a :: b :: c :: l), .int 2] = some (false, c) := idx_tup (by decide) rfl
theorem idt3 : opf .idx [.tup (a :: b :: c :: d :: l), .int 3] = some (false, d) := idx_tup (by decide) rfl
theorem add_i : opf .add [.int i, .int j] = some (false, .int (i + j)) := rfl
theorem sub_i : opf .sub [.int i, .int j] = some (false, .int (i - j)) := rfl
theorem neg_i : opf .neg [.int i] = some (false, .int (-i)) := rfl
theorem lt_i : opf .lt [.int i, .int j] = some (false, .bl (decide (i < j))) := rfl
theorem le_i : opf .le [.int i, .int j] = some (false, .bl (decide (i ≤ j))) := rfl
theorem gt_i : opf .gt [.int i, .int j] = some (false, .bl (decide (j < i))) := rfl
theorem ge_i : opf .ge [.int i, .int j] = some (false, .bl (decide (j ≤ i))) := rfl
theorem eq_i : opf .eq [.int i, .int j] = some (false, .bl (decide (i = j))) := rfl
theorem ne_i : opf .ne [.int i, .int j] = some (false, .bl (!decide (i = j))) := rfl
theorem eq_b {x y : Bool} : opf .eq [.bl x, .bl y] = some (false, .bl (x == y)) := rfl
theorem ne_b {x y : Bool} : opf .ne [.bl x, .bl y] = some (false, .bl (!(x == y))) := rfl
theorem int_i : opf .int [.int i] = some (false, .int i) := rfl
theorem len_l : opf .len [.lst l] = some (false, .int l.length) := rfl
theorem len_t : opf .len [.tup l] = some (false, .int l.length) := rfl
theorem tuple_l : opf .tuple [.lst l] = some (false, .tup l) := rfl
theorem tuple_t : opf .tuple [.tup l] = some (false, .tup l) := rfl
theorem rev_t : opf .rev [.tup l] = some (false, .tup l.reverse) := rfl
theorem rev_l : opf .rev [.lst l] = some (true, .lst l.reverse) := rfl
theorem pow_10 : opf .pow [.int 10, .int 18] = some (false, .int 1000000000000000000) := rfl
theorem st1 : setf (.lst [a, b, c, d, e]) (.int 1) u' = some (.lst [a, u', c, d, e]) := rfl
theorem st2 : setf (.lst [a, b, c, d, e]) (.int 2) u' = some (.lst [a, b, u', d, e]) := rfl
theorem st3 : setf (.lst [a, b, c, d, e]) (.int 3) u' = some (.lst [a, b, c, u', e]) := rfl
theorem st4 : setf (.lst [a, b, c, d, e]) (.int 4) u' = some (.lst [a, b, c, d, u']) := rfl
theorem asB_v {b : Bool} : asB (.ok [.tv (.bl b)] σ) = .ok b σ := rfl
end
section Eqs
set_option autoImplicit true
theorem ev_c : ev cf (.c d) σ = (.ok [.tv d] σ) := by first | (rw [ev]; done) | (rw [ev]; rfl)
theorem ev_gl : ev cf (.gl y d) σ = .ok [.tv d] σ := by first | (rw [ev]; done) | (rw [ev]; rfl)
theorem ev_v : ev cf (.v i) σ = (match σ[i]? with
    | some (.fz _ d) => .ok [.tv d] σ
    | some (.ow _ _) => .ok [.br i] σ
    | _ => .bad) := by first | (rw [ev]; done) | (rw [ev]; rfl)
theorem ev_fz : ev cf (.fz i) σ = (match σ[i]? with
    | some (.fz _ d) => .ok [.tv d] σ
    | some (.ow p d) => .ok [.tv d] (σ.set i (.fz p d))
    | _ => .bad) := by first | (rw [ev]; done) | (rw [ev]; rfl)
theorem ev_mv : ev cf (.mv i) σ = (match σ[i]? with
    | some (.fz false d) => .ok [.tv d] σ
    | some (.ow false d) => .ok [.tf d] (σ.set i .un)
    | _ => .bad) := by first | (rw [ev]; done) | (rw [ev]; rfl)
theorem ev_nil : ev cf .nil σ = (.ok [] σ) := by first | (rw [ev]; done) | (rw [ev]; rfl)
theorem ev_cons : ev cf (.cons a b) σ = (@R.th (ev cf a σ) ⟨fun ts σ1 => @R.th (ev cf b σ1) ⟨fun us σ2 => .ok (ts ++ us) σ2⟩⟩) := by first | (rw [ev]; done) | (rw [ev]; rfl)
theorem ev_op : ev cf (.op o es) σ = (@R.th (ev cf es σ) ⟨fun ts σ1 => match looks σ1 ts with
    | some ds => match opf o ds with
      | some (true, d) => .ok [.tf d] σ1
      | some (false, d) => .ok [.tv d] σ1
      | none => .bad
    | none => .bad⟩) := by first | (rw [ev]; done) | (rw [ev]; rfl)
theorem ev_tup : ev cf (.tup es) σ = (@R.th (ev cf es σ) ⟨fun ts σ1 => match vals σ1 ts with
    | some ds => if ds.length ≤ szLine then .ok [.tv (.tup ds)] σ1 else .bad
    | none => .bad⟩) := by first | (rw [ev]; done) | (rw [ev]; rfl)
theorem ev_ktp : ev cf (.ktp es) σ = (@R.th (ev cf es σ) ⟨fun ts σ1 => match vals σ1 ts with
    | some ds => if ds.length ≤ szLine then .ok [.tv (.kt ds)] σ1 else .bad
    | none => .bad⟩) := by first | (rw [ev]; done) | (rw [ev]; rfl)
theorem ev_lst : ev cf (.lst es) σ = (@R.th (ev cf es σ) ⟨fun ts σ1 => match vals σ1 ts with
    | some ds => if ds.length ≤ szLine then .ok [.tf (.lst ds)] σ1 else .bad
    | none => .bad⟩) := by first | (rw [ev]; done) | (rw [ev]; rfl)
theorem ev_dct : ev cf (.dct es) σ = (@R.th (ev cf es σ) ⟨fun ts σ1 => match vals σ1 ts with
    | some ds => match dmake ds [] [] with
      | some d => if ds.length ≤ 30 then .ok [.tf d] σ1 else .bad
      | none => .bad
    | none => .bad⟩) := by first | (rw [ev]; done) | (rw [ev]; rfl)
theorem ev_and : ev cf (.and a b) σ = (@RB.tr (asB (ev cf a σ)) ⟨fun x σ1 => if x then ev cf b σ1 else .ok [.tv (.bl false)] σ1⟩) := by first | (rw [ev]; done) | (rw [ev]; rfl)
theorem ev_or : ev cf (.or a b) σ = (@RB.tr (asB (ev cf a σ)) ⟨fun x σ1 => if x then .ok [.tv (.bl true)] σ1 else ev cf b σ1⟩) := by first | (rw [ev]; done) | (rw [ev]; rfl)
theorem ev_not : ev cf (.not a) σ = (@RB.tr (asB (ev cf a σ)) ⟨fun x σ1 => .ok [.tv (.bl (!x))] σ1⟩) := by first | (rw [ev]; done) | (rw [ev]; rfl)
theorem ev_ite : ev cf (.ite c a b) σ = (@RB.tr (asB (ev cf c σ)) ⟨fun x σ1 => if x then ev cf a σ1 else ev cf b σ1⟩) := by first | (rw [ev]; done) | (rw [ev]; rfl)
theorem ev_call : ev cf (.call f es) σ = (@R.th (ev cf es σ) ⟨fun ts σ1 => called cf f ts σ1⟩) := by first | (rw [ev]; done) | (rw [ev]; rfl)
theorem ev_mk : ev cf (.mk c f es) σ = (@R.th (ev cf es σ) ⟨fun ts σ1 => made cf c f ts σ1⟩) := by first | (rw [ev]; done) | (rw [ev]; rfl)
theorem ev_meth : ev cf (.meth c m0 f a es) σ = (@R.th (ev cf a σ) ⟨fun ts σ1 => match ts with
    | [t] => match look σ1 t with
      | some (.ins c' ns _) => if c' = c ∧ m0 ∉ ns then @R.th (ev cf es σ1) ⟨fun us σ2 => called cf f (t :: us) σ2⟩ else .bad
      | _ => .bad
    | _ => .bad⟩) := by first | (rw [ev]; done) | (rw [ev]; rfl)
theorem ev_bm : ev cf (.bm m i es) σ = (match σ[i]? with
    | some (.ow _ (.lst _)) => @R.th (ev cf es σ) ⟨fun ts σ1 => match σ1[i]?, (if m = .extend then looks σ1 ts else vals σ1 ts) with
      | some (.ow p x), some ds => match mef m x ds with
        | some (d, x') => .ok [.tv d] (σ1.set i (.ow p x'))
        | none => .bad
      | _, _ => .bad⟩
    | _ => .bad) := by first | (rw [ev]; done) | (rw [ev]; rfl)
theorem ev_lc : ev cf (.lc elt t k es cnd) σ = (@R.th (ev cf es σ) ⟨fun ts σ1 => match looks σ1 ts with
    | none => .bad
    | some ds => match items k ds with
      | some xs => if calmO (hideS σ1 ts) t.own then
          @R.th (lcL t.own (fun x s => bindT s t x false) (fun s => asB (ev cf cnd s)) (fun s => ev cf elt s) xs (hideS σ1 ts) []) ⟨fun us σ3 => .ok us (showS σ1 (unwipeS (hideS σ1 ts) σ3 t.own) ts)⟩
        else .bad
      | _ => .bad⟩) := by first | (rw [ev]; done) | (rw [ev]; rfl)
theorem ev_frd : ev cf (.frd a) σ = (@R.th (ev cf a σ) ⟨fun ts σ1 => match ts with
    | [.tv d] => .ok [.tv d] σ1
    | [.tf d] => .ok [.tv (frD d)] σ1
    | [.br i] => match σ1[i]? with
      | some (.fz _ d) => .ok [.tv d] σ1
      | some (.ow p d) => .ok [.tv (frD d)] (σ1.set i (.fz p (frD d)))
      | _ => .bad
    | _ => .bad⟩) := by first | (rw [ev]; done) | (rw [ev]; rfl)
theorem ev_chn : ev cf (.chn a l) σ = (@R.th (ev cf a σ) ⟨fun ts σ1 => match ts with
    | [u] => match look σ1 u with
      | some (.int x) => evC cf l x σ1
      | _ => .bad
    | _ => .bad⟩) := by first | (rw [ev]; done) | (rw [ev]; rfl)
theorem ev_sl : ev cf (.sl a lo hi) σ = (@R.th (ev cf a σ) ⟨fun ts σ1 => match ts with
    | [t] => partI (ev cf lo σ1) fun l σ2 => partI (ev cf hi σ2) fun h σ3 => match look σ3 t with
      | some x => match fSl l h x with
        | some (true, d) => .ok [.tf d] σ3
        | some (false, d) => .ok [.tv d] σ3
        | none => .bad
      | none => .bad
    | _ => .bad⟩) := by first | (rw [ev]; done) | (rw [ev]; rfl)
theorem evC_lk1 : evC cf (.lk1 o b) x σ = (@R.th (ev cf b σ) ⟨fun ts σ1 => match ts with
    | [u] => match look σ1 u with
      | some (.int y) => match opf o [.int x, .int y] with
        | some (false, .bl r) => .ok [.tv (.bl r)] σ1
        | _ => .bad
      | _ => .bad
    | _ => .bad⟩) := by first | (rw [evC]; done) | (rw [evC]; rfl)
theorem evC_lks : evC cf (.lks o b l) x σ = (@R.th (ev cf b σ) ⟨fun ts σ1 => match ts with
    | [u] => match look σ1 u with
      | some (.int y) => match opf o [.int x, .int y] with
        | some (false, .bl true) => evC cf l y σ1
        | some (false, .bl false) => .ok [.tv (.bl false)] σ1
        | _ => .bad
      | _ => .bad
    | _ => .bad⟩) := by first | (rw [evC]; done) | (rw [evC]; rfl)
theorem ex_nil : exec cf .nil σ = (.nx σ) := by first | (rw [exec]; done) | (rw [exec]; rfl)
theorem ex_seq : exec cf (.seq a b) σ = (@Fw.th (exec cf a σ) ⟨fun σ1 => exec cf b σ1⟩) := by first | (rw [exec]; done) | (rw [exec]; rfl)
theorem ex_asg : exec cf (.asg t e) σ = (@R.tw (ev cf e σ) ⟨fun ts σ1 => match ts with
    | [u] => match give σ1 u with
      | some (d, o) => match bindT σ1 t d o with
        | some σ2 => .nx σ2
        | none => .bad
      | none => .bad
    | _ => .bad⟩) := by first | (rw [exec]; done) | (rw [exec]; rfl)
theorem ex_aug : exec cf (.aug i o e) σ = (match σ[i]? with
    | some (.fz false (.int x)) => @R.tw (ev cf e σ) ⟨fun ts σ1 => match ts with
      | [u] => match look σ1 u with
        | some (.int y) => match opf o [.int x, .int y], put σ1 i (.int 0) false with
          | some (false, d), some _ => .nx (σ1.set i (.fz false d))
          | _, _ => .bad
        | _ => .bad
      | _ => .bad⟩
    | _ => .bad) := by first | (rw [exec]; done) | (rw [exec]; rfl)
theorem ex_setI : exec cf (.setI i k e) σ = (@R.tw (ev cf e σ) ⟨fun ts σ1 => match ts with
    | [u] => match σ1[i]? with
      | some (.ow _ _) => @R.tw (ev cf k σ1) ⟨fun ks σ2 => match ks with
        | [kt] => match val σ2 u, look σ2 kt, σ2[i]? with
          | some d, some kd, some (.ow p x) => match setf x kd d with
            | some x' => .nx (σ2.set i (.ow p x'))
            | none => .bad
          | _, _, _ => .bad
        | _ => .bad⟩
      | _ => .bad
    | _ => .bad⟩) := by first | (rw [exec]; done) | (rw [exec]; rfl)
theorem ex_augI : exec cf (.augI i k o e) σ = (match σ[i]? with
    | some (.ow _ _) => @R.tw (ev cf k σ) ⟨fun ks σ1 => match ks with
      | [kt] => match look σ1 kt, σ1[i]? with
        | some kd, some (.ow _ x) => match opf .idx [x, kd] with
          | some (_, .int z) => @R.tw (ev cf e σ1) ⟨fun ts σ2 => match ts with
            | [u] => match look σ2 u, σ2[i]? with
              | some (.int y), some (.ow p x2) => match opf o [.int z, .int y] with
                | some (false, d) => match setf x2 kd d with
                  | some x' => .nx (σ2.set i (.ow p x'))
                  | none => .bad
                | _ => .bad
              | _, _ => .bad
            | _ => .bad⟩
          | _ => .bad
        | _, _ => .bad
      | _ => .bad⟩
    | _ => .bad) := by first | (rw [exec]; done) | (rw [exec]; rfl)
theorem ex_setF : exec cf (.setF i c f e) σ = (@R.tw (ev cf e σ) ⟨fun ts σ1 => match ts with
    | [u] => match val σ1 u, σ1[i]? with
      | some d, some (.ow p (.ins c' ns fs)) => if c' = c ∧ ns.length < 100 then .nx (σ1.set i (.ow p (.ins c' (fputN ns f) (fputV ns fs f d)))) else .bad
      | _, _ => .bad
    | _ => .bad⟩) := by first | (rw [exec]; done) | (rw [exec]; rfl)
theorem ex_ex : exec cf (.ex e) σ = (@R.tw (ev cf e σ) ⟨fun _ σ1 => .nx σ1⟩) := by first | (rw [exec]; done) | (rw [exec]; rfl)
theorem ex_ifs : exec cf (.ifs c a b) σ = (@RB.tw (asB (ev cf c σ)) ⟨fun x σ1 => if x then exec cf a σ1 else exec cf b σ1⟩) := by first | (rw [exec]; done) | (rw [exec]; rfl)
theorem ex_for : exec cf (.for t k es b) σ = (@R.tw (ev cf es σ) ⟨fun ts σ1 => match looks σ1 ts with
    | none => .bad
    | some ds => match items k ds with
      | some xs => if calmS σ1 ts then forL (fun x s => bindT s t x false) (fun s => exec cf b s) xs σ1 else .bad
      | none => .bad⟩) := by first | (rw [exec]; done) | (rw [exec]; rfl)
theorem ex_whl : exec cf (.whl c b) σ = (whlL (fun s => asB (ev cf c s)) (fun s => exec cf b s) turns σ) := by first | (rw [exec]; done) | (rw [exec]; rfl)
theorem ex_ret : exec cf (.ret e) σ = (@R.tw (ev cf e σ) ⟨fun ts σ1 => match ts with
    | [u] => match give σ1 u with
      | some (d, o) => .rt d o σ1
      | none => .bad
    | _ => .bad⟩) := by first | (rw [exec]; done) | (rw [exec]; rfl)
theorem ex_retn : exec cf .retn σ = (.rt .non false σ) := by first | (rw [exec]; done) | (rw [exec]; rfl)
theorem ex_brk : exec cf .brk σ = (.bk σ) := by first | (rw [exec]; done) | (rw [exec]; rfl)
theorem ex_cnt : exec cf .cnt σ = (.ct σ) := by first | (rw [exec]; done) | (rw [exec]; rfl)
theorem ex_pass : exec cf .pass σ = (.nx σ) := by first | (rw [exec]; done) | (rw [exec]; rfl)
theorem ex_par : exec cf (.par is es) σ = (@R.tw (ev cf es σ) ⟨fun ts σ1 => match vals σ1 ts with
    | some ds => match puts σ1 is ds with
      | some σ2 => .nx σ2
      | none => .bad
    | none => .bad⟩) := by first | (rw [exec]; done) | (rw [exec]; rfl)
theorem ex_raise : exec cf (.raise c es) σ = (@R.tw (ev cf es σ) ⟨fun ts σ1 => match vals σ1 ts with
    | some ds => .ex c ds σ1
    | none => .bad⟩) := by first | (rw [exec]; done) | (rw [exec]; rfl)
end Eqs

end Fly
end

section
set_option linter.all false
set_option maxRecDepth 100000
set_option maxHeartbeats 2000000
/-! Loops of the small language (FlyLoop). -/
namespace Fly
/-- a comprehension whose turns all give something; I: what stands after the items pre -/
theorem lcL_ok {own : List Nat} {bd : D → List Sl → Option (List Sl)} {cnd : List Sl → RB} {el : List Sl → R} (I : List D → List Sl → List D → Prop) (xs0 : List D) (hz : xs0.length ≤ szLine)
    (step : ∀ pre x post σ acc, xs0 = pre ++ x :: post → acc.length = pre.length → I pre σ acc → ∃ σ1 σ2 σ3 t d, bd x (dropS σ own) = some σ1 ∧ cnd σ1 = .ok true σ2 ∧ el σ2 = .ok [t] σ3 ∧ val σ3 t = some d ∧ I (pre ++ [x]) σ3 (acc ++ [d])) :
    ∀ (xs pre : List D) (σ : List Sl) (acc : List D), xs0 = pre ++ xs → acc.length = pre.length → I pre σ acc → ∃ σ' out, lcL own bd cnd el xs σ acc = .ok [.tf (.lst out)] σ' ∧ I xs0 σ' out ∧ out.length = xs0.length
  | [], pre, σ, acc, e, hl, h => by
    rw [List.append_nil] at e
    subst e
    exact ⟨σ, acc, rfl, h, hl⟩
  | x :: xs, pre, σ, acc, e, hl, h => by
    obtain ⟨σ1, σ2, σ3, t, d, h1, h2, h3, h4, h5⟩ := step pre x xs σ acc e hl h
    have hlt : acc.length < szLine := by
      have := congrArg List.length e
      simp only [List.length_append, List.length_cons] at this
      omega
    obtain ⟨σ', out, q1, q2, q3⟩ := lcL_ok I xs0 hz step xs (pre ++ [x]) σ3 (acc ++ [d]) (by simp [e]) (by simp [hl]) h5
    refine ⟨σ', out, ?_, q2, q3⟩
    rw [← q1]
    simp only [lcL, h1, h2, h3, h4, if_pos hlt]
theorem lcL_all {own : List Nat} {bd : D → List Sl → Option (List Sl)} {cnd : List Sl → RB} {el : List Sl → R} {xs0 : List D} {σ : List Sl} (I : List D → List Sl → List D → Prop) (h0 : I [] σ []) (hz : xs0.length ≤ szLine)
    (step : ∀ pre x post σ acc, xs0 = pre ++ x :: post → acc.length = pre.length → I pre σ acc → ∃ σ1 σ2 σ3 t d, bd x (dropS σ own) = some σ1 ∧ cnd σ1 = .ok true σ2 ∧ el σ2 = .ok [t] σ3 ∧ val σ3 t = some d ∧ I (pre ++ [x]) σ3 (acc ++ [d])) :
    ∃ σ' out, lcL own bd cnd el xs0 σ [] = .ok [.tf (.lst out)] σ' ∧ I xs0 σ' out ∧ out.length = xs0.length :=
  lcL_ok I xs0 hz step xs0 [] σ [] rfl rfl h0
/-- a loop whose turns all go on -/
theorem forL_ok {bd : D → List Sl → Option (List Sl)} {b : List Sl → Fw} (I : List D → List Sl → Prop) (xs0 : List D)
    (step : ∀ pre x post σ, xs0 = pre ++ x :: post → I pre σ → ∃ σ1 σ2, bd x σ = some σ1 ∧ (b σ1 = .nx σ2 ∨ b σ1 = .ct σ2) ∧ I (pre ++ [x]) σ2) :
    ∀ (xs pre : List D) (σ : List Sl), xs0 = pre ++ xs → I pre σ → ∃ σ', forL bd b xs σ = .nx σ' ∧ I xs0 σ'
  | [], pre, σ, e, h => by
    rw [List.append_nil] at e
    subst e
    exact ⟨σ, rfl, h⟩
  | x :: xs, pre, σ, e, h => by
    obtain ⟨σ1, σ2, h1, h2, h3⟩ := step pre x xs σ e h
    obtain ⟨σ', q1, q2⟩ := forL_ok I xs0 step xs (pre ++ [x]) σ2 (by simp [e]) h3
    refine ⟨σ', ?_, q2⟩
    rw [← q1]
    rcases h2 with h2 | h2 <;> simp only [forL, h1, h2]
theorem forL_all {bd : D → List Sl → Option (List Sl)} {b : List Sl → Fw} {xs0 : List D} {σ : List Sl} (I : List D → List Sl → Prop) (h0 : I [] σ)
    (step : ∀ pre x post σ, xs0 = pre ++ x :: post → I pre σ → ∃ σ1 σ2, bd x σ = some σ1 ∧ (b σ1 = .nx σ2 ∨ b σ1 = .ct σ2) ∧ I (pre ++ [x]) σ2) :
    ∃ σ', forL bd b xs0 σ = .nx σ' ∧ I xs0 σ' := forL_ok I xs0 step xs0 [] σ rfl h0
/-- statements, one by one -/
theorem seq_nx {cf : Nat → List Sl → CR} {a b : S} {σ σ1 : List Sl} (h : exec cf a σ = .nx σ1) : exec cf (.seq a b) σ = exec cf b σ1 := by rw [ex_seq, h]; rfl
/-- items of range(n) -/
def rng (n : Nat) : List D := (List.range n).map fun k => .int (k : Nat)
theorem items_rng {n : Int} (h1 : -4611686018427387904 ≤ n) (h2 : n < 4611686018427387904) : items .range1 [.int n] = some (rng n.toNat) := by
  have h3 : smallI n = true := by simp only [smallI, Bool.and_eq_true, decide_eq_true_eq]; omega
  simp only [items, h3, if_true]
  rfl
theorem rng_len {n : Nat} : (rng n).length = n := by simp [rng]
theorem rng_at {n : Nat} {pre post : List D} {x : D} (h : rng n = pre ++ x :: post) : x = .int (pre.length : Nat) ∧ pre.length < n := by
  have h1 : (rng n)[pre.length]? = some x := by rw [h]; simp
  unfold rng at h1
  rw [List.getElem?_map] at h1
  have hl : pre.length < n := by
    have := congrArg List.length h
    simp only [List.length_append, List.length_cons, rng_len] at this
    omega
  rw [List.getElem?_range hl] at h1
  exact ⟨(Option.some.inj h1).symm, hl⟩
theorem lc_run {cf : Nat → List Sl → CR} {elt cnd es : E} {t : Tg} {k : Ik} {σ σ1 σ3 : List Sl} {ts us : List Tok} {ds xs : List D} (hes : ev cf es σ = .ok ts σ1) (hl : looks σ1 ts = some ds) (hi : items k ds = some xs) (hc : calmO (hideS σ1 ts) t.own = true)
    (h : lcL t.own (fun x s => bindT s t x false) (fun s => asB (ev cf cnd s)) (fun s => ev cf elt s) xs (hideS σ1 ts) [] = .ok us σ3) : ev cf (.lc elt t k es cnd) σ = .ok us (showS σ1 (unwipeS (hideS σ1 ts) σ3 t.own) ts) := by
  rw [ev_lc, hes]
  simp only [R.andThen_ok, hl, hi, hc, if_true, h]
theorem for_run {cf : Nat → List Sl → CR} {es : E} {t : Tg} {k : Ik} {b : S} {σ σ1 : List Sl} {ts : List Tok} {ds xs : List D} (hes : ev cf es σ = .ok ts σ1) (hl : looks σ1 ts = some ds) (hi : items k ds = some xs) (hc : calmS σ1 ts = true) :
    exec cf (.for t k es b) σ = forL (fun x s => bindT s t x false) (fun s => exec cf b s) xs σ1 := by
  rw [ex_for, hes]
  simp only [R.toFw_ok, hl, hi, hc, if_true]
theorem asg_run {cf : Nat → List Sl → CR} {e : E} {t : Tg} {σ σ1 σ2 : List Sl} {u : Tok} {d : D} {o : Bool} (he : ev cf e σ = .ok [u] σ1) (hg : give σ1 u = some (d, o)) (hb : bindT σ1 t d o = some σ2) : exec cf (.asg t e) σ = .nx σ2 := by
  rw [ex_asg, he]
  simp only [R.toFw_ok, hg, hb]
end Fly
end

section
set_option linter.all false
set_option maxRecDepth 100000
set_option maxHeartbeats 2000000
/-! The laws' own defs: the hand, its draws (FlyHand). -/
namespace Fly
def sHand : S :=
 (.seq (.asg (.nm 1) (.lc (.op .abs (.cons (.op .int (.cons (.v 2) .nil)) .nil)) (.nm 2) .seq (.cons (.sl (.v 0) .nil (.c (.int 63))) .nil) (.c (.bl true))))
 (.seq (.ret (.lst (.cons (.fz 1) (.cons (.c (.int 0)) (.cons (.c (.int 0)) (.cons (.op .add (.cons (.c (.int 1)) (.cons (.op .len (.cons (.v 1) .nil)) .nil))) (.cons (.c (.int 0)) .nil)))))))
 .nil))
def sDraw : S :=
 (.seq (.ifs (.and (.op .eq (.cons (.op .idx (.cons (.v 0) (.cons (.c (.int 2)) .nil))) (.cons (.c (.int 0)) .nil))) (.op .lt (.cons (.op .idx (.cons (.v 0) (.cons (.c (.int 1)) .nil))) (.cons (.op .len (.cons (.op .idx (.cons (.v 0) (.cons (.c (.int 0)) .nil))) .nil)) .nil))))
  (.seq (.asg (.nm 3) (.op .idx (.cons (.op .idx (.cons (.v 0) (.cons (.c (.int 0)) .nil))) (.cons (.op .idx (.cons (.v 0) (.cons (.c (.int 1)) .nil))) .nil))))
  (.seq (.setI 0 (.c (.int 1)) (.op .add (.cons (.op .idx (.cons (.v 0) (.cons (.c (.int 1)) .nil))) (.cons (.c (.int 1)) .nil))))
  (.seq (.setI 0 (.c (.int 3)) (.op .mod (.cons (.op .int (.cons (.op .add (.cons (.op .add (.cons (.op .mul (.cons (.op .idx (.cons (.v 0) (.cons (.c (.int 3)) .nil))) (.cons (.c (.int 69621)) .nil))) (.cons (.v 3) .nil))) (.cons (.c (.int 11)) .nil))) .nil)) (.cons (.c (.int 2147483629)) .nil))))
  (.seq (.ifs (.op .ge (.cons (.v 3) (.cons (.op .pow (.cons (.c (.int 10)) (.cons (.c (.int 18)) .nil))) .nil)))
   (.seq (.setI 0 (.c (.int 2)) (.fz 3))
   .nil)
   .nil)
  .nil))))
  .nil)
 (.seq (.ifs (.op .gt (.cons (.op .idx (.cons (.v 0) (.cons (.c (.int 2)) .nil))) (.cons (.c (.int 0)) .nil)))
  (.seq (.asg (.nm 4) (.op .mod (.cons (.op .int (.cons (.op .idx (.cons (.v 0) (.cons (.c (.int 2)) .nil))) .nil)) (.cons (.v 1) .nil))))
  (.seq (.setI 0 (.c (.int 2)) (.op .fdiv (.cons (.op .idx (.cons (.v 0) (.cons (.c (.int 2)) .nil))) (.cons (.v 1) .nil))))
  (.seq (.ret (.mv 4))
  .nil)))
  .nil)
 (.seq (.setI 0 (.c (.int 4)) (.op .add (.cons (.op .idx (.cons (.v 0) (.cons (.c (.int 4)) .nil))) (.cons (.c (.int 1)) .nil))))
 (.seq (.asg (.nm 2) (.op .mod (.cons (.op .int (.cons (.op .mul (.cons (.op .int (.cons (.op .add (.cons (.op .idx (.cons (.v 0) (.cons (.c (.int 3)) .nil))) (.cons (.op .mul (.cons (.c (.int 7919)) (.cons (.op .idx (.cons (.v 0) (.cons (.c (.int 4)) .nil))) .nil))) .nil))) .nil)) (.cons (.c (.int 48271)) .nil))) .nil)) (.cons (.c (.int 2147483647)) .nil))))
 (.seq (.asg (.nm 2) (.op .mod (.cons (.op .int (.cons (.op .mul (.cons (.v 2) (.cons (.op .add (.cons (.op .fdiv (.cons (.v 2) (.cons (.c (.int 1009)) .nil))) (.cons (.c (.int 69621)) .nil))) .nil))) .nil)) (.cons (.c (.int 2147483647)) .nil))))
 (.seq (.asg (.nm 2) (.op .mod (.cons (.op .int (.cons (.op .mul (.cons (.v 2) (.cons (.op .add (.cons (.op .fdiv (.cons (.v 2) (.cons (.c (.int 2003)) .nil))) (.cons (.c (.int 40692)) .nil))) .nil))) .nil)) (.cons (.c (.int 2147483399)) .nil))))
 (.seq (.ret (.op .mod (.cons (.op .int (.cons (.op .fdiv (.cons (.v 2) (.cons (.c (.int 16)) .nil))) .nil)) (.cons (.v 1) .nil))))
 .nil)))))))
/-- a hand: cells, place, what is left of a wide cell, two numbers -/
inductive HandOk : D → Prop
  | mk (cs : List Int) (p wd mix cnt : Int) (hp : 0 ≤ p) (hw : 0 ≤ wd) (hc : ∀ c ∈ cs, 0 ≤ c) : HandOk (.lst [.lst (cs.map .int), .int p, .int wd, .int mix, .int cnt])
theorem run_of {P : List Fn} {f n : Nat} {F : Fn} {args : List Sl} (hP : P[f]? = some F) (ha : args.length = F.np) : run P (n + 1) f args = ((exec (run P n) F.body (args ++ List.replicate (F.ns - F.np) .un)).toCR F.np).chk args := by
  rw [run, hP]
  exact if_pos ha
theorem map_get {l : List Int} {i : Nat} (h : i < l.length) : (l.map D.int)[i]? = some (.int l[i]) := by simp [h]
def num0 (mix cnt : Int) : Int := (mix + 7919 * (cnt + 1)) * 48271 % 2147483647
def num1 (z : Int) : Int := z * (z / 1009 + 69621) % 2147483647
def num2 (z : Int) : Int := z * (z / 2003 + 40692) % 2147483399
/-- a digit, whatever the base -/
theorem draw_gen {P : List Fn} {f : Nat} (hP : P[f]? = some ⟨2, 5, sDraw⟩) {d : D} (h : HandOk d) {m : Int} (h1 : 1 ≤ m) (hdiv : ∀ i : Int, opf .fdiv [.int i, .int m] = some (false, .int (i / m))) (n : Nat) :
    ∃ (r : Int) (d' : D), run P (n + 1) f [.ow true d, .fz false (.int m)] = .ret (.int r) false [.ow true d', .fz false (.int m)] ∧ 0 ≤ r ∧ r < m ∧ HandOk d' := by
  obtain ⟨cs, p, wd, mix, cnt, hp, hw, hc⟩ := h
  have h0 : 0 < m := by omega
  have hm : ∀ x : Int, 0 ≤ x % m ∧ x % m < m := fun x => ⟨Int.emod_nonneg _ (by omega), Int.emod_lt_of_pos _ h0⟩
  by_cases hwd : wd = 0
  · subst hwd
    by_cases hpl : p < cs.length
    · have hl : p.toNat < cs.length := by omega
      have hidx : opf .idx [.lst (cs.map .int), .int p] = some (false, .int cs[p.toNat]) := idx_lst hp (map_get hl)
      have hc0 : 0 ≤ cs[p.toNat] := hc _ (List.getElem_mem hl)
      generalize cs[p.toNat] = c at hidx hc0
      by_cases hb : 1000000000000000000 ≤ c
      · have hcp : (0 : Int) < c := by omega
        refine ⟨c % m, .lst [.lst (cs.map .int), .int (p + 1), .int (c / m), .int ((mix * 69621 + c + 11) % 2147483629), .int cnt], ?_, (hm _).1, (hm _).2, .mk _ _ _ _ _ (by omega) (Int.ediv_nonneg hc0 (by omega)) hc⟩
        rw [run_of hP rfl]
        unfold sDraw
        simp -implicitDefEqProofs (disch := omega) only [ev_gl, ev_c, ev_v, ev_fz, ev_mv, ev_nil, ev_cons, ev_op, ev_tup, ev_ktp, ev_lst, ev_dct, ev_and, ev_or, ev_not, ev_ite, ev_call, ev_mk, ev_meth, ev_bm, ev_lc, ev_frd, ev_chn, ev_sl, evC_lk1, evC_lks, ex_nil, ex_seq, ex_asg, ex_aug, ex_setI, ex_augI, ex_setF, ex_ex, ex_ifs, ex_for, ex_whl, ex_ret, ex_retn, ex_brk, ex_cnt, ex_pass, ex_par, ex_raise, _root_.Fly.R.andThen_ok, _root_.Fly.R.toFw_ok, _root_.Fly.RB.toR_ok, _root_.Fly.RB.toFw_ok, _root_.Fly.Fw.andThen_nx, _root_.Fly.Fw.andThen_rt, _root_.Fly.Fw.andThen_ex, _root_.Fly.Fw.andThen_bk, _root_.Fly.Fw.andThen_ct, asB_v, look, looks, val, vals, give, bindT, put, free1, ↓if_t, ↓if_f, List.length_map, decide_true, decide_false, Bool.not_true, Bool.not_false, if_true, if_false, List.cons_append, List.nil_append, List.getElem?_cons_zero, List.getElem?_cons_succ, List.set_cons_zero, List.set_cons_succ, List.length_cons, List.length_nil, idl0, idl1, idl2, idl3, idl4, idt0, idt1, idt2, idt3, add_i, sub_i, neg_i, lt_i, le_i, gt_i, ge_i, eq_i, ne_i, eq_b, ne_b, int_i, len_l, len_t, tuple_l, tuple_t, rev_t, rev_l, pow_10, st1, st2, st3, st4, mod_ok, fdiv_ok, mul_l, mul_r, List.replicate, hpl, hidx, hb, hcp, hdiv c]
        rfl
      · refine ⟨num2 (num1 (num0 ((mix * 69621 + c + 11) % 2147483629) cnt)) / 16 % m, .lst [.lst (cs.map .int), .int (p + 1), .int 0, .int ((mix * 69621 + c + 11) % 2147483629), .int (cnt + 1)], ?_, (hm _).1, (hm _).2, .mk _ _ _ _ _ (by omega) (by omega) hc⟩
        rw [run_of hP rfl]
        unfold sDraw
        simp -implicitDefEqProofs (disch := omega) only [ev_gl, ev_c, ev_v, ev_fz, ev_mv, ev_nil, ev_cons, ev_op, ev_tup, ev_ktp, ev_lst, ev_dct, ev_and, ev_or, ev_not, ev_ite, ev_call, ev_mk, ev_meth, ev_bm, ev_lc, ev_frd, ev_chn, ev_sl, evC_lk1, evC_lks, ex_nil, ex_seq, ex_asg, ex_aug, ex_setI, ex_augI, ex_setF, ex_ex, ex_ifs, ex_for, ex_whl, ex_ret, ex_retn, ex_brk, ex_cnt, ex_pass, ex_par, ex_raise, _root_.Fly.R.andThen_ok, _root_.Fly.R.toFw_ok, _root_.Fly.RB.toR_ok, _root_.Fly.RB.toFw_ok, _root_.Fly.Fw.andThen_nx, _root_.Fly.Fw.andThen_rt, _root_.Fly.Fw.andThen_ex, _root_.Fly.Fw.andThen_bk, _root_.Fly.Fw.andThen_ct, asB_v, look, looks, val, vals, give, bindT, put, free1, ↓if_t, ↓if_f, List.length_map, decide_true, decide_false, Bool.not_true, Bool.not_false, if_true, if_false, List.cons_append, List.nil_append, List.getElem?_cons_zero, List.getElem?_cons_succ, List.set_cons_zero, List.set_cons_succ, List.length_cons, List.length_nil, idl0, idl1, idl2, idl3, idl4, idt0, idt1, idt2, idt3, add_i, sub_i, neg_i, lt_i, le_i, gt_i, ge_i, eq_i, ne_i, eq_b, ne_b, int_i, len_l, len_t, tuple_l, tuple_t, rev_t, rev_l, pow_10, st1, st2, st3, st4, mod_ok, fdiv_ok, mul_l, mul_r, List.replicate, hpl, hidx, hb, show ¬ (0 : Int) < 0 by omega]
        rfl
    · refine ⟨num2 (num1 (num0 mix cnt)) / 16 % m, .lst [.lst (cs.map .int), .int p, .int 0, .int mix, .int (cnt + 1)], ?_, (hm _).1, (hm _).2, .mk _ _ _ _ _ hp (by omega) hc⟩
      rw [run_of hP rfl]
      unfold sDraw
      simp -implicitDefEqProofs (disch := omega) only [ev_gl, ev_c, ev_v, ev_fz, ev_mv, ev_nil, ev_cons, ev_op, ev_tup, ev_ktp, ev_lst, ev_dct, ev_and, ev_or, ev_not, ev_ite, ev_call, ev_mk, ev_meth, ev_bm, ev_lc, ev_frd, ev_chn, ev_sl, evC_lk1, evC_lks, ex_nil, ex_seq, ex_asg, ex_aug, ex_setI, ex_augI, ex_setF, ex_ex, ex_ifs, ex_for, ex_whl, ex_ret, ex_retn, ex_brk, ex_cnt, ex_pass, ex_par, ex_raise, _root_.Fly.R.andThen_ok, _root_.Fly.R.toFw_ok, _root_.Fly.RB.toR_ok, _root_.Fly.RB.toFw_ok, _root_.Fly.Fw.andThen_nx, _root_.Fly.Fw.andThen_rt, _root_.Fly.Fw.andThen_ex, _root_.Fly.Fw.andThen_bk, _root_.Fly.Fw.andThen_ct, asB_v, look, looks, val, vals, give, bindT, put, free1, ↓if_t, ↓if_f, List.length_map, decide_true, decide_false, Bool.not_true, Bool.not_false, if_true, if_false, List.cons_append, List.nil_append, List.getElem?_cons_zero, List.getElem?_cons_succ, List.set_cons_zero, List.set_cons_succ, List.length_cons, List.length_nil, idl0, idl1, idl2, idl3, idl4, idt0, idt1, idt2, idt3, add_i, sub_i, neg_i, lt_i, le_i, gt_i, ge_i, eq_i, ne_i, eq_b, ne_b, int_i, len_l, len_t, tuple_l, tuple_t, rev_t, rev_l, pow_10, st1, st2, st3, st4, mod_ok, fdiv_ok, mul_l, mul_r, List.replicate, hpl, show ¬ (0 : Int) < 0 by omega]
      rfl
  · have hwp : 0 < wd := by omega
    refine ⟨wd % m, .lst [.lst (cs.map .int), .int p, .int (wd / m), .int mix, .int cnt], ?_, (hm _).1, (hm _).2, .mk _ _ _ _ _ hp (Int.ediv_nonneg hw (by omega)) hc⟩
    rw [run_of hP rfl]
    unfold sDraw
    simp -implicitDefEqProofs (disch := omega) only [ev_gl, ev_c, ev_v, ev_fz, ev_mv, ev_nil, ev_cons, ev_op, ev_tup, ev_ktp, ev_lst, ev_dct, ev_and, ev_or, ev_not, ev_ite, ev_call, ev_mk, ev_meth, ev_bm, ev_lc, ev_frd, ev_chn, ev_sl, evC_lk1, evC_lks, ex_nil, ex_seq, ex_asg, ex_aug, ex_setI, ex_augI, ex_setF, ex_ex, ex_ifs, ex_for, ex_whl, ex_ret, ex_retn, ex_brk, ex_cnt, ex_pass, ex_par, ex_raise, _root_.Fly.R.andThen_ok, _root_.Fly.R.toFw_ok, _root_.Fly.RB.toR_ok, _root_.Fly.RB.toFw_ok, _root_.Fly.Fw.andThen_nx, _root_.Fly.Fw.andThen_rt, _root_.Fly.Fw.andThen_ex, _root_.Fly.Fw.andThen_bk, _root_.Fly.Fw.andThen_ct, asB_v, look, looks, val, vals, give, bindT, put, free1, ↓if_t, ↓if_f, List.length_map, decide_true, decide_false, Bool.not_true, Bool.not_false, if_true, if_false, List.cons_append, List.nil_append, List.getElem?_cons_zero, List.getElem?_cons_succ, List.set_cons_zero, List.set_cons_succ, List.length_cons, List.length_nil, idl0, idl1, idl2, idl3, idl4, idt0, idt1, idt2, idt3, add_i, sub_i, neg_i, lt_i, le_i, gt_i, ge_i, eq_i, ne_i, eq_b, ne_b, int_i, len_l, len_t, tuple_l, tuple_t, rev_t, rev_l, pow_10, st1, st2, st3, st4, mod_ok, fdiv_ok, mul_l, mul_r, List.replicate, hwd, hwp, hdiv wd]
    rfl
theorem draw_ok {P : List Fn} {f : Nat} (hP : P[f]? = some ⟨2, 5, sDraw⟩) {d : D} (h : HandOk d) {m : Int} (h1 : 1 ≤ m) (h2 : m < 1073741824) (n : Nat) :
    ∃ (r : Int) (d' : D), run P (n + 1) f [.ow true d, .fz false (.int m)] = .ret (.int r) false [.ow true d', .fz false (.int m)] ∧ 0 ≤ r ∧ r < m ∧ HandOk d' :=
  draw_gen hP h h1 (fun i => fdiv_ok (by omega) h2) n
/-! ### the hand is made -/
theorem cut63 {l : List D} (h : l.length ≤ 63) : cut l none (some 63) = l := by
  unfold cut border
  simp only [List.drop_zero]
  split
  · omega
  · split
    · rw [List.take_of_length_le (by omega)]
    · rw [List.take_of_length_le (by omega)]
def absI (i : Int) : Int := if i < 0 then -i else i
theorem hand_ok {P : List Fn} {f : Nat} (hP : P[f]? = some ⟨1, 3, sHand⟩) (l : List Int) (hl : l.length ≤ 63) (n : Nat) :
    ∃ (d : D), run P (n + 1) f [.fz false (.scr (l.map .int))] = .ret d true [.fz false (.scr (l.map .int))] ∧ HandOk d := by
  let S0 : Sl := .fz false (.scr (l.map .int))
  have hz : (l.map D.int).length ≤ szLine := by rw [List.length_map]; exact Nat.le_trans hl (by decide)
  obtain ⟨σ', out, h1, h2, h3⟩ := lcL_all (own := [2]) (bd := fun x s => bindT s (.nm 2) x false) (cnd := fun s => asB (ev (run P n) (.c (.bl true)) s)) (el := fun s => ev (run P n) (.op .abs (.cons (.op .int (.cons (.v 2) .nil)) .nil)) s)
    (xs0 := l.map .int) (σ := [S0, .un, .un]) (fun pre σ acc => (∃ s2, σ = [S0, .un, s2]) ∧ ∃ cs : List Int, acc = cs.map .int ∧ ∀ c ∈ cs, 0 ≤ c) ⟨⟨_, rfl⟩, [], rfl, by simp⟩ hz (by
      rintro pre x post σ acc e hl ⟨⟨s2, rfl⟩, cs, rfl, hc⟩
      have hx : x ∈ l.map D.int := by rw [e]; simp
      obtain ⟨i, _, rfl⟩ := List.mem_map.mp hx
      refine ⟨[S0, .un, .fz false (.int i)], [S0, .un, .fz false (.int i)], [S0, .un, .fz false (.int i)], .tv (.int (absI i)), .int (absI i), rfl, ?_, ?_, rfl, ⟨_, rfl⟩, cs ++ [absI i], by simp, ?_⟩
      · simp -implicitDefEqProofs (disch := omega) only [ev_gl, ev_c, ev_v, ev_fz, ev_mv, ev_nil, ev_cons, ev_op, ev_tup, ev_ktp, ev_lst, ev_dct, ev_and, ev_or, ev_not, ev_ite, ev_call, ev_mk, ev_meth, ev_bm, ev_lc, ev_frd, ev_chn, ev_sl, evC_lk1, evC_lks, ex_nil, ex_seq, ex_asg, ex_aug, ex_setI, ex_augI, ex_setF, ex_ex, ex_ifs, ex_for, ex_whl, ex_ret, ex_retn, ex_brk, ex_cnt, ex_pass, ex_par, ex_raise, _root_.Fly.R.andThen_ok, _root_.Fly.R.toFw_ok, _root_.Fly.RB.toR_ok, _root_.Fly.RB.toFw_ok, _root_.Fly.Fw.andThen_nx, _root_.Fly.Fw.andThen_rt, _root_.Fly.Fw.andThen_ex, _root_.Fly.Fw.andThen_bk, _root_.Fly.Fw.andThen_ct, asB_v, look, looks, val, vals, give, bindT, put, free1, ↓if_t, ↓if_f, List.length_map, decide_true, decide_false, Bool.not_true, Bool.not_false, if_true, if_false, List.cons_append, List.nil_append, List.getElem?_cons_zero, List.getElem?_cons_succ, List.set_cons_zero, List.set_cons_succ, List.length_cons, List.length_nil, idl0, idl1, idl2, idl3, idl4, idt0, idt1, idt2, idt3, add_i, sub_i, neg_i, lt_i, le_i, gt_i, ge_i, eq_i, ne_i, eq_b, ne_b, int_i, len_l, len_t, tuple_l, tuple_t, rev_t, rev_l, pow_10, st1, st2, st3, st4, mod_ok, fdiv_ok, mul_l, mul_r, List.replicate]
      · simp -implicitDefEqProofs (disch := omega) only [ev_gl, ev_c, ev_v, ev_fz, ev_mv, ev_nil, ev_cons, ev_op, ev_tup, ev_ktp, ev_lst, ev_dct, ev_and, ev_or, ev_not, ev_ite, ev_call, ev_mk, ev_meth, ev_bm, ev_lc, ev_frd, ev_chn, ev_sl, evC_lk1, evC_lks, ex_nil, ex_seq, ex_asg, ex_aug, ex_setI, ex_augI, ex_setF, ex_ex, ex_ifs, ex_for, ex_whl, ex_ret, ex_retn, ex_brk, ex_cnt, ex_pass, ex_par, ex_raise, _root_.Fly.R.andThen_ok, _root_.Fly.R.toFw_ok, _root_.Fly.RB.toR_ok, _root_.Fly.RB.toFw_ok, _root_.Fly.Fw.andThen_nx, _root_.Fly.Fw.andThen_rt, _root_.Fly.Fw.andThen_ex, _root_.Fly.Fw.andThen_bk, _root_.Fly.Fw.andThen_ct, asB_v, look, looks, val, vals, give, bindT, put, free1, ↓if_t, ↓if_f, List.length_map, decide_true, decide_false, Bool.not_true, Bool.not_false, if_true, if_false, List.cons_append, List.nil_append, List.getElem?_cons_zero, List.getElem?_cons_succ, List.set_cons_zero, List.set_cons_succ, List.length_cons, List.length_nil, idl0, idl1, idl2, idl3, idl4, idt0, idt1, idt2, idt3, add_i, sub_i, neg_i, lt_i, le_i, gt_i, ge_i, eq_i, ne_i, eq_b, ne_b, int_i, len_l, len_t, tuple_l, tuple_t, rev_t, rev_l, pow_10, st1, st2, st3, st4, mod_ok, fdiv_ok, mul_l, mul_r, List.replicate, show opf .abs [.int i] = some (false, .int (absI i)) from rfl]
      · intro c hm
        rcases List.mem_append.mp hm with q | q
        · exact hc c q
        · rw [List.mem_singleton] at q
          subst q
          unfold absI
          split <;> omega)
  obtain ⟨⟨s2, rfl⟩, cs, rfl, hc⟩ := h2
  refine ⟨.lst [.lst (cs.map .int), .int 0, .int 0, .int (1 + cs.length), .int 0], ?_, .mk cs 0 0 _ 0 (by omega) (by omega) hc⟩
  rw [run_of hP rfl]
  unfold sHand
  have e1 : exec (run P n) (.asg (.nm 1) (.lc (.op .abs (.cons (.op .int (.cons (.v 2) .nil)) .nil)) (.nm 2) .seq (.cons (.sl (.v 0) .nil (.c (.int 63))) .nil) (.c (.bl true)))) [S0, .un, .un] = .nx [S0, .ow false (.lst (cs.map .int)), .un] := by
    have e2 : ev (run P n) (.cons (.sl (.v 0) .nil (.c (.int 63))) .nil) [S0, .un, .un] = .ok [.tf (.lst (l.map .int))] [S0, .un, .un] := by
      simp -implicitDefEqProofs (disch := omega) only [ev_gl, ev_c, ev_v, ev_fz, ev_mv, ev_nil, ev_cons, ev_op, ev_tup, ev_ktp, ev_lst, ev_dct, ev_and, ev_or, ev_not, ev_ite, ev_call, ev_mk, ev_meth, ev_bm, ev_lc, ev_frd, ev_chn, ev_sl, evC_lk1, evC_lks, ex_nil, ex_seq, ex_asg, ex_aug, ex_setI, ex_augI, ex_setF, ex_ex, ex_ifs, ex_for, ex_whl, ex_ret, ex_retn, ex_brk, ex_cnt, ex_pass, ex_par, ex_raise, _root_.Fly.R.andThen_ok, _root_.Fly.R.toFw_ok, _root_.Fly.RB.toR_ok, _root_.Fly.RB.toFw_ok, _root_.Fly.Fw.andThen_nx, _root_.Fly.Fw.andThen_rt, _root_.Fly.Fw.andThen_ex, _root_.Fly.Fw.andThen_bk, _root_.Fly.Fw.andThen_ct, asB_v, look, looks, val, vals, give, bindT, put, free1, ↓if_t, ↓if_f, List.length_map, decide_true, decide_false, Bool.not_true, Bool.not_false, if_true, if_false, List.cons_append, List.nil_append, List.getElem?_cons_zero, List.getElem?_cons_succ, List.set_cons_zero, List.set_cons_succ, List.length_cons, List.length_nil, idl0, idl1, idl2, idl3, idl4, idt0, idt1, idt2, idt3, add_i, sub_i, neg_i, lt_i, le_i, gt_i, ge_i, eq_i, ne_i, eq_b, ne_b, int_i, len_l, len_t, tuple_l, tuple_t, rev_t, rev_l, pow_10, st1, st2, st3, st4, mod_ok, fdiv_ok, mul_l, mul_r, List.replicate, S0, partI, fSl, cut63 (l := l.map .int) (by rw [List.length_map]; exact hl)]
    exact asg_run (lc_run e2 rfl rfl rfl h1) rfl rfl
  show CR.chk _ (Fw.toCR 1 (exec (run P n) _ [S0, .un, .un])) = _
  rw [seq_nx e1]
  simp -implicitDefEqProofs (disch := omega) only [ev_gl, ev_c, ev_v, ev_fz, ev_mv, ev_nil, ev_cons, ev_op, ev_tup, ev_ktp, ev_lst, ev_dct, ev_and, ev_or, ev_not, ev_ite, ev_call, ev_mk, ev_meth, ev_bm, ev_lc, ev_frd, ev_chn, ev_sl, evC_lk1, evC_lks, ex_nil, ex_seq, ex_asg, ex_aug, ex_setI, ex_augI, ex_setF, ex_ex, ex_ifs, ex_for, ex_whl, ex_ret, ex_retn, ex_brk, ex_cnt, ex_pass, ex_par, ex_raise, _root_.Fly.R.andThen_ok, _root_.Fly.R.toFw_ok, _root_.Fly.RB.toR_ok, _root_.Fly.RB.toFw_ok, _root_.Fly.Fw.andThen_nx, _root_.Fly.Fw.andThen_rt, _root_.Fly.Fw.andThen_ex, _root_.Fly.Fw.andThen_bk, _root_.Fly.Fw.andThen_ct, asB_v, look, looks, val, vals, give, bindT, put, free1, ↓if_t, ↓if_f, List.length_map, decide_true, decide_false, Bool.not_true, Bool.not_false, if_true, if_false, List.cons_append, List.nil_append, List.getElem?_cons_zero, List.getElem?_cons_succ, List.set_cons_zero, List.set_cons_succ, List.length_cons, List.length_nil, idl0, idl1, idl2, idl3, idl4, idt0, idt1, idt2, idt3, add_i, sub_i, neg_i, lt_i, le_i, gt_i, ge_i, eq_i, ne_i, eq_b, ne_b, int_i, len_l, len_t, tuple_l, tuple_t, rev_t, rev_l, pow_10, st1, st2, st3, st4, mod_ok, fdiv_ok, mul_l, mul_r, List.replicate, show ((5 : Nat) ≤ szLine) = True by simp [szLine]]
  rfl
end Fly
end

section
set_option linter.all false
set_option maxRecDepth 100000
set_option maxHeartbeats 2000000
/-! Rows that are drawn (FlyRow). -/
namespace Fly
def sGrow (q : Nat) : S :=
  (.seq (.ifs (.op .lt (.cons (.op .len (.cons (.v 4) .nil)) (.cons (.v 3) .nil)))
   (.seq (.ex (.bm .extend 4 (.cons (.op .mul (.cons (.lst (.cons (.call q (.cons (.v 0) (.cons (.v 1) .nil))) .nil)) (.cons (.op .add (.cons (.c (.int 1)) (.cons (.call q (.cons (.v 0) (.cons (.c (.int 3)) .nil))) .nil))) .nil))) .nil)))
   .nil)
   .nil)
  .nil)
def sRow (q : Nat) : S :=
 (.seq (.asg (.nm 3) (.op .add (.cons (.c (.int 1)) (.cons (.call q (.cons (.v 0) (.cons (.v 2) .nil))) .nil))))
 (.seq (.ifs (.op .eq (.cons (.call q (.cons (.v 0) (.cons (.c (.int 2)) .nil))) (.cons (.c (.int 0)) .nil)))
  (.seq (.ret (.op .tuple (.cons (.lc (.call q (.cons (.v 0) (.cons (.v 1) .nil))) (.nm 5) .range1 (.cons (.v 3) .nil) (.c (.bl true))) .nil)))
  .nil)
  .nil)
 (.seq (.asg (.nm 4) (.lst .nil))
 (.seq (.for (.nm 5) .range1 (.cons (.v 3) .nil)
  (sGrow q))
 (.seq (.ret (.op .tuple (.cons (.sl (.v 4) .nil (.v 3)) .nil)))
 .nil)))))
theorem draw_call {P : List Fn} {q n : Nat} {d d' : D} {m r : Int} (hr : run P n q [.ow true d, .fz false (.int m)] = .ret (.int r) false [.ow true d', .fz false (.int m)]) {σ : List Sl} {i : Nat} {p : Bool} (hi : σ[i]? = some (.ow p d)) :
    called (run P n) q [.br i, .tv (.int m)] σ = .ok [.tv (.int r)] ((σ.set i .un).set i (.ow p d')) := by
  have hlen : i < σ.length := (List.getElem?_eq_some_iff.mp hi).1
  simp [called, lend, hi, hr, back]
theorem draw_call0 {P : List Fn} {q n : Nat} {d d' : D} {m r : Int} (hr : run P n q [.ow true d, .fz false (.int m)] = .ret (.int r) false [.ow true d', .fz false (.int m)]) {σ : List Sl} {p : Bool} :
    called (run P n) q [.br 0, .tv (.int m)] (.ow p d :: σ) = .ok [.tv (.int r)] (.ow p d' :: σ) := draw_call hr rfl
theorem draw_call1 {P : List Fn} {q n : Nat} {d d' : D} {m r : Int} (hr : run P n q [.ow true d, .fz false (.int m)] = .ret (.int r) false [.ow true d', .fz false (.int m)]) {σ : List Sl} {p : Bool} {s0 : Sl} :
    called (run P n) q [.br 1, .tv (.int m)] (s0 :: .ow p d :: σ) = .ok [.tv (.int r)] (s0 :: .ow p d' :: σ) := draw_call hr rfl
theorem rep_map (k : Nat) (r : Int) : (List.replicate k [D.int r]).flatten = (List.replicate k r).map .int := by
  induction k with
  | zero => rfl
  | succ k ih => simp [List.replicate_succ, ih]
theorem row_ok {P : List Fn} {f q : Nat} (hP : P[f]? = some ⟨3, 6, sRow q⟩) (hq : P[q]? = some ⟨2, 5, sDraw⟩) {d : D} (h : HandOk d) {a mst : Int} (a1 : 1 ≤ a) (a2 : a < 1073741824) (m1 : 1 ≤ mst) (m2 : mst ≤ 1000) (n : Nat) :
    ∃ (l : List Int) (d' : D), run P (n + 2) f [.ow true d, .fz false (.int a), .fz false (.int mst)] = .ret (.tup (l.map .int)) false [.ow true d', .fz false (.int a), .fz false (.int mst)] ∧ 1 ≤ l.length ∧ l.length ≤ mst ∧ (∀ x ∈ l, 0 ≤ x ∧ x < a) ∧ HandOk d' := by
  obtain ⟨r1, d1, e1, b1, c1, h1⟩ := draw_ok hq h m1 (by omega) n
  obtain ⟨r2, d2, e2, b2, c2, h2⟩ := draw_ok hq h1 (m := 2) (by omega) (by omega) n
  by_cases hz : r2 = 0
  · subst hz
    obtain ⟨σ', out, k1, k2, k3⟩ := lcL_all (own := [5]) (bd := fun x s => bindT s (.nm 5) x false) (cnd := fun s => asB (ev (run P (n + 1)) (.c (.bl true)) s)) (el := fun s => ev (run P (n + 1)) (.call q (.cons (.v 0) (.cons (.v 1) .nil))) s)
      (xs0 := rng (1 + r1).toNat) (σ := [.ow true d2, .fz false (.int a), .fz false (.int mst), .fz false (.int (1 + r1)), .un, .un])
      (fun pre σ acc => ∃ (d : D) (s5 : Sl) (l : List Int), σ = [.ow true d, .fz false (.int a), .fz false (.int mst), .fz false (.int (1 + r1)), .un, s5] ∧ HandOk d ∧ acc = l.map .int ∧ ∀ x ∈ l, 0 ≤ x ∧ x < a) ⟨d2, .un, [], rfl, h2, rfl, by simp⟩ (by rw [rng_len]; unfold szLine; omega) (by
        rintro pre x post σ acc e hl ⟨dd, s5, l, rfl, hd, rfl, hx⟩
        obtain ⟨r, d', e', b', c', h'⟩ := draw_ok hq hd a1 a2 n
        refine ⟨[.ow true dd, .fz false (.int a), .fz false (.int mst), .fz false (.int (1 + r1)), .un, .fz false x], [.ow true dd, .fz false (.int a), .fz false (.int mst), .fz false (.int (1 + r1)), .un, .fz false x], [.ow true d', .fz false (.int a), .fz false (.int mst), .fz false (.int (1 + r1)), .un, .fz false x], .tv (.int r), .int r, rfl, ?_, ?_, rfl, d', _, l ++ [r], rfl, h', by simp, ?_⟩
        · simp -implicitDefEqProofs (disch := omega) only [ev_gl, ev_c, ev_v, ev_fz, ev_mv, ev_nil, ev_cons, ev_op, ev_tup, ev_ktp, ev_lst, ev_dct, ev_and, ev_or, ev_not, ev_ite, ev_call, ev_mk, ev_meth, ev_bm, ev_lc, ev_frd, ev_chn, ev_sl, evC_lk1, evC_lks, ex_nil, ex_seq, ex_asg, ex_aug, ex_setI, ex_augI, ex_setF, ex_ex, ex_ifs, ex_for, ex_whl, ex_ret, ex_retn, ex_brk, ex_cnt, ex_pass, ex_par, ex_raise, _root_.Fly.R.andThen_ok, _root_.Fly.R.toFw_ok, _root_.Fly.RB.toR_ok, _root_.Fly.RB.toFw_ok, _root_.Fly.Fw.andThen_nx, _root_.Fly.Fw.andThen_rt, _root_.Fly.Fw.andThen_ex, _root_.Fly.Fw.andThen_bk, _root_.Fly.Fw.andThen_ct, asB_v, look, looks, val, vals, give, bindT, put, free1, ↓if_t, ↓if_f, List.length_map, decide_true, decide_false, Bool.not_true, Bool.not_false, if_true, if_false, List.cons_append, List.nil_append, List.getElem?_cons_zero, List.getElem?_cons_succ, List.set_cons_zero, List.set_cons_succ, List.length_cons, List.length_nil, idl0, idl1, idl2, idl3, idl4, idt0, idt1, idt2, idt3, add_i, sub_i, neg_i, lt_i, le_i, gt_i, ge_i, eq_i, ne_i, eq_b, ne_b, int_i, len_l, len_t, tuple_l, tuple_t, rev_t, rev_l, pow_10, st1, st2, st3, st4, mod_ok, fdiv_ok, mul_l, mul_r, List.replicate]
        · simp -implicitDefEqProofs (disch := omega) only [ev_gl, ev_c, ev_v, ev_fz, ev_mv, ev_nil, ev_cons, ev_op, ev_tup, ev_ktp, ev_lst, ev_dct, ev_and, ev_or, ev_not, ev_ite, ev_call, ev_mk, ev_meth, ev_bm, ev_lc, ev_frd, ev_chn, ev_sl, evC_lk1, evC_lks, ex_nil, ex_seq, ex_asg, ex_aug, ex_setI, ex_augI, ex_setF, ex_ex, ex_ifs, ex_for, ex_whl, ex_ret, ex_retn, ex_brk, ex_cnt, ex_pass, ex_par, ex_raise, _root_.Fly.R.andThen_ok, _root_.Fly.R.toFw_ok, _root_.Fly.RB.toR_ok, _root_.Fly.RB.toFw_ok, _root_.Fly.Fw.andThen_nx, _root_.Fly.Fw.andThen_rt, _root_.Fly.Fw.andThen_ex, _root_.Fly.Fw.andThen_bk, _root_.Fly.Fw.andThen_ct, asB_v, look, looks, val, vals, give, bindT, put, free1, ↓if_t, ↓if_f, List.length_map, decide_true, decide_false, Bool.not_true, Bool.not_false, if_true, if_false, List.cons_append, List.nil_append, List.getElem?_cons_zero, List.getElem?_cons_succ, List.set_cons_zero, List.set_cons_succ, List.length_cons, List.length_nil, idl0, idl1, idl2, idl3, idl4, idt0, idt1, idt2, idt3, add_i, sub_i, neg_i, lt_i, le_i, gt_i, ge_i, eq_i, ne_i, eq_b, ne_b, int_i, len_l, len_t, tuple_l, tuple_t, rev_t, rev_l, pow_10, st1, st2, st3, st4, mod_ok, fdiv_ok, mul_l, mul_r, List.replicate, draw_call0 e']
        · intro y hy
          rcases List.mem_append.mp hy with q | q
          · exact hx y q
          · rw [List.mem_singleton] at q
            subst q
            exact ⟨b', c'⟩)
    obtain ⟨d3, s5, l, rfl, h3, rfl, hx⟩ := k2
    rw [List.length_map, rng_len] at k3
    refine ⟨l, d3, ?_, by omega, by omega, hx, h3⟩
    rw [run_of hP rfl]
    unfold sRow
    show CR.chk _ (Fw.toCR 3 (exec (run P (n + 1)) _ [.ow true d, .fz false (.int a), .fz false (.int mst), .un, .un, .un])) = _
    rw [seq_nx (σ1 := [.ow true d1, .fz false (.int a), .fz false (.int mst), .fz false (.int (1 + r1)), .un, .un]) (by simp -implicitDefEqProofs (disch := omega) only [ev_gl, ev_c, ev_v, ev_fz, ev_mv, ev_nil, ev_cons, ev_op, ev_tup, ev_ktp, ev_lst, ev_dct, ev_and, ev_or, ev_not, ev_ite, ev_call, ev_mk, ev_meth, ev_bm, ev_lc, ev_frd, ev_chn, ev_sl, evC_lk1, evC_lks, ex_nil, ex_seq, ex_asg, ex_aug, ex_setI, ex_augI, ex_setF, ex_ex, ex_ifs, ex_for, ex_whl, ex_ret, ex_retn, ex_brk, ex_cnt, ex_pass, ex_par, ex_raise, _root_.Fly.R.andThen_ok, _root_.Fly.R.toFw_ok, _root_.Fly.RB.toR_ok, _root_.Fly.RB.toFw_ok, _root_.Fly.Fw.andThen_nx, _root_.Fly.Fw.andThen_rt, _root_.Fly.Fw.andThen_ex, _root_.Fly.Fw.andThen_bk, _root_.Fly.Fw.andThen_ct, asB_v, look, looks, val, vals, give, bindT, put, free1, ↓if_t, ↓if_f, List.length_map, decide_true, decide_false, Bool.not_true, Bool.not_false, if_true, if_false, List.cons_append, List.nil_append, List.getElem?_cons_zero, List.getElem?_cons_succ, List.set_cons_zero, List.set_cons_succ, List.length_cons, List.length_nil, idl0, idl1, idl2, idl3, idl4, idt0, idt1, idt2, idt3, add_i, sub_i, neg_i, lt_i, le_i, gt_i, ge_i, eq_i, ne_i, eq_b, ne_b, int_i, len_l, len_t, tuple_l, tuple_t, rev_t, rev_l, pow_10, st1, st2, st3, st4, mod_ok, fdiv_ok, mul_l, mul_r, List.replicate, draw_call0 e1])]
    have z : ev (run P (n + 1)) (.lc (.call q (.cons (.v 0) (.cons (.v 1) .nil))) (.nm 5) .range1 (.cons (.v 3) .nil) (.c (.bl true))) [.ow true d2, .fz false (.int a), .fz false (.int mst), .fz false (.int (1 + r1)), .un, .un] = .ok [.tf (.lst (l.map .int))] [.ow true d3, .fz false (.int a), .fz false (.int mst), .fz false (.int (1 + r1)), .un, .un] :=
      (lc_run (t := .nm 5) (cf := run P (n + 1)) (cnd := .c (.bl true)) (elt := .call q (.cons (.v 0) (.cons (.v 1) .nil))) (es := .cons (.v 3) .nil) (σ := [.ow true d2, .fz false (.int a), .fz false (.int mst), .fz false (.int (1 + r1)), .un, .un]) (σ1 := [.ow true d2, .fz false (.int a), .fz false (.int mst), .fz false (.int (1 + r1)), .un, .un]) (ts := [.tv (.int (1 + r1))]) (by simp -implicitDefEqProofs (disch := omega) only [ev_gl, ev_c, ev_v, ev_fz, ev_mv, ev_nil, ev_cons, ev_op, ev_tup, ev_ktp, ev_lst, ev_dct, ev_and, ev_or, ev_not, ev_ite, ev_call, ev_mk, ev_meth, ev_bm, ev_lc, ev_frd, ev_chn, ev_sl, evC_lk1, evC_lks, ex_nil, ex_seq, ex_asg, ex_aug, ex_setI, ex_augI, ex_setF, ex_ex, ex_ifs, ex_for, ex_whl, ex_ret, ex_retn, ex_brk, ex_cnt, ex_pass, ex_par, ex_raise, _root_.Fly.R.andThen_ok, _root_.Fly.R.toFw_ok, _root_.Fly.RB.toR_ok, _root_.Fly.RB.toFw_ok, _root_.Fly.Fw.andThen_nx, _root_.Fly.Fw.andThen_rt, _root_.Fly.Fw.andThen_ex, _root_.Fly.Fw.andThen_bk, _root_.Fly.Fw.andThen_ct, asB_v, look, looks, val, vals, give, bindT, put, free1, ↓if_t, ↓if_f, List.length_map, decide_true, decide_false, Bool.not_true, Bool.not_false, if_true, if_false, List.cons_append, List.nil_append, List.getElem?_cons_zero, List.getElem?_cons_succ, List.set_cons_zero, List.set_cons_succ, List.length_cons, List.length_nil, idl0, idl1, idl2, idl3, idl4, idt0, idt1, idt2, idt3, add_i, sub_i, neg_i, lt_i, le_i, gt_i, ge_i, eq_i, ne_i, eq_b, ne_b, int_i, len_l, len_t, tuple_l, tuple_t, rev_t, rev_l, pow_10, st1, st2, st3, st4, mod_ok, fdiv_ok, mul_l, mul_r, List.replicate]) rfl (items_rng (by omega) (by omega)) rfl k1).trans rfl
    simp -implicitDefEqProofs (disch := omega) only [ev_gl, ev_c, ev_v, ev_fz, ev_mv, ev_nil, ev_cons, ev_op, ev_tup, ev_ktp, ev_lst, ev_dct, ev_and, ev_or, ev_not, ev_ite, ev_call, ev_mk, ev_meth, ev_bm, ev_lc, ev_frd, ev_chn, ev_sl, evC_lk1, evC_lks, ex_nil, ex_seq, ex_asg, ex_aug, ex_setI, ex_augI, ex_setF, ex_ex, ex_ifs, ex_for, ex_whl, ex_ret, ex_retn, ex_brk, ex_cnt, ex_pass, ex_par, ex_raise, _root_.Fly.R.andThen_ok, _root_.Fly.R.toFw_ok, _root_.Fly.RB.toR_ok, _root_.Fly.RB.toFw_ok, _root_.Fly.Fw.andThen_nx, _root_.Fly.Fw.andThen_rt, _root_.Fly.Fw.andThen_ex, _root_.Fly.Fw.andThen_bk, _root_.Fly.Fw.andThen_ct, asB_v, look, looks, val, vals, give, bindT, put, free1, ↓if_t, ↓if_f, List.length_map, decide_true, decide_false, Bool.not_true, Bool.not_false, if_true, if_false, List.cons_append, List.nil_append, List.getElem?_cons_zero, List.getElem?_cons_succ, List.set_cons_zero, List.set_cons_succ, List.length_cons, List.length_nil, idl0, idl1, idl2, idl3, idl4, idt0, idt1, idt2, idt3, add_i, sub_i, neg_i, lt_i, le_i, gt_i, ge_i, eq_i, ne_i, eq_b, ne_b, int_i, len_l, len_t, tuple_l, tuple_t, rev_t, rev_l, pow_10, st1, st2, st3, st4, mod_ok, fdiv_ok, mul_l, mul_r, List.replicate, draw_call0 e2, z]
    rfl
  · obtain ⟨σ', k1, dd, found, s5, _, rfl, h3, hx, k2, k3⟩ := forL_all (bd := fun x s => bindT s (.nm 5) x false) (b := fun s => exec (run P (n + 1)) (sGrow q) s) (xs0 := rng (1 + r1).toNat)
      (σ := [.ow true d2, .fz false (.int a), .fz false (.int mst), .fz false (.int (1 + r1)), .ow false (.lst []), .un])
      (fun pre σ => ∃ (d : D) (l : List Int) (s5 : Sl), (s5 = .un ∨ ∃ x, s5 = .fz false x) ∧ σ = [.ow true d, .fz false (.int a), .fz false (.int mst), .fz false (.int (1 + r1)), .ow false (.lst (l.map .int)), s5] ∧ HandOk d ∧ (∀ x ∈ l, 0 ≤ x ∧ x < a) ∧ ((pre.length : Int) ≤ l.length ∨ 1 + r1 ≤ l.length) ∧ l.length ≤ 3 * pre.length)
      ⟨d2, [], .un, .inl rfl, rfl, h2, by simp, .inl (by simp), by simp⟩ (by
        rintro pre x post σ e ⟨dd, l, s5, hs5, rfl, hd, hx, hl1, hl2⟩
        have hb : ∀ y : D, bindT [.ow true dd, .fz false (.int a), .fz false (.int mst), .fz false (.int (1 + r1)), .ow false (.lst (l.map .int)), s5] (.nm 5) y false = some [.ow true dd, .fz false (.int a), .fz false (.int mst), .fz false (.int (1 + r1)), .ow false (.lst (l.map .int)), .fz false y] := by
          rcases hs5 with rfl | ⟨_, rfl⟩ <;> exact fun _ => rfl
        obtain ⟨rfl, hpre⟩ := rng_at e
        by_cases hlt : (l.length : Int) < 1 + r1
        · obtain ⟨r, d', e', b', c', h'⟩ := draw_ok hq hd a1 a2 n
          obtain ⟨r', d'', e'', b'', c'', h''⟩ := draw_ok hq h' (m := 3) (by omega) (by omega) n
          have hm : opf .mul [.lst [.int r], .int (1 + r')] = some (true, .lst ((List.replicate (1 + r').toNat r).map .int)) := by
            have z : -(2 ^ 63) ≤ 1 + r' ∧ 1 + r' < 2 ^ 63 ∧ [D.int r].length * (1 + r').toNat ≤ szLine := ⟨by omega, by omega, by simp only [List.length_cons, List.length_nil]; unfold szLine; omega⟩
            simp only [opf, fMul, if_pos z, rep_map]
          have he : mef .extend (.lst (l.map .int)) [.lst ((List.replicate (1 + r').toNat r).map .int)] = some (.non, .lst ((l ++ List.replicate (1 + r').toNat r).map .int)) := by
            have z : (l.map D.int).length + ((List.replicate (1 + r').toNat r).map D.int).length ≤ szLine := by
              simp only [List.length_map, List.length_replicate]
              unfold szLine
              omega
            simp only [mef, if_pos z, List.map_append]
          refine ⟨_, [.ow true d'', .fz false (.int a), .fz false (.int mst), .fz false (.int (1 + r1)), .ow false (.lst ((l ++ List.replicate (1 + r').toNat r).map .int)), .fz false (.int (pre.length : Nat))], hb _, .inl ?_, d'', _, _, .inr ⟨_, rfl⟩, rfl, h'', ?_, ?_, ?_⟩
          · unfold sGrow
            simp -implicitDefEqProofs (disch := omega) only [ev_gl, ev_c, ev_v, ev_fz, ev_mv, ev_nil, ev_cons, ev_op, ev_tup, ev_ktp, ev_lst, ev_dct, ev_and, ev_or, ev_not, ev_ite, ev_call, ev_mk, ev_meth, ev_bm, ev_lc, ev_frd, ev_chn, ev_sl, evC_lk1, evC_lks, ex_nil, ex_seq, ex_asg, ex_aug, ex_setI, ex_augI, ex_setF, ex_ex, ex_ifs, ex_for, ex_whl, ex_ret, ex_retn, ex_brk, ex_cnt, ex_pass, ex_par, ex_raise, _root_.Fly.R.andThen_ok, _root_.Fly.R.toFw_ok, _root_.Fly.RB.toR_ok, _root_.Fly.RB.toFw_ok, _root_.Fly.Fw.andThen_nx, _root_.Fly.Fw.andThen_rt, _root_.Fly.Fw.andThen_ex, _root_.Fly.Fw.andThen_bk, _root_.Fly.Fw.andThen_ct, asB_v, look, looks, val, vals, give, bindT, put, free1, ↓if_t, ↓if_f, List.length_map, decide_true, decide_false, Bool.not_true, Bool.not_false, if_true, if_false, List.cons_append, List.nil_append, List.getElem?_cons_zero, List.getElem?_cons_succ, List.set_cons_zero, List.set_cons_succ, List.length_cons, List.length_nil, idl0, idl1, idl2, idl3, idl4, idt0, idt1, idt2, idt3, add_i, sub_i, neg_i, lt_i, le_i, gt_i, ge_i, eq_i, ne_i, eq_b, ne_b, int_i, len_l, len_t, tuple_l, tuple_t, rev_t, rev_l, pow_10, st1, st2, st3, st4, mod_ok, fdiv_ok, mul_l, mul_r, List.replicate, hlt, draw_call0 e', draw_call0 e'', hm, he, show ((1 : Nat) ≤ szLine) = True by simp [szLine]]
          · intro y hy
            rcases List.mem_append.mp hy with q | q
            · exact hx y q
            · rw [(List.mem_replicate.mp q).2]
              exact ⟨b', c'⟩
          · simp only [List.length_append, List.length_replicate, List.length_cons, List.length_nil]
            omega
          · simp only [List.length_append, List.length_replicate, List.length_cons, List.length_nil]
            omega
        · refine ⟨_, [.ow true dd, .fz false (.int a), .fz false (.int mst), .fz false (.int (1 + r1)), .ow false (.lst (l.map .int)), .fz false (.int (pre.length : Nat))], hb _, .inl ?_, dd, l, _, .inr ⟨_, rfl⟩, rfl, hd, hx, .inr (by omega), by simp; omega⟩
          unfold sGrow
          simp -implicitDefEqProofs (disch := omega) only [ev_gl, ev_c, ev_v, ev_fz, ev_mv, ev_nil, ev_cons, ev_op, ev_tup, ev_ktp, ev_lst, ev_dct, ev_and, ev_or, ev_not, ev_ite, ev_call, ev_mk, ev_meth, ev_bm, ev_lc, ev_frd, ev_chn, ev_sl, evC_lk1, evC_lks, ex_nil, ex_seq, ex_asg, ex_aug, ex_setI, ex_augI, ex_setF, ex_ex, ex_ifs, ex_for, ex_whl, ex_ret, ex_retn, ex_brk, ex_cnt, ex_pass, ex_par, ex_raise, _root_.Fly.R.andThen_ok, _root_.Fly.R.toFw_ok, _root_.Fly.RB.toR_ok, _root_.Fly.RB.toFw_ok, _root_.Fly.Fw.andThen_nx, _root_.Fly.Fw.andThen_rt, _root_.Fly.Fw.andThen_ex, _root_.Fly.Fw.andThen_bk, _root_.Fly.Fw.andThen_ct, asB_v, look, looks, val, vals, give, bindT, put, free1, ↓if_t, ↓if_f, List.length_map, decide_true, decide_false, Bool.not_true, Bool.not_false, if_true, if_false, List.cons_append, List.nil_append, List.getElem?_cons_zero, List.getElem?_cons_succ, List.set_cons_zero, List.set_cons_succ, List.length_cons, List.length_nil, idl0, idl1, idl2, idl3, idl4, idt0, idt1, idt2, idt3, add_i, sub_i, neg_i, lt_i, le_i, gt_i, ge_i, eq_i, ne_i, eq_b, ne_b, int_i, len_l, len_t, tuple_l, tuple_t, rev_t, rev_l, pow_10, st1, st2, st3, st4, mod_ok, fdiv_ok, mul_l, mul_r, List.replicate, hlt])
    have hlen : 1 + r1 ≤ found.length := by
      rw [rng_len] at k2
      omega
    have hcut : fSl none (some (1 + r1)) (.lst (found.map .int)) = some (true, .lst ((found.take (1 + r1).toNat).map .int)) := by
      have z : cut (found.map D.int) none (some (1 + r1)) = (found.take (1 + r1).toNat).map .int := by
        unfold cut border
        simp only [List.drop_zero, List.length_map]
        rw [if_neg (by omega), List.map_take]
        split
        · rfl
        · rw [Nat.sub_zero, show (1 + r1).toNat = found.length by omega]
      simp only [fSl, z]
    refine ⟨found.take (1 + r1).toNat, dd, ?_, ?_, ?_, fun x hm => hx x (List.mem_of_mem_take hm), h3⟩
    · rw [run_of hP rfl]
      unfold sRow
      show CR.chk _ (Fw.toCR 3 (exec (run P (n + 1)) _ [.ow true d, .fz false (.int a), .fz false (.int mst), .un, .un, .un])) = _
      rw [seq_nx (σ1 := [.ow true d1, .fz false (.int a), .fz false (.int mst), .fz false (.int (1 + r1)), .un, .un]) (by simp -implicitDefEqProofs (disch := omega) only [ev_gl, ev_c, ev_v, ev_fz, ev_mv, ev_nil, ev_cons, ev_op, ev_tup, ev_ktp, ev_lst, ev_dct, ev_and, ev_or, ev_not, ev_ite, ev_call, ev_mk, ev_meth, ev_bm, ev_lc, ev_frd, ev_chn, ev_sl, evC_lk1, evC_lks, ex_nil, ex_seq, ex_asg, ex_aug, ex_setI, ex_augI, ex_setF, ex_ex, ex_ifs, ex_for, ex_whl, ex_ret, ex_retn, ex_brk, ex_cnt, ex_pass, ex_par, ex_raise, _root_.Fly.R.andThen_ok, _root_.Fly.R.toFw_ok, _root_.Fly.RB.toR_ok, _root_.Fly.RB.toFw_ok, _root_.Fly.Fw.andThen_nx, _root_.Fly.Fw.andThen_rt, _root_.Fly.Fw.andThen_ex, _root_.Fly.Fw.andThen_bk, _root_.Fly.Fw.andThen_ct, asB_v, look, looks, val, vals, give, bindT, put, free1, ↓if_t, ↓if_f, List.length_map, decide_true, decide_false, Bool.not_true, Bool.not_false, if_true, if_false, List.cons_append, List.nil_append, List.getElem?_cons_zero, List.getElem?_cons_succ, List.set_cons_zero, List.set_cons_succ, List.length_cons, List.length_nil, idl0, idl1, idl2, idl3, idl4, idt0, idt1, idt2, idt3, add_i, sub_i, neg_i, lt_i, le_i, gt_i, ge_i, eq_i, ne_i, eq_b, ne_b, int_i, len_l, len_t, tuple_l, tuple_t, rev_t, rev_l, pow_10, st1, st2, st3, st4, mod_ok, fdiv_ok, mul_l, mul_r, List.replicate, draw_call0 e1])]
      rw [seq_nx (σ1 := [.ow true d2, .fz false (.int a), .fz false (.int mst), .fz false (.int (1 + r1)), .un, .un]) (by simp -implicitDefEqProofs (disch := omega) only [ev_gl, ev_c, ev_v, ev_fz, ev_mv, ev_nil, ev_cons, ev_op, ev_tup, ev_ktp, ev_lst, ev_dct, ev_and, ev_or, ev_not, ev_ite, ev_call, ev_mk, ev_meth, ev_bm, ev_lc, ev_frd, ev_chn, ev_sl, evC_lk1, evC_lks, ex_nil, ex_seq, ex_asg, ex_aug, ex_setI, ex_augI, ex_setF, ex_ex, ex_ifs, ex_for, ex_whl, ex_ret, ex_retn, ex_brk, ex_cnt, ex_pass, ex_par, ex_raise, _root_.Fly.R.andThen_ok, _root_.Fly.R.toFw_ok, _root_.Fly.RB.toR_ok, _root_.Fly.RB.toFw_ok, _root_.Fly.Fw.andThen_nx, _root_.Fly.Fw.andThen_rt, _root_.Fly.Fw.andThen_ex, _root_.Fly.Fw.andThen_bk, _root_.Fly.Fw.andThen_ct, asB_v, look, looks, val, vals, give, bindT, put, free1, ↓if_t, ↓if_f, List.length_map, decide_true, decide_false, Bool.not_true, Bool.not_false, if_true, if_false, List.cons_append, List.nil_append, List.getElem?_cons_zero, List.getElem?_cons_succ, List.set_cons_zero, List.set_cons_succ, List.length_cons, List.length_nil, idl0, idl1, idl2, idl3, idl4, idt0, idt1, idt2, idt3, add_i, sub_i, neg_i, lt_i, le_i, gt_i, ge_i, eq_i, ne_i, eq_b, ne_b, int_i, len_l, len_t, tuple_l, tuple_t, rev_t, rev_l, pow_10, st1, st2, st3, st4, mod_ok, fdiv_ok, mul_l, mul_r, List.replicate, draw_call0 e2, hz])]
      rw [seq_nx (σ1 := [.ow true d2, .fz false (.int a), .fz false (.int mst), .fz false (.int (1 + r1)), .ow false (.lst []), .un]) (by simp -implicitDefEqProofs (disch := omega) only [ev_gl, ev_c, ev_v, ev_fz, ev_mv, ev_nil, ev_cons, ev_op, ev_tup, ev_ktp, ev_lst, ev_dct, ev_and, ev_or, ev_not, ev_ite, ev_call, ev_mk, ev_meth, ev_bm, ev_lc, ev_frd, ev_chn, ev_sl, evC_lk1, evC_lks, ex_nil, ex_seq, ex_asg, ex_aug, ex_setI, ex_augI, ex_setF, ex_ex, ex_ifs, ex_for, ex_whl, ex_ret, ex_retn, ex_brk, ex_cnt, ex_pass, ex_par, ex_raise, _root_.Fly.R.andThen_ok, _root_.Fly.R.toFw_ok, _root_.Fly.RB.toR_ok, _root_.Fly.RB.toFw_ok, _root_.Fly.Fw.andThen_nx, _root_.Fly.Fw.andThen_rt, _root_.Fly.Fw.andThen_ex, _root_.Fly.Fw.andThen_bk, _root_.Fly.Fw.andThen_ct, asB_v, look, looks, val, vals, give, bindT, put, free1, ↓if_t, ↓if_f, List.length_map, decide_true, decide_false, Bool.not_true, Bool.not_false, if_true, if_false, List.cons_append, List.nil_append, List.getElem?_cons_zero, List.getElem?_cons_succ, List.set_cons_zero, List.set_cons_succ, List.length_cons, List.length_nil, idl0, idl1, idl2, idl3, idl4, idt0, idt1, idt2, idt3, add_i, sub_i, neg_i, lt_i, le_i, gt_i, ge_i, eq_i, ne_i, eq_b, ne_b, int_i, len_l, len_t, tuple_l, tuple_t, rev_t, rev_l, pow_10, st1, st2, st3, st4, mod_ok, fdiv_ok, mul_l, mul_r, List.replicate, show ((0 : Nat) ≤ szLine) = True by simp])]
      rw [seq_nx (σ1 := [.ow true dd, .fz false (.int a), .fz false (.int mst), .fz false (.int (1 + r1)), .ow false (.lst (found.map .int)), s5]) ((for_run (ts := [.tv (.int (1 + r1))]) (by simp -implicitDefEqProofs (disch := omega) only [ev_gl, ev_c, ev_v, ev_fz, ev_mv, ev_nil, ev_cons, ev_op, ev_tup, ev_ktp, ev_lst, ev_dct, ev_and, ev_or, ev_not, ev_ite, ev_call, ev_mk, ev_meth, ev_bm, ev_lc, ev_frd, ev_chn, ev_sl, evC_lk1, evC_lks, ex_nil, ex_seq, ex_asg, ex_aug, ex_setI, ex_augI, ex_setF, ex_ex, ex_ifs, ex_for, ex_whl, ex_ret, ex_retn, ex_brk, ex_cnt, ex_pass, ex_par, ex_raise, _root_.Fly.R.andThen_ok, _root_.Fly.R.toFw_ok, _root_.Fly.RB.toR_ok, _root_.Fly.RB.toFw_ok, _root_.Fly.Fw.andThen_nx, _root_.Fly.Fw.andThen_rt, _root_.Fly.Fw.andThen_ex, _root_.Fly.Fw.andThen_bk, _root_.Fly.Fw.andThen_ct, asB_v, look, looks, val, vals, give, bindT, put, free1, ↓if_t, ↓if_f, List.length_map, decide_true, decide_false, Bool.not_true, Bool.not_false, if_true, if_false, List.cons_append, List.nil_append, List.getElem?_cons_zero, List.getElem?_cons_succ, List.set_cons_zero, List.set_cons_succ, List.length_cons, List.length_nil, idl0, idl1, idl2, idl3, idl4, idt0, idt1, idt2, idt3, add_i, sub_i, neg_i, lt_i, le_i, gt_i, ge_i, eq_i, ne_i, eq_b, ne_b, int_i, len_l, len_t, tuple_l, tuple_t, rev_t, rev_l, pow_10, st1, st2, st3, st4, mod_ok, fdiv_ok, mul_l, mul_r, List.replicate]) rfl (items_rng (by omega) (by omega)) rfl).trans k1)]
      simp -implicitDefEqProofs (disch := omega) only [ev_gl, ev_c, ev_v, ev_fz, ev_mv, ev_nil, ev_cons, ev_op, ev_tup, ev_ktp, ev_lst, ev_dct, ev_and, ev_or, ev_not, ev_ite, ev_call, ev_mk, ev_meth, ev_bm, ev_lc, ev_frd, ev_chn, ev_sl, evC_lk1, evC_lks, ex_nil, ex_seq, ex_asg, ex_aug, ex_setI, ex_augI, ex_setF, ex_ex, ex_ifs, ex_for, ex_whl, ex_ret, ex_retn, ex_brk, ex_cnt, ex_pass, ex_par, ex_raise, _root_.Fly.R.andThen_ok, _root_.Fly.R.toFw_ok, _root_.Fly.RB.toR_ok, _root_.Fly.RB.toFw_ok, _root_.Fly.Fw.andThen_nx, _root_.Fly.Fw.andThen_rt, _root_.Fly.Fw.andThen_ex, _root_.Fly.Fw.andThen_bk, _root_.Fly.Fw.andThen_ct, asB_v, look, looks, val, vals, give, bindT, put, free1, ↓if_t, ↓if_f, List.length_map, decide_true, decide_false, Bool.not_true, Bool.not_false, if_true, if_false, List.cons_append, List.nil_append, List.getElem?_cons_zero, List.getElem?_cons_succ, List.set_cons_zero, List.set_cons_succ, List.length_cons, List.length_nil, idl0, idl1, idl2, idl3, idl4, idt0, idt1, idt2, idt3, add_i, sub_i, neg_i, lt_i, le_i, gt_i, ge_i, eq_i, ne_i, eq_b, ne_b, int_i, len_l, len_t, tuple_l, tuple_t, rev_t, rev_l, pow_10, st1, st2, st3, st4, mod_ok, fdiv_ok, mul_l, mul_r, List.replicate, hcut, partI]
      rfl
    · rw [List.length_take]
      omega
    · rw [List.length_take]
      omega
end Fly
end

section
set_option linter.all false
set_option maxRecDepth 100000
set_option maxHeartbeats 2000000
/-! The laws' own comparison (FlyIs). -/
namespace Fly
def sIs (q : Nat) : S :=
 (.seq (.ifs (.op (.isi [4, 5]) (.cons (.v 1) .nil))
  (.seq (.ifs (.or (.op .ne (.cons (.op (.isi [4]) (.cons (.v 0) .nil)) (.cons (.op (.isi [4]) (.cons (.v 1) .nil)) .nil))) (.not (.op (.isi [4, 5]) (.cons (.v 0) .nil))))
   (.seq (.ret (.c (.bl false)))
   .nil)
   .nil)
  (.seq (.ret (.and (.op .eq (.cons (.op .len (.cons (.v 0) .nil)) (.cons (.op .len (.cons (.v 1) .nil)) .nil))) (.op .all (.cons (.lc (.call q (.cons (.v 2) (.cons (.v 3) .nil))) (.tp [2, 3]) .zip (.cons (.v 0) (.cons (.v 1) .nil)) (.c (.bl true))) .nil))))
  .nil))
  .nil)
 (.seq (.ifs (.op (.isi [4, 5]) (.cons (.v 0) .nil))
  (.seq (.ret (.c (.bl false)))
  .nil)
  .nil)
 (.seq (.ret (.and (.op .eq (.cons (.op (.isi [1]) (.cons (.v 0) .nil)) (.cons (.op (.isi [1]) (.cons (.v 1) .nil)) .nil))) (.op .eq (.cons (.v 0) (.cons (.v 1) .nil)))))
 .nil)))
/- data that the comparison is asked of, at most so deep -/
mutual
def okD : Nat → D → Bool
  | _, .bl _ => true
  | _, .int _ => true
  | n + 1, .tup l => decide (l.length ≤ szLine) && okDs n l
  | n + 1, .lst l => decide (l.length ≤ szLine) && okDs n l
  | _, _ => false
def okDs : Nat → List D → Bool
  | _, [] => true
  | n, a :: l => okD n a && okDs n l
end
theorem okDs_mem {n : Nat} : ∀ {l : List D}, okDs n l = true → ∀ d ∈ l, okD n d = true
  | a :: l, h, d, hd => by
    simp only [okDs, Bool.and_eq_true] at h
    rcases List.mem_cons.mp hd with rfl | hd
    · exact h.1
    · exact okDs_mem h.2 d hd
  | [], _, _, hd => nomatch hd
theorem okDs_ints {n : Nat} : ∀ {l : List Int}, okDs n (l.map .int) = true
  | [] => rfl
  | a :: l => by simp only [List.map_cons, okDs, okDs_ints, Bool.and_true]; rfl
def Arg (d : D) (s : Sl) : Prop := s = .fz false d ∨ ∃ b, s = .ow b d
theorem bools_true (k : Nat) : bools (List.replicate k (.bl true)) = some (List.replicate k true) := by
  induction k with
  | zero => rfl
  | succ k ih => simp [List.replicate_succ, bools, ih]
theorem all_true (k : Nat) : opf .all [.lst (List.replicate k (.bl true))] = some (false, .bl true) := by
  simp [opf, fAll, bools_true]
theorem is_zip {P : List Fn} {q n : Nat} {l : List D} (h0 h1 : Sl) (hz : l.length ≤ szLine) (ih : ∀ x ∈ l, run P n q [.fz false x, .fz false x] = .ret (.bl true) false [.fz false x, .fz false x]) :
    ∃ s2 s3, lcL [2, 3] (fun x s => bindT s (.tp [2, 3]) x false) (fun s => asB (ev (run P n) (.c (.bl true)) s)) (fun s => ev (run P n) (.call q (.cons (.v 2) (.cons (.v 3) .nil))) s) ((l.zip l).map fun p => .tup [p.1, p.2]) [h0, h1, .un, .un] [] = .ok [.tf (.lst (List.replicate l.length (.bl true)))] [h0, h1, s2, s3] := by
  obtain ⟨σ', out, k1, ⟨s2, s3, rfl, rfl⟩, k3⟩ := lcL_all (own := [2, 3]) (bd := fun x s => bindT s (.tp [2, 3]) x false) (cnd := fun s => asB (ev (run P n) (.c (.bl true)) s)) (el := fun s => ev (run P n) (.call q (.cons (.v 2) (.cons (.v 3) .nil))) s)
    (xs0 := (l.zip l).map fun p => .tup [p.1, p.2]) (σ := [h0, h1, .un, .un]) (fun pre σ acc => ∃ s2 s3, σ = [h0, h1, s2, s3] ∧ acc = List.replicate pre.length (.bl true)) ⟨_, _, rfl, rfl⟩ (by simpa using hz) (by
      rintro pre x post σ acc e hl ⟨s2, s3, rfl, rfl⟩
      have hx : x ∈ (l.zip l).map fun p => D.tup [p.1, p.2] := by rw [e]; simp
      obtain ⟨⟨y, y'⟩, hy, rfl⟩ := List.mem_map.mp hx
      have hyy : y = y' ∧ y ∈ l := by
        rw [List.mem_iff_getElem?] at hy
        obtain ⟨i, hi⟩ := hy
        rw [List.getElem?_zip_eq_some] at hi
        obtain ⟨a, b⟩ := hi
        rw [a] at b
        exact ⟨Option.some.inj b, List.mem_of_getElem? a⟩
      obtain ⟨rfl, hm⟩ := hyy
      refine ⟨[h0, h1, .fz false y, .fz false y], [h0, h1, .fz false y, .fz false y], [h0, h1, .fz false y, .fz false y], .tv (.bl true), .bl true, rfl, ?_, ?_, rfl, _, _, rfl, ?_⟩
      · simp -implicitDefEqProofs (disch := omega) only [ev_gl, ev_c, ev_v, ev_fz, ev_mv, ev_nil, ev_cons, ev_op, ev_tup, ev_ktp, ev_lst, ev_dct, ev_and, ev_or, ev_not, ev_ite, ev_call, ev_mk, ev_meth, ev_bm, ev_lc, ev_frd, ev_chn, ev_sl, evC_lk1, evC_lks, ex_nil, ex_seq, ex_asg, ex_aug, ex_setI, ex_augI, ex_setF, ex_ex, ex_ifs, ex_for, ex_whl, ex_ret, ex_retn, ex_brk, ex_cnt, ex_pass, ex_par, ex_raise, _root_.Fly.R.andThen_ok, _root_.Fly.R.toFw_ok, _root_.Fly.RB.toR_ok, _root_.Fly.RB.toFw_ok, _root_.Fly.Fw.andThen_nx, _root_.Fly.Fw.andThen_rt, _root_.Fly.Fw.andThen_ex, _root_.Fly.Fw.andThen_bk, _root_.Fly.Fw.andThen_ct, asB_v, look, looks, val, vals, give, bindT, put, free1, ↓if_t, ↓if_f, List.length_map, decide_true, decide_false, Bool.not_true, Bool.not_false, if_true, if_false, List.cons_append, List.nil_append, List.getElem?_cons_zero, List.getElem?_cons_succ, List.set_cons_zero, List.set_cons_succ, List.length_cons, List.length_nil, idl0, idl1, idl2, idl3, idl4, idt0, idt1, idt2, idt3, add_i, sub_i, neg_i, lt_i, le_i, gt_i, ge_i, eq_i, ne_i, eq_b, ne_b, int_i, len_l, len_t, tuple_l, tuple_t, rev_t, rev_l, pow_10, st1, st2, st3, st4, mod_ok, fdiv_ok, mul_l, mul_r, List.replicate]
      · simp -implicitDefEqProofs (disch := omega) only [ev_gl, ev_c, ev_v, ev_fz, ev_mv, ev_nil, ev_cons, ev_op, ev_tup, ev_ktp, ev_lst, ev_dct, ev_and, ev_or, ev_not, ev_ite, ev_call, ev_mk, ev_meth, ev_bm, ev_lc, ev_frd, ev_chn, ev_sl, evC_lk1, evC_lks, ex_nil, ex_seq, ex_asg, ex_aug, ex_setI, ex_augI, ex_setF, ex_ex, ex_ifs, ex_for, ex_whl, ex_ret, ex_retn, ex_brk, ex_cnt, ex_pass, ex_par, ex_raise, _root_.Fly.R.andThen_ok, _root_.Fly.R.toFw_ok, _root_.Fly.RB.toR_ok, _root_.Fly.RB.toFw_ok, _root_.Fly.Fw.andThen_nx, _root_.Fly.Fw.andThen_rt, _root_.Fly.Fw.andThen_ex, _root_.Fly.Fw.andThen_bk, _root_.Fly.Fw.andThen_ct, asB_v, look, looks, val, vals, give, bindT, put, free1, ↓if_t, ↓if_f, List.length_map, decide_true, decide_false, Bool.not_true, Bool.not_false, if_true, if_false, List.cons_append, List.nil_append, List.getElem?_cons_zero, List.getElem?_cons_succ, List.set_cons_zero, List.set_cons_succ, List.length_cons, List.length_nil, idl0, idl1, idl2, idl3, idl4, idt0, idt1, idt2, idt3, add_i, sub_i, neg_i, lt_i, le_i, gt_i, ge_i, eq_i, ne_i, eq_b, ne_b, int_i, len_l, len_t, tuple_l, tuple_t, rev_t, rev_l, pow_10, st1, st2, st3, st4, mod_ok, fdiv_ok, mul_l, mul_r, List.replicate, called, lend, back, ih y hm, Option.map_some]
        try rfl
      · simp [List.replicate_succ'])
  rw [show ((l.zip l).map fun p => D.tup [p.1, p.2]).length = l.length by simp] at k1
  exact ⟨s2, s3, k1⟩
section
variable {i : Int} {b : Bool} {l : List D}
theorem isi_int45 : opf (.isi [4, 5]) [.int i] = some (false, .bl false) := rfl
theorem isi_int1 : opf (.isi [1]) [.int i] = some (false, .bl false) := rfl
theorem isi_bl45 : opf (.isi [4, 5]) [.bl b] = some (false, .bl false) := rfl
theorem isi_bl1 : opf (.isi [1]) [.bl b] = some (false, .bl true) := rfl
theorem isi_tup45 : opf (.isi [4, 5]) [.tup l] = some (false, .bl true) := rfl
theorem isi_lst45 : opf (.isi [4, 5]) [.lst l] = some (false, .bl true) := rfl
theorem isi_tup4 : opf (.isi [4]) [.tup l] = some (false, .bl true) := rfl
theorem isi_lst4 : opf (.isi [4]) [.lst l] = some (false, .bl false) := rfl
end
/-- the run of a def of two parameters that are its own -/
theorem run2 {e0 e1 : D} {P : List Fn} {f n ns : Nat} {s0 s1 : Sl} {rest : List Sl} {B : S} {d : D} {o : Bool} (hP : P[f]? = some ⟨2, ns, B⟩) (a0 : Arg e0 s0) (a1 : Arg e1 s1) (h : exec (run P n) B ([s0, s1] ++ List.replicate (ns - 2) .un) = .rt d o (s0 :: s1 :: rest)) :
    run P (n + 1) f [s0, s1] = .ret d o [s0, s1] := by
  rw [run_of hP rfl]
  show CR.chk _ (Fw.toCR 2 (exec (run P n) B ([s0, s1] ++ List.replicate (ns - 2) .un))) = _
  rw [h]
  rcases a0 with rfl | ⟨b0, rfl⟩ <;> rcases a1 with rfl | ⟨b1, rfl⟩ <;> (try cases b0) <;> (try cases b1) <;> rfl
theorem is_atom {P : List Fn} {f n : Nat} {d : D} {s0 s1 : Sl} (hP : P[f]? = some ⟨2, 4, sIs f⟩) (a0 : Arg d s0) (a1 : Arg d s1) : (∃ b, d = .bl b) ∨ (∃ i, d = .int i) → run P (n + 1) f [s0, s1] = .ret (.bl true) false [s0, s1] := by
  rintro (⟨b, rfl⟩ | ⟨i, rfl⟩)
  · refine run2 hP a0 a1 (rest := [.un, .un]) ?_
    unfold sIs
    rcases a0 with rfl | ⟨_, rfl⟩ <;> rcases a1 with rfl | ⟨_, rfl⟩ <;> simp -implicitDefEqProofs (disch := omega) only [ev_gl, ev_c, ev_v, ev_fz, ev_mv, ev_nil, ev_cons, ev_op, ev_tup, ev_ktp, ev_lst, ev_dct, ev_and, ev_or, ev_not, ev_ite, ev_call, ev_mk, ev_meth, ev_bm, ev_lc, ev_frd, ev_chn, ev_sl, evC_lk1, evC_lks, ex_nil, ex_seq, ex_asg, ex_aug, ex_setI, ex_augI, ex_setF, ex_ex, ex_ifs, ex_for, ex_whl, ex_ret, ex_retn, ex_brk, ex_cnt, ex_pass, ex_par, ex_raise, _root_.Fly.R.andThen_ok, _root_.Fly.R.toFw_ok, _root_.Fly.RB.toR_ok, _root_.Fly.RB.toFw_ok, _root_.Fly.Fw.andThen_nx, _root_.Fly.Fw.andThen_rt, _root_.Fly.Fw.andThen_ex, _root_.Fly.Fw.andThen_bk, _root_.Fly.Fw.andThen_ct, asB_v, look, looks, val, vals, give, bindT, put, free1, ↓if_t, ↓if_f, List.length_map, decide_true, decide_false, Bool.not_true, Bool.not_false, if_true, if_false, List.cons_append, List.nil_append, List.getElem?_cons_zero, List.getElem?_cons_succ, List.set_cons_zero, List.set_cons_succ, List.length_cons, List.length_nil, idl0, idl1, idl2, idl3, idl4, idt0, idt1, idt2, idt3, add_i, sub_i, neg_i, lt_i, le_i, gt_i, ge_i, eq_i, ne_i, eq_b, ne_b, int_i, len_l, len_t, tuple_l, tuple_t, rev_t, rev_l, pow_10, st1, st2, st3, st4, mod_ok, fdiv_ok, mul_l, mul_r, List.replicate, isi_bl45, isi_bl1, beq_self_eq_true]
  · refine run2 hP a0 a1 (rest := [.un, .un]) ?_
    unfold sIs
    rcases a0 with rfl | ⟨_, rfl⟩ <;> rcases a1 with rfl | ⟨_, rfl⟩ <;> simp -implicitDefEqProofs (disch := omega) only [ev_gl, ev_c, ev_v, ev_fz, ev_mv, ev_nil, ev_cons, ev_op, ev_tup, ev_ktp, ev_lst, ev_dct, ev_and, ev_or, ev_not, ev_ite, ev_call, ev_mk, ev_meth, ev_bm, ev_lc, ev_frd, ev_chn, ev_sl, evC_lk1, evC_lks, ex_nil, ex_seq, ex_asg, ex_aug, ex_setI, ex_augI, ex_setF, ex_ex, ex_ifs, ex_for, ex_whl, ex_ret, ex_retn, ex_brk, ex_cnt, ex_pass, ex_par, ex_raise, _root_.Fly.R.andThen_ok, _root_.Fly.R.toFw_ok, _root_.Fly.RB.toR_ok, _root_.Fly.RB.toFw_ok, _root_.Fly.Fw.andThen_nx, _root_.Fly.Fw.andThen_rt, _root_.Fly.Fw.andThen_ex, _root_.Fly.Fw.andThen_bk, _root_.Fly.Fw.andThen_ct, asB_v, look, looks, val, vals, give, bindT, put, free1, ↓if_t, ↓if_f, List.length_map, decide_true, decide_false, Bool.not_true, Bool.not_false, if_true, if_false, List.cons_append, List.nil_append, List.getElem?_cons_zero, List.getElem?_cons_succ, List.set_cons_zero, List.set_cons_succ, List.length_cons, List.length_nil, idl0, idl1, idl2, idl3, idl4, idt0, idt1, idt2, idt3, add_i, sub_i, neg_i, lt_i, le_i, gt_i, ge_i, eq_i, ne_i, eq_b, ne_b, int_i, len_l, len_t, tuple_l, tuple_t, rev_t, rev_l, pow_10, st1, st2, st3, st4, mod_ok, fdiv_ok, mul_l, mul_r, List.replicate, isi_int45, isi_int1, beq_self_eq_true]
theorem is_seq {P : List Fn} {f n : Nat} {d : D} {s0 s1 : Sl} (hP : P[f]? = some ⟨2, 4, sIs f⟩) (a0 : Arg d s0) (a1 : Arg d s1) (l : List D) (hz : l.length ≤ szLine) (ih : ∀ x ∈ l, run P n f [.fz false x, .fz false x] = .ret (.bl true) false [.fz false x, .fz false x]) (hl : d = .tup l ∨ d = .lst l) :
    run P (n + 1) f [s0, s1] = .ret (.bl true) false [s0, s1] := by
  have hi : items .zip [d, d] = some ((l.zip l).map fun p => .tup [p.1, p.2]) := by rcases hl with rfl | rfl <;> rfl
  refine run2 hP a0 a1 (rest := [.un, .un]) ?_
  have z : ev (run P n) (.lc (.call f (.cons (.v 2) (.cons (.v 3) .nil))) (.tp [2, 3]) .zip (.cons (.v 0) (.cons (.v 1) .nil)) (.c (.bl true))) [s0, s1, .un, .un] = .ok [.tf (.lst (List.replicate l.length (.bl true)))] [s0, s1, .un, .un] := by
    have go : ∀ (t0 t1 : Tok) (h0 h1 : Sl), ev (run P n) (.cons (.v 0) (.cons (.v 1) .nil)) [s0, s1, .un, .un] = .ok [t0, t1] [s0, s1, .un, .un] → looks [s0, s1, .un, .un] [t0, t1] = some [d, d] → hideS [s0, s1, .un, .un] [t0, t1] = [h0, h1, .un, .un] →
        (∀ s2 s3, showS [s0, s1, .un, .un] (unwipeS [h0, h1, .un, .un] [h0, h1, s2, s3] [2, 3]) [t0, t1] = [s0, s1, .un, .un]) → ev (run P n) (.lc (.call f (.cons (.v 2) (.cons (.v 3) .nil))) (.tp [2, 3]) .zip (.cons (.v 0) (.cons (.v 1) .nil)) (.c (.bl true))) [s0, s1, .un, .un] = .ok [.tf (.lst (List.replicate l.length (.bl true)))] [s0, s1, .un, .un] := by
      intro t0 t1 h0 h1 e1 e2 e3 e4
      obtain ⟨s2, s3, z⟩ := is_zip (P := P) (q := f) h0 h1 hz ih
      have q := lc_run (cf := run P n) (t := .tp [2, 3]) (k := .zip) (elt := .call f (.cons (.v 2) (.cons (.v 3) .nil))) (cnd := .c (.bl true)) e1 e2 hi (by rw [e3]; rfl) (by rw [e3]; exact z)
      rw [e3, show (Tg.tp [2, 3]).own = [2, 3] from rfl, e4] at q
      exact q
    rcases a0 with rfl | ⟨b0, rfl⟩ <;> rcases a1 with rfl | ⟨b1, rfl⟩
    · exact go (.tv d) (.tv d) _ _ (by simp -implicitDefEqProofs (disch := omega) only [ev_gl, ev_c, ev_v, ev_fz, ev_mv, ev_nil, ev_cons, ev_op, ev_tup, ev_ktp, ev_lst, ev_dct, ev_and, ev_or, ev_not, ev_ite, ev_call, ev_mk, ev_meth, ev_bm, ev_lc, ev_frd, ev_chn, ev_sl, evC_lk1, evC_lks, ex_nil, ex_seq, ex_asg, ex_aug, ex_setI, ex_augI, ex_setF, ex_ex, ex_ifs, ex_for, ex_whl, ex_ret, ex_retn, ex_brk, ex_cnt, ex_pass, ex_par, ex_raise, _root_.Fly.R.andThen_ok, _root_.Fly.R.toFw_ok, _root_.Fly.RB.toR_ok, _root_.Fly.RB.toFw_ok, _root_.Fly.Fw.andThen_nx, _root_.Fly.Fw.andThen_rt, _root_.Fly.Fw.andThen_ex, _root_.Fly.Fw.andThen_bk, _root_.Fly.Fw.andThen_ct, asB_v, look, looks, val, vals, give, bindT, put, free1, ↓if_t, ↓if_f, List.length_map, decide_true, decide_false, Bool.not_true, Bool.not_false, if_true, if_false, List.cons_append, List.nil_append, List.getElem?_cons_zero, List.getElem?_cons_succ, List.set_cons_zero, List.set_cons_succ, List.length_cons, List.length_nil, idl0, idl1, idl2, idl3, idl4, idt0, idt1, idt2, idt3, add_i, sub_i, neg_i, lt_i, le_i, gt_i, ge_i, eq_i, ne_i, eq_b, ne_b, int_i, len_l, len_t, tuple_l, tuple_t, rev_t, rev_l, pow_10, st1, st2, st3, st4, mod_ok, fdiv_ok, mul_l, mul_r, List.replicate]) rfl rfl fun _ _ => rfl
    · exact go (.tv d) (.br 1) _ _ (by simp -implicitDefEqProofs (disch := omega) only [ev_gl, ev_c, ev_v, ev_fz, ev_mv, ev_nil, ev_cons, ev_op, ev_tup, ev_ktp, ev_lst, ev_dct, ev_and, ev_or, ev_not, ev_ite, ev_call, ev_mk, ev_meth, ev_bm, ev_lc, ev_frd, ev_chn, ev_sl, evC_lk1, evC_lks, ex_nil, ex_seq, ex_asg, ex_aug, ex_setI, ex_augI, ex_setF, ex_ex, ex_ifs, ex_for, ex_whl, ex_ret, ex_retn, ex_brk, ex_cnt, ex_pass, ex_par, ex_raise, _root_.Fly.R.andThen_ok, _root_.Fly.R.toFw_ok, _root_.Fly.RB.toR_ok, _root_.Fly.RB.toFw_ok, _root_.Fly.Fw.andThen_nx, _root_.Fly.Fw.andThen_rt, _root_.Fly.Fw.andThen_ex, _root_.Fly.Fw.andThen_bk, _root_.Fly.Fw.andThen_ct, asB_v, look, looks, val, vals, give, bindT, put, free1, ↓if_t, ↓if_f, List.length_map, decide_true, decide_false, Bool.not_true, Bool.not_false, if_true, if_false, List.cons_append, List.nil_append, List.getElem?_cons_zero, List.getElem?_cons_succ, List.set_cons_zero, List.set_cons_succ, List.length_cons, List.length_nil, idl0, idl1, idl2, idl3, idl4, idt0, idt1, idt2, idt3, add_i, sub_i, neg_i, lt_i, le_i, gt_i, ge_i, eq_i, ne_i, eq_b, ne_b, int_i, len_l, len_t, tuple_l, tuple_t, rev_t, rev_l, pow_10, st1, st2, st3, st4, mod_ok, fdiv_ok, mul_l, mul_r, List.replicate]) rfl rfl fun _ _ => rfl
    · exact go (.br 0) (.tv d) _ _ (by simp -implicitDefEqProofs (disch := omega) only [ev_gl, ev_c, ev_v, ev_fz, ev_mv, ev_nil, ev_cons, ev_op, ev_tup, ev_ktp, ev_lst, ev_dct, ev_and, ev_or, ev_not, ev_ite, ev_call, ev_mk, ev_meth, ev_bm, ev_lc, ev_frd, ev_chn, ev_sl, evC_lk1, evC_lks, ex_nil, ex_seq, ex_asg, ex_aug, ex_setI, ex_augI, ex_setF, ex_ex, ex_ifs, ex_for, ex_whl, ex_ret, ex_retn, ex_brk, ex_cnt, ex_pass, ex_par, ex_raise, _root_.Fly.R.andThen_ok, _root_.Fly.R.toFw_ok, _root_.Fly.RB.toR_ok, _root_.Fly.RB.toFw_ok, _root_.Fly.Fw.andThen_nx, _root_.Fly.Fw.andThen_rt, _root_.Fly.Fw.andThen_ex, _root_.Fly.Fw.andThen_bk, _root_.Fly.Fw.andThen_ct, asB_v, look, looks, val, vals, give, bindT, put, free1, ↓if_t, ↓if_f, List.length_map, decide_true, decide_false, Bool.not_true, Bool.not_false, if_true, if_false, List.cons_append, List.nil_append, List.getElem?_cons_zero, List.getElem?_cons_succ, List.set_cons_zero, List.set_cons_succ, List.length_cons, List.length_nil, idl0, idl1, idl2, idl3, idl4, idt0, idt1, idt2, idt3, add_i, sub_i, neg_i, lt_i, le_i, gt_i, ge_i, eq_i, ne_i, eq_b, ne_b, int_i, len_l, len_t, tuple_l, tuple_t, rev_t, rev_l, pow_10, st1, st2, st3, st4, mod_ok, fdiv_ok, mul_l, mul_r, List.replicate]) rfl rfl fun _ _ => rfl
    · exact go (.br 0) (.br 1) _ _ (by simp -implicitDefEqProofs (disch := omega) only [ev_gl, ev_c, ev_v, ev_fz, ev_mv, ev_nil, ev_cons, ev_op, ev_tup, ev_ktp, ev_lst, ev_dct, ev_and, ev_or, ev_not, ev_ite, ev_call, ev_mk, ev_meth, ev_bm, ev_lc, ev_frd, ev_chn, ev_sl, evC_lk1, evC_lks, ex_nil, ex_seq, ex_asg, ex_aug, ex_setI, ex_augI, ex_setF, ex_ex, ex_ifs, ex_for, ex_whl, ex_ret, ex_retn, ex_brk, ex_cnt, ex_pass, ex_par, ex_raise, _root_.Fly.R.andThen_ok, _root_.Fly.R.toFw_ok, _root_.Fly.RB.toR_ok, _root_.Fly.RB.toFw_ok, _root_.Fly.Fw.andThen_nx, _root_.Fly.Fw.andThen_rt, _root_.Fly.Fw.andThen_ex, _root_.Fly.Fw.andThen_bk, _root_.Fly.Fw.andThen_ct, asB_v, look, looks, val, vals, give, bindT, put, free1, ↓if_t, ↓if_f, List.length_map, decide_true, decide_false, Bool.not_true, Bool.not_false, if_true, if_false, List.cons_append, List.nil_append, List.getElem?_cons_zero, List.getElem?_cons_succ, List.set_cons_zero, List.set_cons_succ, List.length_cons, List.length_nil, idl0, idl1, idl2, idl3, idl4, idt0, idt1, idt2, idt3, add_i, sub_i, neg_i, lt_i, le_i, gt_i, ge_i, eq_i, ne_i, eq_b, ne_b, int_i, len_l, len_t, tuple_l, tuple_t, rev_t, rev_l, pow_10, st1, st2, st3, st4, mod_ok, fdiv_ok, mul_l, mul_r, List.replicate]) rfl rfl fun _ _ => rfl
  unfold sIs
  show exec (run P n) _ [s0, s1, .un, .un] = _
  rcases hl with rfl | rfl <;> rcases a0 with rfl | ⟨b0, rfl⟩ <;> rcases a1 with rfl | ⟨b1, rfl⟩ <;> simp -implicitDefEqProofs (disch := omega) only [ev_gl, ev_c, ev_v, ev_fz, ev_mv, ev_nil, ev_cons, ev_op, ev_tup, ev_ktp, ev_lst, ev_dct, ev_and, ev_or, ev_not, ev_ite, ev_call, ev_mk, ev_meth, ev_bm, ev_lc, ev_frd, ev_chn, ev_sl, evC_lk1, evC_lks, ex_nil, ex_seq, ex_asg, ex_aug, ex_setI, ex_augI, ex_setF, ex_ex, ex_ifs, ex_for, ex_whl, ex_ret, ex_retn, ex_brk, ex_cnt, ex_pass, ex_par, ex_raise, _root_.Fly.R.andThen_ok, _root_.Fly.R.toFw_ok, _root_.Fly.RB.toR_ok, _root_.Fly.RB.toFw_ok, _root_.Fly.Fw.andThen_nx, _root_.Fly.Fw.andThen_rt, _root_.Fly.Fw.andThen_ex, _root_.Fly.Fw.andThen_bk, _root_.Fly.Fw.andThen_ct, asB_v, look, looks, val, vals, give, bindT, put, free1, ↓if_t, ↓if_f, List.length_map, decide_true, decide_false, Bool.not_true, Bool.not_false, if_true, if_false, List.cons_append, List.nil_append, List.getElem?_cons_zero, List.getElem?_cons_succ, List.set_cons_zero, List.set_cons_succ, List.length_cons, List.length_nil, idl0, idl1, idl2, idl3, idl4, idt0, idt1, idt2, idt3, add_i, sub_i, neg_i, lt_i, le_i, gt_i, ge_i, eq_i, ne_i, eq_b, ne_b, int_i, len_l, len_t, tuple_l, tuple_t, rev_t, rev_l, pow_10, st1, st2, st3, st4, mod_ok, fdiv_ok, mul_l, mul_r, List.replicate, isi_tup45, isi_tup4, isi_lst45, isi_lst4, beq_self_eq_true, z, all_true]
theorem is_refl {P : List Fn} {f : Nat} (hP : P[f]? = some ⟨2, 4, sIs f⟩) : ∀ (k n : Nat) (d : D), okD k d = true → k ≤ n → ∀ s0 s1, Arg d s0 → Arg d s1 → run P (n + 1) f [s0, s1] = .ret (.bl true) false [s0, s1]
  | 0, n, d, hd, hn, s0, s1, a0, a1 => by
    cases d with
    | bl b => exact is_atom hP a0 a1 (.inl ⟨b, rfl⟩)
    | int i => exact is_atom hP a0 a1 (.inr ⟨i, rfl⟩)
    | _ => cases hd
  | k + 1, n + 1, d, hd, hn, s0, s1, a0, a1 => by
    cases d with
    | bl b => exact is_atom hP a0 a1 (.inl ⟨b, rfl⟩)
    | int i => exact is_atom hP a0 a1 (.inr ⟨i, rfl⟩)
    | tup l =>
      simp only [okD, Bool.and_eq_true, decide_eq_true_eq] at hd
      exact is_seq hP a0 a1 l hd.1 (fun x hx => is_refl hP k n x (okDs_mem hd.2 x hx) (by omega) _ _ (.inl rfl) (.inl rfl)) (.inl rfl)
    | lst l =>
      simp only [okD, Bool.and_eq_true, decide_eq_true_eq] at hd
      exact is_seq hP a0 a1 l hd.1 (fun x hx => is_refl hP k n x (okDs_mem hd.2 x hx) (by omega) _ _ (.inl rfl) (.inl rfl)) (.inr rfl)
    | _ => cases hd
/-- the comparison as a call: of shared data, fresh things, names' own things -/
theorem is_call {P : List Fn} {f : Nat} (hP : P[f]? = some ⟨2, 4, sIs f⟩) {k n : Nat} {d : D} (hd : okD k d = true) (hn : k ≤ n) {σ : List Sl} (t0 t1 : Tok) (h0 : t0 = .tv d ∨ t0 = .tf d) (h1 : t1 = .tv d ∨ t1 = .tf d) : called (run P (n + 1)) f [t0, t1] σ = .ok [.tv (.bl true)] σ := by
  have r := is_refl hP k n d hd hn
  rcases h0 with rfl | rfl <;> rcases h1 with rfl | rfl
  · simp [called, lend, back, r _ _ (.inl rfl) (.inl rfl)]
  · simp [called, lend, back, r _ _ (.inl rfl) (.inr ⟨false, rfl⟩)]
  · simp [called, lend, back, r _ _ (.inr ⟨false, rfl⟩) (.inl rfl)]
  · simp [called, lend, back, r _ _ (.inr ⟨false, rfl⟩) (.inr ⟨false, rfl⟩)]
end Fly
end

section
set_option linter.all false
set_option maxRecDepth 100000
set_option maxHeartbeats 2000000
/-! Rows as lists of whole numbers; what the built-in steps make of them (FlyList). -/
namespace Fly
theorem cutN {l : List D} {lo hi : Int} (h0 : 0 ≤ lo) (h1 : lo ≤ hi) (h2 : hi ≤ l.length) : cut l (some lo) (some hi) = (l.drop lo.toNat).take (hi.toNat - lo.toNat) := by
  unfold cut border
  have e1 : (if lo < 0 then (lo + (l.length : Int)).toNat else if lo < l.length then lo.toNat else l.length) = lo.toNat := by
    split
    · omega
    · split <;> omega
  have e2 : (if hi < 0 then (hi + (l.length : Int)).toNat else if hi < l.length then hi.toNat else l.length) = hi.toNat := by
    split
    · omega
    · split <;> omega
  simp only [e1, e2]
theorem cutL {l : List D} {hi : Int} (h1 : 0 ≤ hi) (h2 : hi ≤ l.length) : cut l none (some hi) = l.take hi.toNat := by
  have q := cutN (l := l) (lo := 0) (hi := hi) (by omega) h1 h2
  unfold cut at q ⊢
  simp only [border] at q ⊢
  have e : (if (0 : Int) < 0 then ((0 : Int) + (l.length : Int)).toNat else if (0 : Int) < l.length then (0 : Int).toNat else l.length) = 0 := by
    rw [if_neg (by omega)]
    split
    · rfl
    · omega
  rw [e] at q
  simpa using q
theorem cutR {l : List D} {lo : Int} (h0 : 0 ≤ lo) (h2 : lo ≤ l.length) : cut l (some lo) none = l.drop lo.toNat := by
  unfold cut border
  have e1 : (if lo < 0 then (lo + (l.length : Int)).toNat else if lo < l.length then lo.toNat else l.length) = lo.toNat := by
    split
    · omega
    · split <;> omega
  simp only [e1]
  rw [List.take_of_length_le (by rw [List.length_drop]; omega)]
theorem addT {A B : List Int} (h : A.length + B.length ≤ 16777216) : opf .add [.tup (A.map .int), .tup (B.map .int)] = some (false, .tup ((A ++ B).map .int)) := by
  simp only [opf, fAdd, List.length_map, szLine, if_pos h, List.map_append]
theorem idxT {l : List Int} {j : Int} {v : Int} (h0 : 0 ≤ j) (h : l[j.toNat]? = some v) : opf .idx [.tup (l.map .int), .int j] = some (false, .int v) :=
  idx_tup h0 (by rw [List.getElem?_map, h]; rfl)
theorem appL {l : List Int} {v : Int} (h : l.length < 16777216) : mef .append (.lst (l.map .int)) [.int v] = some (.non, .lst ((l ++ [v]).map .int)) := by
  simp only [mef, List.length_map, szLine, if_pos h, List.map_append]
  rfl
theorem isort_eq {l m : List Int} (h : l.Perm m) : isort l = isort m := by
  have s : ∀ l : List Int, (isort l).Pairwise (· ≤ ·) := fun l => by
    have := List.pairwise_mergeSort (le := fun a b : Int => decide (a ≤ b)) (fun a b c h1 h2 => by simp only [decide_eq_true_eq] at *; omega) (fun a b => by simp only [Bool.or_eq_true, decide_eq_true_eq]; omega) l
    exact this.imp fun h => by simpa using h
  have p : ∀ l : List Int, (isort l).Perm l := fun l => List.mergeSort_perm l _
  exact (((p l).trans h).trans (p m).symm).eq_of_pairwise (fun a b _ _ h3 h4 => Int.le_antisymm h3 h4) (s l) (s m)
theorem flats_ints {k : Nat} : ∀ {l : List Int}, flats k (l.map .int) = true
  | [] => rfl
  | a :: l => by simp only [List.map_cons, flats, flats_ints, flat, Bool.and_true]
theorem deqs_ints : ∀ {l : List Int}, deqs (l.map .int) (l.map .int) = true
  | [] => rfl
  | a :: l => by simp only [List.map_cons, deqs, deqs_ints, deq, beq_self_eq_true, Bool.and_true]
theorem neT {l m : List Int} (h : l = m) : opf .ne [.tup (l.map .int), .tup (m.map .int)] = some (false, .bl false) := by
  subst h
  simp only [opf, fNe, flat, flats_ints, deq, deqs_ints, Bool.and_true, if_true, Bool.not_true]
theorem neL {l m : List Int} (h : l = m) : opf .ne [.lst (l.map .int), .lst (m.map .int)] = some (false, .bl false) := by
  subst h
  simp only [opf, fNe, flat, flats_ints, deq, deqs_ints, Bool.and_true, if_true, Bool.not_true]
theorem ints_map : ∀ (l : List Int), toInts (l.map .int) = some l
  | [] => rfl
  | a :: l => by simp only [List.map_cons, toInts, ints_map, Option.map_some]
theorem revT {l : List Int} : opf .rev [.tup (l.map .int)] = some (false, .tup (l.reverse.map .int)) := by
  simp only [opf, fRev, List.map_reverse]
theorem mulN {l : List Int} {k : Nat} (hk : (2 : Int) ≤ k ∧ (k : Int) ≤ 1000) (h1 : 1 ≤ l.length) (h2 : l.length ≤ 1000) : ∃ Z : List Int, Z.length = k * l.length ∧ (∀ x ∈ Z, x ∈ l) ∧ opf .mul [.tup (l.map .int), .int (k : Int)] = some (false, .tup (Z.map .int)) := by
  have z : (2 : Int) ≤ k ∧ (k : Int) ≤ 1000 ∧ (l.map D.int).length ≤ 1000 ∧ l.map D.int ≠ [] := ⟨hk.1, hk.2, by rw [List.length_map]; exact h2, by intro e; rw [List.map_eq_nil_iff] at e; subst e; simp at h1⟩
  refine ⟨(List.replicate k l).flatten, by simp, fun x hx => ?_, ?_⟩
  · obtain ⟨m, hm1, hm2⟩ := List.mem_flatten.mp hx
    rw [(List.mem_replicate.mp hm1).2] at hm2
    exact hm2
  · simp only [opf, fMul, if_pos z, List.map_flatten, List.map_replicate, Int.toNat_natCast]
theorem called1 {P : List Fn} {n f : Nat} {g r : D} (e : run P n f [.fz false g] = .ret r false [.fz false g]) {σ : List Sl} : called (run P n) f [.tv g] σ = .ok [.tv r] σ := by
  simp [called, lend, e, back]
theorem called2 {P : List Fn} {n f : Nat} {g a r : D} (e : run P n f [.fz false g, .fz false a] = .ret r false [.fz false g, .fz false a]) {σ : List Sl} : called (run P n) f [.tv g, .tv a] σ = .ok [.tv r] σ := by
  simp [called, lend, e, back]
theorem called3 {P : List Fn} {n f : Nat} {g a b r : D} (e : run P n f [.fz false g, .fz false a, .fz false b] = .ret r false [.fz false g, .fz false a, .fz false b]) {σ : List Sl} : called (run P n) f [.tv g, .tv a, .tv b] σ = .ok [.tv r] σ := by
  simp [called, lend, e, back]
theorem called4 {P : List Fn} {n f : Nat} {g r a b c : D} (e : run P n f [.fz false g, .fz false a, .fz false b, .fz false c] = .ret r false [.fz false g, .fz false a, .fz false b, .fz false c]) {σ : List Sl} : called (run P n) f [.tv g, .tv a, .tv b, .tv c] σ = .ok [.tv r] σ := by
  simp [called, lend, e, back]
/-- a comprehension with a test, as filter and map; I: the shape of the names -/
theorem lcL_fmo {own : List Nat} {bd : D → List Sl → Option (List Sl)} {cnd : List Sl → RB} {el : List Sl → R} {c : D → Bool} {g : D → D} (I : List Sl → Prop)
    : ∀ (xs : List D) (step : ∀ x ∈ xs, ∀ σ, I σ → ∃ σ1 σ2, bd x (dropS σ own) = some σ1 ∧ cnd σ1 = .ok (c x) σ2 ∧ (c x = true → ∃ σ3 t, el σ2 = .ok [t] σ3 ∧ val σ3 t = some (g x) ∧ I σ3) ∧ (c x = false → I σ2))
      (σ : List Sl) (acc : List D), xs.length + acc.length ≤ szLine → I σ → ∃ σ', lcL own bd cnd el xs σ acc = .ok [.tf (.lst (acc ++ (xs.filter c).map g))] σ' ∧ I σ'
  | [], _, σ, acc, _, h => ⟨σ, by simp [lcL], h⟩
  | x :: xs, step, σ, acc, hz, h => by
    obtain ⟨σ1, σ2, h1, h2, h3, h4⟩ := step x (by simp) σ h
    simp only [List.length_cons] at hz
    cases hc : c x with
    | true =>
      obtain ⟨σ3, t, q1, q2, q3⟩ := h3 hc
      obtain ⟨σ', e, hI⟩ := lcL_fmo I xs (fun y hy => step y (by simp [hy])) σ3 (acc ++ [g x]) (by simp; omega) q3
      refine ⟨σ', ?_, hI⟩
      have hlt : acc.length < szLine := by omega
      simp only [lcL, h1, h2, hc, q1, q2, if_pos hlt]
      rw [e]
      simp [hc]
    | false =>
      obtain ⟨σ', e, hI⟩ := lcL_fmo I xs (fun y hy => step y (by simp [hy])) σ2 acc (by omega) (h4 hc)
      refine ⟨σ', ?_, hI⟩
      simp only [lcL, h1, h2, hc]
      rw [e]
      simp [hc]
theorem lcL_fm {own : List Nat} {bd : D → List Sl → Option (List Sl)} {cnd : List Sl → RB} {el : List Sl → R} {xs : List D} {σ : List Sl} (c : D → Bool) (g : D → D) (I : List Sl → Prop) (hI : I σ) (hz : xs.length ≤ szLine)
    (step : ∀ x ∈ xs, ∀ σ, I σ → ∃ σ1 σ2, bd x (dropS σ own) = some σ1 ∧ cnd σ1 = .ok (c x) σ2 ∧ (c x = true → ∃ σ3 t, el σ2 = .ok [t] σ3 ∧ val σ3 t = some (g x) ∧ I σ3) ∧ (c x = false → I σ2)) :
    ∃ σ', lcL own bd cnd el xs σ [] = .ok [.tf (.lst ((xs.filter c).map g))] σ' ∧ I σ' := by
  obtain ⟨σ', e, h⟩ := lcL_fmo I xs step σ [] (by simpa using hz) hI
  exact ⟨σ', by simpa using e, h⟩
/-! ### data that is like itself -/
end Fly
end

section
set_option linter.all false
set_option maxRecDepth 100000
set_option maxHeartbeats 2000000
/-! The package's small checks, each at any place of a program (FlyPkg). -/
namespace Fly
def sInt : S :=
 (.seq (.ret (.and (.op (.isi [2]) (.cons (.v 0) .nil)) (.not (.op (.isi [1]) (.cons (.v 0) .nil)))))
 .nil)
def sBetween (i : Nat) : S :=
 (.seq (.ret (.and (.call i (.cons (.v 0) .nil)) (.chn (.v 1) (.lks .le (.v 0) (.lk1 .le (.v 2))))))
 .nil)
def sIndex (b : Nat) : S :=
 (.seq (.ret (.call b (.cons (.v 0) (.cons (.c (.int 0)) (.cons (.op .sub (.cons (.v 1) (.cons (.c (.int 1)) .nil))) .nil)))))
 .nil)
def sRowIs (x : Nat) : S :=
 (.seq (.ifs (.or (.not (.op (.isi [4]) (.cons (.v 0) .nil))) (.not (.chn (.c (.int 1)) (.lks .le (.op .len (.cons (.v 0) .nil)) (.lk1 .le (.gl [77, 79, 83, 84, 95, 76, 65, 78, 69, 83] (.int 1000)))))))
  (.seq (.ret (.c (.bl false)))
  .nil)
  .nil)
 (.seq (.ret (.op .all (.cons (.lc (.call x (.cons (.v 1) (.cons (.gl [77, 79, 83, 84, 95, 76, 69, 84, 84, 69, 82, 83] (.int 4)) .nil))) (.nm 1) .seq (.cons (.v 0) .nil) (.c (.bl true))) .nil)))
 .nil))
section
variable {P : List Fn} {n : Nat}
theorem pInt {f : Nat} (hP : P[f]? = some ⟨1, 1, sInt⟩) {i : Int} : run P (n + 1) f [.fz false (.int i)] = .ret (.bl true) false [.fz false (.int i)] := by
  rw [run_of hP rfl]
  unfold sInt
  simp -implicitDefEqProofs (disch := omega) only [ev_gl, ev_c, ev_v, ev_fz, ev_mv, ev_nil, ev_cons, ev_op, ev_tup, ev_ktp, ev_lst, ev_dct, ev_and, ev_or, ev_not, ev_ite, ev_call, ev_mk, ev_meth, ev_bm, ev_lc, ev_frd, ev_chn, ev_sl, evC_lk1, evC_lks, ex_nil, ex_seq, ex_asg, ex_aug, ex_setI, ex_augI, ex_setF, ex_ex, ex_ifs, ex_for, ex_whl, ex_ret, ex_retn, ex_brk, ex_cnt, ex_pass, ex_par, ex_raise, _root_.Fly.R.andThen_ok, _root_.Fly.R.toFw_ok, _root_.Fly.RB.toR_ok, _root_.Fly.RB.toFw_ok, _root_.Fly.Fw.andThen_nx, _root_.Fly.Fw.andThen_rt, _root_.Fly.Fw.andThen_ex, _root_.Fly.Fw.andThen_bk, _root_.Fly.Fw.andThen_ct, asB_v, look, looks, val, vals, give, bindT, put, free1, ↓if_t, ↓if_f, List.length_map, decide_true, decide_false, Bool.not_true, Bool.not_false, if_true, if_false, List.cons_append, List.nil_append, List.getElem?_cons_zero, List.getElem?_cons_succ, List.set_cons_zero, List.set_cons_succ, List.length_cons, List.length_nil, idl0, idl1, idl2, idl3, idl4, idt0, idt1, idt2, idt3, add_i, sub_i, neg_i, lt_i, le_i, gt_i, ge_i, eq_i, ne_i, eq_b, ne_b, int_i, len_l, len_t, tuple_l, tuple_t, rev_t, rev_l, pow_10, st1, st2, st3, st4, mod_ok, fdiv_ok, mul_l, mul_r, List.replicate, show opf (.isi [2]) [.int i] = some (false, .bl true) from rfl, isi_int1]
  rfl
theorem pBetween {f q : Nat} (hP : P[f]? = some ⟨3, 3, sBetween q⟩) (hq : P[q]? = some ⟨1, 1, sInt⟩) {x lo hi : Int} : run P (n + 2) f [.fz false (.int x), .fz false (.int lo), .fz false (.int hi)] = .ret (.bl (decide (lo ≤ x) && decide (x ≤ hi))) false [.fz false (.int x), .fz false (.int lo), .fz false (.int hi)] := by
  rw [run_of hP rfl]
  unfold sBetween
  by_cases h1 : lo ≤ x
  · by_cases h2 : x ≤ hi
    · simp -implicitDefEqProofs (disch := omega) only [ev_gl, ev_c, ev_v, ev_fz, ev_mv, ev_nil, ev_cons, ev_op, ev_tup, ev_ktp, ev_lst, ev_dct, ev_and, ev_or, ev_not, ev_ite, ev_call, ev_mk, ev_meth, ev_bm, ev_lc, ev_frd, ev_chn, ev_sl, evC_lk1, evC_lks, ex_nil, ex_seq, ex_asg, ex_aug, ex_setI, ex_augI, ex_setF, ex_ex, ex_ifs, ex_for, ex_whl, ex_ret, ex_retn, ex_brk, ex_cnt, ex_pass, ex_par, ex_raise, _root_.Fly.R.andThen_ok, _root_.Fly.R.toFw_ok, _root_.Fly.RB.toR_ok, _root_.Fly.RB.toFw_ok, _root_.Fly.Fw.andThen_nx, _root_.Fly.Fw.andThen_rt, _root_.Fly.Fw.andThen_ex, _root_.Fly.Fw.andThen_bk, _root_.Fly.Fw.andThen_ct, asB_v, look, looks, val, vals, give, bindT, put, free1, ↓if_t, ↓if_f, List.length_map, decide_true, decide_false, Bool.not_true, Bool.not_false, if_true, if_false, List.cons_append, List.nil_append, List.getElem?_cons_zero, List.getElem?_cons_succ, List.set_cons_zero, List.set_cons_succ, List.length_cons, List.length_nil, idl0, idl1, idl2, idl3, idl4, idt0, idt1, idt2, idt3, add_i, sub_i, neg_i, lt_i, le_i, gt_i, ge_i, eq_i, ne_i, eq_b, ne_b, int_i, len_l, len_t, tuple_l, tuple_t, rev_t, rev_l, pow_10, st1, st2, st3, st4, mod_ok, fdiv_ok, mul_l, mul_r, List.replicate, called1 (pInt (n := n) hq (i := x)), h1, h2, Bool.and_true]
      rfl
    · simp -implicitDefEqProofs (disch := omega) only [ev_gl, ev_c, ev_v, ev_fz, ev_mv, ev_nil, ev_cons, ev_op, ev_tup, ev_ktp, ev_lst, ev_dct, ev_and, ev_or, ev_not, ev_ite, ev_call, ev_mk, ev_meth, ev_bm, ev_lc, ev_frd, ev_chn, ev_sl, evC_lk1, evC_lks, ex_nil, ex_seq, ex_asg, ex_aug, ex_setI, ex_augI, ex_setF, ex_ex, ex_ifs, ex_for, ex_whl, ex_ret, ex_retn, ex_brk, ex_cnt, ex_pass, ex_par, ex_raise, _root_.Fly.R.andThen_ok, _root_.Fly.R.toFw_ok, _root_.Fly.RB.toR_ok, _root_.Fly.RB.toFw_ok, _root_.Fly.Fw.andThen_nx, _root_.Fly.Fw.andThen_rt, _root_.Fly.Fw.andThen_ex, _root_.Fly.Fw.andThen_bk, _root_.Fly.Fw.andThen_ct, asB_v, look, looks, val, vals, give, bindT, put, free1, ↓if_t, ↓if_f, List.length_map, decide_true, decide_false, Bool.not_true, Bool.not_false, if_true, if_false, List.cons_append, List.nil_append, List.getElem?_cons_zero, List.getElem?_cons_succ, List.set_cons_zero, List.set_cons_succ, List.length_cons, List.length_nil, idl0, idl1, idl2, idl3, idl4, idt0, idt1, idt2, idt3, add_i, sub_i, neg_i, lt_i, le_i, gt_i, ge_i, eq_i, ne_i, eq_b, ne_b, int_i, len_l, len_t, tuple_l, tuple_t, rev_t, rev_l, pow_10, st1, st2, st3, st4, mod_ok, fdiv_ok, mul_l, mul_r, List.replicate, called1 (pInt (n := n) hq (i := x)), h1, h2, Bool.and_false]
      rfl
  · simp -implicitDefEqProofs (disch := omega) only [ev_gl, ev_c, ev_v, ev_fz, ev_mv, ev_nil, ev_cons, ev_op, ev_tup, ev_ktp, ev_lst, ev_dct, ev_and, ev_or, ev_not, ev_ite, ev_call, ev_mk, ev_meth, ev_bm, ev_lc, ev_frd, ev_chn, ev_sl, evC_lk1, evC_lks, ex_nil, ex_seq, ex_asg, ex_aug, ex_setI, ex_augI, ex_setF, ex_ex, ex_ifs, ex_for, ex_whl, ex_ret, ex_retn, ex_brk, ex_cnt, ex_pass, ex_par, ex_raise, _root_.Fly.R.andThen_ok, _root_.Fly.R.toFw_ok, _root_.Fly.RB.toR_ok, _root_.Fly.RB.toFw_ok, _root_.Fly.Fw.andThen_nx, _root_.Fly.Fw.andThen_rt, _root_.Fly.Fw.andThen_ex, _root_.Fly.Fw.andThen_bk, _root_.Fly.Fw.andThen_ct, asB_v, look, looks, val, vals, give, bindT, put, free1, ↓if_t, ↓if_f, List.length_map, decide_true, decide_false, Bool.not_true, Bool.not_false, if_true, if_false, List.cons_append, List.nil_append, List.getElem?_cons_zero, List.getElem?_cons_succ, List.set_cons_zero, List.set_cons_succ, List.length_cons, List.length_nil, idl0, idl1, idl2, idl3, idl4, idt0, idt1, idt2, idt3, add_i, sub_i, neg_i, lt_i, le_i, gt_i, ge_i, eq_i, ne_i, eq_b, ne_b, int_i, len_l, len_t, tuple_l, tuple_t, rev_t, rev_l, pow_10, st1, st2, st3, st4, mod_ok, fdiv_ok, mul_l, mul_r, List.replicate, called1 (pInt (n := n) hq (i := x)), h1, Bool.false_and]
    rfl
theorem pIndex {f b q : Nat} (hP : P[f]? = some ⟨2, 2, sIndex b⟩) (hb : P[b]? = some ⟨3, 3, sBetween q⟩) (hq : P[q]? = some ⟨1, 1, sInt⟩) {x m : Int} : run P (n + 3) f [.fz false (.int x), .fz false (.int m)] = .ret (.bl (decide (0 ≤ x) && decide (x ≤ m - 1))) false [.fz false (.int x), .fz false (.int m)] := by
  rw [run_of hP rfl]
  unfold sIndex
  simp -implicitDefEqProofs (disch := omega) only [ev_gl, ev_c, ev_v, ev_fz, ev_mv, ev_nil, ev_cons, ev_op, ev_tup, ev_ktp, ev_lst, ev_dct, ev_and, ev_or, ev_not, ev_ite, ev_call, ev_mk, ev_meth, ev_bm, ev_lc, ev_frd, ev_chn, ev_sl, evC_lk1, evC_lks, ex_nil, ex_seq, ex_asg, ex_aug, ex_setI, ex_augI, ex_setF, ex_ex, ex_ifs, ex_for, ex_whl, ex_ret, ex_retn, ex_brk, ex_cnt, ex_pass, ex_par, ex_raise, _root_.Fly.R.andThen_ok, _root_.Fly.R.toFw_ok, _root_.Fly.RB.toR_ok, _root_.Fly.RB.toFw_ok, _root_.Fly.Fw.andThen_nx, _root_.Fly.Fw.andThen_rt, _root_.Fly.Fw.andThen_ex, _root_.Fly.Fw.andThen_bk, _root_.Fly.Fw.andThen_ct, asB_v, look, looks, val, vals, give, bindT, put, free1, ↓if_t, ↓if_f, List.length_map, decide_true, decide_false, Bool.not_true, Bool.not_false, if_true, if_false, List.cons_append, List.nil_append, List.getElem?_cons_zero, List.getElem?_cons_succ, List.set_cons_zero, List.set_cons_succ, List.length_cons, List.length_nil, idl0, idl1, idl2, idl3, idl4, idt0, idt1, idt2, idt3, add_i, sub_i, neg_i, lt_i, le_i, gt_i, ge_i, eq_i, ne_i, eq_b, ne_b, int_i, len_l, len_t, tuple_l, tuple_t, rev_t, rev_l, pow_10, st1, st2, st3, st4, mod_ok, fdiv_ok, mul_l, mul_r, List.replicate, called3 (pBetween (n := n) hb hq (x := x) (lo := 0) (hi := m - 1))]
  rfl
theorem pRowIs {f x b q : Nat} (hP : P[f]? = some ⟨1, 2, sRowIs x⟩) (hx : P[x]? = some ⟨2, 2, sIndex b⟩) (hb : P[b]? = some ⟨3, 3, sBetween q⟩) (hq : P[q]? = some ⟨1, 1, sInt⟩) {l : List Int} (h1 : 1 ≤ l.length) (h2 : l.length ≤ 1000) (hl : ∀ x ∈ l, 0 ≤ x ∧ x < 4) :
    run P (n + 4) f [.fz false (.tup (l.map .int))] = .ret (.bl true) false [.fz false (.tup (l.map .int))] := by
  rw [run_of hP rfl]
  unfold sRowIs
  let g : D := .tup (l.map .int)
  obtain ⟨σ', k1, s, rfl⟩ := lcL_fm (own := [1]) (bd := fun x s => bindT s (.nm 1) x false) (cnd := fun s => asB (ev (run P (n + 3)) (.c (.bl true)) s)) (el := fun s => ev (run P (n + 3)) (.call x (.cons (.v 1) (.cons (.gl [77, 79, 83, 84, 95, 76, 69, 84, 84, 69, 82, 83] (.int 4)) .nil))) s)
    (xs := l.map .int) (σ := [.fz false g, .un]) (fun _ => true) (fun _ => .bl true) (fun σ => ∃ s, σ = [.fz false g, s]) ⟨_, rfl⟩ (by rw [List.length_map]; unfold szLine; omega) (by
      rintro x hm σ ⟨s, rfl⟩
      obtain ⟨i, hi, rfl⟩ := List.mem_map.mp hm
      obtain ⟨i0, i4⟩ := hl i hi
      refine ⟨[.fz false g, .fz false (.int i)], [.fz false g, .fz false (.int i)], rfl, ?_, fun _ => ⟨[.fz false g, .fz false (.int i)], .tv (.bl true), ?_, rfl, _, rfl⟩, fun e => Bool.noConfusion e⟩
      · simp -implicitDefEqProofs (disch := omega) only [ev_gl, ev_c, ev_v, ev_fz, ev_mv, ev_nil, ev_cons, ev_op, ev_tup, ev_ktp, ev_lst, ev_dct, ev_and, ev_or, ev_not, ev_ite, ev_call, ev_mk, ev_meth, ev_bm, ev_lc, ev_frd, ev_chn, ev_sl, evC_lk1, evC_lks, ex_nil, ex_seq, ex_asg, ex_aug, ex_setI, ex_augI, ex_setF, ex_ex, ex_ifs, ex_for, ex_whl, ex_ret, ex_retn, ex_brk, ex_cnt, ex_pass, ex_par, ex_raise, _root_.Fly.R.andThen_ok, _root_.Fly.R.toFw_ok, _root_.Fly.RB.toR_ok, _root_.Fly.RB.toFw_ok, _root_.Fly.Fw.andThen_nx, _root_.Fly.Fw.andThen_rt, _root_.Fly.Fw.andThen_ex, _root_.Fly.Fw.andThen_bk, _root_.Fly.Fw.andThen_ct, asB_v, look, looks, val, vals, give, bindT, put, free1, ↓if_t, ↓if_f, List.length_map, decide_true, decide_false, Bool.not_true, Bool.not_false, if_true, if_false, List.cons_append, List.nil_append, List.getElem?_cons_zero, List.getElem?_cons_succ, List.set_cons_zero, List.set_cons_succ, List.length_cons, List.length_nil, idl0, idl1, idl2, idl3, idl4, idt0, idt1, idt2, idt3, add_i, sub_i, neg_i, lt_i, le_i, gt_i, ge_i, eq_i, ne_i, eq_b, ne_b, int_i, len_l, len_t, tuple_l, tuple_t, rev_t, rev_l, pow_10, st1, st2, st3, st4, mod_ok, fdiv_ok, mul_l, mul_r, List.replicate]
      · have e := pIndex (n := n) hx hb hq (x := i) (m := 4)
        rw [decide_eq_true i0, decide_eq_true (show i ≤ 4 - 1 by omega)] at e
        rw [Bool.and_true] at e
        simp -implicitDefEqProofs (disch := omega) only [ev_gl, ev_c, ev_v, ev_fz, ev_mv, ev_nil, ev_cons, ev_op, ev_tup, ev_ktp, ev_lst, ev_dct, ev_and, ev_or, ev_not, ev_ite, ev_call, ev_mk, ev_meth, ev_bm, ev_lc, ev_frd, ev_chn, ev_sl, evC_lk1, evC_lks, ex_nil, ex_seq, ex_asg, ex_aug, ex_setI, ex_augI, ex_setF, ex_ex, ex_ifs, ex_for, ex_whl, ex_ret, ex_retn, ex_brk, ex_cnt, ex_pass, ex_par, ex_raise, _root_.Fly.R.andThen_ok, _root_.Fly.R.toFw_ok, _root_.Fly.RB.toR_ok, _root_.Fly.RB.toFw_ok, _root_.Fly.Fw.andThen_nx, _root_.Fly.Fw.andThen_rt, _root_.Fly.Fw.andThen_ex, _root_.Fly.Fw.andThen_bk, _root_.Fly.Fw.andThen_ct, asB_v, look, looks, val, vals, give, bindT, put, free1, ↓if_t, ↓if_f, List.length_map, decide_true, decide_false, Bool.not_true, Bool.not_false, if_true, if_false, List.cons_append, List.nil_append, List.getElem?_cons_zero, List.getElem?_cons_succ, List.set_cons_zero, List.set_cons_succ, List.length_cons, List.length_nil, idl0, idl1, idl2, idl3, idl4, idt0, idt1, idt2, idt3, add_i, sub_i, neg_i, lt_i, le_i, gt_i, ge_i, eq_i, ne_i, eq_b, ne_b, int_i, len_l, len_t, tuple_l, tuple_t, rev_t, rev_l, pow_10, st1, st2, st3, st4, mod_ok, fdiv_ok, mul_l, mul_r, List.replicate, called2 e])
  have z := lc_run (cf := run P (n + 3)) (t := .nm 1) (k := .seq) (elt := .call x (.cons (.v 1) (.cons (.gl [77, 79, 83, 84, 95, 76, 69, 84, 84, 69, 82, 83] (.int 4)) .nil))) (es := .cons (.v 0) .nil) (cnd := .c (.bl true)) (σ := [.fz false g, .un]) (σ1 := [.fz false g, .un]) (ts := [.tv g]) (by simp -implicitDefEqProofs (disch := omega) only [ev_gl, ev_c, ev_v, ev_fz, ev_mv, ev_nil, ev_cons, ev_op, ev_tup, ev_ktp, ev_lst, ev_dct, ev_and, ev_or, ev_not, ev_ite, ev_call, ev_mk, ev_meth, ev_bm, ev_lc, ev_frd, ev_chn, ev_sl, evC_lk1, evC_lks, ex_nil, ex_seq, ex_asg, ex_aug, ex_setI, ex_augI, ex_setF, ex_ex, ex_ifs, ex_for, ex_whl, ex_ret, ex_retn, ex_brk, ex_cnt, ex_pass, ex_par, ex_raise, _root_.Fly.R.andThen_ok, _root_.Fly.R.toFw_ok, _root_.Fly.RB.toR_ok, _root_.Fly.RB.toFw_ok, _root_.Fly.Fw.andThen_nx, _root_.Fly.Fw.andThen_rt, _root_.Fly.Fw.andThen_ex, _root_.Fly.Fw.andThen_bk, _root_.Fly.Fw.andThen_ct, asB_v, look, looks, val, vals, give, bindT, put, free1, ↓if_t, ↓if_f, List.length_map, decide_true, decide_false, Bool.not_true, Bool.not_false, if_true, if_false, List.cons_append, List.nil_append, List.getElem?_cons_zero, List.getElem?_cons_succ, List.set_cons_zero, List.set_cons_succ, List.length_cons, List.length_nil, idl0, idl1, idl2, idl3, idl4, idt0, idt1, idt2, idt3, add_i, sub_i, neg_i, lt_i, le_i, gt_i, ge_i, eq_i, ne_i, eq_b, ne_b, int_i, len_l, len_t, tuple_l, tuple_t, rev_t, rev_l, pow_10, st1, st2, st3, st4, mod_ok, fdiv_ok, mul_l, mul_r, List.replicate]) rfl rfl rfl k1
  rw [show showS [.fz false g, .un] (unwipeS (hideS [.fz false g, .un] [.tv g]) [.fz false g, s] (Tg.own (.nm 1))) [.tv g] = [.fz false g, .un] from rfl] at z
  have zz : ((l.map D.int).filter (fun _ => true)).map (fun _ => D.bl true) = List.replicate l.length (.bl true) := by
    rw [List.filter_eq_self.mpr (fun _ _ => rfl), List.map_map]
    exact List.map_const' ..
  rw [zz] at z
  show CR.chk _ (Fw.toCR 1 (exec (run P (n + 3)) _ [.fz false g, .un])) = _
  have h3 : (1 : Int) ≤ (l.length : Int) := by omega
  have h4 : (l.length : Int) ≤ 1000 := by omega
  have hlen : opf .len [g] = some (false, .int l.length) := by show some (false, D.int ((l.map D.int).length : Int)) = _; rw [List.length_map]
  simp -implicitDefEqProofs (disch := omega) only [ev_gl, ev_c, ev_v, ev_fz, ev_mv, ev_nil, ev_cons, ev_op, ev_tup, ev_ktp, ev_lst, ev_dct, ev_and, ev_or, ev_not, ev_ite, ev_call, ev_mk, ev_meth, ev_bm, ev_lc, ev_frd, ev_chn, ev_sl, evC_lk1, evC_lks, ex_nil, ex_seq, ex_asg, ex_aug, ex_setI, ex_augI, ex_setF, ex_ex, ex_ifs, ex_for, ex_whl, ex_ret, ex_retn, ex_brk, ex_cnt, ex_pass, ex_par, ex_raise, _root_.Fly.R.andThen_ok, _root_.Fly.R.toFw_ok, _root_.Fly.RB.toR_ok, _root_.Fly.RB.toFw_ok, _root_.Fly.Fw.andThen_nx, _root_.Fly.Fw.andThen_rt, _root_.Fly.Fw.andThen_ex, _root_.Fly.Fw.andThen_bk, _root_.Fly.Fw.andThen_ct, asB_v, look, looks, val, vals, give, bindT, put, free1, ↓if_t, ↓if_f, List.length_map, decide_true, decide_false, Bool.not_true, Bool.not_false, if_true, if_false, List.cons_append, List.nil_append, List.getElem?_cons_zero, List.getElem?_cons_succ, List.set_cons_zero, List.set_cons_succ, List.length_cons, List.length_nil, idl0, idl1, idl2, idl3, idl4, idt0, idt1, idt2, idt3, add_i, sub_i, neg_i, lt_i, le_i, gt_i, ge_i, eq_i, ne_i, eq_b, ne_b, int_i, len_l, len_t, tuple_l, tuple_t, rev_t, rev_l, pow_10, st1, st2, st3, st4, mod_ok, fdiv_ok, mul_l, mul_r, List.replicate, show opf (.isi [4]) [g] = some (false, .bl true) from rfl, hlen, h3, h4, z, all_true]
  rfl
end
end Fly
end

section
set_option linter.all false
set_option maxRecDepth 100000
set_option maxHeartbeats 2000000
/-! Thinnings: the least way, all ways (FlyThin). -/
namespace Fly
def F (s : Sl) : Prop := s = .un ∨ ∃ x, s = .fz false x
theorem lenT {l : List Int} : opf .len [.tup (l.map .int)] = some (false, .int (l.length : Int)) := by simp only [opf, fLen, List.length_map]
/-! ### the least place -/
/-! ### the least way -/
end Fly
end

section
set_option linter.all false
set_option maxRecDepth 100000
set_option maxHeartbeats 2000000
/-! All ways, by a law's own list (FlyWays). -/
namespace Fly
inductive Good (r : List Int) : List Int → List Nat → Prop where
  | nil : Good r [] []
  | snoc {o : List Int} {w : List Nat} {a : Int} {i : Nat} : Good r o w → w.getLastD 0 ≤ i → i < r.length → r.getD i 0 = a → Good r (o ++ [a]) (w ++ [i])
theorem Good.len {r o : List Int} {w : List Nat} (h : Good r o w) : w.length = o.length := by
  induction h with
  | nil => rfl
  | snoc _ _ _ _ ih => simp [ih]
theorem Good.lt {r o : List Int} {w : List Nat} (h : Good r o w) : ∀ i ∈ w, i < r.length := by
  induction h with
  | nil => intro i hi; simp at hi
  | snoc _ _ h2 _ ih =>
    intro i hi
    rcases List.mem_append.mp hi with hi | hi
    · exact ih i hi
    · rw [List.mem_singleton] at hi; subst hi; exact h2
end Fly
end

section
set_option linter.all false
set_option maxRecDepth 100000
set_option maxHeartbeats 4000000
/-! The package's and the laws' programs about ways (FlyWayP). -/
namespace Fly
section
variable {P : List Fn} {n : Nat}
/-! ### all ways -/
end
end Fly
end

section
set_option linter.all false
set_option maxRecDepth 100000
set_option maxHeartbeats 4000000
/-! The fault of a way; a drawn thinning (FlyFault). -/
namespace Fly
def sInts (i : Nat) : S :=
 (.seq (.ret (.and (.op (.isi [4]) (.cons (.v 0) .nil)) (.and (.op .eq (.cons (.op .len (.cons (.v 0) .nil)) (.cons (.v 1) .nil))) (.op .all (.cons (.lc (.call i (.cons (.v 2) .nil)) (.nm 2) .seq (.cons (.v 0) .nil) (.c (.bl true))) .nil)))))
 .nil)
section
variable {P : List Fn} {n : Nat}
theorem ints_ok {f i : Nat} (hP : P[f]? = some ⟨2, 3, sInts i⟩) (hi : P[i]? = some ⟨1, 1, sInt⟩) {l : List Int} (hl : l.length ≤ 1000) :
    run P (n + 2) f [.fz false (.tup (l.map .int)), .fz false (.int l.length)] = .ret (.bl true) false [.fz false (.tup (l.map .int)), .fz false (.int l.length)] := by
  have e0 := fun v => pInt (n := n) hi (i := v)
  have hlen := lenT (l := l)
  have hisi : opf (.isi [4]) [.tup (l.map .int)] = some (false, .bl true) := rfl
  have hit : items .seq [.tup (l.map .int)] = some (l.map .int) := rfl
  generalize D.tup (l.map .int) = g at *
  generalize hm : (l.length : Int) = m at *
  obtain ⟨σ', k1, s, rfl⟩ := lcL_fm (own := [2]) (bd := fun x s => bindT s (.nm 2) x false) (cnd := fun s => asB (ev (run P (n + 1)) (.c (.bl true)) s)) (el := fun s => ev (run P (n + 1)) (.call i (.cons (.v 2) .nil)) s)
    (xs := l.map .int) (σ := [.fz false g, .fz false (.int m), .un]) (fun _ => true) (fun _ => .bl true) (fun σ => ∃ s, σ = [.fz false g, .fz false (.int m), s]) ⟨_, rfl⟩ (by rw [List.length_map]; unfold szLine; omega) (by
      rintro x hx σ ⟨s, rfl⟩
      obtain ⟨v, hv, rfl⟩ := List.mem_map.mp hx
      refine ⟨[.fz false g, .fz false (.int m), .fz false (.int v)], [.fz false g, .fz false (.int m), .fz false (.int v)], rfl, ?_, fun _ => ⟨[.fz false g, .fz false (.int m), .fz false (.int v)], .tv (.bl true), ?_, rfl, _, rfl⟩, fun e => Bool.noConfusion e⟩
      · simp -implicitDefEqProofs (disch := omega) only [ev_gl, ev_c, ev_v, ev_fz, ev_mv, ev_nil, ev_cons, ev_op, ev_tup, ev_ktp, ev_lst, ev_dct, ev_and, ev_or, ev_not, ev_ite, ev_call, ev_mk, ev_meth, ev_bm, ev_lc, ev_frd, ev_chn, ev_sl, evC_lk1, evC_lks, ex_nil, ex_seq, ex_asg, ex_aug, ex_setI, ex_augI, ex_setF, ex_ex, ex_ifs, ex_for, ex_whl, ex_ret, ex_retn, ex_brk, ex_cnt, ex_pass, ex_par, ex_raise, _root_.Fly.R.andThen_ok, _root_.Fly.R.toFw_ok, _root_.Fly.RB.toR_ok, _root_.Fly.RB.toFw_ok, _root_.Fly.Fw.andThen_nx, _root_.Fly.Fw.andThen_rt, _root_.Fly.Fw.andThen_ex, _root_.Fly.Fw.andThen_bk, _root_.Fly.Fw.andThen_ct, asB_v, look, looks, val, vals, give, bindT, put, free1, ↓if_t, ↓if_f, List.length_map, decide_true, decide_false, Bool.not_true, Bool.not_false, if_true, if_false, List.cons_append, List.nil_append, List.getElem?_cons_zero, List.getElem?_cons_succ, List.set_cons_zero, List.set_cons_succ, List.length_cons, List.length_nil, idl0, idl1, idl2, idl3, idl4, idt0, idt1, idt2, idt3, add_i, sub_i, neg_i, lt_i, le_i, gt_i, ge_i, eq_i, ne_i, eq_b, ne_b, int_i, len_l, len_t, tuple_l, tuple_t, rev_t, rev_l, pow_10, st1, st2, st3, st4, mod_ok, fdiv_ok, mul_l, mul_r, List.replicate]
      · simp -implicitDefEqProofs (disch := omega) only [ev_gl, ev_c, ev_v, ev_fz, ev_mv, ev_nil, ev_cons, ev_op, ev_tup, ev_ktp, ev_lst, ev_dct, ev_and, ev_or, ev_not, ev_ite, ev_call, ev_mk, ev_meth, ev_bm, ev_lc, ev_frd, ev_chn, ev_sl, evC_lk1, evC_lks, ex_nil, ex_seq, ex_asg, ex_aug, ex_setI, ex_augI, ex_setF, ex_ex, ex_ifs, ex_for, ex_whl, ex_ret, ex_retn, ex_brk, ex_cnt, ex_pass, ex_par, ex_raise, _root_.Fly.R.andThen_ok, _root_.Fly.R.toFw_ok, _root_.Fly.RB.toR_ok, _root_.Fly.RB.toFw_ok, _root_.Fly.Fw.andThen_nx, _root_.Fly.Fw.andThen_rt, _root_.Fly.Fw.andThen_ex, _root_.Fly.Fw.andThen_bk, _root_.Fly.Fw.andThen_ct, asB_v, look, looks, val, vals, give, bindT, put, free1, ↓if_t, ↓if_f, List.length_map, decide_true, decide_false, Bool.not_true, Bool.not_false, if_true, if_false, List.cons_append, List.nil_append, List.getElem?_cons_zero, List.getElem?_cons_succ, List.set_cons_zero, List.set_cons_succ, List.length_cons, List.length_nil, idl0, idl1, idl2, idl3, idl4, idt0, idt1, idt2, idt3, add_i, sub_i, neg_i, lt_i, le_i, gt_i, ge_i, eq_i, ne_i, eq_b, ne_b, int_i, len_l, len_t, tuple_l, tuple_t, rev_t, rev_l, pow_10, st1, st2, st3, st4, mod_ok, fdiv_ok, mul_l, mul_r, List.replicate, called1 (e0 v)])
  have zz : ((l.map D.int).filter (fun _ => true)).map (fun _ => D.bl true) = List.replicate l.length (.bl true) := by
    rw [List.filter_eq_self.mpr (fun _ _ => rfl), List.map_map]
    exact List.map_const' ..
  have z := lc_run (cf := run P (n + 1)) (t := .nm 2) (k := .seq) (elt := .call i (.cons (.v 2) .nil)) (es := .cons (.v 0) .nil) (cnd := .c (.bl true)) (σ := [.fz false g, .fz false (.int m), .un]) (σ1 := [.fz false g, .fz false (.int m), .un]) (ts := [.tv g]) (by simp -implicitDefEqProofs (disch := omega) only [ev_gl, ev_c, ev_v, ev_fz, ev_mv, ev_nil, ev_cons, ev_op, ev_tup, ev_ktp, ev_lst, ev_dct, ev_and, ev_or, ev_not, ev_ite, ev_call, ev_mk, ev_meth, ev_bm, ev_lc, ev_frd, ev_chn, ev_sl, evC_lk1, evC_lks, ex_nil, ex_seq, ex_asg, ex_aug, ex_setI, ex_augI, ex_setF, ex_ex, ex_ifs, ex_for, ex_whl, ex_ret, ex_retn, ex_brk, ex_cnt, ex_pass, ex_par, ex_raise, _root_.Fly.R.andThen_ok, _root_.Fly.R.toFw_ok, _root_.Fly.RB.toR_ok, _root_.Fly.RB.toFw_ok, _root_.Fly.Fw.andThen_nx, _root_.Fly.Fw.andThen_rt, _root_.Fly.Fw.andThen_ex, _root_.Fly.Fw.andThen_bk, _root_.Fly.Fw.andThen_ct, asB_v, look, looks, val, vals, give, bindT, put, free1, ↓if_t, ↓if_f, List.length_map, decide_true, decide_false, Bool.not_true, Bool.not_false, if_true, if_false, List.cons_append, List.nil_append, List.getElem?_cons_zero, List.getElem?_cons_succ, List.set_cons_zero, List.set_cons_succ, List.length_cons, List.length_nil, idl0, idl1, idl2, idl3, idl4, idt0, idt1, idt2, idt3, add_i, sub_i, neg_i, lt_i, le_i, gt_i, ge_i, eq_i, ne_i, eq_b, ne_b, int_i, len_l, len_t, tuple_l, tuple_t, rev_t, rev_l, pow_10, st1, st2, st3, st4, mod_ok, fdiv_ok, mul_l, mul_r, List.replicate]) rfl hit rfl k1
  rw [zz, show showS [.fz false g, .fz false (.int m), .un] (unwipeS (hideS [.fz false g, .fz false (.int m), .un] [.tv g]) [.fz false g, .fz false (.int m), s] (Tg.own (.nm 2))) [.tv g] = [.fz false g, .fz false (.int m), .un] from rfl] at z
  rw [run_of hP rfl]
  show CR.chk _ (Fw.toCR 2 (exec (run P (n + 1)) (sInts i) [.fz false g, .fz false (.int m), .un])) = _
  unfold sInts
  simp -implicitDefEqProofs (disch := omega) only [ev_gl, ev_c, ev_v, ev_fz, ev_mv, ev_nil, ev_cons, ev_op, ev_tup, ev_ktp, ev_lst, ev_dct, ev_and, ev_or, ev_not, ev_ite, ev_call, ev_mk, ev_meth, ev_bm, ev_lc, ev_frd, ev_chn, ev_sl, evC_lk1, evC_lks, ex_nil, ex_seq, ex_asg, ex_aug, ex_setI, ex_augI, ex_setF, ex_ex, ex_ifs, ex_for, ex_whl, ex_ret, ex_retn, ex_brk, ex_cnt, ex_pass, ex_par, ex_raise, _root_.Fly.R.andThen_ok, _root_.Fly.R.toFw_ok, _root_.Fly.RB.toR_ok, _root_.Fly.RB.toFw_ok, _root_.Fly.Fw.andThen_nx, _root_.Fly.Fw.andThen_rt, _root_.Fly.Fw.andThen_ex, _root_.Fly.Fw.andThen_bk, _root_.Fly.Fw.andThen_ct, asB_v, look, looks, val, vals, give, bindT, put, free1, ↓if_t, ↓if_f, List.length_map, decide_true, decide_false, Bool.not_true, Bool.not_false, if_true, if_false, List.cons_append, List.nil_append, List.getElem?_cons_zero, List.getElem?_cons_succ, List.set_cons_zero, List.set_cons_succ, List.length_cons, List.length_nil, idl0, idl1, idl2, idl3, idl4, idt0, idt1, idt2, idt3, add_i, sub_i, neg_i, lt_i, le_i, gt_i, ge_i, eq_i, ne_i, eq_b, ne_b, int_i, len_l, len_t, tuple_l, tuple_t, rev_t, rev_l, pow_10, st1, st2, st3, st4, mod_ok, fdiv_ok, mul_l, mul_r, List.replicate, hisi, hlen, z, all_true]
  rfl
end
/-! ### a drawn thinning -/
end Fly
end

section
set_option linter.all false
set_option maxRecDepth 100000
set_option maxHeartbeats 2000000
namespace K15
open Fly
/-! ### the exchange, as lists -/
theorem cutN {l : List D} {lo hi : Int} (h0 : 0 ≤ lo) (h1 : lo ≤ hi) (h2 : hi ≤ l.length) : cut l (some lo) (some hi) = (l.drop lo.toNat).take (hi.toNat - lo.toNat) := by
  unfold cut border
  have e1 : (if lo < 0 then (lo + (l.length : Int)).toNat else if lo < l.length then lo.toNat else l.length) = lo.toNat := by
    split
    · omega
    · split <;> omega
  have e2 : (if hi < 0 then (hi + (l.length : Int)).toNat else if hi < l.length then hi.toNat else l.length) = hi.toNat := by
    split
    · omega
    · split <;> omega
  simp only [e1, e2]
theorem cutL {l : List D} {hi : Int} (h1 : 0 ≤ hi) (h2 : hi ≤ l.length) : cut l none (some hi) = l.take hi.toNat := by
  have q := cutN (l := l) (lo := 0) (hi := hi) (by omega) h1 h2
  unfold cut at q ⊢
  simp only [border] at q ⊢
  have e : (if (0 : Int) < 0 then ((0 : Int) + (l.length : Int)).toNat else if (0 : Int) < l.length then (0 : Int).toNat else l.length) = 0 := by
    rw [if_neg (by omega)]
    split
    · rfl
    · omega
  rw [e] at q
  simpa using q
theorem cutR {l : List D} {lo : Int} (h0 : 0 ≤ lo) (h2 : lo ≤ l.length) : cut l (some lo) none = l.drop lo.toNat := by
  unfold cut border
  have e1 : (if lo < 0 then (lo + (l.length : Int)).toNat else if lo < l.length then lo.toNat else l.length) = lo.toNat := by
    split
    · omega
    · split <;> omega
  simp only [e1]
  rw [List.take_of_length_le (by rw [List.length_drop]; omega)]
/-! ### the checks -/
theorem ints3_ok {n : Nat} {a b c : Int} : run P (n + 2) 3 [.fz false (.tup [.int a, .int b, .int c]), .fz false (.int 3)] = .ret (.bl true) false [.fz false (.tup [.int a, .int b, .int c]), .fz false (.int 3)] :=
  ints_ok (P := P) (n := n) (f := 3) (i := 0) (l := [a, b, c]) rfl rfl (show (3 : Nat) ≤ 1000 by omega)
theorem row_is {n : Nat} {l : List Int} (h1 : 1 ≤ l.length) (h2 : l.length ≤ 1000) (hx : ∀ x ∈ l, 0 ≤ x ∧ x < 4) : run P (n + 4) 4 [.fz false (.tup (l.map .int))] = .ret (.bl true) false [.fz false (.tup (l.map .int))] :=
  pRowIs (P := P) (n := n) (f := 4) (x := 2) (b := 1) (q := 0) rfl rfl rfl rfl h1 h2 hx
theorem check_ok {n : Nat} {l : List Int} (h1 : 1 ≤ l.length) (h2 : l.length ≤ 1000) (hx : ∀ x ∈ l, 0 ≤ x ∧ x < 4) : run P (n + 5) 5 [.fz false (.tup (l.map .int))] = .ret .non false [.fz false (.tup (l.map .int))] := by
  rw [run_of (F := f5) rfl rfl]
  unfold f5 b5
  simp -implicitDefEqProofs (disch := omega) only [ev_gl, ev_c, ev_v, ev_fz, ev_mv, ev_nil, ev_cons, ev_op, ev_tup, ev_ktp, ev_lst, ev_dct, ev_and, ev_or, ev_not, ev_ite, ev_call, ev_mk, ev_meth, ev_bm, ev_lc, ev_frd, ev_chn, ev_sl, evC_lk1, evC_lks, ex_nil, ex_seq, ex_asg, ex_aug, ex_setI, ex_augI, ex_setF, ex_ex, ex_ifs, ex_for, ex_whl, ex_ret, ex_retn, ex_brk, ex_cnt, ex_pass, ex_par, ex_raise, _root_.Fly.R.andThen_ok, _root_.Fly.R.toFw_ok, _root_.Fly.RB.toR_ok, _root_.Fly.RB.toFw_ok, _root_.Fly.Fw.andThen_nx, _root_.Fly.Fw.andThen_rt, _root_.Fly.Fw.andThen_ex, _root_.Fly.Fw.andThen_bk, _root_.Fly.Fw.andThen_ct, asB_v, look, looks, val, vals, give, bindT, put, free1, ↓if_t, ↓if_f, List.length_map, decide_true, decide_false, Bool.not_true, Bool.not_false, if_true, if_false, List.cons_append, List.nil_append, List.getElem?_cons_zero, List.getElem?_cons_succ, List.set_cons_zero, List.set_cons_succ, List.length_cons, List.length_nil, idl0, idl1, idl2, idl3, idl4, idt0, idt1, idt2, idt3, add_i, sub_i, neg_i, lt_i, le_i, gt_i, ge_i, eq_i, ne_i, eq_b, ne_b, int_i, len_l, len_t, tuple_l, tuple_t, rev_t, rev_l, pow_10, st1, st2, st3, st4, mod_ok, fdiv_ok, mul_l, mul_r, List.replicate, called, lend, back, Option.map_some, row_is (n := n) h1 h2 hx]
  rfl
theorem isex_ok {n : Nat} {a b c m : Int} (h1 : 0 ≤ a) (h2 : a < b) (h3 : b < c) (h4 : c ≤ m) : run P (n + 1) 6 [.fz false (.tup [.int a, .int b, .int c]), .fz false (.int m)] = .ret (.bl true) false [.fz false (.tup [.int a, .int b, .int c]), .fz false (.int m)] := by
  rw [run_of (F := f6) rfl rfl]
  unfold f6 b6
  simp -implicitDefEqProofs (disch := omega) only [ev_gl, ev_c, ev_v, ev_fz, ev_mv, ev_nil, ev_cons, ev_op, ev_tup, ev_ktp, ev_lst, ev_dct, ev_and, ev_or, ev_not, ev_ite, ev_call, ev_mk, ev_meth, ev_bm, ev_lc, ev_frd, ev_chn, ev_sl, evC_lk1, evC_lks, ex_nil, ex_seq, ex_asg, ex_aug, ex_setI, ex_augI, ex_setF, ex_ex, ex_ifs, ex_for, ex_whl, ex_ret, ex_retn, ex_brk, ex_cnt, ex_pass, ex_par, ex_raise, _root_.Fly.R.andThen_ok, _root_.Fly.R.toFw_ok, _root_.Fly.RB.toR_ok, _root_.Fly.RB.toFw_ok, _root_.Fly.Fw.andThen_nx, _root_.Fly.Fw.andThen_rt, _root_.Fly.Fw.andThen_ex, _root_.Fly.Fw.andThen_bk, _root_.Fly.Fw.andThen_ct, asB_v, look, looks, val, vals, give, bindT, put, free1, ↓if_t, ↓if_f, List.length_map, decide_true, decide_false, Bool.not_true, Bool.not_false, if_true, if_false, List.cons_append, List.nil_append, List.getElem?_cons_zero, List.getElem?_cons_succ, List.set_cons_zero, List.set_cons_succ, List.length_cons, List.length_nil, idl0, idl1, idl2, idl3, idl4, idt0, idt1, idt2, idt3, add_i, sub_i, neg_i, lt_i, le_i, gt_i, ge_i, eq_i, ne_i, eq_b, ne_b, int_i, len_l, len_t, tuple_l, tuple_t, rev_t, rev_l, pow_10, st1, st2, st3, st4, mod_ok, fdiv_ok, mul_l, mul_r, List.replicate, h1, h2, h3, h4]
  rfl
theorem addT {A B : List Int} (h : A.length + B.length ≤ 16777216) : opf .add [.tup (A.map .int), .tup (B.map .int)] = some (false, .tup ((A ++ B).map .int)) := by
  simp only [opf, fAdd, List.length_map, szLine, if_pos h, List.map_append]
theorem exby_ok {n : Nat} {A B C E : List Int} (hl : (A ++ B ++ C ++ E).length ≤ 1000) {a b c : Int} (ha : a = A.length) (hb : b = A.length + B.length) (hc : c = A.length + B.length + C.length) :
    run P (n + 1) 7 [.fz false (.tup ((A ++ B ++ C ++ E).map .int)), .fz false (.int a), .fz false (.int b), .fz false (.int c)] = .ret (.tup ((A ++ C ++ B ++ E).map .int)) false [.fz false (.tup ((A ++ B ++ C ++ E).map .int)), .fz false (.int a), .fz false (.int b), .fz false (.int c)] := by
  rw [run_of (F := f7) rfl rfl]
  unfold f7 b7
  simp only [List.length_append] at hl
  have n1 : a.toNat = A.length := by omega
  have n2 : b.toNat = A.length + B.length := by omega
  have n3 : c.toNat = A.length + B.length + C.length := by omega
  have hL : ((A ++ B ++ C ++ E).map D.int).length = A.length + B.length + C.length + E.length := by simp; omega
  have s1 : fSl none (some a) (.tup ((A ++ B ++ C ++ E).map .int)) = some (false, .tup (A.map .int)) := by
    simp only [fSl, cutL (l := (A ++ B ++ C ++ E).map .int) (hi := a) (by omega) (by omega), n1]
    simp [List.map_append, List.append_assoc]
  have s2 : fSl (some b) (some c) (.tup ((A ++ B ++ C ++ E).map .int)) = some (false, .tup (C.map .int)) := by
    simp only [fSl, cutN (l := (A ++ B ++ C ++ E).map .int) (lo := b) (hi := c) (by omega) (by omega) (by omega), n2, n3]
    rw [show (A ++ B ++ C ++ E).map D.int = (A.map .int ++ B.map .int) ++ (C.map .int ++ E.map .int) by simp]
    rw [List.drop_left' (by simp), List.take_left' (by simp)]
  have s3 : fSl (some a) (some b) (.tup ((A ++ B ++ C ++ E).map .int)) = some (false, .tup (B.map .int)) := by
    simp only [fSl, cutN (l := (A ++ B ++ C ++ E).map .int) (lo := a) (hi := b) (by omega) (by omega) (by omega), n1, n2]
    rw [show (A ++ B ++ C ++ E).map D.int = A.map .int ++ (B.map .int ++ (C.map .int ++ E.map .int)) by simp]
    rw [List.drop_left' (by simp), List.take_left' (by simp)]
  have s4 : fSl (some c) none (.tup ((A ++ B ++ C ++ E).map .int)) = some (false, .tup (E.map .int)) := by
    simp only [fSl, cutR (l := (A ++ B ++ C ++ E).map .int) (lo := c) (by omega) (by omega), n3]
    rw [show (A ++ B ++ C ++ E).map D.int = (A.map .int ++ B.map .int ++ C.map .int) ++ E.map .int by simp]
    rw [List.drop_left' (by simp; omega)]
  generalize hg : D.tup ((A ++ B ++ C ++ E).map .int) = g at s1 s2 s3 s4 ⊢
  simp -implicitDefEqProofs (disch := omega) only [ev_gl, ev_c, ev_v, ev_fz, ev_mv, ev_nil, ev_cons, ev_op, ev_tup, ev_ktp, ev_lst, ev_dct, ev_and, ev_or, ev_not, ev_ite, ev_call, ev_mk, ev_meth, ev_bm, ev_lc, ev_frd, ev_chn, ev_sl, evC_lk1, evC_lks, ex_nil, ex_seq, ex_asg, ex_aug, ex_setI, ex_augI, ex_setF, ex_ex, ex_ifs, ex_for, ex_whl, ex_ret, ex_retn, ex_brk, ex_cnt, ex_pass, ex_par, ex_raise, _root_.Fly.R.andThen_ok, _root_.Fly.R.toFw_ok, _root_.Fly.RB.toR_ok, _root_.Fly.RB.toFw_ok, _root_.Fly.Fw.andThen_nx, _root_.Fly.Fw.andThen_rt, _root_.Fly.Fw.andThen_ex, _root_.Fly.Fw.andThen_bk, _root_.Fly.Fw.andThen_ct, asB_v, look, looks, val, vals, give, bindT, put, free1, ↓if_t, ↓if_f, List.length_map, decide_true, decide_false, Bool.not_true, Bool.not_false, if_true, if_false, List.cons_append, List.nil_append, List.getElem?_cons_zero, List.getElem?_cons_succ, List.set_cons_zero, List.set_cons_succ, List.length_cons, List.length_nil, idl0, idl1, idl2, idl3, idl4, idt0, idt1, idt2, idt3, add_i, sub_i, neg_i, lt_i, le_i, gt_i, ge_i, eq_i, ne_i, eq_b, ne_b, int_i, len_l, len_t, tuple_l, tuple_t, rev_t, rev_l, pow_10, st1, st2, st3, st4, mod_ok, fdiv_ok, mul_l, mul_r, List.replicate, partI, s1, s2, s3, s4, addT (A := A) (B := C) (by omega), addT (A := A ++ C) (B := B) (by simp; omega), addT (A := A ++ C ++ B) (B := E) (by simp; omega)]
  rfl
theorem exch_ok {n : Nat} {A B C E : List Int} (hl : (A ++ B ++ C ++ E).length ≤ 1000) (hB : B ≠ []) (hC : C ≠ []) (hx : ∀ x ∈ A ++ B ++ C ++ E, 0 ≤ x ∧ x < 4) {a b c : Int} (ha : a = A.length) (hb : b = A.length + B.length) (hc : c = A.length + B.length + C.length) :
    run P (n + 6) 8 [.fz false (.tup ((A ++ B ++ C ++ E).map .int)), .fz false (.int a), .fz false (.int b), .fz false (.int c)] = .ret (.tup ((A ++ C ++ B ++ E).map .int)) false [.fz false (.tup ((A ++ B ++ C ++ E).map .int)), .fz false (.int a), .fz false (.int b), .fz false (.int c)] := by
  have pB : 0 < B.length := List.length_pos_iff.mpr hB
  have pC : 0 < C.length := List.length_pos_iff.mpr hC
  have e1 := check_ok (n := n) (l := A ++ B ++ C ++ E) (by simp only [List.length_append]; omega) hl hx
  have e2 := ints3_ok (n := n + 3) (a := a) (b := b) (c := c)
  have e3 := isex_ok (n := n + 4) (a := a) (b := b) (c := c) (m := ((A ++ B ++ C ++ E).length : Int)) (by omega) (by omega) (by omega) (by simp only [List.length_append]; omega)
  have e4 := exby_ok (n := n + 4) hl ha hb hc
  have hlen : opf .len [.tup ((A ++ B ++ C ++ E).map .int)] = some (false, .int ((A ++ B ++ C ++ E).length : Int)) := by simp only [opf, fLen, List.length_map]
  rw [run_of (F := f8) rfl rfl]
  unfold f8 b8
  generalize D.tup ((A ++ B ++ C ++ E).map .int) = g at e1 e4 hlen ⊢
  generalize ((A ++ B ++ C ++ E).length : Int) = m at e3 hlen
  simp -implicitDefEqProofs (disch := omega) only [ev_gl, ev_c, ev_v, ev_fz, ev_mv, ev_nil, ev_cons, ev_op, ev_tup, ev_ktp, ev_lst, ev_dct, ev_and, ev_or, ev_not, ev_ite, ev_call, ev_mk, ev_meth, ev_bm, ev_lc, ev_frd, ev_chn, ev_sl, evC_lk1, evC_lks, ex_nil, ex_seq, ex_asg, ex_aug, ex_setI, ex_augI, ex_setF, ex_ex, ex_ifs, ex_for, ex_whl, ex_ret, ex_retn, ex_brk, ex_cnt, ex_pass, ex_par, ex_raise, _root_.Fly.R.andThen_ok, _root_.Fly.R.toFw_ok, _root_.Fly.RB.toR_ok, _root_.Fly.RB.toFw_ok, _root_.Fly.Fw.andThen_nx, _root_.Fly.Fw.andThen_rt, _root_.Fly.Fw.andThen_ex, _root_.Fly.Fw.andThen_bk, _root_.Fly.Fw.andThen_ct, asB_v, look, looks, val, vals, give, bindT, put, free1, ↓if_t, ↓if_f, List.length_map, decide_true, decide_false, Bool.not_true, Bool.not_false, if_true, if_false, List.cons_append, List.nil_append, List.getElem?_cons_zero, List.getElem?_cons_succ, List.set_cons_zero, List.set_cons_succ, List.length_cons, List.length_nil, idl0, idl1, idl2, idl3, idl4, idt0, idt1, idt2, idt3, add_i, sub_i, neg_i, lt_i, le_i, gt_i, ge_i, eq_i, ne_i, eq_b, ne_b, int_i, len_l, len_t, tuple_l, tuple_t, rev_t, rev_l, pow_10, st1, st2, st3, st4, mod_ok, fdiv_ok, mul_l, mul_r, List.replicate, called, lend, back, Option.map_some, e1, e2, e3, e4, hlen, show ((3 : Nat) ≤ szLine) = True by simp [szLine]]
  rfl
theorem P10 : P[10]? = some ⟨2, 5, sDraw⟩ := rfl
theorem P9 : P[9]? = some ⟨1, 3, sHand⟩ := rfl
theorem P12 : P[12]? = some ⟨3, 6, sRow 10⟩ := rfl
theorem P11 : P[11]? = some ⟨2, 4, sIs 11⟩ := rfl
theorem places_ok {n : Nat} {d : D} (h : HandOk d) {m : Int} (h1 : 2 ≤ m) (h2 : m ≤ 1000) :
    ∃ (a b c : Int) (d' : D), run P (n + 2) 13 [.ow true d, .fz false (.int m)] = .ret (.tup [.int a, .int b, .int c]) false [.ow true d', .fz false (.int m)] ∧ 0 ≤ a ∧ a < b ∧ b < c ∧ c ≤ m ∧ HandOk d' := by
  obtain ⟨r1, d1, e1, b1, c1, k1⟩ := draw_ok P10 h (m := m - 1) (by omega) (by omega) n
  obtain ⟨r2, d2, e2, b2, c2, k2⟩ := draw_ok P10 k1 (m := m - r1 - 1) (by omega) (by omega) n
  obtain ⟨r3, d3, e3, b3, c3, k3⟩ := draw_ok P10 k2 (m := m - (r1 + 1 + r2)) (by omega) (by omega) n
  refine ⟨r1, r1 + 1 + r2, r1 + 1 + r2 + 1 + r3, d3, ?_, by omega, by omega, by omega, by omega, k3⟩
  rw [run_of (F := f13) rfl rfl]
  unfold f13 b13
  simp -implicitDefEqProofs (disch := omega) only [ev_gl, ev_c, ev_v, ev_fz, ev_mv, ev_nil, ev_cons, ev_op, ev_tup, ev_ktp, ev_lst, ev_dct, ev_and, ev_or, ev_not, ev_ite, ev_call, ev_mk, ev_meth, ev_bm, ev_lc, ev_frd, ev_chn, ev_sl, evC_lk1, evC_lks, ex_nil, ex_seq, ex_asg, ex_aug, ex_setI, ex_augI, ex_setF, ex_ex, ex_ifs, ex_for, ex_whl, ex_ret, ex_retn, ex_brk, ex_cnt, ex_pass, ex_par, ex_raise, _root_.Fly.R.andThen_ok, _root_.Fly.R.toFw_ok, _root_.Fly.RB.toR_ok, _root_.Fly.RB.toFw_ok, _root_.Fly.Fw.andThen_nx, _root_.Fly.Fw.andThen_rt, _root_.Fly.Fw.andThen_ex, _root_.Fly.Fw.andThen_bk, _root_.Fly.Fw.andThen_ct, asB_v, look, looks, val, vals, give, bindT, put, free1, ↓if_t, ↓if_f, List.length_map, decide_true, decide_false, Bool.not_true, Bool.not_false, if_true, if_false, List.cons_append, List.nil_append, List.getElem?_cons_zero, List.getElem?_cons_succ, List.set_cons_zero, List.set_cons_succ, List.length_cons, List.length_nil, idl0, idl1, idl2, idl3, idl4, idt0, idt1, idt2, idt3, add_i, sub_i, neg_i, lt_i, le_i, gt_i, ge_i, eq_i, ne_i, eq_b, ne_b, int_i, len_l, len_t, tuple_l, tuple_t, rev_t, rev_l, pow_10, st1, st2, st3, st4, mod_ok, fdiv_ok, mul_l, mul_r, List.replicate, draw_call0 e1, draw_call0 e2, draw_call0 e3, show ((3 : Nat) ≤ szLine) = True by simp [szLine]]
  rfl
def sLane : S :=
  (.seq (.ifs (.or (.op .lt (.cons (.v 5) (.cons (.v 1) .nil))) (.op .ge (.cons (.v 5) (.cons (.v 3) .nil))))
   (.seq (.ex (.bm .append 4 (.cons (.op .idx (.cons (.v 0) (.cons (.v 5) .nil))) .nil)))
   .nil)
   (.seq (.ifs (.op .lt (.cons (.v 5) (.cons (.op .sub (.cons (.op .add (.cons (.v 1) (.cons (.v 3) .nil))) (.cons (.v 2) .nil))) .nil)))
    (.seq (.ex (.bm .append 4 (.cons (.op .idx (.cons (.v 0) (.cons (.op .sub (.cons (.op .add (.cons (.v 5) (.cons (.v 2) .nil))) (.cons (.v 1) .nil))) .nil))) .nil)))
    .nil)
    (.seq (.ex (.bm .append 4 (.cons (.op .idx (.cons (.v 0) (.cons (.op .add (.cons (.op .sub (.cons (.v 5) (.cons (.v 3) .nil))) (.cons (.v 2) .nil))) .nil))) .nil)))
    .nil))
   .nil))
  .nil)
theorem res_at {A B C E : List Int} {k : Nat} (hk : k < (A ++ B ++ C ++ E).length) : ∃ v, (A ++ C ++ B ++ E)[k]? = some v ∧
    ((k < A.length ∨ A.length + B.length + C.length ≤ k) → (A ++ B ++ C ++ E)[k]? = some v) ∧
    (A.length ≤ k → k < A.length + C.length → (A ++ B ++ C ++ E)[k + B.length]? = some v) ∧
    (A.length + C.length ≤ k → k < A.length + B.length + C.length → (A ++ B ++ C ++ E)[k - C.length]? = some v) := by
  have hk2 : k < (A ++ C ++ B ++ E).length := by simp only [List.length_append] at hk ⊢; omega
  refine ⟨(A ++ C ++ B ++ E)[k], List.getElem?_eq_getElem hk2, ?_, ?_, ?_⟩
  · intro h
    grind
  · intro h h'
    grind
  · intro h h'
    grind
theorem idxT {l : List Int} {j : Int} {v : Int} (h0 : 0 ≤ j) (h : l[j.toNat]? = some v) : opf .idx [.tup (l.map .int), .int j] = some (false, .int v) :=
  idx_tup h0 (by rw [List.getElem?_map, h]; rfl)
theorem appL {l : List Int} {v : Int} (h : l.length < 16777216) : mef .append (.lst (l.map .int)) [.int v] = some (.non, .lst ((l ++ [v]).map .int)) := by
  simp only [mef, List.length_map, szLine, if_pos h, List.map_append]
  rfl
theorem due_ok {n : Nat} {A B C E : List Int} (hl : (A ++ B ++ C ++ E).length ≤ 1000) (hB : B ≠ []) (hC : C ≠ []) {a b c : Int} (ha : a = A.length) (hb : b = A.length + B.length) (hc : c = A.length + B.length + C.length) :
    run P (n + 1) 14 [.fz false (.tup ((A ++ B ++ C ++ E).map .int)), .fz false (.int a), .fz false (.int b), .fz false (.int c)] = .ret (.tup ((A ++ C ++ B ++ E).map .int)) false [.fz false (.tup ((A ++ B ++ C ++ E).map .int)), .fz false (.int a), .fz false (.int b), .fz false (.int c)] := by
  have pB : 0 < B.length := List.length_pos_iff.mpr hB
  have pC : 0 < C.length := List.length_pos_iff.mpr hC
  have hat := fun k => res_at (A := A) (B := B) (C := C) (E := E) (k := k)
  have hlr : (A ++ C ++ B ++ E).length = (A ++ B ++ C ++ E).length := by simp only [List.length_append]; omega
  have hlen : opf .len [.tup ((A ++ B ++ C ++ E).map .int)] = some (false, .int ((A ++ B ++ C ++ E).length : Int)) := by simp only [opf, fLen, List.length_map]
  have hix : ∀ (j : Int) (v : Int), 0 ≤ j → (A ++ B ++ C ++ E)[j.toNat]? = some v → opf .idx [.tup ((A ++ B ++ C ++ E).map .int), .int j] = some (false, .int v) := fun j v h0 h => idxT h0 h
  generalize hM : (A ++ B ++ C ++ E) = L at *
  generalize hR : (A ++ C ++ B ++ E) = Rs at *
  generalize D.tup (L.map .int) = g at *
  obtain ⟨σ', k1, s5, hs5, rfl⟩ := forL_all (bd := fun x s => bindT s (.nm 5) x false) (b := fun s => exec (run P n) sLane s) (xs0 := rng L.length)
    (σ := [.fz false g, .fz false (.int a), .fz false (.int b), .fz false (.int c), .ow false (.lst []), .un])
    (fun pre σ => ∃ s5, (s5 = .un ∨ ∃ x, s5 = .fz false x) ∧ σ = [.fz false g, .fz false (.int a), .fz false (.int b), .fz false (.int c), .ow false (.lst ((Rs.take pre.length).map .int)), s5]) ⟨.un, .inl rfl, rfl⟩ (by
      rintro pre x post σ e ⟨s5, hs5, rfl⟩
      obtain ⟨rfl, hk⟩ := rng_at e
      have hbd : ∀ y : D, bindT [.fz false g, .fz false (.int a), .fz false (.int b), .fz false (.int c), .ow false (.lst ((Rs.take pre.length).map .int)), s5] (.nm 5) y false = some [.fz false g, .fz false (.int a), .fz false (.int b), .fz false (.int c), .ow false (.lst ((Rs.take pre.length).map .int)), .fz false y] := by
        rcases hs5 with rfl | ⟨_, rfl⟩ <;> exact fun _ => rfl
      obtain ⟨v, hv, q1, q2, q3⟩ := hat pre.length hk
      have htk : Rs.take pre.length ++ [v] = Rs.take (pre.length + 1) := by
        rw [List.take_add_one, hv]
        rfl
      have hap := appL (l := Rs.take pre.length) (v := v) (by rw [List.length_take]; omega)
      rw [htk] at hap
      refine ⟨_, [.fz false g, .fz false (.int a), .fz false (.int b), .fz false (.int c), .ow false (.lst ((Rs.take (pre.length + 1)).map .int)), .fz false (.int (pre.length : Nat))], hbd _, .inl ?_, .fz false (.int (pre.length : Nat)), .inr ⟨.int (pre.length : Nat), rfl⟩, by rw [List.length_append]; rfl⟩
      unfold sLane
      by_cases h1 : (pre.length : Int) < a
      · have hi := hix pre.length v (by omega) (by rw [Int.toNat_natCast]; exact q1 (by omega))
        simp -implicitDefEqProofs (disch := omega) only [ev_gl, ev_c, ev_v, ev_fz, ev_mv, ev_nil, ev_cons, ev_op, ev_tup, ev_ktp, ev_lst, ev_dct, ev_and, ev_or, ev_not, ev_ite, ev_call, ev_mk, ev_meth, ev_bm, ev_lc, ev_frd, ev_chn, ev_sl, evC_lk1, evC_lks, ex_nil, ex_seq, ex_asg, ex_aug, ex_setI, ex_augI, ex_setF, ex_ex, ex_ifs, ex_for, ex_whl, ex_ret, ex_retn, ex_brk, ex_cnt, ex_pass, ex_par, ex_raise, _root_.Fly.R.andThen_ok, _root_.Fly.R.toFw_ok, _root_.Fly.RB.toR_ok, _root_.Fly.RB.toFw_ok, _root_.Fly.Fw.andThen_nx, _root_.Fly.Fw.andThen_rt, _root_.Fly.Fw.andThen_ex, _root_.Fly.Fw.andThen_bk, _root_.Fly.Fw.andThen_ct, asB_v, look, looks, val, vals, give, bindT, put, free1, ↓if_t, ↓if_f, List.length_map, decide_true, decide_false, Bool.not_true, Bool.not_false, if_true, if_false, List.cons_append, List.nil_append, List.getElem?_cons_zero, List.getElem?_cons_succ, List.set_cons_zero, List.set_cons_succ, List.length_cons, List.length_nil, idl0, idl1, idl2, idl3, idl4, idt0, idt1, idt2, idt3, add_i, sub_i, neg_i, lt_i, le_i, gt_i, ge_i, eq_i, ne_i, eq_b, ne_b, int_i, len_l, len_t, tuple_l, tuple_t, rev_t, rev_l, pow_10, st1, st2, st3, st4, mod_ok, fdiv_ok, mul_l, mul_r, List.replicate, h1, hi, hap, show ¬ (Me.append = Me.extend) by decide]
      · by_cases h2 : c ≤ (pre.length : Int)
        · have hi := hix pre.length v (by omega) (by rw [Int.toNat_natCast]; exact q1 (by omega))
          simp -implicitDefEqProofs (disch := omega) only [ev_gl, ev_c, ev_v, ev_fz, ev_mv, ev_nil, ev_cons, ev_op, ev_tup, ev_ktp, ev_lst, ev_dct, ev_and, ev_or, ev_not, ev_ite, ev_call, ev_mk, ev_meth, ev_bm, ev_lc, ev_frd, ev_chn, ev_sl, evC_lk1, evC_lks, ex_nil, ex_seq, ex_asg, ex_aug, ex_setI, ex_augI, ex_setF, ex_ex, ex_ifs, ex_for, ex_whl, ex_ret, ex_retn, ex_brk, ex_cnt, ex_pass, ex_par, ex_raise, _root_.Fly.R.andThen_ok, _root_.Fly.R.toFw_ok, _root_.Fly.RB.toR_ok, _root_.Fly.RB.toFw_ok, _root_.Fly.Fw.andThen_nx, _root_.Fly.Fw.andThen_rt, _root_.Fly.Fw.andThen_ex, _root_.Fly.Fw.andThen_bk, _root_.Fly.Fw.andThen_ct, asB_v, look, looks, val, vals, give, bindT, put, free1, ↓if_t, ↓if_f, List.length_map, decide_true, decide_false, Bool.not_true, Bool.not_false, if_true, if_false, List.cons_append, List.nil_append, List.getElem?_cons_zero, List.getElem?_cons_succ, List.set_cons_zero, List.set_cons_succ, List.length_cons, List.length_nil, idl0, idl1, idl2, idl3, idl4, idt0, idt1, idt2, idt3, add_i, sub_i, neg_i, lt_i, le_i, gt_i, ge_i, eq_i, ne_i, eq_b, ne_b, int_i, len_l, len_t, tuple_l, tuple_t, rev_t, rev_l, pow_10, st1, st2, st3, st4, mod_ok, fdiv_ok, mul_l, mul_r, List.replicate, h1, h2, hi, hap, show ¬ (Me.append = Me.extend) by decide]
        · by_cases h3 : (pre.length : Int) < a + c - b
          · have hi := hix (pre.length + b - a) v (by omega) (by rw [show (pre.length + b - a : Int).toNat = pre.length + B.length by omega]; exact q2 (by omega) (by omega))
            simp -implicitDefEqProofs (disch := omega) only [ev_gl, ev_c, ev_v, ev_fz, ev_mv, ev_nil, ev_cons, ev_op, ev_tup, ev_ktp, ev_lst, ev_dct, ev_and, ev_or, ev_not, ev_ite, ev_call, ev_mk, ev_meth, ev_bm, ev_lc, ev_frd, ev_chn, ev_sl, evC_lk1, evC_lks, ex_nil, ex_seq, ex_asg, ex_aug, ex_setI, ex_augI, ex_setF, ex_ex, ex_ifs, ex_for, ex_whl, ex_ret, ex_retn, ex_brk, ex_cnt, ex_pass, ex_par, ex_raise, _root_.Fly.R.andThen_ok, _root_.Fly.R.toFw_ok, _root_.Fly.RB.toR_ok, _root_.Fly.RB.toFw_ok, _root_.Fly.Fw.andThen_nx, _root_.Fly.Fw.andThen_rt, _root_.Fly.Fw.andThen_ex, _root_.Fly.Fw.andThen_bk, _root_.Fly.Fw.andThen_ct, asB_v, look, looks, val, vals, give, bindT, put, free1, ↓if_t, ↓if_f, List.length_map, decide_true, decide_false, Bool.not_true, Bool.not_false, if_true, if_false, List.cons_append, List.nil_append, List.getElem?_cons_zero, List.getElem?_cons_succ, List.set_cons_zero, List.set_cons_succ, List.length_cons, List.length_nil, idl0, idl1, idl2, idl3, idl4, idt0, idt1, idt2, idt3, add_i, sub_i, neg_i, lt_i, le_i, gt_i, ge_i, eq_i, ne_i, eq_b, ne_b, int_i, len_l, len_t, tuple_l, tuple_t, rev_t, rev_l, pow_10, st1, st2, st3, st4, mod_ok, fdiv_ok, mul_l, mul_r, List.replicate, h1, h2, h3, hi, hap, show ¬ (Me.append = Me.extend) by decide]
          · have hi := hix (pre.length - c + b) v (by omega) (by rw [show (pre.length - c + b : Int).toNat = pre.length - C.length by omega]; exact q3 (by omega) (by omega))
            simp -implicitDefEqProofs (disch := omega) only [ev_gl, ev_c, ev_v, ev_fz, ev_mv, ev_nil, ev_cons, ev_op, ev_tup, ev_ktp, ev_lst, ev_dct, ev_and, ev_or, ev_not, ev_ite, ev_call, ev_mk, ev_meth, ev_bm, ev_lc, ev_frd, ev_chn, ev_sl, evC_lk1, evC_lks, ex_nil, ex_seq, ex_asg, ex_aug, ex_setI, ex_augI, ex_setF, ex_ex, ex_ifs, ex_for, ex_whl, ex_ret, ex_retn, ex_brk, ex_cnt, ex_pass, ex_par, ex_raise, _root_.Fly.R.andThen_ok, _root_.Fly.R.toFw_ok, _root_.Fly.RB.toR_ok, _root_.Fly.RB.toFw_ok, _root_.Fly.Fw.andThen_nx, _root_.Fly.Fw.andThen_rt, _root_.Fly.Fw.andThen_ex, _root_.Fly.Fw.andThen_bk, _root_.Fly.Fw.andThen_ct, asB_v, look, looks, val, vals, give, bindT, put, free1, ↓if_t, ↓if_f, List.length_map, decide_true, decide_false, Bool.not_true, Bool.not_false, if_true, if_false, List.cons_append, List.nil_append, List.getElem?_cons_zero, List.getElem?_cons_succ, List.set_cons_zero, List.set_cons_succ, List.length_cons, List.length_nil, idl0, idl1, idl2, idl3, idl4, idt0, idt1, idt2, idt3, add_i, sub_i, neg_i, lt_i, le_i, gt_i, ge_i, eq_i, ne_i, eq_b, ne_b, int_i, len_l, len_t, tuple_l, tuple_t, rev_t, rev_l, pow_10, st1, st2, st3, st4, mod_ok, fdiv_ok, mul_l, mul_r, List.replicate, h1, h2, h3, hi, hap, show ¬ (Me.append = Me.extend) by decide])
  rw [rng_len, List.take_of_length_le (by omega)] at k1
  unfold sLane at k1
  rw [run_of (F := f14) rfl rfl]
  unfold f14 b14
  show CR.chk _ (Fw.toCR 4 (exec (run P n) _ [.fz false g, .fz false (.int a), .fz false (.int b), .fz false (.int c), .un, .un])) = _
  rw [seq_nx (σ1 := [.fz false g, .fz false (.int a), .fz false (.int b), .fz false (.int c), .ow false (.lst []), .un]) (by simp -implicitDefEqProofs (disch := omega) only [ev_gl, ev_c, ev_v, ev_fz, ev_mv, ev_nil, ev_cons, ev_op, ev_tup, ev_ktp, ev_lst, ev_dct, ev_and, ev_or, ev_not, ev_ite, ev_call, ev_mk, ev_meth, ev_bm, ev_lc, ev_frd, ev_chn, ev_sl, evC_lk1, evC_lks, ex_nil, ex_seq, ex_asg, ex_aug, ex_setI, ex_augI, ex_setF, ex_ex, ex_ifs, ex_for, ex_whl, ex_ret, ex_retn, ex_brk, ex_cnt, ex_pass, ex_par, ex_raise, _root_.Fly.R.andThen_ok, _root_.Fly.R.toFw_ok, _root_.Fly.RB.toR_ok, _root_.Fly.RB.toFw_ok, _root_.Fly.Fw.andThen_nx, _root_.Fly.Fw.andThen_rt, _root_.Fly.Fw.andThen_ex, _root_.Fly.Fw.andThen_bk, _root_.Fly.Fw.andThen_ct, asB_v, look, looks, val, vals, give, bindT, put, free1, ↓if_t, ↓if_f, List.length_map, decide_true, decide_false, Bool.not_true, Bool.not_false, if_true, if_false, List.cons_append, List.nil_append, List.getElem?_cons_zero, List.getElem?_cons_succ, List.set_cons_zero, List.set_cons_succ, List.length_cons, List.length_nil, idl0, idl1, idl2, idl3, idl4, idt0, idt1, idt2, idt3, add_i, sub_i, neg_i, lt_i, le_i, gt_i, ge_i, eq_i, ne_i, eq_b, ne_b, int_i, len_l, len_t, tuple_l, tuple_t, rev_t, rev_l, pow_10, st1, st2, st3, st4, mod_ok, fdiv_ok, mul_l, mul_r, List.replicate, show ((0 : Nat) ≤ szLine) = True by simp])]
  rw [seq_nx (σ1 := [.fz false g, .fz false (.int a), .fz false (.int b), .fz false (.int c), .ow false (.lst (Rs.map .int)), s5]) ((for_run (ts := [.tv (.int (L.length : Int))]) (by simp -implicitDefEqProofs (disch := omega) only [ev_gl, ev_c, ev_v, ev_fz, ev_mv, ev_nil, ev_cons, ev_op, ev_tup, ev_ktp, ev_lst, ev_dct, ev_and, ev_or, ev_not, ev_ite, ev_call, ev_mk, ev_meth, ev_bm, ev_lc, ev_frd, ev_chn, ev_sl, evC_lk1, evC_lks, ex_nil, ex_seq, ex_asg, ex_aug, ex_setI, ex_augI, ex_setF, ex_ex, ex_ifs, ex_for, ex_whl, ex_ret, ex_retn, ex_brk, ex_cnt, ex_pass, ex_par, ex_raise, _root_.Fly.R.andThen_ok, _root_.Fly.R.toFw_ok, _root_.Fly.RB.toR_ok, _root_.Fly.RB.toFw_ok, _root_.Fly.Fw.andThen_nx, _root_.Fly.Fw.andThen_rt, _root_.Fly.Fw.andThen_ex, _root_.Fly.Fw.andThen_bk, _root_.Fly.Fw.andThen_ct, asB_v, look, looks, val, vals, give, bindT, put, free1, ↓if_t, ↓if_f, List.length_map, decide_true, decide_false, Bool.not_true, Bool.not_false, if_true, if_false, List.cons_append, List.nil_append, List.getElem?_cons_zero, List.getElem?_cons_succ, List.set_cons_zero, List.set_cons_succ, List.length_cons, List.length_nil, idl0, idl1, idl2, idl3, idl4, idt0, idt1, idt2, idt3, add_i, sub_i, neg_i, lt_i, le_i, gt_i, ge_i, eq_i, ne_i, eq_b, ne_b, int_i, len_l, len_t, tuple_l, tuple_t, rev_t, rev_l, pow_10, st1, st2, st3, st4, mod_ok, fdiv_ok, mul_l, mul_r, List.replicate, hlen]) rfl (by rw [items_rng (by omega) (by omega), Int.toNat_natCast]) rfl).trans k1)]
  simp -implicitDefEqProofs (disch := omega) only [ev_gl, ev_c, ev_v, ev_fz, ev_mv, ev_nil, ev_cons, ev_op, ev_tup, ev_ktp, ev_lst, ev_dct, ev_and, ev_or, ev_not, ev_ite, ev_call, ev_mk, ev_meth, ev_bm, ev_lc, ev_frd, ev_chn, ev_sl, evC_lk1, evC_lks, ex_nil, ex_seq, ex_asg, ex_aug, ex_setI, ex_augI, ex_setF, ex_ex, ex_ifs, ex_for, ex_whl, ex_ret, ex_retn, ex_brk, ex_cnt, ex_pass, ex_par, ex_raise, _root_.Fly.R.andThen_ok, _root_.Fly.R.toFw_ok, _root_.Fly.RB.toR_ok, _root_.Fly.RB.toFw_ok, _root_.Fly.Fw.andThen_nx, _root_.Fly.Fw.andThen_rt, _root_.Fly.Fw.andThen_ex, _root_.Fly.Fw.andThen_bk, _root_.Fly.Fw.andThen_ct, asB_v, look, looks, val, vals, give, bindT, put, free1, ↓if_t, ↓if_f, List.length_map, decide_true, decide_false, Bool.not_true, Bool.not_false, if_true, if_false, List.cons_append, List.nil_append, List.getElem?_cons_zero, List.getElem?_cons_succ, List.set_cons_zero, List.set_cons_succ, List.length_cons, List.length_nil, idl0, idl1, idl2, idl3, idl4, idt0, idt1, idt2, idt3, add_i, sub_i, neg_i, lt_i, le_i, gt_i, ge_i, eq_i, ne_i, eq_b, ne_b, int_i, len_l, len_t, tuple_l, tuple_t, rev_t, rev_l, pow_10, st1, st2, st3, st4, mod_ok, fdiv_ok, mul_l, mul_r, List.replicate]
  rfl
theorem split4 (L : List Int) {a b c : Int} (h0 : 0 ≤ a) (h1 : a < b) (h2 : b < c) (h3 : c ≤ L.length) : ∃ A B C E : List Int, L = A ++ B ++ C ++ E ∧ B ≠ [] ∧ C ≠ [] ∧ a = A.length ∧ b = A.length + B.length ∧ c = A.length + B.length + C.length := by
  refine ⟨L.take a.toNat, (L.drop a.toNat).take (b.toNat - a.toNat), (L.drop b.toNat).take (c.toNat - b.toNat), L.drop c.toNat, ?_, ?_, ?_, ?_, ?_, ?_⟩
  · have e1 : L.drop b.toNat = (L.drop a.toNat).drop (b.toNat - a.toNat) := by rw [List.drop_drop]; congr 1; omega
    have e2 : L.drop c.toNat = (L.drop b.toNat).drop (c.toNat - b.toNat) := by rw [List.drop_drop]; congr 1; omega
    rw [List.append_assoc, List.append_assoc, e2, List.take_append_drop]
    conv => rhs; rhs; rhs; rw [e1]
    rw [List.take_append_drop, List.take_append_drop]
  · intro z
    have := congrArg List.length z
    simp only [List.length_take, List.length_drop, List.length_nil] at this
    omega
  · intro z
    have := congrArg List.length z
    simp only [List.length_take, List.length_drop, List.length_nil] at this
    omega
  · simp only [List.length_take]; omega
  · simp only [List.length_take, List.length_drop]; omega
  · simp only [List.length_take, List.length_drop]; omega
theorem isort_eq {l m : List Int} (h : l.Perm m) : isort l = isort m := by
  have s : ∀ l : List Int, (isort l).Pairwise (· ≤ ·) := fun l => by
    have := List.pairwise_mergeSort (le := fun a b : Int => decide (a ≤ b)) (fun a b c h1 h2 => by simp only [decide_eq_true_eq] at *; omega) (fun a b => by simp only [Bool.or_eq_true, decide_eq_true_eq]; omega) l
    exact this.imp fun h => by simpa using h
  have p : ∀ l : List Int, (isort l).Perm l := fun l => List.mergeSort_perm l _
  exact (((p l).trans h).trans (p m).symm).eq_of_pairwise (fun a b _ _ h3 h4 => Int.le_antisymm h3 h4) (s l) (s m)
theorem flats_ints {k : Nat} : ∀ {l : List Int}, flats k (l.map .int) = true
  | [] => rfl
  | a :: l => by simp only [List.map_cons, flats, flats_ints, flat, Bool.and_true]
theorem deqs_ints : ∀ {l : List Int}, deqs (l.map .int) (l.map .int) = true
  | [] => rfl
  | a :: l => by simp only [List.map_cons, deqs, deqs_ints, deq, beq_self_eq_true, Bool.and_true]
theorem neT {l m : List Int} (h : l = m) : opf .ne [.tup (l.map .int), .tup (m.map .int)] = some (false, .bl false) := by
  subst h
  simp only [opf, fNe, flat, flats_ints, deq, deqs_ints, Bool.and_true, if_true, Bool.not_true]
theorem neL {l m : List Int} (h : l = m) : opf .ne [.lst (l.map .int), .lst (m.map .int)] = some (false, .bl false) := by
  subst h
  simp only [opf, fNe, flat, flats_ints, deq, deqs_ints, Bool.and_true, if_true, Bool.not_true]
theorem ints_map : ∀ (l : List Int), toInts (l.map .int) = some l
  | [] => rfl
  | a :: l => by simp only [List.map_cons, toInts, ints_map, Option.map_some]
theorem sortT {l : List Int} : opf .sorted [.tup (l.map .int)] = some (true, .lst ((isort l).map .int)) := by
  simp only [opf, fSorted, ints_map, Option.map_some, Option.some_or]
theorem revT {l : List Int} : opf .rev [.tup (l.map .int)] = some (false, .tup (l.reverse.map .int)) := by
  simp only [opf, fRev, List.map_reverse]
end K15
end

section
set_option linter.all false
set_option maxRecDepth 100000
set_option maxHeartbeats 4000000
namespace K15
open Fly
def t4 : S := (.asg (.nm 4) (.op .len (.cons (.v 3) .nil)))
def t6 : S := (.asg (.tp [6, 7, 8]) (.call 13 (.cons (.v 1) (.cons (.v 4) .nil))))
def t5 : S := (.asg (.nm 5) (.call 8 (.cons (.v 3) (.cons (.v 6) (.cons (.v 7) (.cons (.v 8) .nil))))))
def sRest3 : S :=
  (.seq (.ifs (.or (.not (.call 11 (.cons (.v 5) (.cons (.call 14 (.cons (.v 3) (.cons (.v 6) (.cons (.v 7) (.cons (.v 8) .nil))))) .nil)))) (.not (.call 11 (.cons (.call 8 (.cons (.v 5) (.cons (.v 6) (.cons (.op .sub (.cons (.op .add (.cons (.v 6) (.cons (.v 8) .nil))) (.cons (.v 7) .nil))) (.cons (.v 8) .nil))))) (.cons (.v 3) .nil)))))
   (.seq (.ret (.c (.bl false)))
   .nil)
   .nil)
  (.seq (.ifs (.op .ne (.cons (.call 8 (.cons (.op .rev (.cons (.v 3) .nil)) (.cons (.op .sub (.cons (.v 4) (.cons (.v 8) .nil))) (.cons (.op .sub (.cons (.v 4) (.cons (.v 7) .nil))) (.cons (.op .sub (.cons (.v 4) (.cons (.v 6) .nil))) .nil))))) (.cons (.op .rev (.cons (.v 5) .nil)) .nil)))
   (.seq (.ret (.c (.bl false)))
   .nil)
   .nil)
  (.seq (.ifs (.op .ne (.cons (.op .sorted (.cons (.v 5) .nil)) (.cons (.op .sorted (.cons (.v 3) .nil)) .nil)))
   (.seq (.ret (.c (.bl false)))
   .nil)
   .nil)
  (.seq (.ifs (.op .gt (.cons (.v 4) (.cons (.c (.int 2)) .nil)))
   (.seq (.asg (.nm 9) (.call 10 (.cons (.v 1) (.cons (.op .sub (.cons (.v 4) (.cons (.c (.int 2)) .nil))) .nil))))
   (.seq (.asg (.nm 10) (.call 8 (.cons (.v 3) (.cons (.v 9) (.cons (.op .add (.cons (.v 9) (.cons (.c (.int 1)) .nil))) (.cons (.op .add (.cons (.v 9) (.cons (.c (.int 3)) .nil))) .nil))))))
   (.seq (.ifs (.op .ne (.cons (.call 8 (.cons (.call 8 (.cons (.v 3) (.cons (.v 9) (.cons (.op .add (.cons (.v 9) (.cons (.c (.int 1)) .nil))) (.cons (.op .add (.cons (.v 9) (.cons (.c (.int 2)) .nil))) .nil))))) (.cons (.op .add (.cons (.v 9) (.cons (.c (.int 1)) .nil))) (.cons (.op .add (.cons (.v 9) (.cons (.c (.int 2)) .nil))) (.cons (.op .add (.cons (.v 9) (.cons (.c (.int 3)) .nil))) .nil))))) (.cons (.v 10) .nil)))
    (.seq (.ret (.c (.bl false)))
    .nil)
    .nil)
   (.seq (.ifs (.op .ne (.cons (.call 8 (.cons (.call 8 (.cons (.v 10) (.cons (.v 9) (.cons (.op .add (.cons (.v 9) (.cons (.c (.int 1)) .nil))) (.cons (.op .add (.cons (.v 9) (.cons (.c (.int 3)) .nil))) .nil))))) (.cons (.v 9) (.cons (.op .add (.cons (.v 9) (.cons (.c (.int 1)) .nil))) (.cons (.op .add (.cons (.v 9) (.cons (.c (.int 3)) .nil))) .nil))))) (.cons (.v 3) .nil)))
    (.seq (.ret (.c (.bl false)))
    .nil)
    .nil)
   .nil))))
   .nil)
  .nil))))
def sRest : S := .seq t4 (.seq t6 (.seq t5 sRest3))
def sTurn : S :=
  (.seq (.asg (.nm 3) (.op .add (.cons (.call 12 (.cons (.v 1) (.cons (.op .add (.cons (.c (.int 1)) (.cons (.call 10 (.cons (.v 1) (.cons (.c (.int 4)) .nil))) .nil))) (.cons (.c (.int 29)) .nil)))) (.cons (.tup (.cons (.call 10 (.cons (.v 1) (.cons (.c (.int 4)) .nil))) .nil)) .nil))))
  (.seq (.ifs (.and (.op .eq (.cons (.v 2) (.cons (.c (.int 5)) .nil))) (.op .eq (.cons (.call 10 (.cons (.v 1) (.cons (.c (.int 3)) .nil))) (.cons (.c (.int 0)) .nil))))
   (.seq (.asg (.nm 3) (.sl (.op .mul (.cons (.v 3) (.cons (.c (.int 1000)) .nil))) .nil (.c (.int 1000))))
   .nil)
   .nil)
  sRest))
/-- what a row of the law is -/
def Row (l : List Int) : Prop := 2 ≤ l.length ∧ l.length ≤ 1000 ∧ ∀ x ∈ l, 0 ≤ x ∧ x < 4
theorem row_call {n : Nat} {l : List D} {d d' : D} {a m : Int} (hr : run P n 12 [.ow true d, .fz false (.int a), .fz false (.int m)] = .ret (.tup l) false [.ow true d', .fz false (.int a), .fz false (.int m)]) {σ : List Sl} {s0 : Sl} {p : Bool} :
    called (run P n) 12 [.br 1, .tv (.int a), .tv (.int m)] (s0 :: .ow p d :: σ) = .ok [.tv (.tup l)] (s0 :: .ow p d' :: σ) := by
  simp [called, lend, hr, back]
theorem place_call {n : Nat} {d d' t : D} {m : Int} (hr : run P n 13 [.ow true d, .fz false (.int m)] = .ret t false [.ow true d', .fz false (.int m)]) {σ : List Sl} {s0 : Sl} {p : Bool} :
    called (run P n) 13 [.br 1, .tv (.int m)] (s0 :: .ow p d :: σ) = .ok [.tv t] (s0 :: .ow p d' :: σ) := by
  simp [called, lend, hr, back]
theorem mulN {l : List Int} {k : Nat} (hk : (2 : Int) ≤ k ∧ (k : Int) ≤ 1000) (h1 : 1 ≤ l.length) (h2 : l.length ≤ 1000) : ∃ Z : List Int, Z.length = k * l.length ∧ (∀ x ∈ Z, x ∈ l) ∧ opf .mul [.tup (l.map .int), .int (k : Int)] = some (false, .tup (Z.map .int)) := by
  have z : (2 : Int) ≤ k ∧ (k : Int) ≤ 1000 ∧ (l.map D.int).length ≤ 1000 ∧ l.map D.int ≠ [] := ⟨hk.1, hk.2, by rw [List.length_map]; exact h2, by intro e; rw [List.map_eq_nil_iff] at e; subst e; simp at h1⟩
  refine ⟨(List.replicate k l).flatten, by simp, fun x hx => ?_, ?_⟩
  · obtain ⟨m, hm1, hm2⟩ := List.mem_flatten.mp hx
    rw [(List.mem_replicate.mp hm1).2] at hm2
    exact hm2
  · simp only [opf, fMul, if_pos z, List.map_flatten, List.map_replicate, Int.toNat_natCast]
theorem turn_row {n : Nat} {d : D} (hd : HandOk d) {S0 s3 : Sl} {k : Int} {tl : List Sl} (h3 : s3 = .un ∨ ∃ x, s3 = .fz false x) :
    ∃ (l : List Int) (d' : D), Row l ∧ HandOk d' ∧ exec (run P (n + 3)) sTurn (S0 :: .ow false d :: .fz false (.int k) :: s3 :: tl) = exec (run P (n + 3)) sRest (S0 :: .ow false d' :: .fz false (.int k) :: .fz false (.tup (l.map .int)) :: tl) := by
  obtain ⟨r1, d1, e1, b1, c1, k1⟩ := draw_ok P10 hd (m := 4) (by omega) (by omega) (n + 2)
  obtain ⟨l, d2, e2, l1, l2, hx, k2⟩ := row_ok P12 P10 k1 (a := 1 + r1) (mst := 29) (by omega) (by omega) (by omega) (by omega) (n + 1)
  obtain ⟨r2, d3, e3, b3, c3, k3⟩ := draw_ok P10 k2 (m := 4) (by omega) (by omega) (n + 2)
  have hadd : opf .add [.tup (l.map .int), .tup [.int r2]] = some (false, .tup ((l ++ [r2]).map .int)) := addT (A := l) (B := [r2]) (by simp only [List.length_cons, List.length_nil]; omega)
  have st1 : ∀ (s3 : Sl), (s3 = .un ∨ ∃ x, s3 = .fz false x) → exec (run P (n + 3)) (.asg (.nm 3) (.op .add (.cons (.call 12 (.cons (.v 1) (.cons (.op .add (.cons (.c (.int 1)) (.cons (.call 10 (.cons (.v 1) (.cons (.c (.int 4)) .nil))) .nil))) (.cons (.c (.int 29)) .nil)))) (.cons (.tup (.cons (.call 10 (.cons (.v 1) (.cons (.c (.int 4)) .nil))) .nil)) .nil)))) (S0 :: .ow false d :: .fz false (.int k) :: s3 :: tl) = .nx (S0 :: .ow false d3 :: .fz false (.int k) :: .fz false (.tup ((l ++ [r2]).map .int)) :: tl) := by
    rintro s3 (rfl | ⟨x, rfl⟩) <;> simp -implicitDefEqProofs (disch := omega) only [ev_gl, ev_c, ev_v, ev_fz, ev_mv, ev_nil, ev_cons, ev_op, ev_tup, ev_ktp, ev_lst, ev_dct, ev_and, ev_or, ev_not, ev_ite, ev_call, ev_mk, ev_meth, ev_bm, ev_lc, ev_frd, ev_chn, ev_sl, evC_lk1, evC_lks, ex_nil, ex_seq, ex_asg, ex_aug, ex_setI, ex_augI, ex_setF, ex_ex, ex_ifs, ex_for, ex_whl, ex_ret, ex_retn, ex_brk, ex_cnt, ex_pass, ex_par, ex_raise, _root_.Fly.R.andThen_ok, _root_.Fly.R.toFw_ok, _root_.Fly.RB.toR_ok, _root_.Fly.RB.toFw_ok, _root_.Fly.Fw.andThen_nx, _root_.Fly.Fw.andThen_rt, _root_.Fly.Fw.andThen_ex, _root_.Fly.Fw.andThen_bk, _root_.Fly.Fw.andThen_ct, asB_v, look, looks, val, vals, give, bindT, put, free1, ↓if_t, ↓if_f, List.length_map, decide_true, decide_false, Bool.not_true, Bool.not_false, if_true, if_false, List.cons_append, List.nil_append, List.getElem?_cons_zero, List.getElem?_cons_succ, List.set_cons_zero, List.set_cons_succ, List.length_cons, List.length_nil, idl0, idl1, idl2, idl3, idl4, idt0, idt1, idt2, idt3, add_i, sub_i, neg_i, lt_i, le_i, gt_i, ge_i, eq_i, ne_i, eq_b, ne_b, int_i, len_l, len_t, tuple_l, tuple_t, rev_t, rev_l, pow_10, st1, st2, st3, st4, mod_ok, fdiv_ok, mul_l, mul_r, List.replicate, draw_call1 e1, row_call e2, draw_call1 e3, hadd, show ((1 : Nat) ≤ szLine) = True by simp [szLine]]
  have hR : Row (l ++ [r2]) := by
    refine ⟨by simp only [List.length_append, List.length_cons, List.length_nil]; omega, by simp only [List.length_append, List.length_cons, List.length_nil]; omega, fun x hm => ?_⟩
    rcases List.mem_append.mp hm with q | q
    · have := hx x q
      omega
    · rw [List.mem_singleton] at q
      subst q
      exact ⟨b3, c3⟩
  generalize l ++ [r2] = L at *
  unfold sTurn
  rw [seq_nx (st1 s3 h3)]
  by_cases hk : k = 5
  · obtain ⟨r3, d4, e4, b4, c4, k4⟩ := draw_ok P10 k3 (m := 3) (by omega) (by omega) (n + 2)
    by_cases hz : r3 = 0
    · subst hz
      obtain ⟨Z, hZ, hm, hml⟩ := mulN (l := L) (k := 1000) (by omega) (by have := hR.1; omega) hR.2.1
      have h2 := hR.1
      have hcut : fSl none (some 1000) (.tup (Z.map .int)) = some (false, .tup ((Z.take 1000).map .int)) := by
        simp only [fSl, cutL (l := Z.map .int) (hi := 1000) (by omega) (by rw [List.length_map, hZ]; omega), ← List.map_take]
        rfl
      have hml : opf .mul [.tup (L.map .int), .int 1000] = some (false, .tup (Z.map .int)) := hml
      refine ⟨Z.take 1000, d4, ⟨?_, ?_, fun x hx => hR.2.2 x (hm x (List.mem_of_mem_take hx))⟩, k4, ?_⟩
      · rw [List.length_take, hZ]
        omega
      · rw [List.length_take]
        omega
      · rw [seq_nx (σ1 := S0 :: .ow false d4 :: .fz false (.int k) :: .fz false (.tup ((Z.take 1000).map .int)) :: tl) (by
          simp -implicitDefEqProofs (disch := omega) only [ev_gl, ev_c, ev_v, ev_fz, ev_mv, ev_nil, ev_cons, ev_op, ev_tup, ev_ktp, ev_lst, ev_dct, ev_and, ev_or, ev_not, ev_ite, ev_call, ev_mk, ev_meth, ev_bm, ev_lc, ev_frd, ev_chn, ev_sl, evC_lk1, evC_lks, ex_nil, ex_seq, ex_asg, ex_aug, ex_setI, ex_augI, ex_setF, ex_ex, ex_ifs, ex_for, ex_whl, ex_ret, ex_retn, ex_brk, ex_cnt, ex_pass, ex_par, ex_raise, _root_.Fly.R.andThen_ok, _root_.Fly.R.toFw_ok, _root_.Fly.RB.toR_ok, _root_.Fly.RB.toFw_ok, _root_.Fly.Fw.andThen_nx, _root_.Fly.Fw.andThen_rt, _root_.Fly.Fw.andThen_ex, _root_.Fly.Fw.andThen_bk, _root_.Fly.Fw.andThen_ct, asB_v, look, looks, val, vals, give, bindT, put, free1, ↓if_t, ↓if_f, List.length_map, decide_true, decide_false, Bool.not_true, Bool.not_false, if_true, if_false, List.cons_append, List.nil_append, List.getElem?_cons_zero, List.getElem?_cons_succ, List.set_cons_zero, List.set_cons_succ, List.length_cons, List.length_nil, idl0, idl1, idl2, idl3, idl4, idt0, idt1, idt2, idt3, add_i, sub_i, neg_i, lt_i, le_i, gt_i, ge_i, eq_i, ne_i, eq_b, ne_b, int_i, len_l, len_t, tuple_l, tuple_t, rev_t, rev_l, pow_10, st1, st2, st3, st4, mod_ok, fdiv_ok, mul_l, mul_r, List.replicate, hk, draw_call1 e4, hml, hcut, partI])]
    · refine ⟨L, d4, hR, k4, ?_⟩
      rw [seq_nx (σ1 := S0 :: .ow false d4 :: .fz false (.int k) :: .fz false (.tup (L.map .int)) :: tl) (by simp -implicitDefEqProofs (disch := omega) only [ev_gl, ev_c, ev_v, ev_fz, ev_mv, ev_nil, ev_cons, ev_op, ev_tup, ev_ktp, ev_lst, ev_dct, ev_and, ev_or, ev_not, ev_ite, ev_call, ev_mk, ev_meth, ev_bm, ev_lc, ev_frd, ev_chn, ev_sl, evC_lk1, evC_lks, ex_nil, ex_seq, ex_asg, ex_aug, ex_setI, ex_augI, ex_setF, ex_ex, ex_ifs, ex_for, ex_whl, ex_ret, ex_retn, ex_brk, ex_cnt, ex_pass, ex_par, ex_raise, _root_.Fly.R.andThen_ok, _root_.Fly.R.toFw_ok, _root_.Fly.RB.toR_ok, _root_.Fly.RB.toFw_ok, _root_.Fly.Fw.andThen_nx, _root_.Fly.Fw.andThen_rt, _root_.Fly.Fw.andThen_ex, _root_.Fly.Fw.andThen_bk, _root_.Fly.Fw.andThen_ct, asB_v, look, looks, val, vals, give, bindT, put, free1, ↓if_t, ↓if_f, List.length_map, decide_true, decide_false, Bool.not_true, Bool.not_false, if_true, if_false, List.cons_append, List.nil_append, List.getElem?_cons_zero, List.getElem?_cons_succ, List.set_cons_zero, List.set_cons_succ, List.length_cons, List.length_nil, idl0, idl1, idl2, idl3, idl4, idt0, idt1, idt2, idt3, add_i, sub_i, neg_i, lt_i, le_i, gt_i, ge_i, eq_i, ne_i, eq_b, ne_b, int_i, len_l, len_t, tuple_l, tuple_t, rev_t, rev_l, pow_10, st1, st2, st3, st4, mod_ok, fdiv_ok, mul_l, mul_r, List.replicate, hk, draw_call1 e4, hz])]
  · refine ⟨L, d3, hR, k3, ?_⟩
    rw [seq_nx (σ1 := S0 :: .ow false d3 :: .fz false (.int k) :: .fz false (.tup (L.map .int)) :: tl) (by simp -implicitDefEqProofs (disch := omega) only [ev_gl, ev_c, ev_v, ev_fz, ev_mv, ev_nil, ev_cons, ev_op, ev_tup, ev_ktp, ev_lst, ev_dct, ev_and, ev_or, ev_not, ev_ite, ev_call, ev_mk, ev_meth, ev_bm, ev_lc, ev_frd, ev_chn, ev_sl, evC_lk1, evC_lks, ex_nil, ex_seq, ex_asg, ex_aug, ex_setI, ex_augI, ex_setF, ex_ex, ex_ifs, ex_for, ex_whl, ex_ret, ex_retn, ex_brk, ex_cnt, ex_pass, ex_par, ex_raise, _root_.Fly.R.andThen_ok, _root_.Fly.R.toFw_ok, _root_.Fly.RB.toR_ok, _root_.Fly.RB.toFw_ok, _root_.Fly.Fw.andThen_nx, _root_.Fly.Fw.andThen_rt, _root_.Fly.Fw.andThen_ex, _root_.Fly.Fw.andThen_bk, _root_.Fly.Fw.andThen_ct, asB_v, look, looks, val, vals, give, bindT, put, free1, ↓if_t, ↓if_f, List.length_map, decide_true, decide_false, Bool.not_true, Bool.not_false, if_true, if_false, List.cons_append, List.nil_append, List.getElem?_cons_zero, List.getElem?_cons_succ, List.set_cons_zero, List.set_cons_succ, List.length_cons, List.length_nil, idl0, idl1, idl2, idl3, idl4, idt0, idt1, idt2, idt3, add_i, sub_i, neg_i, lt_i, le_i, gt_i, ge_i, eq_i, ne_i, eq_b, ne_b, int_i, len_l, len_t, tuple_l, tuple_t, rev_t, rev_l, pow_10, st1, st2, st3, st4, mod_ok, fdiv_ok, mul_l, mul_r, List.replicate, hk])]
theorem Row.ex {L R A B C E : List Int} (h : Row L) (hL : L = A ++ B ++ C ++ E) (hR : R = A ++ C ++ B ++ E) : Row R := by
  subst hL hR
  obtain ⟨h1, h2, h3⟩ := h
  simp only [List.length_append] at h1 h2
  refine ⟨by simp only [List.length_append]; omega, by simp only [List.length_append]; omega, fun x hx => h3 x ?_⟩
  simp only [List.mem_append] at hx ⊢
  rcases hx with ((q | q) | q) | q
  · exact .inl (.inl (.inl q))
  · exact .inl (.inr q)
  · exact .inl (.inl (.inr q))
  · exact .inr q
theorem called4 {n f : Nat} {g r a b c : D} (e : run P n f [.fz false g, .fz false a, .fz false b, .fz false c] = .ret r false [.fz false g, .fz false a, .fz false b, .fz false c]) {σ : List Sl} : called (run P n) f [.tv g, .tv a, .tv b, .tv c] σ = .ok [.tv r] σ := by
  simp [called, lend, e, back]
theorem ex_call {n : Nat} {L R A B C E : List Int} (h : Row L) (hL : L = A ++ B ++ C ++ E) (hR : R = A ++ C ++ B ++ E) (hB : B ≠ []) (hC : C ≠ []) {a b c : Int} (ha : a = A.length) (hb : b = A.length + B.length) (hc : c = A.length + B.length + C.length) {σ : List Sl} :
    called (run P (n + 6)) 8 [.tv (.tup (L.map .int)), .tv (.int a), .tv (.int b), .tv (.int c)] σ = .ok [.tv (.tup (R.map .int))] σ := by
  subst hL hR
  exact called4 (exch_ok (n := n) h.2.1 hB hC h.2.2 ha hb hc)
theorem due_call {n : Nat} {L R A B C E : List Int} (h : Row L) (hL : L = A ++ B ++ C ++ E) (hR : R = A ++ C ++ B ++ E) (hB : B ≠ []) (hC : C ≠ []) {a b c : Int} (ha : a = A.length) (hb : b = A.length + B.length) (hc : c = A.length + B.length + C.length) {σ : List Sl} :
    called (run P (n + 1)) 14 [.tv (.tup (L.map .int)), .tv (.int a), .tv (.int b), .tv (.int c)] σ = .ok [.tv (.tup (R.map .int))] σ := by
  subst hL hR
  exact called4 (due_ok (n := n) h.2.1 hB hC ha hb hc)
theorem is_row {n : Nat} {L M : List Int} (h : Row L) (e : L = M) {σ : List Sl} : called (run P (n + 2)) 11 [.tv (.tup (L.map .int)), .tv (.tup (M.map .int))] σ = .ok [.tv (.bl true)] σ := by
  subst e
  have ok : okD 1 (.tup (L.map .int)) = true := by
    simp only [okD, okDs_ints, Bool.and_true, decide_eq_true_eq, List.length_map]
    have := h.2.1
    unfold szLine
    omega
  exact Fly.is_call P11 ok (by omega) _ _ (.inl rfl) (.inl rfl)
def Tl (t : List Sl) : Prop := t = [.un, .un, .un, .un, .un, .un, .un] ∨ (∃ a b c d e, t = [.fz false a, .fz false b, .fz false c, .fz false d, .fz false e, .un, .un]) ∨ ∃ a b c d e f g, t = [.fz false a, .fz false b, .fz false c, .fz false d, .fz false e, .fz false f, .fz false g]
theorem split3 (L : List Int) {r : Int} (h0 : 0 ≤ r) (h1 : r + 2 < L.length) : ∃ (A : List Int) (x y z : Int) (E : List Int), L = A ++ x :: y :: z :: E ∧ r = A.length := by
  have hd : (L.drop r.toNat).length = L.length - r.toNat := List.length_drop
  match hm : L.drop r.toNat with
  | [] | [_] | [_, _] => 
    rw [hm] at hd
    simp only [List.length_cons, List.length_nil] at hd
    omega
  | x :: y :: z :: E => 
    refine ⟨L.take r.toNat, x, y, z, E, ?_, ?_⟩
    · rw [← hm, List.take_append_drop]
    · rw [List.length_take]
      omega
theorem turn_rest {n : Nat} {d : D} (hd : HandOk d) {L : List Int} (hL : Row L) {S0 kk : Sl} {tl : List Sl} (ht : Tl tl) :
    ∃ (d' : D) (x : D) (tl' : List Sl), HandOk d' ∧ Tl tl' ∧ exec (run P (n + 6)) sRest (S0 :: .ow false d :: kk :: .fz false (.tup (L.map .int)) :: tl) = .nx (S0 :: .ow false d' :: kk :: .fz false x :: tl') := by
  have hlen : opf .len [.tup (L.map .int)] = some (false, .int (L.length : Int)) := by simp only [opf, fLen, List.length_map]
  obtain ⟨a, b, c, d1, e1, a0, ab, bc, cm, k1⟩ := places_ok (n := n + 4) hd (m := L.length) (by have := hL.1; omega) (by have := hL.2.1; omega)
  obtain ⟨A, B, C, E, eL, hB, hC, ha, hb, hc⟩ := split4 L a0 ab bc cm
  have hM : Row (A ++ C ++ B ++ E) := hL.ex eL rfl
  have hll : L.length = A.length + B.length + C.length + E.length := by rw [eL]; simp only [List.length_append]
  have x1 := fun σ => ex_call (n := n) (σ := σ) hL eL rfl hB hC ha hb hc
  have x2 := fun σ => due_call (n := n + 5) (σ := σ) hL eL rfl hB hC ha hb hc
  have x3 := fun σ => ex_call (n := n) (σ := σ) hM rfl eL hC hB ha (b := a + c - b) (by omega) (c := c) (by omega)
  have hRv : Row L.reverse := ⟨by rw [List.length_reverse]; exact hL.1, by rw [List.length_reverse]; exact hL.2.1, fun x hx => hL.2.2 x (List.mem_reverse.mp hx)⟩
  have x4 := fun σ => ex_call (n := n) (σ := σ) (R := (A ++ C ++ B ++ E).reverse) hRv (A := E.reverse) (B := C.reverse) (C := B.reverse) (E := A.reverse) (by rw [eL]; simp [List.append_assoc]) (by simp [List.append_assoc]) (by simpa using hC) (by simpa using hB) (a := (L.length : Int) - c) (by rw [List.length_reverse]; omega) (b := (L.length : Int) - b) (by rw [List.length_reverse, List.length_reverse]; omega) (c := (L.length : Int) - a) (by rw [List.length_reverse, List.length_reverse, List.length_reverse]; omega)
  have i1 := fun σ => is_row (n := n + 4) (σ := σ) hM rfl
  have i2 := fun σ => is_row (n := n + 4) (σ := σ) hL rfl
  have hs : isort (A ++ C ++ B ++ E) = isort L := isort_eq (by
    rw [eL, List.append_assoc A C B, List.append_assoc A B C]
    exact ((List.perm_append_comm (l₁ := C) (l₂ := B)).append_left A).append_right E)
  have hgt : opf .gt [.int (L.length : Int), .int 2] = some (false, .bl (decide (2 < L.length))) := by
    rw [gt_i, show decide ((2 : Int) < L.length) = decide (2 < L.length) from decide_eq_decide.mpr (by omega)]
  have pre : ∃ s9 s10 : Sl, ((s9 = .un ∧ s10 = .un) ∨ ∃ f g, s9 = .fz false f ∧ s10 = .fz false g) ∧ exec (run P (n + 6)) sRest (S0 :: .ow false d :: kk :: .fz false (.tup (L.map .int)) :: tl) = exec (run P (n + 6)) sRest3 [S0, .ow false d1, kk, .fz false (.tup (L.map .int)), .fz false (.int L.length), .fz false (.tup ((A ++ C ++ B ++ E).map .int)), .fz false (.int a), .fz false (.int b), .fz false (.int c), s9, s10] := by
    have q : ∀ (s4 s5 s6 s7 s8 s9 s10 : Sl), (s4 = .un ∨ ∃ x, s4 = .fz false x) → (s5 = .un ∨ ∃ x, s5 = .fz false x) → (s6 = .un ∨ ∃ x, s6 = .fz false x) → (s7 = .un ∨ ∃ x, s7 = .fz false x) → (s8 = .un ∨ ∃ x, s8 = .fz false x) →
        exec (run P (n + 6)) sRest [S0, .ow false d, kk, .fz false (.tup (L.map .int)), s4, s5, s6, s7, s8, s9, s10] = exec (run P (n + 6)) sRest3 [S0, .ow false d1, kk, .fz false (.tup (L.map .int)), .fz false (.int L.length), .fz false (.tup ((A ++ C ++ B ++ E).map .int)), .fz false (.int a), .fz false (.int b), .fz false (.int c), s9, s10] := by
      intro s4 s5 s6 s7 s8 s9 s10 h4 h5 h6 h7 h8
      unfold sRest
      rw [seq_nx (σ1 := [S0, .ow false d, kk, .fz false (.tup (L.map .int)), .fz false (.int L.length), s5, s6, s7, s8, s9, s10]) (by
        unfold t4
        rcases h4 with rfl | ⟨_, rfl⟩ <;> simp -implicitDefEqProofs (disch := omega) only [ev_gl, ev_c, ev_v, ev_fz, ev_mv, ev_nil, ev_cons, ev_op, ev_tup, ev_ktp, ev_lst, ev_dct, ev_and, ev_or, ev_not, ev_ite, ev_call, ev_mk, ev_meth, ev_bm, ev_lc, ev_frd, ev_chn, ev_sl, evC_lk1, evC_lks, ex_nil, ex_seq, ex_asg, ex_aug, ex_setI, ex_augI, ex_setF, ex_ex, ex_ifs, ex_for, ex_whl, ex_ret, ex_retn, ex_brk, ex_cnt, ex_pass, ex_par, ex_raise, _root_.Fly.R.andThen_ok, _root_.Fly.R.toFw_ok, _root_.Fly.RB.toR_ok, _root_.Fly.RB.toFw_ok, _root_.Fly.Fw.andThen_nx, _root_.Fly.Fw.andThen_rt, _root_.Fly.Fw.andThen_ex, _root_.Fly.Fw.andThen_bk, _root_.Fly.Fw.andThen_ct, asB_v, look, looks, val, vals, give, bindT, put, free1, ↓if_t, ↓if_f, List.length_map, decide_true, decide_false, Bool.not_true, Bool.not_false, if_true, if_false, List.cons_append, List.nil_append, List.getElem?_cons_zero, List.getElem?_cons_succ, List.set_cons_zero, List.set_cons_succ, List.length_cons, List.length_nil, idl0, idl1, idl2, idl3, idl4, idt0, idt1, idt2, idt3, add_i, sub_i, neg_i, lt_i, le_i, gt_i, ge_i, eq_i, ne_i, eq_b, ne_b, int_i, len_l, len_t, tuple_l, tuple_t, rev_t, rev_l, pow_10, st1, st2, st3, st4, mod_ok, fdiv_ok, mul_l, mul_r, List.replicate, hlen])]
      rw [seq_nx (σ1 := [S0, .ow false d1, kk, .fz false (.tup (L.map .int)), .fz false (.int L.length), s5, .fz false (.int a), .fz false (.int b), .fz false (.int c), s9, s10]) (by
        unfold t6
        rcases h6 with rfl | ⟨_, rfl⟩ <;> rcases h7 with rfl | ⟨_, rfl⟩ <;> rcases h8 with rfl | ⟨_, rfl⟩ <;> simp -implicitDefEqProofs (disch := omega) only [ev_gl, ev_c, ev_v, ev_fz, ev_mv, ev_nil, ev_cons, ev_op, ev_tup, ev_ktp, ev_lst, ev_dct, ev_and, ev_or, ev_not, ev_ite, ev_call, ev_mk, ev_meth, ev_bm, ev_lc, ev_frd, ev_chn, ev_sl, evC_lk1, evC_lks, ex_nil, ex_seq, ex_asg, ex_aug, ex_setI, ex_augI, ex_setF, ex_ex, ex_ifs, ex_for, ex_whl, ex_ret, ex_retn, ex_brk, ex_cnt, ex_pass, ex_par, ex_raise, _root_.Fly.R.andThen_ok, _root_.Fly.R.toFw_ok, _root_.Fly.RB.toR_ok, _root_.Fly.RB.toFw_ok, _root_.Fly.Fw.andThen_nx, _root_.Fly.Fw.andThen_rt, _root_.Fly.Fw.andThen_ex, _root_.Fly.Fw.andThen_bk, _root_.Fly.Fw.andThen_ct, asB_v, look, looks, val, vals, give, bindT, put, free1, ↓if_t, ↓if_f, List.length_map, decide_true, decide_false, Bool.not_true, Bool.not_false, if_true, if_false, List.cons_append, List.nil_append, List.getElem?_cons_zero, List.getElem?_cons_succ, List.set_cons_zero, List.set_cons_succ, List.length_cons, List.length_nil, idl0, idl1, idl2, idl3, idl4, idt0, idt1, idt2, idt3, add_i, sub_i, neg_i, lt_i, le_i, gt_i, ge_i, eq_i, ne_i, eq_b, ne_b, int_i, len_l, len_t, tuple_l, tuple_t, rev_t, rev_l, pow_10, st1, st2, st3, st4, mod_ok, fdiv_ok, mul_l, mul_r, List.replicate, place_call e1, puts, Option.bind_some])]
      rw [seq_nx (σ1 := [S0, .ow false d1, kk, .fz false (.tup (L.map .int)), .fz false (.int L.length), .fz false (.tup ((A ++ C ++ B ++ E).map .int)), .fz false (.int a), .fz false (.int b), .fz false (.int c), s9, s10]) (by
        unfold t5
        rcases h5 with rfl | ⟨_, rfl⟩ <;> simp -implicitDefEqProofs (disch := omega) only [ev_gl, ev_c, ev_v, ev_fz, ev_mv, ev_nil, ev_cons, ev_op, ev_tup, ev_ktp, ev_lst, ev_dct, ev_and, ev_or, ev_not, ev_ite, ev_call, ev_mk, ev_meth, ev_bm, ev_lc, ev_frd, ev_chn, ev_sl, evC_lk1, evC_lks, ex_nil, ex_seq, ex_asg, ex_aug, ex_setI, ex_augI, ex_setF, ex_ex, ex_ifs, ex_for, ex_whl, ex_ret, ex_retn, ex_brk, ex_cnt, ex_pass, ex_par, ex_raise, _root_.Fly.R.andThen_ok, _root_.Fly.R.toFw_ok, _root_.Fly.RB.toR_ok, _root_.Fly.RB.toFw_ok, _root_.Fly.Fw.andThen_nx, _root_.Fly.Fw.andThen_rt, _root_.Fly.Fw.andThen_ex, _root_.Fly.Fw.andThen_bk, _root_.Fly.Fw.andThen_ct, asB_v, look, looks, val, vals, give, bindT, put, free1, ↓if_t, ↓if_f, List.length_map, decide_true, decide_false, Bool.not_true, Bool.not_false, if_true, if_false, List.cons_append, List.nil_append, List.getElem?_cons_zero, List.getElem?_cons_succ, List.set_cons_zero, List.set_cons_succ, List.length_cons, List.length_nil, idl0, idl1, idl2, idl3, idl4, idt0, idt1, idt2, idt3, add_i, sub_i, neg_i, lt_i, le_i, gt_i, ge_i, eq_i, ne_i, eq_b, ne_b, int_i, len_l, len_t, tuple_l, tuple_t, rev_t, rev_l, pow_10, st1, st2, st3, st4, mod_ok, fdiv_ok, mul_l, mul_r, List.replicate, x1])]
    rcases ht with rfl | ⟨v4, v5, v6, v7, v8, rfl⟩ | ⟨v4, v5, v6, v7, v8, v9, v10, rfl⟩
    · exact ⟨.un, .un, .inl ⟨rfl, rfl⟩, q _ _ _ _ _ _ _ (.inl rfl) (.inl rfl) (.inl rfl) (.inl rfl) (.inl rfl)⟩
    · exact ⟨.un, .un, .inl ⟨rfl, rfl⟩, q _ _ _ _ _ _ _ (.inr ⟨_, rfl⟩) (.inr ⟨_, rfl⟩) (.inr ⟨_, rfl⟩) (.inr ⟨_, rfl⟩) (.inr ⟨_, rfl⟩)⟩
    · exact ⟨_, _, .inr ⟨_, _, rfl, rfl⟩, q _ _ _ _ _ _ _ (.inr ⟨_, rfl⟩) (.inr ⟨_, rfl⟩) (.inr ⟨_, rfl⟩) (.inr ⟨_, rfl⟩) (.inr ⟨_, rfl⟩)⟩
  obtain ⟨s9, s10, hs9, pre⟩ := pre
  rw [pre]
  generalize hM2 : A ++ C ++ B ++ E = M at *
  have neR : opf .ne [.tup (M.reverse.map .int), .tup (M.reverse.map .int)] = some (false, .bl false) := neT rfl
  have neS : opf .ne [.lst ((isort M).map .int), .lst ((isort L).map .int)] = some (false, .bl false) := neL hs
  have rL := revT (l := L)
  have rM := revT (l := M)
  have sL := sortT (l := L)
  have sM := sortT (l := M)
  unfold sRest3
  rw [seq_nx (σ1 := [S0, .ow false d1, kk, .fz false (.tup (L.map .int)), .fz false (.int L.length), .fz false (.tup (M.map .int)), .fz false (.int a), .fz false (.int b), .fz false (.int c), s9, s10]) (by simp -implicitDefEqProofs (disch := omega) only [ev_gl, ev_c, ev_v, ev_fz, ev_mv, ev_nil, ev_cons, ev_op, ev_tup, ev_ktp, ev_lst, ev_dct, ev_and, ev_or, ev_not, ev_ite, ev_call, ev_mk, ev_meth, ev_bm, ev_lc, ev_frd, ev_chn, ev_sl, evC_lk1, evC_lks, ex_nil, ex_seq, ex_asg, ex_aug, ex_setI, ex_augI, ex_setF, ex_ex, ex_ifs, ex_for, ex_whl, ex_ret, ex_retn, ex_brk, ex_cnt, ex_pass, ex_par, ex_raise, _root_.Fly.R.andThen_ok, _root_.Fly.R.toFw_ok, _root_.Fly.RB.toR_ok, _root_.Fly.RB.toFw_ok, _root_.Fly.Fw.andThen_nx, _root_.Fly.Fw.andThen_rt, _root_.Fly.Fw.andThen_ex, _root_.Fly.Fw.andThen_bk, _root_.Fly.Fw.andThen_ct, asB_v, look, looks, val, vals, give, bindT, put, free1, ↓if_t, ↓if_f, List.length_map, decide_true, decide_false, Bool.not_true, Bool.not_false, if_true, if_false, List.cons_append, List.nil_append, List.getElem?_cons_zero, List.getElem?_cons_succ, List.set_cons_zero, List.set_cons_succ, List.length_cons, List.length_nil, idl0, idl1, idl2, idl3, idl4, idt0, idt1, idt2, idt3, add_i, sub_i, neg_i, lt_i, le_i, gt_i, ge_i, eq_i, ne_i, eq_b, ne_b, int_i, len_l, len_t, tuple_l, tuple_t, rev_t, rev_l, pow_10, st1, st2, st3, st4, mod_ok, fdiv_ok, mul_l, mul_r, List.replicate, x2, i1, x3, i2])]
  rw [seq_nx (σ1 := [S0, .ow false d1, kk, .fz false (.tup (L.map .int)), .fz false (.int L.length), .fz false (.tup (M.map .int)), .fz false (.int a), .fz false (.int b), .fz false (.int c), s9, s10]) (by simp -implicitDefEqProofs (disch := omega) only [ev_gl, ev_c, ev_v, ev_fz, ev_mv, ev_nil, ev_cons, ev_op, ev_tup, ev_ktp, ev_lst, ev_dct, ev_and, ev_or, ev_not, ev_ite, ev_call, ev_mk, ev_meth, ev_bm, ev_lc, ev_frd, ev_chn, ev_sl, evC_lk1, evC_lks, ex_nil, ex_seq, ex_asg, ex_aug, ex_setI, ex_augI, ex_setF, ex_ex, ex_ifs, ex_for, ex_whl, ex_ret, ex_retn, ex_brk, ex_cnt, ex_pass, ex_par, ex_raise, _root_.Fly.R.andThen_ok, _root_.Fly.R.toFw_ok, _root_.Fly.RB.toR_ok, _root_.Fly.RB.toFw_ok, _root_.Fly.Fw.andThen_nx, _root_.Fly.Fw.andThen_rt, _root_.Fly.Fw.andThen_ex, _root_.Fly.Fw.andThen_bk, _root_.Fly.Fw.andThen_ct, asB_v, look, looks, val, vals, give, bindT, put, free1, ↓if_t, ↓if_f, List.length_map, decide_true, decide_false, Bool.not_true, Bool.not_false, if_true, if_false, List.cons_append, List.nil_append, List.getElem?_cons_zero, List.getElem?_cons_succ, List.set_cons_zero, List.set_cons_succ, List.length_cons, List.length_nil, idl0, idl1, idl2, idl3, idl4, idt0, idt1, idt2, idt3, add_i, sub_i, neg_i, lt_i, le_i, gt_i, ge_i, eq_i, ne_i, eq_b, ne_b, int_i, len_l, len_t, tuple_l, tuple_t, rev_t, rev_l, pow_10, st1, st2, st3, st4, mod_ok, fdiv_ok, mul_l, mul_r, List.replicate, rL, x4, rM, neR])]
  rw [seq_nx (σ1 := [S0, .ow false d1, kk, .fz false (.tup (L.map .int)), .fz false (.int L.length), .fz false (.tup (M.map .int)), .fz false (.int a), .fz false (.int b), .fz false (.int c), s9, s10]) (by simp -implicitDefEqProofs (disch := omega) only [ev_gl, ev_c, ev_v, ev_fz, ev_mv, ev_nil, ev_cons, ev_op, ev_tup, ev_ktp, ev_lst, ev_dct, ev_and, ev_or, ev_not, ev_ite, ev_call, ev_mk, ev_meth, ev_bm, ev_lc, ev_frd, ev_chn, ev_sl, evC_lk1, evC_lks, ex_nil, ex_seq, ex_asg, ex_aug, ex_setI, ex_augI, ex_setF, ex_ex, ex_ifs, ex_for, ex_whl, ex_ret, ex_retn, ex_brk, ex_cnt, ex_pass, ex_par, ex_raise, _root_.Fly.R.andThen_ok, _root_.Fly.R.toFw_ok, _root_.Fly.RB.toR_ok, _root_.Fly.RB.toFw_ok, _root_.Fly.Fw.andThen_nx, _root_.Fly.Fw.andThen_rt, _root_.Fly.Fw.andThen_ex, _root_.Fly.Fw.andThen_bk, _root_.Fly.Fw.andThen_ct, asB_v, look, looks, val, vals, give, bindT, put, free1, ↓if_t, ↓if_f, List.length_map, decide_true, decide_false, Bool.not_true, Bool.not_false, if_true, if_false, List.cons_append, List.nil_append, List.getElem?_cons_zero, List.getElem?_cons_succ, List.set_cons_zero, List.set_cons_succ, List.length_cons, List.length_nil, idl0, idl1, idl2, idl3, idl4, idt0, idt1, idt2, idt3, add_i, sub_i, neg_i, lt_i, le_i, gt_i, ge_i, eq_i, ne_i, eq_b, ne_b, int_i, len_l, len_t, tuple_l, tuple_t, rev_t, rev_l, pow_10, st1, st2, st3, st4, mod_ok, fdiv_ok, mul_l, mul_r, List.replicate, sM, sL, neS])]
  by_cases h2 : 2 < L.length
  · obtain ⟨r, d2, e2, b2, c2, k2⟩ := draw_ok P10 k1 (m := (L.length : Int) - 2) (by omega) (by have := hL.2.1; omega) (n + 5)
    obtain ⟨A1, x, y, z, E1, e3, hr⟩ := split3 L b2 (by omega)
    have w1 := fun σ => ex_call (n := n) (σ := σ) hL (A := A1) (B := [x]) (C := [y, z]) (E := E1) (R := A1 ++ y :: z :: x :: E1) (by rw [e3]; simp) (by simp) (by simp) (by simp) (a := r) (b := r + 1) (c := r + 3) hr (by simp only [List.length_append, List.length_cons, List.length_nil]; omega) (by simp only [List.length_append, List.length_cons, List.length_nil]; omega)
    have w2 := fun σ => ex_call (n := n) (σ := σ) hL (A := A1) (B := [x]) (C := [y]) (E := z :: E1) (R := A1 ++ y :: x :: z :: E1) (by rw [e3]; simp) (by simp) (by simp) (by simp) (a := r) (b := r + 1) (c := r + 2) hr (by simp only [List.length_append, List.length_cons, List.length_nil]; omega) (by simp only [List.length_append, List.length_cons, List.length_nil]; omega)
    have r1 : Row (A1 ++ y :: x :: z :: E1) := hL.ex (A := A1) (B := [x]) (C := [y]) (E := z :: E1) (by rw [e3]; simp) (by simp)
    have w3 := fun σ => ex_call (n := n) (σ := σ) r1 (A := A1 ++ [y]) (B := [x]) (C := [z]) (E := E1) (R := A1 ++ y :: z :: x :: E1) (by simp) (by simp) (by simp) (by simp) (a := r + 1) (b := r + 2) (c := r + 3) (by simp only [List.length_append, List.length_cons, List.length_nil]; omega) (by simp only [List.length_append, List.length_cons, List.length_nil]; omega) (by simp only [List.length_append, List.length_cons, List.length_nil]; omega)
    have r2 : Row (A1 ++ y :: z :: x :: E1) := r1.ex (A := A1 ++ [y]) (B := [x]) (C := [z]) (E := E1) (by simp) (by simp)
    have w4 := fun σ => ex_call (n := n) (σ := σ) r2 (A := A1) (B := [y]) (C := [z, x]) (E := E1) (R := A1 ++ z :: x :: y :: E1) (by simp) (by simp) (by simp) (by simp) (a := r) (b := r + 1) (c := r + 3) hr (by simp only [List.length_append, List.length_cons, List.length_nil]; omega) (by simp only [List.length_append, List.length_cons, List.length_nil]; omega)
    have r3 : Row (A1 ++ z :: x :: y :: E1) := r2.ex (A := A1) (B := [y]) (C := [z, x]) (E := E1) (by simp) (by simp)
    have w5 := fun σ => ex_call (n := n) (σ := σ) r3 (A := A1) (B := [z]) (C := [x, y]) (E := E1) (R := L) (by simp) (by rw [e3]; simp) (by simp) (by simp) (a := r) (b := r + 1) (c := r + 3) hr (by simp only [List.length_append, List.length_cons, List.length_nil]; omega) (by simp only [List.length_append, List.length_cons, List.length_nil]; omega)
    have nO : opf .ne [.tup ((A1 ++ y :: z :: x :: E1).map .int), .tup ((A1 ++ y :: z :: x :: E1).map .int)] = some (false, .bl false) := neT rfl
    have nL : opf .ne [.tup (L.map .int), .tup (L.map .int)] = some (false, .bl false) := neT rfl
    generalize A1 ++ y :: z :: x :: E1 = O at *
    generalize A1 ++ y :: x :: z :: E1 = U at *
    generalize A1 ++ z :: x :: y :: E1 = V at *
    refine ⟨d2, .tup (L.map .int), [.fz false (.int L.length), .fz false (.tup (M.map .int)), .fz false (.int a), .fz false (.int b), .fz false (.int c), .fz false (.int r), .fz false (.tup (O.map .int))], k2, .inr (.inr ⟨_, _, _, _, _, _, _, rfl⟩), (seq_nx (σ1 := [S0, .ow false d2, kk, .fz false (.tup (L.map .int)), .fz false (.int L.length), .fz false (.tup (M.map .int)), .fz false (.int a), .fz false (.int b), .fz false (.int c), .fz false (.int r), .fz false (.tup (O.map .int))]) ?_).trans (by simp -implicitDefEqProofs (disch := omega) only [ev_gl, ev_c, ev_v, ev_fz, ev_mv, ev_nil, ev_cons, ev_op, ev_tup, ev_ktp, ev_lst, ev_dct, ev_and, ev_or, ev_not, ev_ite, ev_call, ev_mk, ev_meth, ev_bm, ev_lc, ev_frd, ev_chn, ev_sl, evC_lk1, evC_lks, ex_nil, ex_seq, ex_asg, ex_aug, ex_setI, ex_augI, ex_setF, ex_ex, ex_ifs, ex_for, ex_whl, ex_ret, ex_retn, ex_brk, ex_cnt, ex_pass, ex_par, ex_raise, _root_.Fly.R.andThen_ok, _root_.Fly.R.toFw_ok, _root_.Fly.RB.toR_ok, _root_.Fly.RB.toFw_ok, _root_.Fly.Fw.andThen_nx, _root_.Fly.Fw.andThen_rt, _root_.Fly.Fw.andThen_ex, _root_.Fly.Fw.andThen_bk, _root_.Fly.Fw.andThen_ct, asB_v, look, looks, val, vals, give, bindT, put, free1, ↓if_t, ↓if_f, List.length_map, decide_true, decide_false, Bool.not_true, Bool.not_false, if_true, if_false, List.cons_append, List.nil_append, List.getElem?_cons_zero, List.getElem?_cons_succ, List.set_cons_zero, List.set_cons_succ, List.length_cons, List.length_nil, idl0, idl1, idl2, idl3, idl4, idt0, idt1, idt2, idt3, add_i, sub_i, neg_i, lt_i, le_i, gt_i, ge_i, eq_i, ne_i, eq_b, ne_b, int_i, len_l, len_t, tuple_l, tuple_t, rev_t, rev_l, pow_10, st1, st2, st3, st4, mod_ok, fdiv_ok, mul_l, mul_r, List.replicate])⟩
    rcases hs9 with ⟨rfl, rfl⟩ | ⟨f, g, rfl, rfl⟩ <;> simp -implicitDefEqProofs (disch := omega) only [ev_gl, ev_c, ev_v, ev_fz, ev_mv, ev_nil, ev_cons, ev_op, ev_tup, ev_ktp, ev_lst, ev_dct, ev_and, ev_or, ev_not, ev_ite, ev_call, ev_mk, ev_meth, ev_bm, ev_lc, ev_frd, ev_chn, ev_sl, evC_lk1, evC_lks, ex_nil, ex_seq, ex_asg, ex_aug, ex_setI, ex_augI, ex_setF, ex_ex, ex_ifs, ex_for, ex_whl, ex_ret, ex_retn, ex_brk, ex_cnt, ex_pass, ex_par, ex_raise, _root_.Fly.R.andThen_ok, _root_.Fly.R.toFw_ok, _root_.Fly.RB.toR_ok, _root_.Fly.RB.toFw_ok, _root_.Fly.Fw.andThen_nx, _root_.Fly.Fw.andThen_rt, _root_.Fly.Fw.andThen_ex, _root_.Fly.Fw.andThen_bk, _root_.Fly.Fw.andThen_ct, asB_v, look, looks, val, vals, give, bindT, put, free1, ↓if_t, ↓if_f, List.length_map, decide_true, decide_false, Bool.not_true, Bool.not_false, if_true, if_false, List.cons_append, List.nil_append, List.getElem?_cons_zero, List.getElem?_cons_succ, List.set_cons_zero, List.set_cons_succ, List.length_cons, List.length_nil, idl0, idl1, idl2, idl3, idl4, idt0, idt1, idt2, idt3, add_i, sub_i, neg_i, lt_i, le_i, gt_i, ge_i, eq_i, ne_i, eq_b, ne_b, int_i, len_l, len_t, tuple_l, tuple_t, rev_t, rev_l, pow_10, st1, st2, st3, st4, mod_ok, fdiv_ok, mul_l, mul_r, List.replicate, hgt, h2, draw_call1 e2, w1, w2, w3, w4, w5, nO, nL]
  · refine ⟨d1, .tup (L.map .int), _, k1, ?_, (seq_nx (by simp -implicitDefEqProofs (disch := omega) only [ev_gl, ev_c, ev_v, ev_fz, ev_mv, ev_nil, ev_cons, ev_op, ev_tup, ev_ktp, ev_lst, ev_dct, ev_and, ev_or, ev_not, ev_ite, ev_call, ev_mk, ev_meth, ev_bm, ev_lc, ev_frd, ev_chn, ev_sl, evC_lk1, evC_lks, ex_nil, ex_seq, ex_asg, ex_aug, ex_setI, ex_augI, ex_setF, ex_ex, ex_ifs, ex_for, ex_whl, ex_ret, ex_retn, ex_brk, ex_cnt, ex_pass, ex_par, ex_raise, _root_.Fly.R.andThen_ok, _root_.Fly.R.toFw_ok, _root_.Fly.RB.toR_ok, _root_.Fly.RB.toFw_ok, _root_.Fly.Fw.andThen_nx, _root_.Fly.Fw.andThen_rt, _root_.Fly.Fw.andThen_ex, _root_.Fly.Fw.andThen_bk, _root_.Fly.Fw.andThen_ct, asB_v, look, looks, val, vals, give, bindT, put, free1, ↓if_t, ↓if_f, List.length_map, decide_true, decide_false, Bool.not_true, Bool.not_false, if_true, if_false, List.cons_append, List.nil_append, List.getElem?_cons_zero, List.getElem?_cons_succ, List.set_cons_zero, List.set_cons_succ, List.length_cons, List.length_nil, idl0, idl1, idl2, idl3, idl4, idt0, idt1, idt2, idt3, add_i, sub_i, neg_i, lt_i, le_i, gt_i, ge_i, eq_i, ne_i, eq_b, ne_b, int_i, len_l, len_t, tuple_l, tuple_t, rev_t, rev_l, pow_10, st1, st2, st3, st4, mod_ok, fdiv_ok, mul_l, mul_r, List.replicate, hgt, h2]; rfl)).trans (by simp -implicitDefEqProofs (disch := omega) only [ev_gl, ev_c, ev_v, ev_fz, ev_mv, ev_nil, ev_cons, ev_op, ev_tup, ev_ktp, ev_lst, ev_dct, ev_and, ev_or, ev_not, ev_ite, ev_call, ev_mk, ev_meth, ev_bm, ev_lc, ev_frd, ev_chn, ev_sl, evC_lk1, evC_lks, ex_nil, ex_seq, ex_asg, ex_aug, ex_setI, ex_augI, ex_setF, ex_ex, ex_ifs, ex_for, ex_whl, ex_ret, ex_retn, ex_brk, ex_cnt, ex_pass, ex_par, ex_raise, _root_.Fly.R.andThen_ok, _root_.Fly.R.toFw_ok, _root_.Fly.RB.toR_ok, _root_.Fly.RB.toFw_ok, _root_.Fly.Fw.andThen_nx, _root_.Fly.Fw.andThen_rt, _root_.Fly.Fw.andThen_ex, _root_.Fly.Fw.andThen_bk, _root_.Fly.Fw.andThen_ct, asB_v, look, looks, val, vals, give, bindT, put, free1, ↓if_t, ↓if_f, List.length_map, decide_true, decide_false, Bool.not_true, Bool.not_false, if_true, if_false, List.cons_append, List.nil_append, List.getElem?_cons_zero, List.getElem?_cons_succ, List.set_cons_zero, List.set_cons_succ, List.length_cons, List.length_nil, idl0, idl1, idl2, idl3, idl4, idt0, idt1, idt2, idt3, add_i, sub_i, neg_i, lt_i, le_i, gt_i, ge_i, eq_i, ne_i, eq_b, ne_b, int_i, len_l, len_t, tuple_l, tuple_t, rev_t, rev_l, pow_10, st1, st2, st3, st4, mod_ok, fdiv_ok, mul_l, mul_r, List.replicate]; rfl)⟩
    rcases hs9 with ⟨rfl, rfl⟩ | ⟨f, g, rfl, rfl⟩
    · exact .inr (.inl ⟨_, _, _, _, _, rfl⟩)
    · exact .inr (.inr ⟨_, _, _, _, _, _, _, rfl⟩)
/-- the law's loop -/
def sLaw : S :=
 (.seq (.asg (.nm 1) (.call 9 (.cons (.v 0) .nil)))
 (.seq (.for (.nm 2) .range1 (.cons (.c (.int 6)) .nil) sTurn)
 (.seq (.ret (.c (.bl true)))
 .nil)))
theorem P15 : P[15]? = some ⟨1, 11, sLaw⟩ := rfl
theorem law_run {n : Nat} (l : List Int) (hl : l.length ≤ 63) : ∃ os, run P (n + 7) 15 [.fz false (.scr (l.map .int))] = .ret (.bl true) false os := by
  obtain ⟨d0, e0, k0⟩ := hand_ok P9 l hl (n + 5)
  generalize D.scr (l.map D.int) = g at *
  let S0 : Sl := .fz false g
  have hr : (6 : Int).toNat = 6 := rfl
  obtain ⟨σ', k1, dd, s2, s3, tl, h2, h3, ht, rfl, kd⟩ := forL_all (bd := fun x s => bindT s (.nm 2) x false) (b := fun s => exec (run P (n + 6)) sTurn s) (xs0 := rng 6)
    (σ := [S0, .ow false d0, .un, .un, .un, .un, .un, .un, .un, .un, .un])
    (fun pre σ => ∃ (d : D) (s2 s3 : Sl) (tl : List Sl), (s2 = .un ∨ ∃ x, s2 = .fz false x) ∧ (s3 = .un ∨ ∃ x, s3 = .fz false x) ∧ Tl tl ∧ σ = S0 :: .ow false d :: s2 :: s3 :: tl ∧ HandOk d)
    ⟨d0, .un, .un, _, .inl rfl, .inl rfl, .inl rfl, rfl, k0⟩ (by
      rintro pre x post σ e ⟨d, s2, s3, tl, h2, h3, ht, rfl, hd⟩
      obtain ⟨rfl, hk⟩ := rng_at e
      obtain ⟨L, d1, hL, hd1, q1⟩ := turn_row (n := n + 3) (k := (pre.length : Nat)) (S0 := S0) (tl := tl) hd h3
      obtain ⟨d2, y, tl2, hd2, ht2, q2⟩ := turn_rest (n := n) hd1 hL (S0 := S0) (kk := .fz false (.int (pre.length : Nat))) ht
      refine ⟨S0 :: .ow false d :: .fz false (.int (pre.length : Nat)) :: s3 :: tl, _, ?_, .inl (q1.trans q2), d2, _, _, tl2, .inr ⟨_, rfl⟩, .inr ⟨_, rfl⟩, ht2, rfl, hd2⟩
      rcases h2 with rfl | ⟨_, rfl⟩ <;> rfl)
  rw [run_of P15 rfl]
  show ∃ os, CR.chk _ (Fw.toCR 1 (exec (run P (n + 6)) sLaw _)) = _
  unfold sLaw
  show ∃ os, CR.chk _ (Fw.toCR 1 (exec (run P (n + 6)) _ [S0, .un, .un, .un, .un, .un, .un, .un, .un, .un, .un])) = _
  rw [seq_nx (σ1 := [S0, .ow false d0, .un, .un, .un, .un, .un, .un, .un, .un, .un]) (by simp -implicitDefEqProofs (disch := omega) only [ev_gl, ev_c, ev_v, ev_fz, ev_mv, ev_nil, ev_cons, ev_op, ev_tup, ev_ktp, ev_lst, ev_dct, ev_and, ev_or, ev_not, ev_ite, ev_call, ev_mk, ev_meth, ev_bm, ev_lc, ev_frd, ev_chn, ev_sl, evC_lk1, evC_lks, ex_nil, ex_seq, ex_asg, ex_aug, ex_setI, ex_augI, ex_setF, ex_ex, ex_ifs, ex_for, ex_whl, ex_ret, ex_retn, ex_brk, ex_cnt, ex_pass, ex_par, ex_raise, _root_.Fly.R.andThen_ok, _root_.Fly.R.toFw_ok, _root_.Fly.RB.toR_ok, _root_.Fly.RB.toFw_ok, _root_.Fly.Fw.andThen_nx, _root_.Fly.Fw.andThen_rt, _root_.Fly.Fw.andThen_ex, _root_.Fly.Fw.andThen_bk, _root_.Fly.Fw.andThen_ct, asB_v, look, looks, val, vals, give, bindT, put, free1, ↓if_t, ↓if_f, List.length_map, decide_true, decide_false, Bool.not_true, Bool.not_false, if_true, if_false, List.cons_append, List.nil_append, List.getElem?_cons_zero, List.getElem?_cons_succ, List.set_cons_zero, List.set_cons_succ, List.length_cons, List.length_nil, idl0, idl1, idl2, idl3, idl4, idt0, idt1, idt2, idt3, add_i, sub_i, neg_i, lt_i, le_i, gt_i, ge_i, eq_i, ne_i, eq_b, ne_b, int_i, len_l, len_t, tuple_l, tuple_t, rev_t, rev_l, pow_10, st1, st2, st3, st4, mod_ok, fdiv_ok, mul_l, mul_r, List.replicate, S0, called, lend, back, Option.map_some, e0])]
  rw [seq_nx (σ1 := S0 :: .ow false dd :: s2 :: s3 :: tl) ((for_run (ts := [.tv (.int 6)]) (by simp -implicitDefEqProofs (disch := omega) only [ev_gl, ev_c, ev_v, ev_fz, ev_mv, ev_nil, ev_cons, ev_op, ev_tup, ev_ktp, ev_lst, ev_dct, ev_and, ev_or, ev_not, ev_ite, ev_call, ev_mk, ev_meth, ev_bm, ev_lc, ev_frd, ev_chn, ev_sl, evC_lk1, evC_lks, ex_nil, ex_seq, ex_asg, ex_aug, ex_setI, ex_augI, ex_setF, ex_ex, ex_ifs, ex_for, ex_whl, ex_ret, ex_retn, ex_brk, ex_cnt, ex_pass, ex_par, ex_raise, _root_.Fly.R.andThen_ok, _root_.Fly.R.toFw_ok, _root_.Fly.RB.toR_ok, _root_.Fly.RB.toFw_ok, _root_.Fly.Fw.andThen_nx, _root_.Fly.Fw.andThen_rt, _root_.Fly.Fw.andThen_ex, _root_.Fly.Fw.andThen_bk, _root_.Fly.Fw.andThen_ct, asB_v, look, looks, val, vals, give, bindT, put, free1, ↓if_t, ↓if_f, List.length_map, decide_true, decide_false, Bool.not_true, Bool.not_false, if_true, if_false, List.cons_append, List.nil_append, List.getElem?_cons_zero, List.getElem?_cons_succ, List.set_cons_zero, List.set_cons_succ, List.length_cons, List.length_nil, idl0, idl1, idl2, idl3, idl4, idt0, idt1, idt2, idt3, add_i, sub_i, neg_i, lt_i, le_i, gt_i, ge_i, eq_i, ne_i, eq_b, ne_b, int_i, len_l, len_t, tuple_l, tuple_t, rev_t, rev_l, pow_10, st1, st2, st3, st4, mod_ok, fdiv_ok, mul_l, mul_r, List.replicate]) rfl (items_rng (by omega) (by omega)) rfl).trans k1)]
  refine ⟨[S0], ?_⟩
  simp -implicitDefEqProofs (disch := omega) only [ev_gl, ev_c, ev_v, ev_fz, ev_mv, ev_nil, ev_cons, ev_op, ev_tup, ev_ktp, ev_lst, ev_dct, ev_and, ev_or, ev_not, ev_ite, ev_call, ev_mk, ev_meth, ev_bm, ev_lc, ev_frd, ev_chn, ev_sl, evC_lk1, evC_lks, ex_nil, ex_seq, ex_asg, ex_aug, ex_setI, ex_augI, ex_setF, ex_ex, ex_ifs, ex_for, ex_whl, ex_ret, ex_retn, ex_brk, ex_cnt, ex_pass, ex_par, ex_raise, _root_.Fly.R.andThen_ok, _root_.Fly.R.toFw_ok, _root_.Fly.RB.toR_ok, _root_.Fly.RB.toFw_ok, _root_.Fly.Fw.andThen_nx, _root_.Fly.Fw.andThen_rt, _root_.Fly.Fw.andThen_ex, _root_.Fly.Fw.andThen_bk, _root_.Fly.Fw.andThen_ct, asB_v, look, looks, val, vals, give, bindT, put, free1, ↓if_t, ↓if_f, List.length_map, decide_true, decide_false, Bool.not_true, Bool.not_false, if_true, if_false, List.cons_append, List.nil_append, List.getElem?_cons_zero, List.getElem?_cons_succ, List.set_cons_zero, List.set_cons_succ, List.length_cons, List.length_nil, idl0, idl1, idl2, idl3, idl4, idt0, idt1, idt2, idt3, add_i, sub_i, neg_i, lt_i, le_i, gt_i, ge_i, eq_i, ne_i, eq_b, ne_b, int_i, len_l, len_t, tuple_l, tuple_t, rev_t, rev_l, pow_10, st1, st2, st3, st4, mod_ok, fdiv_ok, mul_l, mul_r, List.replicate]
  rfl
theorem plain : ∀ l : List Int, l.length ≤ 63 → ∃ os, run P 100 15 [.fz false (.scr (l.map .int))] = .ret (.bl true) false os :=
  fun l hl => law_run (n := 93) l hl
end K15
end

section
set_option Elab.async false
set_option linter.all false
set_option maxRecDepth 100000
set_option maxHeartbeats 0
namespace K15
open Fly PySem L2 PyProof.Rows PySem.W
theorem agree : entsB tb es P = true := by decide +kernel
theorem tabs : tabB tb es = true := by decide +kernel
theorem excs : exB tb = true := by decide +kernel
theorem bds {K : PySem.W.Frag} : ∀ e ∈ es, ∀ fd, FunD K e.x e.qual (defArgs e.st) (defBody e.st) (defScope e.st) [] [] (He.fAd K e.at_) fd → Binds K fd e.ps [] := by
  intro e he fd F
  unfold es at he
  simp only [List.mem_cons, List.not_mem_nil, or_false] at he
  rcases he with rfl | rfl | rfl | rfl | rfl | rfl | rfl | rfl | rfl | rfl | rfl | rfl | rfl | rfl | rfl | rfl
  · exact F.bindsN fun _ _ _ _ _ _ us hl => match us, hl with | [_], _ => rfl
  · exact F.bindsN fun _ _ _ _ _ _ us hl => match us, hl with | [_, _, _], _ => rfl
  · exact F.bindsN fun _ _ _ _ _ _ us hl => match us, hl with | [_, _], _ => rfl
  · exact F.bindsN fun _ _ _ _ _ _ us hl => match us, hl with | [_, _], _ => rfl
  · exact F.bindsN fun _ _ _ _ _ _ us hl => match us, hl with | [_], _ => rfl
  · exact F.bindsN fun _ _ _ _ _ _ us hl => match us, hl with | [_], _ => rfl
  · exact F.bindsN fun _ _ _ _ _ _ us hl => match us, hl with | [_, _], _ => rfl
  · exact F.bindsN fun _ _ _ _ _ _ us hl => match us, hl with | [_, _, _, _], _ => rfl
  · exact F.bindsN fun _ _ _ _ _ _ us hl => match us, hl with | [_, _, _, _], _ => rfl
  · exact F.bindsN fun _ _ _ _ _ _ us hl => match us, hl with | [_], _ => rfl
  · exact F.bindsN fun _ _ _ _ _ _ us hl => match us, hl with | [_, _], _ => rfl
  · exact F.bindsN fun _ _ _ _ _ _ us hl => match us, hl with | [_, _], _ => rfl
  · exact F.bindsN fun _ _ _ _ _ _ us hl => match us, hl with | [_, _, _], _ => rfl
  · exact F.bindsN fun _ _ _ _ _ _ us hl => match us, hl with | [_, _], _ => rfl
  · exact F.bindsN fun _ _ _ _ _ _ us hl => match us, hl with | [_, _, _, _], _ => rfl
  · exact F.bindsN fun _ _ _ _ _ _ us hl => match us, hl with | [_], _ => rfl
theorem says {Pr : Program} {w : World} {K : PySem.W.Frag} {mg : Str → Option Value} {h : Heap} {a : Addr} (X : K.In h) (G : h.Ns mainGlobals mg) (hfa : mg ("law" : Str) = some (.ref a)) (c : He.SaysD (facts tb es) (es.map Ent.d) K) :
    ∃ fd : FuncData, (∀ (s : Shared) (v : Value), BindsTo s fd ⟨[v], []⟩ [(("_law_script" : Str), v)]) ∧ ∀ base : Heap, K.In base → base.Ns mainGlobals mg → FnOk Pr w K mg base CX0 200 a fd [("_law_script" : Str)] (fun vs H Q _ => SpF (xtOf w K tb) K (run P 100) 1 15 vs H Q fun _ _ _ => False) := by
  have hgd : ∀ x kvs, tb.gds.lookup x = some kvs → GdOk K w (He.ga K x) kvs := fun x kvs e => by cases e
  obtain ⟨fd, F⟩ := c.def_ 15 (d := Ent.d e15) rfl
  have hg := He.glo_ok X G (SaysD.mem c (glo_mem (e := e15) (List.mem_of_getElem? (i := 15) rfl) rfl))
  have e := hfa.symm.trans hg
  cases e
  have b := FunD.bindsA (ps := [("_law_script" : Str)]) F fun _ _ _ _ _ _ us hl => match us, hl with | [_], _ => rfl
  exact ⟨fd, fun s v => b s [v] rfl, fun base kb gb => fn_calm (prog_ok kb gb c hgd excs tabs agree bds 100 15 e15 rfl fd F)⟩
end K15
open PySem PySem.W PySem.Calls PyProof.Rows
theorem PySem.Challenge.cw_flyovers_k15_whole_rows_exchanged_holds : PySem.Challenge.rw_flyovers_k15_whole_rows_exchanged.Holds := by
  w_on; o_law
  refine HandSHeadRun.head_any (r := OpenLaw.row PySem.Challenge.rw_flyovers_k15_whole_rows_exchanged) (q := view (OpenLaw.row PySem.Challenge.rw_flyovers_k15_whole_rows_exchanged).prog [25]) (H := K15.hk) (ob := K15.ob) (M := 1960) (loose := K15.loose) (d := HandSHeadRun.topDef (OpenLaw.row PySem.Challenge.rw_flyovers_k15_whole_rows_exchanged).prog 25) (kwd := []) K15.ob_eq
    (by kernel_rfl) (fun s => by kernel_rfl) K15.top_run (by kernel_rfl) (by kernel_rfl) (by kernel_rfl) (by rfl) (by first | assumption | decide +kernel) (by decide +kernel) ⟨rfl, rfl, rfl, rfl, rfl, by decide +kernel⟩ ?hw ?hc
  case hw => w_witness2
  case hc =>
    refine L2.walk_ofE (l := PySem.Challenge.rw_flyovers_k15_whole_rows_exchanged) (n := 63) (k := 200) (x := ("_law_script" : Str)) (CX := L2.CX0) rfl (by decide) (by kernel_rfl) ⟨rfl, by decide, by decide⟩ ?F (fun _ _ _ _ z => z)
    intro w mg fa h Y G hmg0
    obtain ⟨K, KX, c⟩ := Y
    have hmg : mg ("law" : PySem.Str) = some (.ref fa) := by
      have e : (HandSHeadRun.topDef (OpenLaw.row PySem.Challenge.rw_flyovers_k15_whole_rows_exchanged).prog 25).name = ("law" : PySem.Str) := by kernel_rfl
      rw [← e]
      exact hmg0
    obtain ⟨fd, hb, hF⟩ := K15.says (Pr := (PySem.Challenge.rw_flyovers_k15_whole_rows_exchanged).prog) (w := w) KX G hmg c
    exact ⟨K, fd, fun vs H Q _ => Fly.SpF (Fly.xtOf w K K15.tb) K (Fly.run K15.P 100) 1 15 vs H Q fun _ _ _ => False, KX, hb, fun H a ns hl _ hS => Fly.law_sp hS hl (K15.plain ns hl), hF⟩
end
