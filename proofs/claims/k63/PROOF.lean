import PyProof.Rows.All
import Wide.All
import OpenK.AllK
import Wide.FinOn
import HandS.ForMost
import HandS.Deep
import HandS.Dict
import HandS.DictEq
import KE.KEqDict
import KE.KEqNest
import HandS.ListEq
import HandS.DeepEq
import PyProof.NeKinds
import HandS.Wide
import HandS.SortRule
import HandS.More
import HandS.Conv
import HandS.IsInst
import HandS.TupLen
import KE.DataCmp
import KE.SortData
import HandS.CallSlots
import HandS.TryOnly
import HandS.Comp
import HandS.Iter
import HandS.Text
import HandS.RaiseMore
import KE.KDictCopyH
import KE.KDictOf
import KE.KDictKeyed
import KE.DataMinMax
import HandS.DictTup
import HandS.List
import HandS.Finally
import HandS.Replace
import KE.KDictPairs
import HandS.TupSets
import HandS.SortKw
import HandS.WordsExc
import HandS.Exc
import HandS.TryMany
import HandS.ExcOwn
import HandS.ExcIs
import HandS.HeadHook1
import HandS.Defaults
import HandS.Words
import HandS.HeadHook2
import HandS.HeadEnd
import HandS.Head0
import HandS.Head1
import HandS.Head2
import KE.KStateDown
import PySem.Challenge.RW_slate_k63_log_just_what_must_be
set_option Elab.async false
set_option linter.all false
set_option maxRecDepth 100000
section

/-! MP: a small interpreter over data. Definitions. -/
namespace MP
open PySem

abbrev Pl := Int × Int
abbrev Tx := List Nat
/-- data; ref n is a cell of the store -/
inductive D where
  | non | bl (b : Bool) | int (i : Int) | str (s : Tx)
  | tup (xs : List D) | lst (xs : List D) | dct (es : List (Pl × D)) | scr (ns : List Int) | ref (n : Nat)
  deriving Inhabited
inductive Cell where
  | lst (xs : List D) | dct (es : List (Pl × D)) | lckL (xs : List D) | lckD (es : List (Pl × D))
  deriving Inhabited
abbrev Store := List Cell
structure Ex where
  cls : Nat
  at_ : Option Int
/-- the end of an expression -/
inductive R (α : Type) where
  | ok (a : α) (st : Store) | exc (e : Ex) (st : Store) | no
@[reducible] def RE := R D
abbrev DS := List (Option D)
/-- the end of a statement -/
inductive RS where
  | nx (ds : DS) (st : Store) | rt (d : D) (st : Store) | bk (ds : DS) (st : Store) | ct (ds : DS) (st : Store) | exc (e : Ex) (ds : DS) (st : Store) | no

def R.bind {α β : Type} (x : R α) (f : α → Store → R β) : R β := match x with
  | .ok a st => f a st
  | .exc e st => .exc e st
  | .no => .no
@[simp] theorem R.bind_ok {α β : Type} (a : α) (st : Store) (f : α → Store → R β) : (R.ok a st).bind f = f a st := (rfl)
@[simp] theorem R.bind_exc {α β : Type} (e : Ex) (st : Store) (f : α → Store → R β) : (R.exc e st : R α).bind f = .exc e st := (rfl)
@[simp] theorem R.bind_no {α β : Type} (f : α → Store → R β) : (R.no : R α).bind f = .no := (rfl)
/-- an expression in a statement -/
def R.bindS {α : Type} (x : R α) (ds : DS) (f : α → Store → RS) : RS := match x with
  | .ok a st => f a st
  | .exc e st => .exc e ds st
  | .no => .no
@[simp] theorem R.bindS_ok {α : Type} (a : α) (st : Store) (ds : DS) (f : α → Store → RS) : (R.ok a st).bindS ds f = f a st := (rfl)
@[simp] theorem R.bindS_exc {α : Type} (e : Ex) (st : Store) (ds : DS) (f : α → Store → RS) : (R.exc e st : R α).bindS ds f = .exc e ds st := (rfl)
@[simp] theorem R.bindS_no {α : Type} (ds : DS) (f : α → Store → RS) : (R.no : R α).bindS ds f = .no := (rfl)
def ofO {α : Type} (st : Store) : Option α → R α
  | some a => .ok a st
  | none => .no
@[simp] theorem ofO_some {α : Type} (st : Store) (a : α) : ofO st (some a) = .ok a st := (rfl)
@[simp] theorem ofO_none {α : Type} (st : Store) : (ofO st none : R α) = .no := (rfl)

/-! ### data: cells gone -/
mutual
/-- no cell within -/
def noRef : D → Bool
  | .tup xs => noRefs xs
  | .lst xs => noRefs xs
  | .dct es => noRefE es
  | .ref _ => false
  | _ => true
def noRefs : List D → Bool
  | [] => true
  | x :: xs => noRef x && noRefs xs
def noRefE : List (Pl × D) → Bool
  | [] => true
  | (_, x) :: xs => noRef x && noRefE xs
end
mutual
/-- no list, no dict, no cell within -/
def flat : D → Bool
  | .tup xs => flats xs
  | .lst _ => false
  | .dct _ => false
  | .scr _ => false
  | .ref _ => false
  | _ => true
def flats : List D → Bool
  | [] => true
  | x :: xs => flat x && flats xs
end
mutual
/-- the cells within exchanged -/
def mapRef (g : Nat → Option D) : D → Option D
  | .tup xs => (mapRefs g xs).map .tup
  | .lst xs => (mapRefs g xs).map .lst
  | .dct es => (mapRefE g es).map .dct
  | .ref n => g n
  | .non => some .non
  | .bl b => some (.bl b)
  | .int i => some (.int i)
  | .str s => some (.str s)
  | .scr ns => some (.scr ns)
def mapRefs (g : Nat → Option D) : List D → Option (List D)
  | [] => some []
  | x :: xs => match mapRef g x, mapRefs g xs with
    | some y, some ys => some (y :: ys)
    | _, _ => none
def mapRefE (g : Nat → Option D) : List (Pl × D) → Option (List (Pl × D))
  | [] => some []
  | (k, x) :: xs => match mapRef g x, mapRefE g xs with
    | some y, some ys => some ((k, y) :: ys)
    | _, _ => none
end
/-- cells read as frozen data, to a depth -/
def rsvN (st : Store) : Nat → D → Option D
  | 0, _ => none
  | k + 1, d => mapRef (fun n => match st[n]? with
    | some (.lst xs) => (mapRefs (fun m => rsvN st k (.ref m)) xs).map .lst
    | some (.lckL xs) => (mapRefs (fun m => rsvN st k (.ref m)) xs).map .lst
    | some (.dct es) => (mapRefE (fun m => rsvN st k (.ref m)) es).map .dct
    | some (.lckD es) => (mapRefE (fun m => rsvN st k (.ref m)) es).map .dct
    | none => none) d
def rsv (st : Store) (d : D) : Option D := if noRef d then some d else rsvN st 40 d
def rsvs (st : Store) : List D → Option (List D)
  | [] => some []
  | x :: xs => match rsv st x, rsvs st xs with
    | some y, some ys => some (y :: ys)
    | _, _ => none
mutual
def shift (k : Nat) : D → D
  | .tup xs => .tup (shifts k xs)
  | .lst xs => .lst (shifts k xs)
  | .dct es => .dct (shiftE k es)
  | .ref n => .ref (k + n)
  | .non => .non
  | .bl b => .bl b
  | .int i => .int i
  | .str s => .str s
  | .scr ns => .scr ns
def shifts (k : Nat) : List D → List D
  | [] => []
  | x :: xs => shift k x :: shifts k xs
def shiftE (k : Nat) : List (Pl × D) → List (Pl × D)
  | [] => []
  | (p, x) :: xs => (p, shift k x) :: shiftE k xs
end
def shiftC (k : Nat) : Cell → Cell
  | .lst xs => .lst (shifts k xs)
  | .dct es => .dct (shiftE k es)
  | .lckL xs => .lckL (shifts k xs)
  | .lckD es => .lckD (shiftE k es)
def flatE : List (Pl × D) → Bool
  | [] => true
  | (_, x) :: xs => flat x && flatE xs
mutual
/-- frozen parts are flat: cells, tuples of such, scalars -/
def flatR : D → Bool
  | .tup xs => flatRs xs
  | .lst _ => false
  | .dct _ => false
  | .scr _ => false
  | _ => true
def flatRs : List D → Bool
  | [] => true
  | x :: xs => flatR x && flatRs xs
end
def flatRE : List (Pl × D) → Bool
  | [] => true
  | (_, x) :: xs => flatR x && flatRE xs
def flatC : Cell → Bool
  | .lst xs => flatRs xs
  | .dct es => flatRE es
  | .lckL xs => flatRs xs
  | .lckD es => flatRE es

/-! ### what is asked of data -/
/-- the items of a list -/
def lstOf (st : Store) : D → Option (List D)
  | .lst xs => some xs
  | .scr ns => some (ns.map .int)
  | .ref n => match st[n]? with
    | some (.lst xs) => some xs
    | some (.lckL xs) => some xs
    | _ => none
  | _ => none
/-- the items of a list or a tuple -/
def seqOf (st : Store) : D → Option (List D)
  | .tup xs => some xs
  | d => lstOf st d
def dctOf (st : Store) : D → Option (List (Pl × D))
  | .dct es => some es
  | .ref n => match st[n]? with
    | some (.dct es) => some es
    | some (.lckD es) => some es
    | _ => none
  | _ => none
def plOf : D → Option Pl
  | .tup [.int r, .int c] => some (r, c)
  | _ => none
def plD (p : Pl) : D := .tup [.int p.1, .int p.2]
/-- a pair whose hash is known to be apart from the others' -/
def plLt (a b : Pl) : Bool := decide (a.1 < b.1 ∨ (a.1 = b.1 ∧ a.2 < b.2))
def smallK (p : Pl) : Bool := decide (0 ≤ p.1) && decide (p.1 < 104) && decide (0 ≤ p.2) && decide (p.2 < 32)
def dget (es : List (Pl × D)) (k : Pl) : Option D := (es.find? fun e => decide (e.1 = k)).map (·.2)
def dput (es : List (Pl × D)) (k : Pl) (d : D) : List (Pl × D) :=
  if (es.any fun e => decide (e.1 = k)) = true then es.map (fun e => if e.1 = k then (e.1, d) else e) else es ++ [(k, d)]
def ddrop (es : List (Pl × D)) (k : Pl) : List (Pl × D) := es.filter fun e => decide (e.1 ≠ k)
mutual
def dep : D → Nat
  | .tup xs => deps xs + 1
  | .lst xs => deps xs + 1
  | _ => 0
def deps : List D → Nat
  | [] => 0
  | x :: xs => max (dep x) (deps xs)
end
mutual
/-- data that == compares -/
def cmpD : D → Bool
  | .tup xs => cmpDs xs
  | .lst xs => cmpDs xs
  | .dct _ => false
  | .ref _ => false
  | .scr _ => false
  | _ => true
def cmpDs : List D → Bool
  | [] => true
  | x :: xs => cmpD x && cmpDs xs
end
mutual
/-- == -/
def eqD : D → D → Bool
  | .non, .non => true
  | .bl a, .bl b => a == b
  | .bl a, .int j => (if a then 1 else 0) == j
  | .int i, .bl b => i == (if b then 1 else 0)
  | .int i, .int j => i == j
  | .str s, .str t => s == t
  | .tup xs, .tup ys => eqDs xs ys
  | .lst xs, .lst ys => eqDs xs ys
  | _, _ => false
def eqDs : List D → List D → Bool
  | [], [] => true
  | x :: xs, y :: ys => eqD x y && eqDs xs ys
  | _, _ => false
end
/-- flat for 'in' -/
def scalar : D → Bool
  | .non => true
  | .bl _ => true
  | .int _ => true
  | .str _ => true
  | _ => false
/-- two dicts of the same keys, their values equal -/
def eqE (es fs : List (Pl × D)) : Bool := decide (es.length = fs.length) && es.all fun p => match dget fs p.1 with
  | some v => cmpD p.2 && cmpD v && decide (dep p.2 ≤ 60) && decide (dep v ≤ 60) && eqD p.2 v
  | none => false
mutual
/-- equal for sure: data, dicts, tuples of such, to a depth -/
def eqU : Nat → D → D → Bool
  | 0, _, _ => false
  | n + 1, x, y => (cmpD x && cmpD y && decide (dep x ≤ 60) && decide (dep y ≤ 60) && eqD x y) || (match x, y with
    | .dct es, .dct fs => eqE es fs
    | .tup xs, .tup ys => eqUs n xs ys
    | _, _ => false)
def eqUs : Nat → List D → List D → Bool
  | _, [], [] => true
  | n, x :: xs, y :: ys => eqU n x y && eqUs n xs ys
  | _, _, _ => false
end
def eqX : D → D → Option Bool
  | .dct es, .dct fs => if eqE es fs then some true else none
  | .tup xs, .tup ys => if eqUs 8 xs ys then some true else none
  | _, _ => none
/-- == of two values -/
def eqVal (st : Store) (a b : D) : Option Bool :=
  if scalar a && scalar b then some (eqD a b) else
  match rsv st a, rsv st b with
  | some x, some y => if cmpD x && cmpD y && decide (dep x ≤ 64) && decide (dep y ≤ 64) then some (eqD x y) else eqX x y
  | _, _ => none
def lim : Nat := 16777216
def isSub (s t : Tx) : Bool := !(Builtin.Str.occurrences ⟨t.toArray⟩ ⟨s.toArray⟩ 0 t.length 1).isEmpty
def findT (s t : Tx) : Int := match Builtin.Str.occurrences ⟨s.toArray⟩ ⟨t.toArray⟩ 0 s.length 1 with
  | i :: _ => (i : Int)
  | [] => -1
def inVal (st : Store) (a b : D) : Option Bool :=
  match b with
  | .str t => match a with
    | .str [c] => some (decide (c ∈ t))
    | .str s => some (isSub s t)
    | _ => none
  | _ => match dctOf st b with
    | some es => match plOf a with
      | some k => some (dget es k).isSome
      | none => none
    | none => match seqOf st b with
      | some xs => if scalar a && xs.all scalar then some (xs.any fun y => eqD y a) else
        match lstOf st b, rsv st a, rsvs st xs with
        | some _, some x, some ys => if cmpD x && cmpDs ys && decide (dep x ≤ 64) && decide (deps ys ≤ 63) then some (ys.any fun z => eqD z x) else none
        | _, _, _ => none
      | none => none
def atL {α : Type} (xs : List α) (i : Int) : Option α := (L2.ixN xs.length i).bind fun j => xs[j]?
def cutL {α : Type} (xs : List α) (lo hi : Option Int) : List α :=
  (xs.drop (HT.sIx xs.length 0 lo)).take (HT.sIx xs.length xs.length hi - HT.sIx xs.length 0 lo)
/-- a new list: a cell or frozen -/
def mkL (m : Bool) (xs : List D) (st : Store) : RE := if m then .ok (.ref st.length) (st ++ [.lst xs]) else .ok (.lst xs) st
def mkD (m : Bool) (es : List (Pl × D)) (st : Store) : RE := if m then .ok (.ref st.length) (st ++ [.dct es]) else .ok (.dct es) st

inductive Ty where
  | int | bool | str | tuple | list | dict
  deriving DecidableEq
def tyOf (st : Store) : D → Option Ty
  | .bl _ => some .bool
  | .int _ => some .int
  | .str _ => some .str
  | .tup _ => some .tuple
  | .lst _ => some .list
  | .scr _ => some .list
  | .dct _ => some .dict
  | .ref n => match st[n]? with
    | some (.lst _) => some .list
    | some (.lckL _) => some .list
    | some (.dct _) => some .dict
    | some (.lckD _) => some .dict
    | none => none
  | .non => none
/-- isinstance -/
def isTy (st : Store) (d : D) (t : Ty) : Option Bool := match d with
  | .non => some false
  | _ => match tyOf st d with
    | some u => some (decide (u = t) || (decide (u = .bool) && decide (t = .int)))
    | none => none

/-! ### operations -/
inductive Op where
  | add (m : Bool) | sub | mul | fdiv | mod | pow
  | eq | ne | lt | le | gt | ge | isin | notin
def opF (o : Op) (a b : D) (st : Store) : RE :=
  match o with
  | .add m => match a, b with
    | .int i, .int j => .ok (.int (i + j)) st
    | .str s, .str t => if s.length + t.length ≤ lim then .ok (.str (s ++ t)) st else .no
    | _, _ => match lstOf st a, lstOf st b with
      | some xs, some ys => match a, b with
        | .scr _, _ => .no
        | _, .scr _ => .no
        | _, _ => if xs.length + ys.length ≤ lim then mkL m (xs ++ ys) st else .no
      | _, _ => .no
  | .sub => match a, b with
    | .int i, .int j => .ok (.int (i - j)) st
    | _, _ => .no
  | .mul => match a, b with
    | .int i, .int j => if i.natAbs.log2 + j.natAbs.log2 < 1000000 then .ok (.int (i * j)) st else
        if j.natAbs < 2 ^ 64 then .ok (.int (i * j)) st else if i.natAbs < 2 ^ 64 then .ok (.int (i * j)) st else .no
    | .str s, .int j => if 0 ≤ j ∧ j < 1000000 ∧ s.length * j.toNat ≤ lim then .ok (.str (List.replicate j.toNat s).flatten) st else .no
    | _, _ => .no
  | .fdiv => match a, b with
    | .int i, .int j => if j ≠ 0 ∧ j.natAbs.log2 < 9000 then .ok (.int (i.fdiv j)) st else .no
    | _, _ => .no
  | .mod => match a, b with
    | .int i, .int j => if 0 < j then .ok (.int (i % j)) st else .no
    | _, _ => .no
  | .pow => match a, b with
    | .int i, .int j => if 0 ≤ j ∧ j ≤ 1000000 ∧ i.natAbs < 2 ^ 64 then .ok (.int (i ^ j.toNat)) st else .no
    | _, _ => .no
  | .eq => ofO st ((eqVal st a b).map .bl)
  | .ne => ofO st ((eqVal st a b).map fun k => .bl (!k))
  | .lt => match a, b with
    | .int i, .int j => .ok (.bl (decide (i < j))) st
    | _, _ => match plOf a, plOf b with
      | some p, some q => .ok (.bl (plLt p q)) st
      | _, _ => .no
  | .le => match a, b with
    | .int i, .int j => .ok (.bl (decide (i ≤ j))) st
    | _, _ => .no
  | .gt => match a, b with
    | .int i, .int j => .ok (.bl (decide (j < i))) st
    | _, _ => .no
  | .ge => match a, b with
    | .int i, .int j => .ok (.bl (decide (j ≤ i))) st
    | _, _ => .no
  | .isin => ofO st ((inVal st a b).map .bl)
  | .notin => ofO st ((inVal st a b).map fun k => .bl (!k))

/-! ### the language -/
inductive SK where
  | rng1 | rng2 | it | itv | itx
inductive P where
  | op (o : Op) | neg | isn | notn | tup | lst (m : Bool) | dnew | ix
  | len | max2 | min2 | maxL | minL | maxD | sum | sorted (m : Bool) | list (m : Bool) | dict (m : Bool) | int1 | str1 | abs | all | isi (t : Ty)
  | lrng (m : Bool) | kix (ks : List (Tx × Int)) | nset
  | setd | append | pop | insert | clear | dget | dpop | find | index | join | split (m : Bool) | lower | upper | rev | dclr | dictL (m : Bool) | dpop1 | sidx
inductive E where
  | var (i : Nat)
  | k (d : D)
  | glob (x : Str) (d : D)
  | pr (p : P) (es : List E)
  | mth (p : P) (o : E) (es : List E)
  | slc (m hl hh : Bool) (a lo hi : E)
  | and (a b : E) | or (a b : E) | not (a : E)
  | ife (c a b : E)
  | chain (o o' : Op) (a b c : E)
  | call (f : Nat) (raw : Bool) (es : List E)
  | callM (f : Nat) (es : List E)
  | comp (m : Bool) (v : Nat) (elt : E) (s : SK) (src : List E) (cond : E)
  | exis (c : Nat) | exat
inductive S where
  | set (i : Nat) (e : E) | setix (o i v : E) | expr (e : E) | ret (e : E)
  | ifs (c : E) (a b : List S) | whl (c : E) (b : List S) | for (v : Nat) (k : SK) (src : List E) (b : List S)
  | brk | cnt | pass
  | raise (cls : Nat) (msg at_ : E)
  | tri (b hs : List S) | hd (c : Nat) (v : Option Nat) (b : List S)
  | dead
structure Fn where
  np : Nat
  ns : Nat
  body : List S

def mxL : List Int → Option Int
  | [] => none
  | x :: xs => some (xs.foldl (fun a b => if b > a then b else a) x)
def mnL : List Int → Option Int
  | [] => none
  | x :: xs => some (xs.foldl (fun a b => if b < a then b else a) x)
def intsOf : List D → Option (List Int)
  | [] => some []
  | .int i :: xs => (intsOf xs).map (i :: ·)
  | _ => none
def blsOf : List D → Option (List Bool)
  | [] => some []
  | .bl i :: xs => (blsOf xs).map (i :: ·)
  | _ => none
def txsOf : List D → Option (List Tx)
  | [] => some []
  | .str i :: xs => (txsOf xs).map (i :: ·)
  | _ => none
def plsOf : List D → Option (List Pl)
  | [] => some []
  | x :: xs => match plOf x, plsOf xs with
    | some p, some ps => some (p :: ps)
    | _, _ => none
def pairsOf : List D → Option (List (Pl × D))
  | [] => some []
  | .tup [p, v] :: xs => match plOf p, pairsOf xs with
    | some k, some es => some ((k, v) :: es)
    | _, _ => none
  | _ => none
def plLe (a b : Pl) : Bool := decide (a.1 < b.1) || (decide (a.1 = b.1) && decide (a.2 ≤ b.2))
def sortP (ps : List Pl) : List Pl := ps.mergeSort plLe
def joinT (sep : Tx) : List Tx → Tx
  | [] => []
  | [t] => t
  | t :: ts => t ++ sep ++ joinT sep ts
def oneS (c : Nat) : D := .str [c]

def rangeD (a b : Int) : List D := (List.range (b - a).toNat).map fun (i : Nat) => .int (a + i)
/-- what is walked: the cell to be locked, the items -/
def srcF (k : SK) (ds : List D) (st : Store) : Option (Option Nat × List D) := match k, ds with
  | .rng1, [.int n] => if -(2 ^ 62) ≤ n ∧ n < 2 ^ 62 then some (none, rangeD 0 n) else none
  | .rng2, [.int a, .int b] => if (-(2 ^ 62) ≤ a ∧ a < 2 ^ 62) ∧ (-(2 ^ 62) ≤ b ∧ b < 2 ^ 62) then some (none, rangeD a b) else none
  | .it, [d] => match d with
    | .lst xs => some (none, xs)
    | .tup xs => some (none, xs)
    | .scr ns => some (none, ns.map .int)
    | .str s => some (none, s.map oneS)
    | _ => none
  | .itv, [d] => match d with
    | .lst xs => some (none, xs)
    | .tup xs => some (none, xs)
    | .scr ns => some (none, ns.map .int)
    | .str s => some (none, s.map oneS)
    | .dct es => some (none, es.map fun e => plD e.1)
    | .ref n => match st[n]? with
      | some (.lst xs) => some (some n, xs)
      | some (.dct es) => some (some n, es.map fun e => plD e.1)
      | some (.lckL xs) => some (none, xs)
      | some (.lckD es) => some (none, es.map fun e => plD e.1)
      | none => none
    | _ => none
  | .itx, [d] => match d with
    | .ref n => match st[n]? with
      | some (.lst xs) => some (some n, xs)
      | _ => none
    | _ => none
  | _, _ => none
def lockC : Cell → Option Cell
  | .lst xs => some (.lckL xs)
  | .dct es => some (.lckD es)
  | _ => none
def lock (n : Nat) (st : Store) : Option Store := match st[n]? with
  | some (.lst xs) => some (st.set n (.lckL xs))
  | some (.dct es) => some (st.set n (.lckD es))
  | _ => none
def unlock (n : Nat) (st : Store) : Option Store := match st[n]? with
  | some (.lckL xs) => some (st.set n (.lst xs))
  | some (.lckD es) => some (st.set n (.dct es))
  | _ => none
def unlockS (n : Nat) : RS → RS
  | .nx ds st => match unlock n st with | some st' => .nx ds st' | none => .no
  | .rt d st => match unlock n st with | some st' => .rt d st' | none => .no
  | .bk ds st => match unlock n st with | some st' => .bk ds st' | none => .no
  | .ct ds st => match unlock n st with | some st' => .ct ds st' | none => .no
  | .exc e ds st => .no
  | .no => .no

def prim1F (p : P) (a : D) (st : Store) : RE :=
  match p with
  | .neg => match a with
    | .int i => .ok (.int (-i)) st
    | _ => .no
  | .isn => .ok (.bl (match a with | .non => true | _ => false)) st
  | .notn => .ok (.bl (match a with | .non => false | _ => true)) st
  | .len => match a with
    | .str s => if s.length ≤ lim then .ok (.int s.length) st else .no
    | _ => match dctOf st a with
      | some es => .ok (.int es.length) st
      | none => match seqOf st a with
        | some xs => .ok (.int xs.length) st
        | none => .no
  | .maxL => match lstOf st a with
    | some xs => ofO st (((intsOf xs).bind mxL).map .int)
    | none => .no
  | .minL => match lstOf st a with
    | some xs => match (intsOf xs).bind mnL with
      | some i => .ok (.int i) st
      | none => match plsOf xs with
        | some (p :: ps) => .ok (plD (ps.foldl (fun a y => if plLt y a then y else a) p)) st
        | _ => .no
    | none => .no
  | .nset => match lstOf st a with
    | some xs => match plsOf xs with
      | some ps => if ps.length < 64 ∧ ps.Nodup then .ok (.int ps.length) st else .no
      | none => .no
    | none => .no
  | .maxD => match lstOf st a with
    | some xs => match intsOf xs with
      | some [] => .ok (.int 0) st
      | some is => ofO st ((mxL is).map .int)
      | none => .no
    | none => .no
  | .sum => match lstOf st a with
    | some xs => ofO st ((intsOf xs).map fun is => .int is.sum)
    | none => .no
  | .sorted m => match dctOf st a with
    | some es => mkL m ((sortP (es.map (·.1))).map plD) st
    | none => match lstOf st a with
      | some xs => match plsOf xs with
        | some ps => mkL m ((sortP ps).map plD) st
        | none => .no
      | none => .no
  | .list m => match dctOf st a with
    | some es => mkL m (es.map fun e => plD e.1) st
    | none => match seqOf st a with
      | some xs => mkL m xs st
      | none => .no
  | .dict m => match dctOf st a with
    | some es => if es.all (fun e => smallK e.1) && decide (es.length ≤ lim) then mkD m es st else .no
    | none => .no
  | .int1 => match a with
    | .int i => .ok (.int i) st
    | .bl b => .ok (.int (if b then 1 else 0)) st
    | .str s => if s.length ≤ 640 then ofO st ((PySem.intText? ⟨s.toArray⟩).map .int) else .no
    | _ => .no
  | .str1 => match a with
    | .int i => if i.natAbs.log2 < 1920 then .ok (.str (PySem.Str.ofString (toString i)).cps.toList) st else .no
    | .str s => .ok (.str s) st
    | _ => .no
  | .abs => match a with
    | .int i => .ok (.int (if i < 0 then -i else i)) st
    | _ => .no
  | .all => match lstOf st a with
    | some xs => ofO st ((blsOf xs).map fun bs => .bl (bs.all id))
    | none => .no
  | .isi t => ofO st ((isTy st a t).map .bl)
  | .kix ks => match a with
    | .str s => ofO st ((ks.foldl (fun o p => if p.1 = s then some p.2 else o) (none : Option Int)).map .int)
    | _ => .no
  | .pop => match a with
    | .ref n => match st[n]? with
      | some (.lst xs) => match xs[xs.length - 1]? with
        | some y => .ok y (st.set n (.lst xs.dropLast))
        | none => .no
      | _ => .no
    | _ => .no
  | .clear => match a with
    | .ref n => match st[n]? with
      | some (.lst xs) => .ok .non (st.set n (.lst []))
      | _ => .no
    | _ => .no
  | .dclr => match a with
    | .ref n => match st[n]? with
      | some (.dct es) => .ok .non (st.set n (.dct []))
      | _ => .no
    | _ => .no
  | .rev => match a with
    | .ref n => match st[n]? with
      | some (.lst xs) => .ok .non (st.set n (.lst xs.reverse))
      | _ => .no
    | _ => .no
  | .dictL m => match lstOf st a with
    | some xs => match pairsOf xs with
      | some es => mkD m (es.foldl (fun g e => dput g e.1 e.2) []) st
      | none => .no
    | none => .no
  | .lower => match a with
    | .str [c] => if 65 ≤ c ∧ c ≤ 90 then .ok (.str [c + 32]) st else .no
    | _ => .no
  | _ => .no
def prim2F (p : P) (a b : D) (st : Store) : RE :=
  match p with
  | .op o => opF o a b st
  | .ix => match a with
    | .str s => match b with
      | .int j => if s.length ≤ lim then ofO st ((atL s j).map oneS) else .no
      | _ => .no
    | _ => match dctOf st a with
      | some es => match plOf b with
        | some k => ofO st (dget es k)
        | none => .no
      | none => match seqOf st a, b with
        | some xs, .int j => ofO st (atL xs j)
        | _, _ => .no
  | .find => match a, b with
    | .str s, .str t => .ok (.int (findT s t)) st
    | _, _ => .no
  | .sidx => match a, b with
    | .str s, .str t => if 0 ≤ findT s t then .ok (.int (findT s t)) st else .no
    | _, _ => .no
  | .index => match lstOf st a, plOf b with
    | some xs, some p => match plsOf xs with
      | some ps => if p ∈ ps then .ok (.int (ps.idxOf p : Nat)) st else .no
      | none => .no
    | _, _ => .no
  | .dpop1 => match a, plOf b with
    | .ref n, some k => match st[n]? with
      | some (.dct es) => match dget es k with
        | some v => .ok v (st.set n (.dct (ddrop es k)))
        | none => .no
      | _ => .no
    | _, _ => .no
  | .max2 => match a, b with
    | .int i, .int j => .ok (.int (if j > i then j else i)) st
    | _, _ => .no
  | .min2 => match a, b with
    | .int i, .int j => .ok (.int (if j < i then j else i)) st
    | _, _ => .no
  | .append => match a with
    | .ref n => match st[n]? with
      | some (.lst xs) => if xs.length < lim then .ok .non (st.set n (.lst (xs ++ [b]))) else .no
      | _ => .no
    | _ => .no
  | .lrng m => match a, b with
    | .int i, .int j => if ((-(2 ^ 62) ≤ i ∧ i < 2 ^ 62) ∧ (-(2 ^ 62) ≤ j ∧ j < 2 ^ 62)) ∧ (j - i).toNat ≤ lim then mkL m (rangeD i j) st else .no
    | _, _ => .no
  | .dget => match dctOf st a, plOf b with
    | some es, some k => .ok ((dget es k).getD .non) st
    | _, _ => .no
  | .join => match a with
    | .str s => match lstOf st b with
      | some xs => match txsOf xs with
        | some ts => if (ts.map List.length).sum + ts.length * s.length ≤ lim then .ok (.str (joinT s ts)) st else .no
        | none => .no
      | none => .no
    | _ => .no
  | _ => .no
def prim3F (p : P) (a b c : D) (st : Store) : RE :=
  match p with
  | .insert => match a, b with
    | .ref n, .int i => match st[n]? with
      | some (.lst xs) => if xs.length < lim ∧ 0 ≤ i ∧ i < 2 ^ 63 then .ok .non (st.set n (.lst (xs.take i.toNat ++ [c] ++ xs.drop i.toNat))) else .no
      | _ => .no
    | _, _ => .no
  | .dpop => match a, plOf b with
    | .ref n, some k => match st[n]? with
      | some (.dct es) => match dget es k with
        | some v => .ok v (st.set n (.dct (ddrop es k)))
        | none => .ok c st
      | _ => .no
    | _, _ => .no
  | .setd => match a, plOf b with
    | .ref n, some k => match st[n]? with
      | some (.dct es) => if es.length < lim then match dget es k with
          | some v => .ok v st
          | none => .ok c (st.set n (.dct (dput es k c)))
        else .no
      | _ => .no
    | _, _ => .no
  | _ => .no
/-- a loop over a name: nothing is raised out of it -/
def filtS (k : SK) (r : RS) : RS := match k with
  | .itv => match r with
    | .exc _ _ _ => .no
    | x => x
  | _ => r
def primF (p : P) (ds : List D) (st : Store) : RE :=
  match p with
  | .tup => if ds.length ≤ 1000 then .ok (.tup ds) st else .no
  | .lst m => if ds.length ≤ 1000 then mkL m ds st else .no
  | .dnew => match ds with
    | [] => mkD true [] st
    | _ => .no
  | _ => match ds with
    | [a] => prim1F p a st
    | [a, b] => prim2F p a b st
    | [a, b, c] => prim3F p a b c st
    | _ => .no

/-- the receiver's kind -/
def okRecv (p : P) (x : D) (st : Store) : Bool := match p with
  | .append => (lstOf st x).isSome
  | .pop => (lstOf st x).isSome
  | .insert => (lstOf st x).isSome
  | .clear => (lstOf st x).isSome
  | .rev => (lstOf st x).isSome
  | .dget => (dctOf st x).isSome
  | .setd => match x with
    | .ref n => match st[n]? with
      | some (.dct _) => true
      | _ => false
    | _ => false
  | .dpop => match x with
    | .ref n => match st[n]? with
      | some (.dct _) => true
      | _ => false
    | _ => false
  | .dpop1 => match x with
    | .ref n => match st[n]? with
      | some (.dct _) => true
      | _ => false
    | _ => false
  | .dclr => match x with
    | .ref n => match st[n]? with
      | some (.dct _) => true
      | _ => false
    | _ => false
  | .index => (lstOf st x).isSome
  | .sidx => match x with
    | .str _ => true
    | _ => false
  | .join => match x with
    | .str _ => true
    | _ => false
  | .find => match x with
    | .str _ => true
    | _ => false
  | .split _ => match x with
    | .str _ => true
    | _ => false
  | .lower => match x with
    | .str _ => true
    | _ => false
  | .upper => match x with
    | .str _ => true
    | _ => false
  | _ => false
def setixF (o i v : D) (st : Store) : Option Store := match o with
  | .ref n => match st[n]? with
    | some (.lst xs) => match i with
      | .int j => (L2.ixN xs.length j).map fun m => st.set n (.lst (xs.set m v))
      | _ => none
    | some (.dct es) => match plOf i with
      | some k => if es.length < lim then some (st.set n (.dct (dput es k v))) else none
      | none => none
    | _ => none
  | _ => none
def partOf : D → Option (Option Int)
  | .non => some none
  | .int i => some (some i)
  | _ => none
def partR (h : Bool) (r : RE) (st : Store) : RE := if h then r.bind fun d s => match d with | .int i => .ok (.int i) s | _ => .no else .ok .non st
def slcF (m : Bool) (a lo hi : D) (st : Store) : RE := match partOf lo, partOf hi with
  | some l, some h => match a with
    | .str s => if s.length ≤ lim then .ok (.str (cutL s l h)) st else .no
    | .tup xs => if HT.sIx xs.length 0 l = 0 ∧ HT.sIx xs.length xs.length h = xs.length then .no else .ok (.tup (cutL xs l h)) st
    | _ => match lstOf st a with
      | some xs => mkL m (cutL xs l h) st
      | none => .no
  | _, _ => .no

abbrev Cl := Nat → List D → Store → RE
/-- is an exception of a class one of another class; 9: ValueError -/
def isCls (x y : Nat) : Bool := y == 9 || y == 0 || x == y
/-- in an except suite: the exception is known -/
def clE (cl : Cl) (e : Ex) : Cl := fun f args st =>
  if f = 2000000 then (match e.at_ with
    | some i => .ok (.int i) st
    | none => .no)
  else if 1000000 ≤ f ∧ f < 1000010 then .ok (.bl (isCls e.cls (f - 1000000))) st else cl f args st
/-- the exception's name is gone behind the suite -/
def unb (i : Nat) : RS → RS
  | .nx ds st => .nx (ds.set i none) st
  | .rt d st => .rt d st
  | _ => .no
/-- a call upon data: the callee sees the cells as frozen -/
def pcall (cl : Cl) (f : Nat) (raw : Bool) (args : List D) (st : Store) : RE :=
  match rsvs st args with
  | none => .no
  | some args' => match cl f args' [] with
    | .ok d S =>
      if raw then (if noRefs args || (flatR d && S.all flatC) then .ok (shift st.length d) (st ++ S.map (shiftC st.length)) else .no)
      else match rsv S d with
        | some d' => if noRefs args || flat d' then .ok d' st else .no
        | none => .no
    | .exc e _ => .exc e st
    | .no => .no

def forB (body : DS → Store → RS) (v : Nat) : List D → DS → Store → RS
  | [], ds, st => .nx ds st
  | d :: r, ds, st => match body (ds.set v (some d)) st with
    | .nx ds' st' => forB body v r ds' st'
    | .ct ds' st' => forB body v r ds' st'
    | .bk ds' st' => .nx ds' st'
    | x => x
def whlB (c : DS → Store → RE) (body : DS → Store → RS) : Nat → DS → Store → RS
  | 0, _, _ => .no
  | k + 1, ds, st => (c ds st).bindS ds fun b st' => match b with
    | .bl true => match body ds st' with
      | .nx ds' st2 => whlB c body k ds' st2
      | .ct ds' st2 => whlB c body k ds' st2
      | .bk ds' st2 => .nx ds' st2
      | x => x
    | .bl false => .nx ds st'
    | _ => .no
/-- a comprehension's turns: what is made so far goes along -/
def compB (elt cond : DS → Store → RE) (v : Nat) : List D → List D → DS → Store → Option (List D × Store)
  | [], acc, _, st => some (acc, st)
  | d :: r, acc, ds, st => match cond (ds.set v (some d)) st with
    | .ok (.bl true) st1 => match elt (ds.set v (some d)) st1 with
      | .ok y st2 => if acc.length < lim then compB elt cond v r (acc ++ [y]) ds st2 else none
      | _ => none
    | .ok (.bl false) st1 => compB elt cond v r acc ds st1
    | _ => none
def compF (m : Bool) (elt cond : DS → Store → RE) (v : Nat) (k : SK) (src : List D) (ds : DS) (st : Store) : RE :=
  match srcF k src st with
  | some (none, xs) => match compB elt cond v xs [] ds st with
    | some (ys, st') => mkL m ys st'
    | none => .no
  | some (some n, xs) => match lock n st with
    | some st1 => match compB elt cond v xs [] ds st1 with
      | some (ys, st') => match unlock n st' with
        | some st2 => mkL m ys st2
        | none => .no
      | none => .no
    | none => .no
  | none => .no

mutual
def evE (cl : Cl) : E → DS → Store → RE
  | .var i, ds, st => match ds[i]? with
    | some (some d) => .ok d st
    | _ => .no
  | .k d, _, st => .ok d st
  | .glob _ d, _, st => .ok d st
  | .pr p es, ds, st => (evL cl es ds st).bind fun xs st' => primF p xs st'
  | .mth p o es, ds, st => (evE cl o ds st).bind fun x st1 => if okRecv p x st1 then (evL cl es ds st1).bind fun ys st2 => primF p (x :: ys) st2 else .no
  | .slc m hl hh a lo hi, ds, st => (evE cl a ds st).bind fun x st1 => (partR hl (evE cl lo ds st1) st1).bind fun l st2 => (partR hh (evE cl hi ds st2) st2).bind fun h st3 => slcF m x l h st3
  | .and a b, ds, st => (evE cl a ds st).bind fun x st1 => match x with
    | .bl true => evE cl b ds st1
    | .bl false => .ok (.bl false) st1
    | _ => .no
  | .or a b, ds, st => (evE cl a ds st).bind fun x st1 => match x with
    | .bl true => .ok (.bl true) st1
    | .bl false => evE cl b ds st1
    | _ => .no
  | .not a, ds, st => (evE cl a ds st).bind fun x st1 => match x with
    | .bl b => .ok (.bl (!b)) st1
    | _ => .no
  | .ife c a b, ds, st => (evE cl c ds st).bind fun x st1 => match x with
    | .bl true => evE cl a ds st1
    | .bl false => evE cl b ds st1
    | _ => .no
  | .chain o o' a b c, ds, st => (evE cl a ds st).bind fun x st1 => (evE cl b ds st1).bind fun y st2 => (opF o x y st2).bind fun z st3 => match z with
    | .bl true => (evE cl c ds st3).bind fun w st4 => opF o' y w st4
    | .bl false => .ok (.bl false) st3
    | _ => .no
  | .call f raw es, ds, st => (evL cl es ds st).bind fun xs st' => pcall cl f raw xs st'
  | .callM f es, ds, st => (evL cl es ds st).bind fun xs st' => cl f xs st'
  | .comp m v elt k src cond, ds, st => (evL cl src ds st).bind fun xs st' => compF m (evE cl elt) (evE cl cond) v k xs ds st'
  | .exis c, _, st => cl (1000000 + c) [] st
  | .exat, _, st => cl 2000000 [] st
def evL (cl : Cl) : List E → DS → Store → R (List D)
  | [], _, st => .ok [] st
  | e :: es, ds, st => (evE cl e ds st).bind fun x st1 => (evL cl es ds st1).bind fun xs st2 => .ok (x :: xs) st2
end
def whlFuel : Nat := 1000000
mutual
def evS (cl : Cl) : S → DS → Store → RS
  | .set i e, ds, st => (evE cl e ds st).bindS ds fun d st' => .nx (ds.set i (some d)) st'
  | .setix o i v, ds, st => (evE cl v ds st).bindS ds fun x st1 => (evE cl o ds st1).bindS ds fun y st2 => (evE cl i ds st2).bindS ds fun z st3 => match setixF y z x st3 with
    | some st4 => .nx ds st4
    | none => .no
  | .expr e, ds, st => (evE cl e ds st).bindS ds fun _ st' => .nx ds st'
  | .ret e, ds, st => (evE cl e ds st).bindS ds fun d st' => .rt d st'
  | .ifs c a b, ds, st => (evE cl c ds st).bindS ds fun x st' => match x with
    | .bl true => evB cl a ds st'
    | .bl false => evB cl b ds st'
    | _ => .no
  | .whl c b, ds, st => whlB (evE cl c) (evB cl b) whlFuel ds st
  | .for v k src b, ds, st => (evL cl src ds st).bindS ds fun xs st' => match srcF k xs st' with
    | some (none, items) => filtS k (forB (evB cl b) v items ds st')
    | some (some n, items) => match lock n st' with
      | some st1 => unlockS n (forB (evB cl b) v items ds st1)
      | none => .no
    | none => .no
  | .brk, ds, st => .bk ds st
  | .cnt, ds, st => .ct ds st
  | .pass, ds, st => .nx ds st
  | .dead, _, _ => .no
  | .hd _ _ _, _, _ => .no
  | .tri b hs, ds, st => match evB cl b ds st with
    | .exc e ds' st' => evH cl hs e ds' st'
    | x => x
  | .raise c m a, ds, st => (evE cl m ds st).bindS ds fun _ st1 => (evE cl a ds st1).bindS ds fun x st2 => match x with
    | .non => .exc ⟨c, none⟩ ds st2
    | .int i => .exc ⟨c, some i⟩ ds st2
    | _ => .no
def evB (cl : Cl) : List S → DS → Store → RS
  | [], ds, st => .nx ds st
  | s :: r, ds, st => match evS cl s ds st with
    | .nx ds' st' => evB cl r ds' st'
    | x => x
def evH (cl : Cl) : List S → Ex → DS → Store → RS
  | [], e, ds, st => .exc e ds st
  | .hd c none b :: r, e, ds, st => if isCls e.cls c then (match evB cl b ds st with
    | .exc _ _ _ => .no
    | x => x) else evH cl r e ds st
  | .hd c (some i) b :: r, e, ds, st => if isCls e.cls c then (if i < ds.length then unb i (evB (clE cl e) b (ds.set i none) st) else .no) else evH cl r e ds st
  | _ :: _, _, _, _ => .no
end
/-- a function's call, to a depth -/
def callF (T : Nat → Option Fn) : Nat → Cl
  | 0, _, _, _ => .no
  | n + 1, f, args, st => match T f with
    | none => .no
    | some fn => if args.length = fn.np then match evB (callF T n) fn.body (args.map some ++ List.replicate (fn.ns - fn.np) none) st with
        | .rt d st' => .ok d st'
        | .nx _ st' => .ok .non st'
        | .exc e _ st' => .exc e st'
        | _ => .no
      else .no
end MP
end
section
set_option maxRecDepth 100000
set_option maxHeartbeats 4000000
/-! MP: how data lies in the heap of the hand layer. -/
namespace MP
open PySem PySem.Spec PyProof.Rows L2

def strOf (s : Tx) : Str := ⟨s.toArray⟩
def txOk (s : Tx) : Prop := ∀ c ∈ s, c < 0x110000
def kP (p : Pl) : List Key := [Sum.inl p.1, Sum.inl p.2]
/-- a tuple: tracked, or an object of the module that is no pair -/
def TupAt (K : PySem.W.Frag) (H : Hp) (a : Addr) (vs : List V) : Prop :=
  H a = some (.tup vs) ∨ (vs.length ≠ 2 ∧ ∃ (o : Obj) (its : Array Value) (n : Nat), K.lookup a = some o ∧ o.cls = .type "tuple" ∧ o.data = .seq its n ∧ its.size ≤ sizeLine ∧ Vals vs its.toList)
theorem TupAt.sq {K : PySem.W.Frag} {H : Hp} {a : Addr} {vs : List V} (h : TupAt K H a vs) : SqT K H a vs := by
  rcases h with h | ⟨_, h⟩
  · exact .inl (.inl h)
  · exact .inr h
mutual
def Rep (K : PySem.W.Frag) (ex : Addr → Prop) (H : Hp) (ρ : List Addr) : D → V → Prop
  | .non, v => v = .non
  | .bl b, v => v = .bl b
  | .int i, v => v = .int i
  | .str s, v => v = .str (strOf s) ∧ txOk s
  | .tup xs, v => ∃ a vs, v = .ref a ∧ TupAt K H a vs ∧ Reps K ex H ρ xs vs
  | .lst xs, v => ∃ a vs, v = .ref a ∧ Rd H a (.lst vs) ∧ a ∉ ρ ∧ ¬ ex a ∧ Reps K ex H ρ xs vs
  | .dct es, v => ∃ a kvs, v = .ref a ∧ Rd H a (.dT kvs) ∧ a ∉ ρ ∧ ¬ ex a ∧ RepE K ex H ρ es kvs
  | .scr ns, v => ∃ a, v = .ref a ∧ ((Rd H a (.lst (ns.map V.int)) ∧ a ∉ ρ ∧ ¬ ex a) ∨
      ∃ (o : Obj) (its : Array Value) (n : Nat), K.lookup a = some o ∧ o.cls = .type "list" ∧ o.dict = none ∧ o.data = .seq its n ∧ its.size ≤ sizeLine ∧ Vals (ns.map V.int) its.toList)
  | .ref n, v => ∃ a, ρ[n]? = some a ∧ v = .ref a
def Reps (K : PySem.W.Frag) (ex : Addr → Prop) (H : Hp) (ρ : List Addr) : List D → List V → Prop
  | [], vs => vs = []
  | d :: ds, vs => ∃ v r, vs = v :: r ∧ Rep K ex H ρ d v ∧ Reps K ex H ρ ds r
def RepE (K : PySem.W.Frag) (ex : Addr → Prop) (H : Hp) (ρ : List Addr) : List (Pl × D) → List (List Key × V) → Prop
  | [], kvs => kvs = []
  | (p, d) :: es, kvs => ∃ v r, kvs = (kP p, v) :: r ∧ Rep K ex H ρ d v ∧ RepE K ex H ρ es r
end
def CellAt (K : PySem.W.Frag) (ex : Addr → Prop) (H : Hp) (ρ : List Addr) (c : Cell) (a : Addr) : Prop := match c with
  | .lst xs => ∃ vs, H a = some (.lst vs) ∧ Reps K ex H ρ xs vs
  | .dct es => ∃ kvs, H a = some (.dT kvs) ∧ RepE K ex H ρ es kvs
  | .lckL xs => ∃ o vs, H a = some (.frz o (.lst vs)) ∧ Reps K ex H ρ xs vs
  | .lckD es => ∃ o kvs, H a = some (.frz o (.dT kvs)) ∧ RepE K ex H ρ es kvs
structure Mem (K : PySem.W.Frag) (ex : Addr → Prop) (H : Hp) (ρ : List Addr) (st : Store) : Prop where
  len : ρ.length = st.length
  nod : ρ.Nodup
  cell : ∀ (n : Nat) (a : Addr) (c : Cell), ρ[n]? = some a → st[n]? = some c → CellAt K ex H ρ c a
  exT : ∀ a, ex a → H a ≠ none
  exD : ∀ a, a ∈ ρ → ¬ ex a
/-- what a step keeps -/
structure Ext (ρ : List Addr) (H : Hp) (ρ' : List Addr) (H' : Hp) : Prop where
  keep : ∀ a o, H a = some o → a ∉ ρ → H' a = some o
  tups : ∀ a vs, H a = some (.tup vs) → H' a = some (.tup vs)
  frzs : ∀ a o u, H a = some (.frz o u) → H' a = some (.frz o u)
  pre : ∀ (n : Nat) (a : Addr), ρ[n]? = some a → ρ'[n]? = some a
  new : ∀ a, a ∈ ρ' → a ∈ ρ ∨ H a = none
  trk : ∀ a, H a ≠ none → H' a ≠ none
theorem Ext.refl (ρ : List Addr) (H : Hp) : Ext ρ H ρ H := ⟨fun _ _ h _ => h, fun _ _ h => h, fun _ _ _ h => h, fun _ _ h => h, fun _ h => .inl h, fun _ h => h⟩
theorem mem_of_get {α : Type} {l : List α} {n : Nat} {a : α} (h : l[n]? = some a) : a ∈ l := List.mem_of_getElem? h
theorem Ext.sub {ρ ρ' : List Addr} {H H' : Hp} (e : Ext ρ H ρ' H') {a : Addr} (h : a ∈ ρ) : a ∈ ρ' := by
  obtain ⟨n, hn⟩ := List.getElem?_of_mem h
  exact mem_of_get (e.pre n a hn)
theorem Ext.trans {ρ ρ1 ρ2 : List Addr} {H H1 H2 : Hp} (a : Ext ρ H ρ1 H1) (b : Ext ρ1 H1 ρ2 H2) : Ext ρ H ρ2 H2 where
  keep := fun x o h n => b.keep x o (a.keep x o h n) fun m => by
    rcases a.new x m with m | m
    · exact n m
    · rw [h] at m; cases m
  tups := fun x vs h => b.tups x vs (a.tups x vs h)
  frzs := fun x o u h => b.frzs x o u (a.frzs x o u h)
  pre := fun n x h => b.pre n x (a.pre n x h)
  new := fun x h => by
    rcases b.new x h with h | h
    · exact a.new x h
    · refine .inr ?_
      cases q : H x with
      | none => rfl
      | some o => exact absurd h (a.trk x (by rw [q]; simp))
  trk := fun x h => b.trk x (a.trk x h)
section
variable {K : PySem.W.Frag} {ex : Addr → Prop} {H H' : Hp} {ρ ρ' : List Addr}
theorem not_new (e : Ext ρ H ρ' H') {a : Addr} (h : H a ≠ none) (n : a ∉ ρ) : a ∉ ρ' := fun m => by
  rcases e.new a m with m | m
  · exact n m
  · exact h m
theorem Rd.ne {H : Hp} {a : Addr} {u : HO} (h : Rd H a u) : H a ≠ none := by
  rcases h with h | ⟨o, h⟩ <;> rw [h] <;> simp
theorem Rd.ext (e : Ext ρ H ρ' H') {a : Addr} {u : HO} (h : Rd H a u) (n : a ∉ ρ) : Rd H' a u := by
  rcases h with h | ⟨o, h⟩
  · exact .inl (e.keep a _ h n)
  · exact .inr ⟨o, e.keep a _ h n⟩
theorem TupAt.ext (e : Ext ρ H ρ' H') {a : Addr} {vs : List V} (h : TupAt K H a vs) : TupAt K H' a vs := by
  rcases h with h | h
  · exact .inl (e.tups a vs h)
  · exact .inr h
mutual
theorem Rep.ext (e : Ext ρ H ρ' H') : ∀ {d : D} {v : V}, Rep K ex H ρ d v → Rep K ex H' ρ' d v
  | .non, _, h => h
  | .bl _, _, h => h
  | .int _, _, h => h
  | .str _, _, h => h
  | .tup _, _, ⟨a, vs, e1, t, r⟩ => ⟨a, vs, e1, t.ext e, Reps.ext e r⟩
  | .lst _, _, ⟨a, vs, e1, t, n, x, r⟩ => ⟨a, vs, e1, Rd.ext e t n, not_new e (Rd.ne t) n, x, Reps.ext e r⟩
  | .dct _, _, ⟨a, vs, e1, t, n, x, r⟩ => ⟨a, vs, e1, Rd.ext e t n, not_new e (Rd.ne t) n, x, RepE.ext e r⟩
  | .scr _, _, ⟨a, e1, .inl ⟨t, n, x⟩⟩ => ⟨a, e1, .inl ⟨Rd.ext e t n, not_new e (Rd.ne t) n, x⟩⟩
  | .scr _, _, ⟨a, e1, .inr h⟩ => ⟨a, e1, .inr h⟩
  | .ref n, _, ⟨a, h, e1⟩ => ⟨a, e.pre n a h, e1⟩
theorem Reps.ext (e : Ext ρ H ρ' H') : ∀ {ds : List D} {vs : List V}, Reps K ex H ρ ds vs → Reps K ex H' ρ' ds vs
  | [], _, h => h
  | _ :: _, _, ⟨v, r, e1, h, t⟩ => ⟨v, r, e1, Rep.ext e h, Reps.ext e t⟩
theorem RepE.ext (e : Ext ρ H ρ' H') : ∀ {ds : List (Pl × D)} {vs : List (List Key × V)}, RepE K ex H ρ ds vs → RepE K ex H' ρ' ds vs
  | [], _, h => h
  | (_, _) :: _, _, ⟨v, r, e1, h, t⟩ => ⟨v, r, e1, Rep.ext e h, RepE.ext e t⟩
end
/-- a list or a dict -/
def Plain : HO → Prop
  | .lst _ => True
  | .dT _ => True
  | _ => False
mutual
/-- another heap, other cells, another ban -/
theorem Rep.gen {ex2 : Addr → Prop} (hk : ∀ a u, Plain u → Rd H a u → a ∉ ρ → ¬ ex a → Rd H' a u ∧ a ∉ ρ' ∧ ¬ ex2 a) (ht : ∀ a vs, H a = some (.tup vs) → H' a = some (.tup vs)) (hp : ∀ (n : Nat) (a : Addr), ρ[n]? = some a → ρ'[n]? = some a) : ∀ {d : D} {v : V}, Rep K ex H ρ d v → Rep K ex2 H' ρ' d v
  | .non, _, h => h
  | .bl _, _, h => h
  | .int _, _, h => h
  | .str _, _, h => h
  | .tup _, _, ⟨a, vs, e1, .inl t, r⟩ => ⟨a, vs, e1, .inl (ht a vs t), Reps.gen hk ht hp r⟩
  | .tup _, _, ⟨a, vs, e1, .inr t, r⟩ => ⟨a, vs, e1, .inr t, Reps.gen hk ht hp r⟩
  | .lst _, _, ⟨a, vs, e1, t, n, x, r⟩ => ⟨a, vs, e1, (hk a (.lst vs) trivial t n x).1, (hk a (.lst vs) trivial t n x).2.1, (hk a (.lst vs) trivial t n x).2.2, Reps.gen hk ht hp r⟩
  | .dct _, _, ⟨a, vs, e1, t, n, x, r⟩ => ⟨a, vs, e1, (hk a (.dT vs) trivial t n x).1, (hk a (.dT vs) trivial t n x).2.1, (hk a (.dT vs) trivial t n x).2.2, RepE.gen hk ht hp r⟩
  | .scr ns, _, ⟨a, e1, .inl ⟨t, n, x⟩⟩ => ⟨a, e1, .inl (hk a (.lst (ns.map V.int)) trivial t n x)⟩
  | .scr _, _, ⟨a, e1, .inr h⟩ => ⟨a, e1, .inr h⟩
  | .ref n, _, ⟨a, h, e1⟩ => ⟨a, hp n a h, e1⟩
theorem Reps.gen {ex2 : Addr → Prop} (hk : ∀ a u, Plain u → Rd H a u → a ∉ ρ → ¬ ex a → Rd H' a u ∧ a ∉ ρ' ∧ ¬ ex2 a) (ht : ∀ a vs, H a = some (.tup vs) → H' a = some (.tup vs)) (hp : ∀ (n : Nat) (a : Addr), ρ[n]? = some a → ρ'[n]? = some a) : ∀ {ds : List D} {vs : List V}, Reps K ex H ρ ds vs → Reps K ex2 H' ρ' ds vs
  | [], _, h => h
  | _ :: _, _, ⟨v, r, e1, h, t⟩ => ⟨v, r, e1, Rep.gen hk ht hp h, Reps.gen hk ht hp t⟩
theorem RepE.gen {ex2 : Addr → Prop} (hk : ∀ a u, Plain u → Rd H a u → a ∉ ρ → ¬ ex a → Rd H' a u ∧ a ∉ ρ' ∧ ¬ ex2 a) (ht : ∀ a vs, H a = some (.tup vs) → H' a = some (.tup vs)) (hp : ∀ (n : Nat) (a : Addr), ρ[n]? = some a → ρ'[n]? = some a) : ∀ {ds : List (Pl × D)} {vs : List (List Key × V)}, RepE K ex H ρ ds vs → RepE K ex2 H' ρ' ds vs
  | [], _, h => h
  | (_, _) :: _, _, ⟨v, r, e1, h, t⟩ => ⟨v, r, e1, Rep.gen hk ht hp h, RepE.gen hk ht hp t⟩
end
/-- behind a step, with a greater ban upon new objects -/
theorem hk_ext {ex2 : Addr → Prop} (e : Ext ρ H ρ' H') (hx : ∀ a, H a ≠ none → ¬ ex a → ¬ ex2 a) : ∀ a u, Plain u → Rd H a u → a ∉ ρ → ¬ ex a → Rd H' a u ∧ a ∉ ρ' ∧ ¬ ex2 a := fun a u _ t n x => ⟨Rd.ext e t n, not_new e (Rd.ne t) n, hx a (Rd.ne t) x⟩
theorem Rep.ext2 {ex2 : Addr → Prop} (e : Ext ρ H ρ' H') (hx : ∀ a, H a ≠ none → ¬ ex a → ¬ ex2 a) {d : D} {v : V} (r : Rep K ex H ρ d v) : Rep K ex2 H' ρ' d v := r.gen (hk_ext e hx) e.tups e.pre
theorem Reps.ext2 {ex2 : Addr → Prop} (e : Ext ρ H ρ' H') (hx : ∀ a, H a ≠ none → ¬ ex a → ¬ ex2 a) {d : List D} {v : List V} (r : Reps K ex H ρ d v) : Reps K ex2 H' ρ' d v := r.gen (hk_ext e hx) e.tups e.pre
theorem RepE.ext2 {ex2 : Addr → Prop} (e : Ext ρ H ρ' H') (hx : ∀ a, H a ≠ none → ¬ ex a → ¬ ex2 a) {d : List (Pl × D)} {v : List (List Key × V)} (r : RepE K ex H ρ d v) : RepE K ex2 H' ρ' d v := r.gen (hk_ext e hx) e.tups e.pre
theorem Reps.length : ∀ {ds : List D} {vs : List V}, Reps K ex H ρ ds vs → ds.length = vs.length
  | [], _, h => by cases h; rfl
  | _ :: _, _, ⟨v, r, e1, h, t⟩ => by rw [e1, List.length_cons, List.length_cons, Reps.length t]
theorem RepE.length : ∀ {ds : List (Pl × D)} {vs : List (List Key × V)}, RepE K ex H ρ ds vs → ds.length = vs.length
  | [], _, h => by cases h; rfl
  | (_, _) :: _, _, ⟨v, r, e1, h, t⟩ => by rw [e1, List.length_cons, List.length_cons, RepE.length t]
theorem Reps.get : ∀ {ds : List D} {vs : List V} {i : Nat} {d : D}, Reps K ex H ρ ds vs → ds[i]? = some d → ∃ v, vs[i]? = some v ∧ Rep K ex H ρ d v
  | [], _, _, _, _, e => by simp at e
  | _ :: _, _, 0, _, ⟨v, r, e1, h, t⟩, e => by cases e; subst e1; exact ⟨v, rfl, h⟩
  | _ :: _, _, i + 1, _, ⟨v, r, e1, h, t⟩, e => by
    obtain ⟨w, h1, h2⟩ := Reps.get (i := i) t (by simpa using e)
    subst e1
    exact ⟨w, by simpa using h1, h2⟩
theorem Reps.append : ∀ {ds es : List D} {vs ws : List V}, Reps K ex H ρ ds vs → Reps K ex H ρ es ws → Reps K ex H ρ (ds ++ es) (vs ++ ws)
  | [], _, _, _, h, g => by cases h; exact g
  | _ :: _, _, _, _, ⟨v, r, e1, h, t⟩, g => by subst e1; exact ⟨v, r ++ _, rfl, h, Reps.append t g⟩
theorem Reps.drop : ∀ {ds : List D} {vs : List V} (n : Nat), Reps K ex H ρ ds vs → Reps K ex H ρ (ds.drop n) (vs.drop n)
  | _, _, 0, h => h
  | [], _, n + 1, h => by cases h; exact rfl
  | _ :: _, _, n + 1, ⟨v, r, e1, h, t⟩ => by subst e1; exact Reps.drop n t
theorem Reps.take : ∀ {ds : List D} {vs : List V} (n : Nat), Reps K ex H ρ ds vs → Reps K ex H ρ (ds.take n) (vs.take n)
  | _, _, 0, h => by rw [List.take_zero, List.take_zero]; exact rfl
  | [], _, n + 1, h => by cases h; exact rfl
  | _ :: _, _, n + 1, ⟨v, r, e1, h, t⟩ => by subst e1; exact ⟨v, r.take n, rfl, h, Reps.take n t⟩
theorem Reps.set : ∀ {ds : List D} {vs : List V} {d : D} {v : V} (n : Nat), Reps K ex H ρ ds vs → Rep K ex H ρ d v → Reps K ex H ρ (ds.set n d) (vs.set n v)
  | [], _, _, _, _, h, _ => by cases h; exact rfl
  | _ :: _, _, _, _, 0, ⟨v, r, e1, h, t⟩, g => by subst e1; exact ⟨_, r, rfl, g, t⟩
  | _ :: _, _, _, _, n + 1, ⟨v, r, e1, h, t⟩, g => by subst e1; exact ⟨v, _, rfl, h, Reps.set n t g⟩
theorem Reps.ints : ∀ (ns : List Int), Reps K ex H ρ (ns.map .int) (ns.map V.int)
  | [] => rfl
  | n :: ns => ⟨_, _, rfl, rfl, Reps.ints ns⟩
theorem Reps.dropLast {ds : List D} {vs : List V} (h : Reps K ex H ρ ds vs) : Reps K ex H ρ ds.dropLast vs.dropLast := by
  rw [List.dropLast_eq_take, List.dropLast_eq_take, h.length]
  exact h.take _
/-- pairs of ints -/
theorem rep_pl {d : D} {v : V} {p : Pl} (r : Rep K ex H ρ d v) (e : plOf d = some p) : ∃ a, v = .ref a ∧ H a = some (.tup ((kP p).map kV)) := by
  unfold plOf at e
  split at e
  · rename_i i j
    cases e
    obtain ⟨a, vs, rfl, t, v1, r1, rfl, h1, v2, r2, rfl, h2, rfl⟩ := r
    cases h1
    cases h2
    rcases t with t | ⟨n, _⟩
    · exact ⟨a, rfl, t⟩
    · exact absurd rfl n
  · cases e
theorem plOf_eq {d : D} {p : Pl} (e : plOf d = some p) : d = plD p := by
  unfold plOf at e
  split at e
  · cases e; rfl
  · cases e
theorem rep_plD {a : Addr} {p : Pl} (h : H a = some (.tup ((kP p).map kV))) : Rep K ex H ρ (plD p) (.ref a) :=
  ⟨a, _, rfl, .inl h, _, _, rfl, rfl, _, _, rfl, rfl, rfl⟩
/-! ### dicts -/
theorem kP_inj {p q : Pl} : kP p = kP q ↔ p = q := by
  constructor
  · intro h
    obtain ⟨a, b⟩ := p
    obtain ⟨c, d⟩ := q
    have h1 := List.cons.inj h
    have h2 := List.cons.inj h1.2
    have e1 : a = c := Sum.inl.inj h1.1
    have e2 : b = d := Sum.inl.inj h2.1
    rw [e1, e2]
  · rintro rfl; rfl
theorem RepE.val : ∀ {es : List (Pl × D)} {kvs : List (List Key × V)} (p : Pl), RepE K ex H ρ es kvs →
    (dget es p = none ∧ valV kvs (kP p) = none) ∨ ∃ d v, dget es p = some d ∧ valV kvs (kP p) = some v ∧ Rep K ex H ρ d v
  | [], _, p, h => by cases h; exact .inl ⟨rfl, rfl⟩
  | (q, d) :: es, _, p, ⟨v, r, e1, h, t⟩ => by
    subst e1
    unfold dget valV
    rw [List.find?_cons, List.find?_cons]
    by_cases hq : q = p
    · subst hq
      simp only [decide_true, Option.map_some]
      exact .inr ⟨d, v, rfl, rfl, h⟩
    · have hk : ¬ kP q = kP p := fun z => hq (kP_inj.mp z)
      simp only [hq, hk, decide_false]
      exact RepE.val p t
theorem RepE.any {p : Pl} : ∀ {es : List (Pl × D)} {kvs : List (List Key × V)}, RepE K ex H ρ es kvs → (es.any fun e => decide (e.1 = p)) = (kvs.any fun kv => decide (kv.1 = kP p))
  | [], _, h => by cases h; rfl
  | (q, d) :: es, _, ⟨v, r, e1, h, t⟩ => by
    subst e1
    rw [List.any_cons, List.any_cons, RepE.any t]
    congr 1
    exact decide_eq_decide.mpr kP_inj.symm
theorem RepE.map {p : Pl} {d : D} {v : V} (r : Rep K ex H ρ d v) : ∀ {es : List (Pl × D)} {kvs : List (List Key × V)}, RepE K ex H ρ es kvs →
    RepE K ex H ρ (es.map fun e => if e.1 = p then (e.1, d) else e) (kvs.map fun kv => if kv.1 = kP p then (kv.1, v) else kv)
  | [], _, h => by cases h; exact rfl
  | (q, x) :: es, _, ⟨y, r1, e1, h, t⟩ => by
    subst e1
    simp only [List.map_cons]
    by_cases hq : q = p
    · subst hq
      simp only [if_true]
      exact ⟨_, _, rfl, r, RepE.map r t⟩
    · have hk : ¬ kP q = kP p := fun z => hq (kP_inj.mp z)
      simp only [hq, hk, if_false]
      exact ⟨_, _, rfl, h, RepE.map r t⟩
theorem RepE.append : ∀ {es fs : List (Pl × D)} {kvs lvs : List (List Key × V)}, RepE K ex H ρ es kvs → RepE K ex H ρ fs lvs → RepE K ex H ρ (es ++ fs) (kvs ++ lvs)
  | [], _, _, _, h, g => by cases h; exact g
  | (_, _) :: _, _, _, _, ⟨v, r, e1, h, t⟩, g => by subst e1; exact ⟨v, r ++ _, rfl, h, RepE.append t g⟩
theorem RepE.put {es : List (Pl × D)} {kvs : List (List Key × V)} {p : Pl} {d : D} {v : V} (h : RepE K ex H ρ es kvs) (r : Rep K ex H ρ d v) : RepE K ex H ρ (dput es p d) (putK kvs (kP p) v) := by
  unfold dput putK
  rw [h.any (p := p)]
  split
  · exact h.map r
  · exact h.append ⟨v, [], rfl, r, rfl⟩
end
/-! ### the store -/
section
variable {K : PySem.W.Frag} {ex : Addr → Prop} {H H' : Hp} {ρ ρ' : List Addr} {st : Store}
theorem Mem.at (M : Mem K ex H ρ st) {n : Nat} {c : Cell} (h : st[n]? = some c) : ∃ a, ρ[n]? = some a ∧ CellAt K ex H ρ c a := by
  have hl : n < st.length := (List.getElem?_eq_some_iff.mp h).1
  have hr : n < ρ.length := by rw [M.len]; exact hl
  have e : ρ[n]? = some ρ[n] := List.getElem?_eq_getElem hr
  exact ⟨_, e, M.cell n _ c e h⟩
theorem Mem.of (M : Mem K ex H ρ st) {n : Nat} {a : Addr} (h : ρ[n]? = some a) : ∃ c, st[n]? = some c ∧ CellAt K ex H ρ c a := by
  have hl : n < ρ.length := (List.getElem?_eq_some_iff.mp h).1
  have hr : n < st.length := by rw [← M.len]; exact hl
  have e : st[n]? = some st[n] := List.getElem?_eq_getElem hr
  exact ⟨_, e, M.cell n a _ h e⟩
theorem CellAt.ne {c : Cell} {a : Addr} (h : CellAt K ex H ρ c a) : H a ≠ none := by
  cases c with
  | lst xs => obtain ⟨vs, e, _⟩ := h; rw [e]; simp
  | dct xs => obtain ⟨vs, e, _⟩ := h; rw [e]; simp
  | lckL xs => obtain ⟨o, vs, e, _⟩ := h; rw [e]; simp
  | lckD xs => obtain ⟨o, vs, e, _⟩ := h; rw [e]; simp
theorem CellAt.notup {c : Cell} {a : Addr} (h : CellAt K ex H ρ c a) (vs : List V) : H a ≠ some (.tup vs) := by
  cases c with
  | lst xs => obtain ⟨vs, e, _⟩ := h; rw [e]; simp
  | dct xs => obtain ⟨vs, e, _⟩ := h; rw [e]; simp
  | lckL xs => obtain ⟨o, vs, e, _⟩ := h; rw [e]; simp
  | lckD xs => obtain ⟨o, vs, e, _⟩ := h; rw [e]; simp
theorem Mem.tracked (M : Mem K ex H ρ st) {a : Addr} (h : a ∈ ρ) : H a ≠ none := by
  obtain ⟨n, hn⟩ := List.getElem?_of_mem h
  obtain ⟨c, _, hc⟩ := M.of hn
  exact hc.ne
theorem Mem.notup (M : Mem K ex H ρ st) {a : Addr} {vs : List V} (h : H a = some (.tup vs)) : a ∉ ρ := fun m => by
  obtain ⟨n, hn⟩ := List.getElem?_of_mem m
  obtain ⟨c, _, hc⟩ := M.of hn
  exact hc.notup vs h
theorem CellAt.ext {c : Cell} {a : Addr} (e : Ext ρ H ρ' H') (ha : H' a = H a) (h : CellAt K ex H ρ c a) : CellAt K ex H' ρ' c a := by
  cases c with
  | lst xs => obtain ⟨vs, e1, r⟩ := h; exact ⟨vs, by rw [ha]; exact e1, r.ext e⟩
  | dct xs => obtain ⟨vs, e1, r⟩ := h; exact ⟨vs, by rw [ha]; exact e1, r.ext e⟩
  | lckL xs => obtain ⟨o, vs, e1, r⟩ := h; exact ⟨o, vs, by rw [ha]; exact e1, r.ext e⟩
  | lckD xs => obtain ⟨o, vs, e1, r⟩ := h; exact ⟨o, vs, by rw [ha]; exact e1, r.ext e⟩
/-- all cells, another heap, another ban, their own objects being told -/
theorem Mem.gen {ex2 : Addr → Prop} (M : Mem K ex H ρ st) (hk : ∀ a u, Plain u → Rd H a u → a ∉ ρ → ¬ ex a → Rd H' a u ∧ a ∉ ρ ∧ ¬ ex2 a) (ht : ∀ a vs, H a = some (.tup vs) → H' a = some (.tup vs)) (hc : ∀ a, a ∈ ρ → H' a = H a)
    (hT : ∀ a, ex2 a → H' a ≠ none) (hD : ∀ a, a ∈ ρ → ¬ ex2 a) : Mem K ex2 H' ρ st where
  len := M.len
  nod := M.nod
  cell := fun n a c h1 h2 => by
    have h := M.cell n a c h1 h2
    have e := hc a (mem_of_get h1)
    cases c with
    | lst xs => obtain ⟨vs, e1, r⟩ := h; exact ⟨vs, by rw [e]; exact e1, r.gen hk ht (fun _ _ h => h)⟩
    | dct xs => obtain ⟨vs, e1, r⟩ := h; exact ⟨vs, by rw [e]; exact e1, r.gen hk ht (fun _ _ h => h)⟩
    | lckL xs => obtain ⟨o, vs, e1, r⟩ := h; exact ⟨o, vs, by rw [e]; exact e1, r.gen hk ht (fun _ _ h => h)⟩
    | lckD xs => obtain ⟨o, vs, e1, r⟩ := h; exact ⟨o, vs, by rw [e]; exact e1, r.gen hk ht (fun _ _ h => h)⟩
  exT := hT
  exD := hD
/-- a new object that is no cell -/
theorem Ext.laid {p : Addr} {o : HO} (hp : H p = none) : Ext ρ H ρ (upd H p o) where
  keep := fun a u h _ => by rw [upd_ne (ne_of_none h hp)]; exact h
  tups := fun a u h => by rw [upd_ne (ne_of_none h hp)]; exact h
  frzs := fun a o u h => by rw [upd_ne (ne_of_none h hp)]; exact h
  pre := fun _ _ h => h
  new := fun _ h => .inl h
  trk := fun a h => by
    by_cases e : a = p
    · subst e; rw [upd_same]; simp
    · rw [upd_ne e]; exact h
/-- a new cell -/
theorem Ext.cell {p : Addr} {o : HO} (hp : H p = none) : Ext ρ H (ρ ++ [p]) (upd H p o) where
  keep := (Ext.laid (ρ := ρ) hp).keep
  tups := (Ext.laid (ρ := ρ) hp).tups
  frzs := (Ext.laid (ρ := ρ) hp).frzs
  pre := fun n a h => by rw [List.getElem?_append_left (List.getElem?_eq_some_iff.mp h).1]; exact h
  new := fun a h => by
    rcases List.mem_append.mp h with h | h
    · exact .inl h
    · rw [List.mem_singleton.mp h]; exact .inr hp
  trk := (Ext.laid (ρ := ρ) hp).trk
theorem Mem.laid {p : Addr} {o : HO} (M : Mem K ex H ρ st) (hp : H p = none) : Mem K ex (upd H p o) ρ st where
  len := M.len
  nod := M.nod
  cell := fun n a c h1 h2 => by
    have hc := M.cell n a c h1 h2
    refine hc.ext (Ext.laid hp) (upd_ne fun e => ?_)
    subst e
    exact hc.ne hp
  exT := fun a h => (Ext.laid (ρ := ρ) hp).trk a (M.exT a h)
  exD := M.exD
theorem Mem.fresh (M : Mem K ex H ρ st) {p : Addr} (hp : H p = none) : p ∉ ρ ∧ ¬ ex p := ⟨fun m => M.tracked m hp, fun x => M.exT p x hp⟩
theorem Mem.push {p : Addr} {o : HO} {c : Cell} (M : Mem K ex H ρ st) (hp : H p = none) (hc : CellAt K ex (upd H p o) (ρ ++ [p]) c p) : Mem K ex (upd H p o) (ρ ++ [p]) (st ++ [c]) where
  len := by rw [List.length_append, List.length_append, M.len]; rfl
  nod := by
    rw [List.nodup_append]
    refine ⟨M.nod, by simp, fun a ha b hb e => ?_⟩
    rw [List.mem_singleton.mp hb] at e
    subst e
    exact M.tracked ha hp
  cell := fun n a c' h1 h2 => by
    by_cases hn : n < ρ.length
    · rw [List.getElem?_append_left hn] at h1
      rw [List.getElem?_append_left (by rw [← M.len]; exact hn)] at h2
      have hd := M.cell n a c' h1 h2
      exact hd.ext (Ext.cell hp) (upd_ne fun e => hd.ne (by rw [e]; exact hp))
    · have hn2 : n < ρ.length + 1 := by
        have := (List.getElem?_eq_some_iff.mp h1).1
        rw [List.length_append] at this
        exact this
      have e : n = ρ.length := by omega
      subst e
      rw [List.getElem?_append_right (Nat.le_refl _), Nat.sub_self] at h1
      rw [List.getElem?_append_right (by rw [M.len]; exact Nat.le_refl _), M.len, Nat.sub_self] at h2
      cases h1
      cases h2
      exact hc
  exT := fun a h => (Ext.laid (ρ := ρ) hp).trk a (M.exT a h)
  exD := fun a h => by
    rcases List.mem_append.mp h with h | h
    · exact M.exD a h
    · rw [List.mem_singleton.mp h]; exact fun x => M.exT p x hp
/-- a cell is written -/
theorem Ext.write {n : Nat} {a : Addr} {o : HO} (hn : ρ[n]? = some a) (nt : ∀ vs, H a ≠ some (.tup vs)) (nf : ∀ ob u, H a ≠ some (.frz ob u)) : Ext ρ H ρ (upd H a o) where
  keep := fun b u h m => by rw [upd_ne fun e => m (by subst e; exact mem_of_get hn)]; exact h
  tups := fun b vs h => by rw [upd_ne fun e => nt vs (by subst e; exact h)]; exact h
  frzs := fun b ob u h => by rw [upd_ne fun e => nf ob u (by subst e; exact h)]; exact h
  pre := fun _ _ h => h
  new := fun _ h => .inl h
  trk := fun b h => by
    by_cases e : b = a
    · subst e; rw [upd_same]; simp
    · rw [upd_ne e]; exact h
theorem nodup_get {α : Type} {l : List α} (hl : l.Nodup) {i j : Nat} {a : α} (h1 : l[i]? = some a) (h2 : l[j]? = some a) : i = j := by
  have hi := List.getElem?_eq_some_iff.mp h1
  have hj := List.getElem?_eq_some_iff.mp h2
  exact (List.getElem_inj hl).mp (hi.2.trans hj.2.symm)
theorem Mem.write {n : Nat} {a : Addr} {o : HO} {c : Cell} (M : Mem K ex H ρ st) (hn : ρ[n]? = some a) (e : Ext ρ H ρ (upd H a o)) (hc : CellAt K ex (upd H a o) ρ c a) : Mem K ex (upd H a o) ρ (st.set n c) where
  len := by rw [List.length_set]; exact M.len
  nod := M.nod
  cell := fun m b c' h1 h2 => by
    by_cases hm : m = n
    · subst hm
      rw [hn] at h1
      cases h1
      have hl : m < st.length := by rw [← M.len]; exact (List.getElem?_eq_some_iff.mp hn).1
      rw [List.getElem?_set_self hl] at h2
      cases h2
      exact hc
    · rw [List.getElem?_set_ne (Ne.symm hm)] at h2
      exact (M.cell m b c' h1 h2).ext e (upd_ne fun q => hm (nodup_get M.nod (by rw [← q]; exact h1) hn))
  exT := fun b h => e.trk b (M.exT b h)
  exD := M.exD
/-- a cell's kind -/
theorem Mem.lst (M : Mem K ex H ρ st) {n : Nat} {xs : List D} (h : st[n]? = some (.lst xs)) : ∃ a vs, ρ[n]? = some a ∧ H a = some (.lst vs) ∧ Reps K ex H ρ xs vs := by
  obtain ⟨a, h1, vs, h2, h3⟩ := M.at h
  exact ⟨a, vs, h1, h2, h3⟩
theorem Mem.dct (M : Mem K ex H ρ st) {n : Nat} {xs : List (Pl × D)} (h : st[n]? = some (.dct xs)) : ∃ a vs, ρ[n]? = some a ∧ H a = some (.dT vs) ∧ RepE K ex H ρ xs vs := by
  obtain ⟨a, h1, vs, h2, h3⟩ := M.at h
  exact ⟨a, vs, h1, h2, h3⟩
/-- lists, read -/
theorem rep_lst (M : Mem K ex H ρ st) {d : D} {v : V} {xs : List D} (r : Rep K ex H ρ d v) (h : lstOf st d = some xs) : ∃ a vs, v = .ref a ∧ SqL K H a vs ∧ Reps K ex H ρ xs vs := by
  unfold lstOf at h
  split at h
  · cases h
    obtain ⟨a, vs, rfl, t, _, _, rs⟩ := r
    exact ⟨a, vs, rfl, .inl t, rs⟩
  · cases h
    obtain ⟨a, rfl, ⟨t, _⟩ | t⟩ := r
    · exact ⟨a, _, rfl, .inl t, Reps.ints _⟩
    · exact ⟨a, _, rfl, .inr t, Reps.ints _⟩
  · obtain ⟨a, ha, rfl⟩ := r
    split at h
    · rename_i hs
      cases h
      obtain ⟨b, vs, h1, h2, h3⟩ := M.lst hs
      rw [ha] at h1
      cases h1
      exact ⟨a, vs, rfl, .inl (.inl h2), h3⟩
    · rename_i hs
      cases h
      obtain ⟨b, h1, o, vs, h2, h3⟩ := M.at hs
      rw [ha] at h1
      cases h1
      exact ⟨a, vs, rfl, .inl (.inr ⟨o, h2⟩), h3⟩
    · cases h
  · cases h
theorem rep_seq (M : Mem K ex H ρ st) {d : D} {v : V} {xs : List D} (r : Rep K ex H ρ d v) (h : seqOf st d = some xs) : ∃ a vs, v = .ref a ∧ (SqL K H a vs ∨ SqT K H a vs) ∧ Reps K ex H ρ xs vs := by
  unfold seqOf at h
  split at h
  · cases h
    obtain ⟨a, vs, rfl, t, rs⟩ := r
    exact ⟨a, vs, rfl, .inr t.sq, rs⟩
  · obtain ⟨a, vs, h1, h2, h3⟩ := rep_lst M r h
    exact ⟨a, vs, h1, .inl h2, h3⟩
theorem rep_dct (M : Mem K ex H ρ st) {d : D} {v : V} {es : List (Pl × D)} (r : Rep K ex H ρ d v) (h : dctOf st d = some es) : ∃ a kvs, v = .ref a ∧ Rd H a (.dT kvs) ∧ RepE K ex H ρ es kvs := by
  unfold dctOf at h
  split at h
  · cases h
    obtain ⟨a, vs, rfl, t, _, _, rs⟩ := r
    exact ⟨a, vs, rfl, t, rs⟩
  · obtain ⟨a, ha, rfl⟩ := r
    split at h
    · rename_i hs
      cases h
      obtain ⟨b, vs, h1, h2, h3⟩ := M.dct hs
      rw [ha] at h1
      cases h1
      exact ⟨a, vs, rfl, .inl h2, h3⟩
    · rename_i hs
      cases h
      obtain ⟨b, h1, o, vs, h2, h3⟩ := M.at hs
      rw [ha] at h1
      cases h1
      exact ⟨a, vs, rfl, .inr ⟨o, h2⟩, h3⟩
    · cases h
  · cases h
end
end MP
end
section
set_option maxRecDepth 100000
set_option maxHeartbeats 4000000
/-! MP: data read as the library's data; cells gone, cells moved. -/
namespace MP
open PySem PySem.Spec PyProof.Rows L2

mutual
def py : D → PyData
  | .non => .none
  | .bl b => .bool b
  | .int i => .int i
  | .str s => .str (strOf s)
  | .tup xs => .tuple (pys xs)
  | .lst xs => .list (pys xs)
  | .dct _ => .none
  | .scr _ => .none
  | .ref _ => .none
def pys : List D → List PyData
  | [] => []
  | x :: xs => py x :: pys xs
end
theorem strOf_inj {s t : Tx} : strOf s = strOf t ↔ s = t := by
  constructor
  · intro h
    have h1 : s.toArray = t.toArray := congrArg Str.cps h
    have h2 := congrArg Array.toList h1
    simpa using h2
  · rintro rfl; rfl
theorem strOf_beq (s t : Tx) : (strOf s == strOf t) = (s == t) := by
  by_cases h : s = t
  · subst h; simp
  · have h' : ¬ strOf s = strOf t := fun e => h (strOf_inj.mp e)
    rw [beq_eq_false_iff_ne.mpr h, beq_eq_false_iff_ne.mpr h']
mutual
theorem eqv_py : ∀ a b : D, cmpD a = true → cmpD b = true → PyData.eqv (py a) (py b) = eqD a b
  | .non, b, _, hb => by cases b <;> simp_all [py, eqD, PyData.eqv, cmpD]
  | .bl x, b, _, hb => by cases b <;> simp_all [py, eqD, PyData.eqv, cmpD]
  | .int x, b, _, hb => by cases b <;> simp_all [py, eqD, PyData.eqv, cmpD]
  | .str x, b, _, hb => by cases b <;> simp_all [py, eqD, PyData.eqv, cmpD, strOf_beq]
  | .tup xs, b, ha, hb => by
    cases b with
    | tup ys =>
      simp only [py, eqD, PyData.eqv]
      exact eqv_pys xs ys (by simpa [cmpD] using ha) (by simpa [cmpD] using hb)
    | _ => simp_all [py, eqD, PyData.eqv, cmpD]
  | .lst xs, b, ha, hb => by
    cases b with
    | lst ys =>
      simp only [py, eqD, PyData.eqv]
      exact eqv_pys xs ys (by simpa [cmpD] using ha) (by simpa [cmpD] using hb)
    | _ => simp_all [py, eqD, PyData.eqv, cmpD]
  | .dct _, _, ha, _ => by simp [cmpD] at ha
  | .scr _, _, ha, _ => by simp [cmpD] at ha
  | .ref _, _, ha, _ => by simp [cmpD] at ha
theorem eqv_pys : ∀ a b : List D, cmpDs a = true → cmpDs b = true → PyData.eqvAll (pys a) (pys b) = eqDs a b
  | [], [], _, _ => by simp [pys, eqDs, PyData.eqvAll]
  | [], _ :: _, _, _ => by simp [pys, eqDs, PyData.eqvAll]
  | _ :: _, [], _, _ => by simp [pys, eqDs, PyData.eqvAll]
  | x :: xs, y :: ys, ha, hb => by
    have ha' : cmpD x = true ∧ cmpDs xs = true := by simpa [cmpDs] using ha
    have hb' : cmpD y = true ∧ cmpDs ys = true := by simpa [cmpDs] using hb
    simp only [pys, eqDs, PyData.eqvAll]
    rw [eqv_py x y ha'.1 hb'.1, eqv_pys xs ys ha'.2 hb'.2]
end
mutual
theorem depth_py : ∀ a : D, cmpD a = true → (py a).depth = dep a
  | .non, _ => by simp [py, dep, PyData.depth]
  | .bl x, _ => by simp [py, dep, PyData.depth]
  | .int x, _ => by simp [py, dep, PyData.depth]
  | .str x, _ => by simp [py, dep, PyData.depth]
  | .tup xs, h => by simp only [py, dep, PyData.depth]; rw [depth_pys xs (by simpa [cmpD] using h)]
  | .lst xs, h => by simp only [py, dep, PyData.depth]; rw [depth_pys xs (by simpa [cmpD] using h)]
  | .dct _, h => by simp [cmpD] at h
  | .scr _, h => by simp [cmpD] at h
  | .ref _, h => by simp [cmpD] at h
theorem depth_pys : ∀ a : List D, cmpDs a = true → PyData.depthAll (pys a) = deps a
  | [], _ => by simp [pys, deps, PyData.depthAll]
  | x :: xs, h => by
    have h' : cmpD x = true ∧ cmpDs xs = true := by simpa [cmpDs] using h
    simp only [pys, deps, PyData.depthAll]
    rw [depth_py x h'.1, depth_pys xs h'.2]
end
theorem strOk_of {s : Tx} (h : txOk s) : PyData.strOk (strOf s) = true := by
  unfold PyData.strOk strOf
  rw [Array.all_eq_true_iff_forall_mem]
  intro c hc
  exact decide_eq_true (h c (by simpa using hc))
section
variable {K : PySem.W.Frag} {ex : Addr → Prop} {H : Hp} {ρ : List Addr}
mutual
theorem rep_dp : ∀ {d : D} {v : V}, cmpD d = true → Rep K ex H ρ d v → Dp K H v (py d) ∧ (py d).canLay0 = true
  | .non, _, _, h => by cases h; exact ⟨.non, by simp [py, PyData.canLay0]⟩
  | .bl _, _, _, h => by cases h; exact ⟨.bl _, by simp [py, PyData.canLay0]⟩
  | .int _, _, _, h => by cases h; exact ⟨.int _, by simp [py, PyData.canLay0]⟩
  | .str _, _, _, h => by obtain ⟨rfl, h⟩ := h; exact ⟨.str _, by simp only [py, PyData.canLay0]; exact strOk_of h⟩
  | .tup xs, _, c, ⟨a, vs, e, t, r⟩ => by
    subst e
    have q := rep_dps (by simpa [cmpD] using c) r
    exact ⟨.tup t.sq q.1, by simp only [py, PyData.canLay0]; exact q.2⟩
  | .lst xs, _, c, ⟨a, vs, e, t, _, _, r⟩ => by
    subst e
    have q := rep_dps (by simpa [cmpD] using c) r
    exact ⟨.lst (.inl t) q.1, by simp only [py, PyData.canLay0]; exact q.2⟩
  | .dct _, _, c, _ => by simp [cmpD] at c
  | .scr _, _, c, _ => by simp [cmpD] at c
  | .ref _, _, c, _ => by simp [cmpD] at c
theorem rep_dps : ∀ {ds : List D} {vs : List V}, cmpDs ds = true → Reps K ex H ρ ds vs → DpAll K H vs (pys ds) ∧ PyData.canLayAll0 (pys ds) = true
  | [], _, _, h => by cases h; exact ⟨.nil, by simp [pys, PyData.canLayAll0]⟩
  | x :: xs, _, c, ⟨v, r, e, h, t⟩ => by
    have c' : cmpD x = true ∧ cmpDs xs = true := by simpa [cmpDs] using c
    subst e
    have q1 := rep_dp c'.1 h
    have q2 := rep_dps c'.2 t
    exact ⟨.cons q1.1 q2.1, by simp only [pys, PyData.canLayAll0, q1.2, q2.2, Bool.and_self]⟩
end
theorem shaped_py {d : D} (c : cmpD d = true) (l : (py d).canLay0 = true) (h : dep d ≤ 64) : SeqAt.shaped (py d) = true := by
  unfold SeqAt.shaped
  rw [l, depth_py d c, decide_eq_true h]
  rfl
/-! ### other cells, another ban -/
mutual
theorem Rep.anew {ex2 : Addr → Prop} {ρ2 : List Addr} (hf : ∀ a, a ∉ ρ → ¬ ex a → a ∉ ρ2 ∧ ¬ ex2 a) : ∀ {d : D} {v : V}, noRef d = true → Rep K ex H ρ d v → Rep K ex2 H ρ2 d v
  | .non, _, _, h => h
  | .bl _, _, _, h => h
  | .int _, _, _, h => h
  | .str _, _, _, h => h
  | .tup _, _, c, ⟨a, vs, e, t, r⟩ => ⟨a, vs, e, t, Reps.anew hf (by simpa [noRef] using c) r⟩
  | .lst _, _, c, ⟨a, vs, e, t, n, x, r⟩ => ⟨a, vs, e, t, (hf a n x).1, (hf a n x).2, Reps.anew hf (by simpa [noRef] using c) r⟩
  | .dct _, _, c, ⟨a, vs, e, t, n, x, r⟩ => ⟨a, vs, e, t, (hf a n x).1, (hf a n x).2, RepE.anew hf (by simpa [noRef] using c) r⟩
  | .scr _, _, _, ⟨a, e, .inl ⟨t, n, x⟩⟩ => ⟨a, e, .inl ⟨t, hf a n x⟩⟩
  | .scr _, _, _, ⟨a, e, .inr h⟩ => ⟨a, e, .inr h⟩
  | .ref _, _, c, _ => by simp [noRef] at c
theorem Reps.anew {ex2 : Addr → Prop} {ρ2 : List Addr} (hf : ∀ a, a ∉ ρ → ¬ ex a → a ∉ ρ2 ∧ ¬ ex2 a) : ∀ {ds : List D} {vs : List V}, noRefs ds = true → Reps K ex H ρ ds vs → Reps K ex2 H ρ2 ds vs
  | [], _, _, h => h
  | _ :: _, _, c, ⟨v, r, e, h, t⟩ => by
    rw [noRefs, Bool.and_eq_true] at c
    exact ⟨v, r, e, Rep.anew hf c.1 h, Reps.anew hf c.2 t⟩
theorem RepE.anew {ex2 : Addr → Prop} {ρ2 : List Addr} (hf : ∀ a, a ∉ ρ → ¬ ex a → a ∉ ρ2 ∧ ¬ ex2 a) : ∀ {ds : List (Pl × D)} {vs : List (List Key × V)}, noRefE ds = true → RepE K ex H ρ ds vs → RepE K ex2 H ρ2 ds vs
  | [], _, _, h => h
  | (_, _) :: _, _, c, ⟨v, r, e, h, t⟩ => by
    rw [noRefE, Bool.and_eq_true] at c
    exact ⟨v, r, e, Rep.anew hf c.1 h, RepE.anew hf c.2 t⟩
end
mutual
theorem Rep.flat {ex2 : Addr → Prop} {ρ2 : List Addr} : ∀ {d : D} {v : V}, flat d = true → Rep K ex H ρ d v → Rep K ex2 H ρ2 d v
  | .non, _, _, h => h
  | .bl _, _, _, h => h
  | .int _, _, _, h => h
  | .str _, _, _, h => h
  | .tup _, _, c, ⟨a, vs, e, t, r⟩ => ⟨a, vs, e, t, Reps.flat (by simpa [MP.flat] using c) r⟩
  | .lst _, _, c, _ => by simp [MP.flat] at c
  | .dct _, _, c, _ => by simp [MP.flat] at c
  | .scr _, _, c, _ => by simp [MP.flat] at c
  | .ref _, _, c, _ => by simp [MP.flat] at c
theorem Reps.flat {ex2 : Addr → Prop} {ρ2 : List Addr} : ∀ {ds : List D} {vs : List V}, flats ds = true → Reps K ex H ρ ds vs → Reps K ex2 H ρ2 ds vs
  | [], _, _, h => h
  | _ :: _, _, c, ⟨v, r, e, h, t⟩ => by
    rw [flats, Bool.and_eq_true] at c
    exact ⟨v, r, e, Rep.flat c.1 h, Reps.flat c.2 t⟩
end
mutual
/-- the cells exchanged -/
theorem Rep.mapRef {ex2 : Addr → Prop} {g : Nat → Option D} (hf : ∀ a, ¬ ex a → ¬ ex2 a) (hg : ∀ n d' v, g n = some d' → Rep K ex H ρ (.ref n) v → Rep K ex2 H [] d' v) :
    ∀ {d d' : D} {v : V}, mapRef g d = some d' → Rep K ex H ρ d v → Rep K ex2 H [] d' v
  | .non, _, _, c, h => by rw [MP.mapRef] at c; cases c; exact h
  | .bl _, _, _, c, h => by rw [MP.mapRef] at c; cases c; exact h
  | .int _, _, _, c, h => by rw [MP.mapRef] at c; cases c; exact h
  | .str _, _, _, c, h => by rw [MP.mapRef] at c; cases c; exact h
  | .scr _, _, _, c, h => by
    rw [MP.mapRef] at c
    cases c
    obtain ⟨a, e, ⟨t, n, x⟩ | h⟩ := h
    · exact ⟨a, e, .inl ⟨t, by simp, hf a x⟩⟩
    · exact ⟨a, e, .inr h⟩
  | .ref n, _, _, c, h => hg n _ _ (by rw [MP.mapRef] at c; exact c) h
  | .tup xs, _, _, c, ⟨a, vs, e, t, r⟩ => by
    rw [MP.mapRef] at c
    obtain ⟨ys, hy, rfl⟩ := Option.map_eq_some_iff.mp c
    exact ⟨a, vs, e, t, Reps.mapRef hf hg hy r⟩
  | .lst xs, _, _, c, ⟨a, vs, e, t, n, x, r⟩ => by
    rw [MP.mapRef] at c
    obtain ⟨ys, hy, rfl⟩ := Option.map_eq_some_iff.mp c
    exact ⟨a, vs, e, t, by simp, hf a x, Reps.mapRef hf hg hy r⟩
  | .dct xs, _, _, c, ⟨a, vs, e, t, n, x, r⟩ => by
    rw [MP.mapRef] at c
    obtain ⟨ys, hy, rfl⟩ := Option.map_eq_some_iff.mp c
    exact ⟨a, vs, e, t, by simp, hf a x, RepE.mapRef hf hg hy r⟩
theorem Reps.mapRef {ex2 : Addr → Prop} {g : Nat → Option D} (hf : ∀ a, ¬ ex a → ¬ ex2 a) (hg : ∀ n d' v, g n = some d' → Rep K ex H ρ (.ref n) v → Rep K ex2 H [] d' v) :
    ∀ {d d' : List D} {v : List V}, mapRefs g d = some d' → Reps K ex H ρ d v → Reps K ex2 H [] d' v
  | [], _, _, c, h => by rw [MP.mapRefs] at c; cases c; exact h
  | x :: xs, _, _, c, ⟨v, r, e, h, t⟩ => by
    rw [MP.mapRefs] at c
    split at c
    · rename_i y ys h1 h2
      cases c
      exact ⟨v, r, e, Rep.mapRef hf hg h1 h, Reps.mapRef hf hg h2 t⟩
    · cases c
theorem RepE.mapRef {ex2 : Addr → Prop} {g : Nat → Option D} (hf : ∀ a, ¬ ex a → ¬ ex2 a) (hg : ∀ n d' v, g n = some d' → Rep K ex H ρ (.ref n) v → Rep K ex2 H [] d' v) :
    ∀ {d d' : List (Pl × D)} {v : List (List Key × V)}, mapRefE g d = some d' → RepE K ex H ρ d v → RepE K ex2 H [] d' v
  | [], _, _, c, h => by rw [MP.mapRefE] at c; cases c; exact h
  | (k, x) :: xs, _, _, c, ⟨v, r, e, h, t⟩ => by
    rw [MP.mapRefE] at c
    split at c
    · rename_i y ys h1 h2
      cases c
      exact ⟨v, r, e, Rep.mapRef hf hg h1 h, RepE.mapRef hf hg h2 t⟩
    · cases c
end
theorem Rep.rsvN {ex2 : Addr → Prop} {st : Store} (M : Mem K ex H ρ st) (hf : ∀ a, ¬ ex a → ¬ ex2 a) (hr : ∀ a, a ∈ ρ → ¬ ex2 a) : ∀ (k : Nat) {d d' : D} {v : V}, rsvN st k d = some d' → Rep K ex H ρ d v → Rep K ex2 H [] d' v
  | 0, _, _, _, c, _ => by rw [MP.rsvN] at c; cases c
  | k + 1, d, d', v, c, h => by
    rw [MP.rsvN] at c
    refine Rep.mapRef hf (fun n d2 v2 c2 h2 => ?_) c h
    obtain ⟨a, ha, rfl⟩ := h2
    have ih : ∀ n d' v, MP.rsvN st k (.ref n) = some d' → Rep K ex H ρ (.ref n) v → Rep K ex2 H [] d' v := fun n d' v e r => Rep.rsvN M hf hr k e r
    split at c2
    · rename_i xs hs
      obtain ⟨b, vs, h1, h2, h3⟩ := M.lst hs
      rw [ha] at h1
      cases h1
      obtain ⟨ys, hy, rfl⟩ := Option.map_eq_some_iff.mp c2
      exact ⟨a, vs, rfl, .inl h2, by simp, hr a (mem_of_get ha), Reps.mapRef hf ih hy h3⟩
    · rename_i xs hs
      obtain ⟨b, h1, o, vs, h2, h3⟩ := M.at hs
      rw [ha] at h1
      cases h1
      obtain ⟨ys, hy, rfl⟩ := Option.map_eq_some_iff.mp c2
      exact ⟨a, vs, rfl, .inr ⟨o, h2⟩, by simp, hr a (mem_of_get ha), Reps.mapRef hf ih hy h3⟩
    · rename_i xs hs
      obtain ⟨b, vs, h1, h2, h3⟩ := M.dct hs
      rw [ha] at h1
      cases h1
      obtain ⟨ys, hy, rfl⟩ := Option.map_eq_some_iff.mp c2
      exact ⟨a, vs, rfl, .inl h2, by simp, hr a (mem_of_get ha), RepE.mapRef hf ih hy h3⟩
    · rename_i xs hs
      obtain ⟨b, h1, o, vs, h2, h3⟩ := M.at hs
      rw [ha] at h1
      cases h1
      obtain ⟨ys, hy, rfl⟩ := Option.map_eq_some_iff.mp c2
      exact ⟨a, vs, rfl, .inr ⟨o, h2⟩, by simp, hr a (mem_of_get ha), RepE.mapRef hf ih hy h3⟩
    · cases c2
theorem Rep.rsv {ex2 : Addr → Prop} {st : Store} (M : Mem K ex H ρ st) (hf : ∀ a, ¬ ex a → ¬ ex2 a) (hr : ∀ a, a ∈ ρ → ¬ ex2 a) {d d' : D} {v : V} (c : rsv st d = some d') (h : Rep K ex H ρ d v) : Rep K ex2 H [] d' v := by
  unfold MP.rsv at c
  split at c
  · rename_i n
    cases c
    exact Rep.anew (fun a h1 h2 => ⟨by simp, hf a h2⟩) n h
  · exact Rep.rsvN M hf hr 40 c h
theorem Reps.rsv {ex2 : Addr → Prop} {st : Store} (M : Mem K ex H ρ st) (hf : ∀ a, ¬ ex a → ¬ ex2 a) (hr : ∀ a, a ∈ ρ → ¬ ex2 a) : ∀ {d d' : List D} {v : List V}, rsvs st d = some d' → Reps K ex H ρ d v → Reps K ex2 H [] d' v
  | [], _, _, c, h => by rw [rsvs] at c; cases c; exact h
  | x :: xs, _, _, c, ⟨v, r, e, h, t⟩ => by
    rw [rsvs] at c
    split at c
    · rename_i y ys h1 h2
      cases c
      exact ⟨v, r, e, Rep.rsv M hf hr h1 h, Reps.rsv M hf hr h2 t⟩
    · cases c
theorem rsv_noRef {st : Store} {d : D} (h : noRef d = true) : rsv st d = some d := by unfold rsv; rw [if_pos h]
theorem rsvs_noRef {st : Store} : ∀ {ds : List D}, noRefs ds = true → rsvs st ds = some ds
  | [], _ => rfl
  | d :: ds, h => by
    rw [noRefs, Bool.and_eq_true] at h
    rw [rsvs, rsv_noRef h.1, rsvs_noRef h.2]
mutual
/-- from no cells -/
theorem Rep.wide {ex2 : Addr → Prop} {ρ2 : List Addr} (hf : ∀ a, ¬ ex a → a ∉ ρ2 ∧ ¬ ex2 a) : ∀ {d : D} {v : V}, Rep K ex H [] d v → Rep K ex2 H ρ2 d v
  | .non, _, h => h
  | .bl _, _, h => h
  | .int _, _, h => h
  | .str _, _, h => h
  | .tup _, _, ⟨a, vs, e, t, r⟩ => ⟨a, vs, e, t, Reps.wide hf r⟩
  | .lst _, _, ⟨a, vs, e, t, n, x, r⟩ => ⟨a, vs, e, t, (hf a x).1, (hf a x).2, Reps.wide hf r⟩
  | .dct _, _, ⟨a, vs, e, t, n, x, r⟩ => ⟨a, vs, e, t, (hf a x).1, (hf a x).2, RepE.wide hf r⟩
  | .scr _, _, ⟨a, e, .inl ⟨t, n, x⟩⟩ => ⟨a, e, .inl ⟨t, hf a x⟩⟩
  | .scr _, _, ⟨a, e, .inr h⟩ => ⟨a, e, .inr h⟩
  | .ref _, _, ⟨a, h, _⟩ => by simp at h
theorem Reps.wide {ex2 : Addr → Prop} {ρ2 : List Addr} (hf : ∀ a, ¬ ex a → a ∉ ρ2 ∧ ¬ ex2 a) : ∀ {ds : List D} {vs : List V}, Reps K ex H [] ds vs → Reps K ex2 H ρ2 ds vs
  | [], _, h => h
  | _ :: _, _, ⟨v, r, e, h, t⟩ => ⟨v, r, e, Rep.wide hf h, Reps.wide hf t⟩
theorem RepE.wide {ex2 : Addr → Prop} {ρ2 : List Addr} (hf : ∀ a, ¬ ex a → a ∉ ρ2 ∧ ¬ ex2 a) : ∀ {ds : List (Pl × D)} {vs : List (List Key × V)}, RepE K ex H [] ds vs → RepE K ex2 H ρ2 ds vs
  | [], _, h => h
  | (_, _) :: _, _, ⟨v, r, e, h, t⟩ => ⟨v, r, e, Rep.wide hf h, RepE.wide hf t⟩
end
/-! ### cells moved behind others -/
mutual
theorem Rep.shift {ex2 : Addr → Prop} {ρ0 : List Addr} : ∀ {d : D} {v : V}, (flatR d = true ∨ ∀ a, a ∉ ρ → ¬ ex a → a ∉ ρ0 ++ ρ ∧ ¬ ex2 a) → Rep K ex H ρ d v → Rep K ex2 H (ρ0 ++ ρ) (shift ρ0.length d) v
  | .non, _, _, h => h
  | .bl _, _, _, h => h
  | .int _, _, _, h => h
  | .str _, _, _, h => h
  | .tup _, _, c, ⟨a, vs, e, t, r⟩ => ⟨a, vs, e, t, Reps.shift (c.imp (by intro h; simpa [flatR] using h) id) r⟩
  | .lst _, _, .inl c, _ => by simp [flatR] at c
  | .lst _, _, .inr c, ⟨a, vs, e, t, n, x, r⟩ => ⟨a, vs, e, t, (c a n x).1, (c a n x).2, Reps.shift (.inr c) r⟩
  | .dct _, _, .inl c, _ => by simp [flatR] at c
  | .dct _, _, .inr c, ⟨a, vs, e, t, n, x, r⟩ => ⟨a, vs, e, t, (c a n x).1, (c a n x).2, RepE.shift (.inr c) r⟩
  | .scr _, _, .inl c, _ => by simp [flatR] at c
  | .scr _, _, .inr c, ⟨a, e, .inl ⟨t, n, x⟩⟩ => ⟨a, e, .inl ⟨t, c a n x⟩⟩
  | .scr _, _, .inr c, ⟨a, e, .inr h⟩ => ⟨a, e, .inr h⟩
  | .ref n, _, _, ⟨a, h, e⟩ => ⟨a, by rw [List.getElem?_append_right (Nat.le_add_right _ _), Nat.add_sub_cancel_left]; exact h, e⟩
theorem Reps.shift {ex2 : Addr → Prop} {ρ0 : List Addr} : ∀ {d : List D} {v : List V}, (flatRs d = true ∨ ∀ a, a ∉ ρ → ¬ ex a → a ∉ ρ0 ++ ρ ∧ ¬ ex2 a) → Reps K ex H ρ d v → Reps K ex2 H (ρ0 ++ ρ) (shifts ρ0.length d) v
  | [], _, _, h => h
  | _ :: _, _, c, ⟨v, r, e, h, t⟩ => ⟨v, r, e, Rep.shift (c.imp (by intro h; rw [flatRs, Bool.and_eq_true] at h; exact h.1) id) h, Reps.shift (c.imp (by intro h; rw [flatRs, Bool.and_eq_true] at h; exact h.2) id) t⟩
theorem RepE.shift {ex2 : Addr → Prop} {ρ0 : List Addr} : ∀ {d : List (Pl × D)} {v : List (List Key × V)}, (flatRE d = true ∨ ∀ a, a ∉ ρ → ¬ ex a → a ∉ ρ0 ++ ρ ∧ ¬ ex2 a) → RepE K ex H ρ d v → RepE K ex2 H (ρ0 ++ ρ) (shiftE ρ0.length d) v
  | [], _, _, h => h
  | (_, _) :: _, _, c, ⟨v, r, e, h, t⟩ => ⟨v, r, e, Rep.shift (c.imp (by intro h; rw [flatRE, Bool.and_eq_true] at h; exact h.1) id) h, RepE.shift (c.imp (by intro h; rw [flatRE, Bool.and_eq_true] at h; exact h.2) id) t⟩
end
theorem CellAt.shift {ex2 : Addr → Prop} {ρ0 : List Addr} {c : Cell} {a : Addr} (hc : flatC c = true ∨ ∀ a, a ∉ ρ → ¬ ex a → a ∉ ρ0 ++ ρ ∧ ¬ ex2 a) (h : CellAt K ex H ρ c a) : CellAt K ex2 H (ρ0 ++ ρ) (shiftC ρ0.length c) a := by
  cases c with
  | lst xs => obtain ⟨vs, e, r⟩ := h; exact ⟨vs, e, r.shift hc⟩
  | dct xs => obtain ⟨vs, e, r⟩ := h; exact ⟨vs, e, r.shift hc⟩
  | lckL xs => obtain ⟨o, vs, e, r⟩ := h; exact ⟨o, vs, e, r.shift hc⟩
  | lckD xs => obtain ⟨o, vs, e, r⟩ := h; exact ⟨o, vs, e, r.shift hc⟩
end
/-! ### the end of an expression, over the heap -/
def PostV (K : PySem.W.Frag) (ex : Addr → Prop) (H : Hp) (ρ : List Addr) (res : RE) (X : Ex → Hp → List Addr → Store → Prop) (Q : VK) : Prop := match res with
  | .ok d st' => ∀ v H' ρ', Ext ρ H ρ' H' → Mem K ex H' ρ' st' → Rep K ex H' ρ' d v → Q v H'
  | .exc e st' => ∀ H' ρ', Ext ρ H ρ' H' → Mem K ex H' ρ' st' → X e H' ρ' st'
  | .no => False
/-- a callee's promise, at its depth -/
def CallOk (K : PySem.W.Frag) (cl : Cl) (f : Nat) (vs : List V) (H : Hp) (Q : VK) (X : Ex → Hp → Prop) : Prop :=
  ∃ ex ρ st args, Mem K ex H ρ st ∧ Reps K ex H ρ args vs ∧ PostV K ex H ρ (cl f args st) (fun e H' _ _ => X e H') Q
section
variable {K : PySem.W.Frag} {ex : Addr → Prop} {H : Hp} {ρ : List Addr} {st : Store}
theorem Mem.nil (H : Hp) (ex : Addr → Prop) (h : ∀ a, ex a → H a ≠ none) : Mem K ex H [] [] := ⟨rfl, List.nodup_nil, fun n a c h => by simp at h, h, fun a h => by simp at h⟩
theorem Ext.same {H' : Hp} {ρc : List Addr} (e : Ext [] H ρc H') {a : Addr} (h : H a ≠ none) : H' a = H a := by
  cases q : H a with
  | none => exact absurd q h
  | some o => exact e.keep a o q (by simp)
theorem Mem.after {H' : Hp} {ρc : List Addr} (M : Mem K ex H ρ st) (e : Ext [] H ρc H') : Mem K ex H' ρ st ∧ Ext ρ H ρ H' := by
  have e2 : Ext ρ H ρ H' := ⟨fun a o h _ => e.keep a o h (by simp), e.tups, e.frzs, fun _ _ h => h, fun _ h => .inl h, e.trk⟩
  refine ⟨⟨M.len, M.nod, fun n a c h1 h2 => ?_, fun a h => e.trk a (M.exT a h), M.exD⟩, e2⟩
  have hc := M.cell n a c h1 h2
  exact hc.ext e2 (e.same hc.ne)
/-- a callee's cells behind ours -/
theorem Mem.join {ex' : Addr → Prop} {H' : Hp} {ρc : List Addr} {S : Store} (M : Mem K ex H ρ st) (e : Ext [] H ρc H') (M1 : Mem K ex' H' ρc S) (hC : (∀ c ∈ S, flatC c = true) ∨ ∀ a, a ∉ ρc → ¬ ex' a → a ∉ ρ ++ ρc ∧ ¬ ex a) :
    Mem K ex H' (ρ ++ ρc) (st ++ S.map (shiftC st.length)) ∧ Ext ρ H (ρ ++ ρc) H' := by
  have e2 := (M.after e).2
  have e3 : Ext ρ H (ρ ++ ρc) H' := ⟨e2.keep, e2.tups, e2.frzs, fun n a hh => by rw [List.getElem?_append_left (List.getElem?_eq_some_iff.mp hh).1]; exact hh, fun a m => (List.mem_append.mp m).elim .inl (fun q => .inr ((e.new a q).resolve_left (by simp))), e2.trk⟩
  refine ⟨⟨?_, ?_, fun n a c h1 h2 => ?_, fun a q => e.trk a (M.exT a q), fun a m => ?_⟩, e3⟩
  · rw [List.length_append, List.length_append, List.length_map, M.len, M1.len]
  · refine List.nodup_append.mpr ⟨M.nod, M1.nod, fun a h1 b h2 q => ?_⟩
    subst q
    exact M.tracked h1 ((e.new a h2).resolve_left (by simp))
  · by_cases hl : n < ρ.length
    · rw [List.getElem?_append_left hl] at h1
      rw [List.getElem?_append_left (by rw [← M.len]; exact hl)] at h2
      have hc' := M.cell n a c h1 h2
      exact hc'.ext e3 (e.same hc'.ne)
    · rw [List.getElem?_append_right (by omega)] at h1
      rw [List.getElem?_append_right (by rw [← M.len]; omega), List.getElem?_map] at h2
      obtain ⟨c0, hc0, rfl⟩ := Option.map_eq_some_iff.mp h2
      rw [← M.len] at hc0
      rw [← M.len]
      exact (M1.cell _ a c0 h1 hc0).shift (hC.imp (fun h => h c0 (mem_of_get hc0)) id)
  · exact (List.mem_append.mp m).elim (M.exD a) (fun q => fun x => M.exT a x ((e.new a q).resolve_left (by simp)))
/-- a call upon data -/
theorem pcall_ok {cl : Cl} {f : Nat} {raw : Bool} {args : List D} {vs : List V} {Q : VK} {X : Ex → Hp → List Addr → Store → Prop} (M : Mem K ex H ρ st) (r : Reps K ex H ρ args vs)
    (h : PostV K ex H ρ (pcall cl f raw args st) X Q) : CallOk K cl f vs H Q (fun e H' => Ext ρ H ρ H' ∧ Mem K ex H' ρ st ∧ X e H' ρ st) := by
  unfold pcall at h
  cases ha : rsvs st args with
  | none => rw [ha] at h; exact h.elim
  | some args' =>
    rw [ha] at h
    simp only at h
    by_cases hn : noRefs args = true
    · -- no cell among the arguments: the callee's ban is ours and our cells
      have ea : args' = args := by rw [rsvs_noRef hn] at ha; exact (Option.some.inj ha).symm
      subst ea
      refine ⟨fun a => ex a ∨ a ∈ ρ, [], [], args', Mem.nil _ _ (fun a q => q.elim (M.exT a) M.tracked), Reps.anew (fun a h1 h2 => ⟨by simp, fun q => q.elim h2 h1⟩) hn r, ?_⟩
      cases hc : cl f args' [] with
      | no => rw [hc] at h; exact h.elim
      | exc e S =>
        rw [hc] at h
        intro H' ρ' e1 M1
        have e2 := M.after e1
        exact ⟨e2.2, e2.1, h H' ρ e2.2 e2.1⟩
      | ok d S =>
        rw [hc] at h
        simp only at h
        intro v H' ρ' e1 M1 r1
        rw [hn] at h
        simp only [Bool.true_or, if_true] at h
        have hC : ∀ a, a ∉ ρ' → ¬ (ex a ∨ a ∈ ρ) → a ∉ ρ ++ ρ' ∧ ¬ ex a := fun a h1 h2 => ⟨fun m => (List.mem_append.mp m).elim (fun q => h2 (.inr q)) h1, fun q => h2 (.inl q)⟩
        cases raw with
        | true =>
          simp only [if_true] at h
          have j := M.join e1 M1 (.inr hC)
          exact h v H' (ρ ++ ρ') j.2 j.1 (by rw [← M.len]; exact r1.shift (.inr hC))
        | false =>
          simp only [Bool.false_eq_true, if_false] at h
          have e2 := M.after e1
          cases hd : rsv S d with
          | none => rw [hd] at h; exact h.elim
          | some d' =>
            rw [hd] at h
            simp only at h
            have r2 : Rep K (fun a => ex a ∨ a ∈ ρ) H' [] d' v := Rep.rsv M1 (fun _ h => h) M1.exD hd r1
            exact h v H' ρ e2.2 e2.1 (r2.wide fun a h2 => ⟨fun q => h2 (.inr q), fun q => h2 (.inl q)⟩)
    · -- cells are seen as frozen: the answer is flat
      have hnf : noRefs args = false := by simpa using hn
      rw [hnf] at h
      simp only [Bool.false_or] at h
      refine ⟨fun _ => False, [], [], args', Mem.nil _ _ (fun a q => q.elim), Reps.rsv M (fun _ _ q => q) (fun _ _ q => q) ha r, ?_⟩
      cases hc : cl f args' [] with
      | no => rw [hc] at h; exact h.elim
      | exc e S =>
        rw [hc] at h
        intro H' ρ' e1 M1
        have e2 := M.after e1
        exact ⟨e2.2, e2.1, h H' ρ e2.2 e2.1⟩
      | ok d S =>
        rw [hc] at h
        simp only at h
        intro v H' ρ' e1 M1 r1
        cases raw with
        | true =>
          simp only [if_true] at h
          split at h
          · rename_i hf
            rw [Bool.and_eq_true] at hf
            have j := M.join e1 M1 (.inl (fun c hc => List.all_eq_true.mp hf.2 c hc))
            exact h v H' (ρ ++ ρ') j.2 j.1 (by rw [← M.len]; exact r1.shift (.inl hf.1))
          · exact h.elim
        | false =>
          simp only [Bool.false_eq_true, if_false] at h
          have e2 := M.after e1
          cases hd : rsv S d with
          | none => rw [hd] at h; exact h.elim
          | some d' =>
            rw [hd] at h
            simp only at h
            split at h
            · rename_i hf
              have r2 : Rep K (fun _ => False) H' [] d' v := Rep.rsv M1 (fun _ h => h) M1.exD hd r1
              exact h v H' ρ e2.2 e2.1 (r2.flat hf)
            · exact h.elim
end
end MP
end
section
set_option maxRecDepth 100000
set_option maxHeartbeats 4000000
/-! MP: == of dicts whose keys are pairs. -/
namespace MP
open PySem PySem.Spec PyProof.Rows L2 PySem.W
section
variable {prog : Program} {w : World} {K : Type} [DecidableEq K] {knd : HeapKind prog w K} {A : Around} {E : Value → Shared → Prop} {s : Shared}
/-- every key of one is a key of the other, with an equal value -/
def HitsT (prog : Program) (w : World) (A : Around) (s : Shared) (ys : List (K × Addr × Value)) (xs : List (K × Addr × Value)) : Prop :=
  ∀ x ∈ xs, ∃ p, atKey ys x.1 = some p ∧ SeqAt.EqP prog w A s x.2.2 p.2 true
theorem samePairsH {nm : String} {a b : Addr} {xs ys : List (K × Addr × Value)} {Q : Bool → Shared → Prop} (hu : knd.room A) (ha : (a == sysModules) = false) (hb : (b == sysModules) = false)
    (da : s.heap.DictOfH knd a xs) (db : s.heap.DictOfH knd b ys) (hl : xs.length = ys.length) (hits : HitsT prog w A s ys xs) (h : Q true s) :
    wpAny (model prog w) A (Builtin.Dict.samePairs nm a b) Q E s := by
  obtain ⟨oa, es, ep, hoa, _, hda, hea, hia, hna⟩ := da
  obtain ⟨ob, es', ep', hob, _, hdb, heb, hib, hnb⟩ := db
  have hla : xs.length = es.size := (size_of_entries hea).symm
  have hlb : ys.length = es'.size := (size_of_entries heb).symm
  have hsz : es.size = es'.size := by omega
  unfold Builtin.Dict.samePairs Builtin.Dict.showsAll
  rw [if_neg (show ¬ (a == sysModules) = true by rw [ha]; exact Bool.false_ne_true), if_neg (show ¬ (b == sysModules) = true by rw [hb]; exact Bool.false_ne_true)]
  refine wpAny_bind (wpAny_pure (wpAny_bind (wpAny_pure ?_)))
  refine wpAny_bind (wpAny_dictEntries hoa hda ?_)
  dsimp only
  refine wpAny_bind (wpAny_dictEntries hob hdb ?_)
  rw [if_neg (by rw [hsz]; simp)]
  refine wpAny_bind (wpAny_dictEpoch hoa hda ?_)
  refine wpAny_bind ?_
  rw [Std.Legacy.Range.forIn_eq_forIn_range']
  simp only [Std.Legacy.Range.size, Nat.sub_zero, Nat.add_sub_cancel, Nat.div_one]
  refine wpAny_forIn_list _
    (fun rest q s' => s' = s ∧ q = (none, ()) ∧ ∃ i, rest = List.range' i (es.size - i) ∧ i ≤ es.size)
    _ ?_ ?_ _ _ ⟨rfl, rfl, 0, by simp, Nat.zero_le _⟩
  · rintro x rest q s' ⟨rfl, rfl, i, hr, hi⟩
    have hlt : i < es.size := by
      rcases Nat.lt_or_ge i es.size with h | h
      · exact h
      · rw [Nat.sub_eq_zero_of_le h] at hr; simp at hr
    obtain ⟨rfl, hrest⟩ : x = i ∧ rest = List.range' (i + 1) (es.size - (i + 1)) := by
      have e : es.size - i = (es.size - (i + 1)) + 1 := by omega
      rw [e, List.range'_succ] at hr
      injection hr with h1 h2
      exact ⟨h1, h2⟩
    refine wpAny_bind (wpAny_dictEntries hoa hda ?_)
    have hx : x < xs.length := by rw [hla]; exact hlt
    obtain ⟨k, ka, v, hkv⟩ : ∃ k ka v, xs[x] = (k, ka, v) := ⟨_, _, _, rfl⟩
    have hxe : es[x]? = some (entryOfKey knd (k, ka, v)) := by rw [entry_at hea x, List.getElem?_eq_getElem hx, hkv]; rfl
    rw [hxe]
    have hmem : (k, ka, v) ∈ xs := by rw [← hkv]; exact List.getElem_mem hx
    have hkey := hia _ hmem
    obtain ⟨p, hp, heq⟩ := hits _ hmem
    show wpAny _ _ (holding [Value.ref ka, v] _ >>= _) _ _ _
    refine wpAny_bind (wpAny_holding (wpAny_bind (wpAny_dictFind_heap hu hkey hob hdb heb hib hnb ?_ ?_)))
    · intro hno
      rw [atKey_none_of_get hno] at hp
      cases hp
    · intro j pj hj
      have hpj := atKey_of_get hnb hj
      rw [hp] at hpj
      cases hpj
      refine wpAny_bind (wpAny_dictEntries hob hdb ?_)
      rw [entry_at heb j, hj]
      refine wpAny_holding (heq _ _ ?_)
      show wpAny _ _ (if (!true) = true then _ else _) _ _ _
      rw [if_neg (by decide)]
      refine wpAny_bind (wpAny_dictEpoch hoa hda ?_)
      rw [if_neg (by simp)]
      exact wpAny_pure ⟨rfl, rfl, x + 1, hrest, hlt⟩
  · rintro q s' ⟨rfl, rfl, i, hr, hi⟩
    exact wpAny_pure h
theorem eq_dictsH {a b : Addr} {xs ys : List (K × Addr × Value)} {Q : Value → Shared → Prop} (hr : knd.room A.in1) (ha : (a == sysModules) = false) (hb : (b == sysModules) = false)
    (da : s.heap.DictOfH knd a xs) (db : s.heap.DictOfH knd b ys) (hu : A.units < cLine) (hl : xs.length = ys.length) (hits : HitsT prog w A.in1 s ys xs) (h : Q (.bool true) s) :
    wpAny (model prog w) A (compareOp .Eq (.ref a) (.ref b)) Q E s := by
  refine wpAny_richCompare_same_room (op := .Eq) da.typeIs db.typeIs PySem.F.slot_dict_eq (wpAny_call_entry PySem.F.slot_dict_eq da.typeIs PySem.F.entry_dict_eq ?_ (PySem.F.args_dict_eq_2 _ _)) hu
  show wpAny _ _ (Builtin.Dict.dictSlotArgs "__eq__" ⟨[.ref a, .ref b], []⟩ >>= _) _ _ s
  refine wpAny_bind ?_
  unfold Builtin.Dict.dictSlotArgs
  refine wpAny_bind (wpAny_notOrdered_dict da.typeIs ?_)
  show wpAny _ _ (pure (Value.ref a, Value.ref b)) _ _ s
  refine wpAny_pure ?_
  refine wpAny_bind (wpAny_isInstance (T := "dict") db.typeIs PySem.F.sub_dict_dict ?_)
  simp only [Bool.not_true, Bool.false_eq_true, if_false]
  refine wpAny_bind (wpAny_pure (wpAny_bind (wpAny_pure ?_)))
  refine wpAny_bind (samePairsH hr ha hb da db hl hits ?_)
  exact wpAny_pure ⟨_, rfl, (fun x => nomatch x), by simpa using h⟩
theorem ne_dictsH {a b : Addr} {xs ys : List (K × Addr × Value)} {Q : Value → Shared → Prop} (hr : knd.room A.in1) (ha : (a == sysModules) = false) (hb : (b == sysModules) = false)
    (da : s.heap.DictOfH knd a xs) (db : s.heap.DictOfH knd b ys) (hu : A.units < cLine) (hl : xs.length = ys.length) (hits : HitsT prog w A.in1 s ys xs) (h : Q (.bool false) s) :
    wpAny (model prog w) A (compareOp .NotEq (.ref a) (.ref b)) Q E s := by
  refine wpAny_richCompare_same_room (op := .NotEq) da.typeIs db.typeIs PySem.F.slot_dict_ne (wpAny_call_entry PySem.F.slot_dict_ne da.typeIs PySem.F.entry_dict_ne ?_ (PySem.F.args_dict_ne_2 _ _)) hu
  show wpAny _ _ (Builtin.Dict.dictSlotArgs "__ne__" ⟨[.ref a, .ref b], []⟩ >>= _) _ _ s
  refine wpAny_bind ?_
  unfold Builtin.Dict.dictSlotArgs
  refine wpAny_bind (wpAny_notOrdered_dict da.typeIs ?_)
  show wpAny _ _ (pure (Value.ref a, Value.ref b)) _ _ s
  refine wpAny_pure ?_
  refine wpAny_bind (wpAny_isInstance (T := "dict") db.typeIs PySem.F.sub_dict_dict ?_)
  simp only [Bool.not_true, Bool.false_eq_true, if_false]
  refine wpAny_bind (wpAny_pure (wpAny_bind (wpAny_pure ?_)))
  refine wpAny_bind (samePairsH hr ha hb da db hl hits ?_)
  exact wpAny_pure ⟨_, rfl, (fun x => nomatch x), by simpa using h⟩
end
/-- two dicts of the same keys, their values equal -/
def SameT (K : PySem.W.Frag) (H : Hp) (x y : V) : Prop := ∃ a b ks ls, x = .ref a ∧ y = .ref b ∧ Rd H a (.dT ks) ∧ Rd H b (.dT ls) ∧ ks.length = ls.length ∧
  ∀ p ∈ ks, ∃ u, valV ls p.1 = some u ∧ ∃ d e, Dp K H p.2 d ∧ Dp K H u e ∧ SeqAt.shaped d = true ∧ SeqAt.shaped e = true ∧ PyData.eqv d e = true
section
variable {X : Cx}
theorem hitsT {pins : List (Addr × Obj)} {σ : L2.St} {H : Hp} {s : Shared} {A : Around} (I : Inv X pins σ H s) (hu : A.in1.units + 64 < cLine) {ls : List (List Key × V)} {ys : List (List Key × Addr × Value)} (ry : KT H ls ys) :
    ∀ {ks : List (List Key × V)} {xs : List (List Key × Addr × Value)}, KT H ks xs → (∀ p ∈ ks, ∃ u, valV ls p.1 = some u ∧ ∃ d e, Dp X.K H p.2 d ∧ Dp X.K H u e ∧ SeqAt.shaped d = true ∧ SeqAt.shaped e = true ∧ PyData.eqv d e = true) → HitsT X.prog X.w A.in1 s ys xs := by
  intro ks xs rx
  induction rx with
  | nil => intro _ x hx; exact nomatch hx
  | @cons p q ps qs h t ih =>
    intro hp x hx
    rcases List.mem_cons.mp hx with e | hx
    · subst e
      obtain ⟨u, hu1, d, e, h1, h2, h3, h4, h5⟩ := hp p List.mem_cons_self
      obtain ⟨e1, _, rv⟩ := h
      have rr := ry.val p.1
      rw [hu1] at rr
      obtain ⟨z, hz, rz⟩ := rr.some_of
      obtain ⟨pp, hpp, rfl⟩ := Option.map_eq_some_iff.mp hz
      rw [e1] at hpp
      obtain ⟨as, r1⟩ := Dp.reads I d _ _ h1 rv
      obtain ⟨bs, r2⟩ := Dp.reads I e _ _ h2 rz
      have := keq_at (A := A) r1 r2 h3 h4 hu
      rw [h5] at this
      exact ⟨pp, hpp, this.eqP⟩
    · exact ih (fun p' m => hp p' (List.mem_cons_of_mem _ m)) x hx
def rEqT (K : PySem.W.Frag) : R2 := fun x y H Q => SameT K H x y ∧ Q (.bl true) H
def rNeT (K : PySem.W.Frag) : R2 := fun x y H Q => SameT K H x y ∧ Q (.bl false) H
theorem op_eqT (hu : X.A.units + 65 < cLine) : OpR X (compareOp .Eq) (rEqT X.K) := by
  intro pins s σ H x y v u Q I rx ry h
  obtain ⟨⟨a, b, ks, ls, rfl, rfl, ea, eb, hlen, hp⟩, q⟩ := h
  obtain rfl : v = Value.ref a := rx
  obtain rfl : u = Value.ref b := ry
  obtain ⟨_, ya, xs, ra, da⟩ := dt_rd I.hok ea
  obtain ⟨_, yb, ys, rb, db⟩ := dt_rd I.hok eb
  have hl : xs.length = ys.length := by rw [← Paired.length ra, ← Paired.length rb]; exact hlen
  have hu1 : X.A.in1.units = X.A.units + 1 := rfl
  exact eq_dictsH (tupleKind_room_in1 (by omega)) ya yb da db (by omega) hl (hitsT I (by omega) rb ra hp) ⟨.bl true, H, I, rfl, q⟩
theorem op_neT (hu : X.A.units + 65 < cLine) : OpR X (compareOp .NotEq) (rNeT X.K) := by
  intro pins s σ H x y v u Q I rx ry h
  obtain ⟨⟨a, b, ks, ls, rfl, rfl, ea, eb, hlen, hp⟩, q⟩ := h
  obtain rfl : v = Value.ref a := rx
  obtain rfl : u = Value.ref b := ry
  obtain ⟨_, ya, xs, ra, da⟩ := dt_rd I.hok ea
  obtain ⟨_, yb, ys, rb, db⟩ := dt_rd I.hok eb
  have hl : xs.length = ys.length := by rw [← Paired.length ra, ← Paired.length rb]; exact hlen
  have hu1 : X.A.in1.units = X.A.units + 1 := rfl
  exact ne_dictsH (tupleKind_room_in1 (by omega)) ya yb da db (by omega) hl (hitsT I (by omega) rb ra hp) ⟨.bl false, H, I, rfl, q⟩
theorem opr_or {f : Value → Value → Sem Value} {r r' : R2} (h : OpR X f r) (h' : OpR X f r') : OpR X f fun x y H Q => r x y H Q ∨ r' x y H Q := by
  intro pins s σ H x y v u Q I rx ry q
  rcases q with q | q
  · exact h pins s σ H x y v u Q I rx ry q
  · exact h' pins s σ H x y v u Q I rx ry q
end
end MP
end
section
set_option maxRecDepth 100000
set_option maxHeartbeats 4000000
/-! MP: == of tuples with dicts in them. -/
namespace PySem.SeqAt
open AutoSeq1 (wpAny_loadPart')
open MeetsSeq MeetsSeq2 MeetsSeq3 SeqRoads2
section
variable {prog : Program} {w : World}
/-- two tuples of equal items are not unequal -/
theorem mpTupNe (l b : Addr) (xs ys : Array Value) (n n2 : Nat) (dd dd2 : Option Addr) (sl sl2 : Array (Option Value)) (hsz : xs.size = ys.size) :
    MeetsIn prog w (Builtin.«tuple.__ne__» ⟨[.ref l, .ref b], []⟩)
      (fun A R s => s.heap.get? l = some { cls := .type "tuple", dict := dd, data := .seq xs n, slots := sl } ∧ s.heap.get? b = some { cls := .type "tuple", dict := dd2, data := .seq ys n2, slots := sl2 } ∧
        (∀ j (g1 : j < xs.size) (g2 : j < ys.size), EqP prog w A.in1 s xs[j] ys[j] true) ∧ R (.ok (.ret (.bool false))) s) :=
  .of_wp fun A R s h => by
    obtain ⟨hp, g, d, tk, os⟩ := s
    obtain ⟨hl, hb, he, h⟩ := h
    have ft := AutoSeq1.sub_tuple_tuple
    have hz0 : (xs.toList.zip ys.toList).length = xs.size := by simp [hsz]
    wp_walk using wpAny_loadPart' hl, wpAny_loadPart' hb, wpAny_forIn_list _ (fun r q s' => q.1 = none ∧ s' = ⟨hp, g, d, tk, os⟩ ∧ ∃ i, r = (xs.toList.zip ys.toList).drop i) _
    case turn =>
      rintro ⟨y, x⟩ r q s' ⟨hq, rfl, i, hz⟩
      have ilt : i < (xs.toList.zip ys.toList).length := by
        refine Nat.lt_of_not_le fun hge => ?_
        rw [List.drop_of_length_le hge] at hz
        cases hz
      have g1 : i < xs.size := hz0 ▸ ilt
      have g2 : i < ys.size := hsz ▸ g1
      rw [List.drop_eq_getElem_cons ilt] at hz
      injection hz with e1 e2
      have ey : y = xs[i] := by simpa using congrArg Prod.fst e1
      have ex : x = ys[i] := by simpa using congrArg Prod.snd e1
      subst ey ex
      refine wpAny_bind (he i g1 g2 _ _ ?_)
      wp_walk
      exact ⟨rfl, rfl, i + 1, e2⟩
    case fin =>
      rintro ⟨q1, q2⟩ s' ⟨hq, rfl, i, hz⟩
      simp only at hq
      subst hq
      wp_walk
      exact ⟨_, rfl, by simpa [Builtin.Tuple.tupleCompareSizes, bne, hsz] using h⟩
    case h =>
      exact ⟨rfl, rfl, 0, rfl⟩
theorem mpNeTuples {A : Around} {s : Shared} {E : Value → Shared → Prop} {l b : Addr} {xs ys : Array Value} {Q : Value → Shared → Prop} (hl : s.heap.IsTuple l xs) (hb : s.heap.IsTuple b ys) (hsz : xs.size = ys.size) (hu : A.units < cLine)
    (he : ∀ j (g1 : j < xs.size) (g2 : j < ys.size), EqP prog w A.in1 s xs[j] ys[j] true) (h : Q (.bool false) s) : wpAny (model prog w) A (richCompare .NotEq (.ref l) (.ref b)) Q E s := by
  obtain ⟨⟨c1, d1, t1, s1⟩, ho, hc, n, hd⟩ := id hl
  obtain ⟨⟨c2, d2, t2, s2⟩, ho2, hc2, n2, hd2⟩ := id hb
  simp only at hc hd hc2 hd2
  subst hc hd hc2 hd2
  exact wpAny_richCompare_same_room (T := "tuple") (op := .NotEq) ⟨_, ho, rfl⟩ ⟨_, ho2, rfl⟩ F.slot_tuple_ne (call_meetsIn F.slot_tuple_ne ⟨_, ho, rfl⟩ F.entry_tuple_ne (F.args_tuple_ne_2 _ _) (mpTupNe l b xs ys n n2 d1 d2 s1 s2 hsz)
    ⟨ho, ho2, he, show Value.bool false ≠ Value.notImplemented ∧ Q (.bool false) s from ⟨(fun z => nomatch z), h⟩⟩) hu
end
end PySem.SeqAt
namespace MP
open PySem PySem.Spec PyProof.Rows L2 PySem.W
/-- equal: data, dicts, tuples of such -/
def SameX (K : Frag) (H : Hp) : Nat → V → V → Prop
  | 0 => fun _ _ => False
  | n + 1 => fun x y => (∃ d e, Dp K H x d ∧ Dp K H y e ∧ SeqAt.shaped d = true ∧ SeqAt.shaped e = true ∧ PyData.eqv d e = true) ∨ SameT K H x y ∨
      ∃ a b xs ys, x = .ref a ∧ y = .ref b ∧ SqT K H a xs ∧ SqT K H b ys ∧ Paired (SameX K H n) xs ys
section
variable {X : Cx} {pins : List (Addr × Obj)} {σ : L2.St} {H : Hp} {s : Shared}
theorem sameT_rc (I : L2.Inv X pins σ H s) {A : Around} (hu : A.units + 70 < cLine) {x y : V} {v u : Value} (h : SameT X.K H x y) (rx : RelV x v) (ry : RelV y u) (E Q : Value → Shared → Prop) (q : Q (.bool true) s) :
    wpAny (model X.prog X.w) A (richCompare .Eq v u) Q E s := by
  obtain ⟨a, b, ks, ls, rfl, rfl, ea, eb, hlen, hp⟩ := h
  obtain rfl : v = Value.ref a := rx
  obtain rfl : u = Value.ref b := ry
  obtain ⟨_, ya, xs, ra, da⟩ := dt_rd I.hok ea
  obtain ⟨_, yb, ys, rb, db⟩ := dt_rd I.hok eb
  have hl : xs.length = ys.length := by rw [← Paired.length ra, ← Paired.length rb]; exact hlen
  have hu1 : A.in1.units = A.units + 1 := rfl
  exact eq_dictsH (tupleKind_room_in1 (by omega)) ya yb da db (by omega) hl (hitsT I (by omega) rb ra hp) q
theorem same_eqP (I : L2.Inv X pins σ H s) : ∀ (n : Nat) (A : Around), A.units + 70 + n < cLine → ∀ (x y : V) (v u : Value), SameX X.K H n x y → RelV x v → RelV y u → SeqAt.EqP X.prog X.w A s v u true
  | 0, _, _, _, _, _, _, h, _, _ => (show False from h).elim
  | n + 1, A, hu, x, y, v, u, h, rx, ry => by
    have refs : ∀ {a b : Addr}, x = .ref a → y = .ref b → (∀ (E Q : Value → Shared → Prop), Q (.bool true) s → wpAny (model X.prog X.w) A (richCompare .Eq v u) Q E s) → SeqAt.EqP X.prog X.w A s v u true := fun {a b} e1 e2 hh => by
      subst e1 e2
      cases (show v = Value.ref a from rx)
      cases (show u = Value.ref b from ry)
      by_cases e : a = b
      · subst e
        exact (SeqAt.EqAt.same _).eqP
      · exact SeqAt.eqP_refs e hh
    rcases h with ⟨d, e, h1, h2, h3, h4, h5⟩ | h | h
    · obtain ⟨as, r1⟩ := Dp.reads I d _ _ h1 rx
      obtain ⟨bs, r2⟩ := Dp.reads I e _ _ h2 ry
      have := SeqAt.eqAt_reads d e A s v u as bs r1 r2 (SeqAt.canLay_of_shaped h3) (SeqAt.canLay_of_shaped h4) (SeqAt.room_of_shaped h3 (by omega))
      rw [h5] at this
      exact this.eqP
    · obtain ⟨a, b, _, _, e1, e2, _⟩ := id h
      exact refs e1 e2 fun E Q q => sameT_rc I (by omega) h rx ry E Q q
    · obtain ⟨a, b, xs, ys, e1, e2, ha, hb, hp⟩ := h
      refine refs e1 e2 fun E Q q => ?_
      subst e1 e2
      cases (show v = Value.ref a from rx)
      cases (show u = Value.ref b from ry)
      obtain ⟨us, r1, p1, _⟩ := I.tuple ha
      obtain ⟨ws, r2, p2, _⟩ := I.tuple hb
      have hsz : us.toArray.size = ws.toArray.size := by
        rw [List.size_toArray, List.size_toArray, ← r1.length, ← r2.length]
        exact Paired.length hp
      refine SeqAt.rcIn_tuples (e := fun _ => true) p1 p2 (by omega) (fun j g1 g2 => ?_) ?_
      · have k := items_run (same_eqP I n A.in1 (by show A.units + 1 + 70 + n < cLine; omega)) hp r1 r2 j (by simpa using g1) (by simpa using g2)
        have k' : SeqAt.EqP X.prog X.w A.in1 s us.toArray[j] ws.toArray[j] true := by simpa using k
        exact k'
      · rw [hsz, show (ws.toArray.size == ws.toArray.size) = true from beq_self_eq_true _, Bool.and_true, show ((List.range (min ws.toArray.size ws.toArray.size)).all fun _ => true) = true from List.all_eq_true.mpr fun _ _ => rfl]
        exact q
end
section
variable {X : Cx}
/-- two tuples, their items equal -/
def SameU (K : Frag) (H : Hp) (x y : V) : Prop := ∃ a b xs ys, x = .ref a ∧ y = .ref b ∧ SqT K H a xs ∧ SqT K H b ys ∧ Paired (SameX K H 8) xs ys
def rEqU (K : Frag) : R2 := fun x y H Q => SameU K H x y ∧ Q (.bl true) H
def rNeU (K : Frag) : R2 := fun x y H Q => SameU K H x y ∧ Q (.bl false) H
theorem op_eqU (hu : X.A.units + 85 < cLine) : OpR X (compareOp .Eq) (rEqU X.K) := by
  intro pins s σ H x y v u Q I rx ry h
  obtain ⟨⟨a, b, xs, ys, rfl, rfl, ha, hb, hp⟩, q⟩ := h
  cases (show v = Value.ref a from rx)
  cases (show u = Value.ref b from ry)
  obtain ⟨us, r1, p1, _⟩ := I.tuple ha
  obtain ⟨ws, r2, p2, _⟩ := I.tuple hb
  have hsz : us.toArray.size = ws.toArray.size := by
    rw [List.size_toArray, List.size_toArray, ← r1.length, ← r2.length]
    exact Paired.length hp
  refine SeqAt.rcIn_tuples (e := fun _ => true) p1 p2 (by omega) (fun j g1 g2 => ?_) ?_
  · have k := items_run (same_eqP I 8 X.A.in1 (by show X.A.units + 1 + 70 + 8 < cLine; omega)) hp r1 r2 j (by simpa using g1) (by simpa using g2)
    have k' : SeqAt.EqP X.prog X.w X.A.in1 s us.toArray[j] ws.toArray[j] true := by simpa using k
    exact k'
  · rw [hsz, show (ws.toArray.size == ws.toArray.size) = true from beq_self_eq_true _, Bool.and_true, show ((List.range (min ws.toArray.size ws.toArray.size)).all fun _ => true) = true from List.all_eq_true.mpr fun _ _ => rfl]
    exact ⟨.bl true, H, I, rfl, q⟩
theorem op_neU (hu : X.A.units + 85 < cLine) : OpR X (compareOp .NotEq) (rNeU X.K) := by
  intro pins s σ H x y v u Q I rx ry h
  obtain ⟨⟨a, b, xs, ys, rfl, rfl, ha, hb, hp⟩, q⟩ := h
  cases (show v = Value.ref a from rx)
  cases (show u = Value.ref b from ry)
  obtain ⟨us, r1, p1, _⟩ := I.tuple ha
  obtain ⟨ws, r2, p2, _⟩ := I.tuple hb
  have hsz : us.toArray.size = ws.toArray.size := by
    rw [List.size_toArray, List.size_toArray, ← r1.length, ← r2.length]
    exact Paired.length hp
  refine SeqAt.mpNeTuples p1 p2 hsz (by omega) (fun j g1 g2 => ?_) ⟨.bl false, H, I, rfl, q⟩
  have k := items_run (same_eqP I 8 X.A.in1 (by show X.A.units + 1 + 70 + 8 < cLine; omega)) hp r1 r2 j (by simpa using g1) (by simpa using g2)
  simpa using k
end
end MP
end
section
set_option maxRecDepth 100000
set_option maxHeartbeats 4000000
/-! MP: operations over the hand layer's rules. -/
namespace MP
open PySem PySem.Spec PyProof.Rows L2

theorem OpR.or' {X : Cx} {f : Value → Value → Sem Value} {r r' : R2} (h : OpR X f r) (h' : OpR X f r') : OpR X f (fun x y H Q => r x y H Q ∨ r' x y H Q) := fun pins s σ H x y v u Q I rx ry q =>
  q.elim (h pins s σ H x y v u Q I rx ry) (h' pins s σ H x y v u Q I rx ry)
section
variable {X : Cx}
/-- two lists, read -/
def rCatR : R2 := fun x y H Q => ∃ l b xs zs, x = .ref l ∧ y = .ref b ∧ Rd H l (.lst xs) ∧ Rd H b (.lst zs) ∧ xs.length + zs.length ≤ sizeLine ∧ ∀ p, H p = none → Q (.ref p) (upd H p (.lst (xs ++ zs)))
theorem op_catR : OpR X (binaryOp .Add) rCatR := by
  intro pins s σ H x y v u Q I rx ry h
  obtain ⟨l, b, xs, zs, rfl, rfl, hH, hB, hz, q⟩ := h
  cases rx
  cases ry
  obtain ⟨z, its, n, r, e⟩ := (show ObjOk X.prog X.w H s.heap l (.lst xs) from hH.ok I.hok)
  obtain ⟨z2, its2, n2, r2, e2⟩ := (show ObjOk X.prog X.w H s.heap b (.lst zs) from hB.ok I.hok)
  have hl := r.length
  have hl2 := r2.length
  refine PySem.P.add_list e e2 ?_ (by rw [List.size_toArray, List.size_toArray]; omega)
  have ea : its.toArray ++ its2.toArray = (its ++ its2).toArray := by simp
  rw [ea]
  exact ⟨.ref _, _, I.lnew (t' := s.toks) (r.append r2) (by rw [List.length_append]; omega), rfl, q _ I.fresh⟩
/-- a text times a number -/
def rMulS : R2 := fun x y H Q => ∃ (z : Str) (n : Int), x = .str z ∧ y = .int n ∧ 0 ≤ n ∧ n < 1000000 ∧ z.length * n.toNat ≤ 16777216 ∧ Q (.str ⟨(List.replicate n.toNat z.cps.toList).flatten.toArray⟩) H
theorem foldl_app : ∀ (n : Nat) (a b : Array Nat), ((List.replicate n a).foldl (· ++ ·) b).toList = b.toList ++ (List.replicate n a.toList).flatten
  | 0, a, b => by simp
  | n + 1, a, b => by
    rw [List.replicate_succ, List.foldl_cons, foldl_app n a (b ++ a), List.replicate_succ, List.flatten_cons, Array.toList_append, List.append_assoc]
theorem op_mulS : OpR X (binaryOp .Mult) rMulS := by
  intro pins s σ H x y v u Q I rx ry h
  obtain ⟨z, n, rfl, rfl, h0, h1, hz, q⟩ := h
  obtain ⟨t, rfl⟩ := rx
  obtain ⟨t', rfl⟩ := ry
  have hl : Builtin.Str.tooLong (z.length * n.toNat) = false := by
    unfold Builtin.Str.tooLong
    exact decide_eq_false (by have : (sizeLine : Nat) = 16777216 := by decide
                              omega)
  refine PySem.P.mul_str (by rw [decide_eq_false (by omega), decide_eq_false (by omega)]; rfl) (fun h2 h3 => ?_) (fun _ _ => hl) ?_
  · have h5 : (z.length : Int) ≤ 16777216 := by
      have h6 : 1 ≤ n.toNat := by omega
      have h7 : z.length * 1 ≤ z.length * n.toNat := Nat.mul_le_mul_left _ h6
      omega
    have h8 : (16777216 : Int) ≤ (2 ^ 63 - 1) / n := by
      rw [Int.le_ediv_iff_mul_le (by omega)]
      have : (16777216 : Int) * n ≤ 16777216 * 1000000 := Int.mul_le_mul_of_nonneg_left (by omega) (by omega)
      omega
    omega
  · have fin : ∀ (y : Str) (t : Tok) (s' : Shared), y = ⟨(List.replicate n.toNat z.cps.toList).flatten.toArray⟩ → Inv X pins σ H s' → EP X pins σ Q (.str y t) s' := fun y t s' e I' => by subst e; exact ⟨.str _, H, I', ⟨t, rfl⟩, q⟩
    by_cases c1 : n < 1
    · rw [if_pos c1]
      refine ⟨by decide, fin _ _ _ ?_ (I.tok _)⟩
      have : n.toNat = 0 := by omega
      rw [this]
      rfl
    · rw [if_neg c1]
      by_cases c2 : (n == 1 || z.length == 0) = true
      · rw [if_pos c2]
        refine fin _ _ _ ?_ I
        rw [Bool.or_eq_true] at c2
        rcases c2 with c2 | c2
        · have : n = 1 := by simpa using c2
          subst this
          obtain ⟨c⟩ := z
          simp
        · have : z.length = 0 := by simpa using c2
          obtain ⟨c⟩ := z
          have hc : c = #[] := Array.eq_empty_of_size_eq_zero this
          subst hc
          simp
      · rw [if_neg c2]
        refine ⟨?_, fin _ _ _ ?_ (I.tok _)⟩
        · show (List.foldl (· ++ ·) #[] (List.replicate n.toNat z.cps)).size ≤ sizeLine
          rw [← Array.length_toList, foldl_app]
          simp only [List.nil_append, List.length_flatten, List.map_replicate, List.sum_replicate_nat, Array.length_toList, List.length_append, List.length_nil, Nat.zero_add]
          have e : z.length = z.cps.size := rfl
          have : (sizeLine : Nat) = 16777216 := by decide
          rw [e, Nat.mul_comm] at hz
          omega
        · congr 1
          apply Array.ext'
          rw [foldl_app]
          simp
end
/-! ### what an operator asks of data -/
def OpOk (K : PySem.W.Frag) (o : Op) (r : R2) : Prop := ∀ {ex : Addr → Prop} {H : Hp} {ρ : List Addr} {st : Store} {d1 d2 : D} {v1 v2 : V} {X : Ex → Hp → List Addr → Store → Prop} {Q : VK},
  Mem K ex H ρ st → Rep K ex H ρ d1 v1 → Rep K ex H ρ d2 v2 → PostV K ex H ρ (opF o d1 d2 st) X Q → r v1 v2 H Q
section
variable {K : PySem.W.Frag} {ex : Addr → Prop} {H : Hp} {ρ : List Addr} {st : Store} {X : Ex → Hp → List Addr → Store → Prop} {Q : VK}
/-- an end that is a scalar -/
theorem PostV.here {d : D} {v : V} (h : PostV K ex H ρ (.ok d st) X Q) (M : Mem K ex H ρ st) (r : Rep K ex H ρ d v) : Q v H := h v H ρ (Ext.refl _ _) M r
/-- a new list -/
theorem PostV.newL {m : Bool} {xs : List D} {vs : List V} (M : Mem K ex H ρ st) (r : Reps K ex H ρ xs vs) (h : PostV K ex H ρ (mkL m xs st) X Q) (p : Addr) (hp : H p = none) : Q (.ref p) (upd H p (.lst vs)) := by
  unfold mkL at h
  cases m with
  | true =>
    simp only [if_true] at h
    have e : Ext ρ H (ρ ++ [p]) (upd H p (.lst vs)) := Ext.cell hp
    refine h (.ref p) _ (ρ ++ [p]) e (M.push hp ⟨vs, upd_same, r.ext e⟩) ⟨p, ?_, rfl⟩
    rw [← M.len, List.getElem?_append_right (Nat.le_refl _), Nat.sub_self]
    rfl
  | false =>
    simp only [Bool.false_eq_true, if_false] at h
    have e : Ext ρ H ρ (upd H p (.lst vs)) := Ext.laid hp
    exact h (.ref p) _ ρ e (M.laid hp) ⟨p, vs, rfl, .inl upd_same, (M.fresh hp).1, (M.fresh hp).2, r.ext e⟩
theorem PostV.newD {m : Bool} {xs : List (Pl × D)} {vs : List (List Key × V)} (M : Mem K ex H ρ st) (r : RepE K ex H ρ xs vs) (h : PostV K ex H ρ (mkD m xs st) X Q) (p : Addr) (hp : H p = none) : Q (.ref p) (upd H p (.dT vs)) := by
  unfold mkD at h
  cases m with
  | true =>
    simp only [if_true] at h
    have e : Ext ρ H (ρ ++ [p]) (upd H p (.dT vs)) := Ext.cell hp
    refine h (.ref p) _ (ρ ++ [p]) e (M.push hp ⟨vs, upd_same, r.ext e⟩) ⟨p, ?_, rfl⟩
    rw [← M.len, List.getElem?_append_right (Nat.le_refl _), Nat.sub_self]
    rfl
  | false =>
    simp only [Bool.false_eq_true, if_false] at h
    have e : Ext ρ H ρ (upd H p (.dT vs)) := Ext.laid hp
    exact h (.ref p) _ ρ e (M.laid hp) ⟨p, vs, rfl, .inl upd_same, (M.fresh hp).1, (M.fresh hp).2, r.ext e⟩
/-- a list that may be joined -/
theorem rep_lstR (M : Mem K ex H ρ st) {d : D} {v : V} {xs : List D} (hs : ∀ ns, d ≠ .scr ns) (r : Rep K ex H ρ d v) (h : lstOf st d = some xs) : ∃ a vs, v = .ref a ∧ Rd H a (.lst vs) ∧ Reps K ex H ρ xs vs := by
  unfold lstOf at h
  split at h
  · cases h
    obtain ⟨a, vs, rfl, t, _, _, rs⟩ := r
    exact ⟨a, vs, rfl, t, rs⟩
  · rename_i ns
    exact absurd rfl (hs ns)
  · obtain ⟨a, ha, rfl⟩ := r
    split at h
    · rename_i hs
      cases h
      obtain ⟨b, vs, h1, h2, h3⟩ := M.lst hs
      rw [ha] at h1
      cases h1
      exact ⟨a, vs, rfl, .inl h2, h3⟩
    · rename_i hs
      cases h
      obtain ⟨b, h1, o, vs, h2, h3⟩ := M.at hs
      rw [ha] at h1
      cases h1
      exact ⟨a, vs, rfl, .inr ⟨o, h2⟩, h3⟩
    · cases h
  · cases h
theorem strOf_app (s t : Tx) : strOf (s ++ t) = strOf s ++ strOf t := by
  show (⟨(s ++ t).toArray⟩ : Str) = ⟨s.toArray ++ t.toArray⟩
  rw [List.append_toArray]
theorem strOf_len (s : Tx) : (strOf s).length = s.length := List.size_toArray
theorem strOf_cps (s : Tx) : (strOf s).cps.toList = s := rfl
theorem txOk_app {s t : Tx} (h : txOk s) (g : txOk t) : txOk (s ++ t) := fun c m => (List.mem_append.mp m).elim (h c) (g c)
theorem lim_eq : (sizeLine : Nat) = lim := by decide
abbrev rAddM : R2 := fun x y H Q => rI0 (fun i j => .int (i + j)) x y H Q ∨ (∃ i j, x = .str i ∧ y = .str j ∧ i.length + j.length ≤ sizeLine ∧ Q (.str (i ++ j)) H) ∨ rCatR x y H Q
theorem op_addM {X : Cx} : OpR X (binaryOp .Add) rAddM := OpR.or' op_add (OpR.or' op_add_str op_catR)
theorem ok_add (m : Bool) : OpOk K (.add m) rAddM := by
  intro ex H ρ st d1 d2 v1 v2 X Q M r1 r2 h
  unfold opF at h
  simp only at h
  split at h
  · cases r1
    cases r2
    exact .inl ⟨_, _, rfl, rfl, h.here M rfl⟩
  · obtain ⟨rfl, o1⟩ := r1
    obtain ⟨rfl, o2⟩ := r2
    split at h
    · rename_i hl
      refine .inr (.inl ⟨_, _, rfl, rfl, by rw [strOf_len, strOf_len, lim_eq]; exact hl, ?_⟩)
      rw [← strOf_app]
      exact h.here M ⟨rfl, txOk_app o1 o2⟩
    · exact h.elim
  · split at h
    · rename_i xs ys h1 h2
      split at h
      · exact h.elim
      · exact h.elim
      · rename_i n1 n2
        split at h
        · rename_i hl
          obtain ⟨a, vs, rfl, ra, rs⟩ := rep_lstR M (fun ns e => n1 ns e) r1 h1
          obtain ⟨b, ws, rfl, rb, rt⟩ := rep_lstR M (fun ns e => n2 ns e) r2 h2
          refine .inr (.inr ⟨a, b, vs, ws, rfl, rfl, ra, rb, by rw [← rs.length, ← rt.length, lim_eq]; exact hl, fun p hp => ?_⟩)
          exact h.newL M (rs.append rt) p hp
        · exact h.elim
    · exact h.elim
theorem ok_sub : OpOk K .sub (rI0 fun i j => .int (i - j)) := by
  intro ex H ρ st d1 d2 v1 v2 X Q M r1 r2 h
  unfold opF at h
  simp only at h
  split at h
  · cases r1
    cases r2
    exact ⟨_, _, rfl, rfl, h.here M rfl⟩
  · exact h.elim
abbrev rMulM : R2 := fun x y H Q => rI CMulW (fun i j => .int (i * j)) x y H Q ∨ rI CMul (fun i j => .int (i * j)) x y H Q ∨ rMulS x y H Q
theorem op_mulM {X : Cx} : OpR X (binaryOp .Mult) rMulM := OpR.or' op_mulW (OpR.or' op_mul op_mulS)
theorem txOk_rep {s : Tx} (h : txOk s) (n : Nat) : txOk (List.replicate n s).flatten := fun c m => by
  obtain ⟨l, hl, hc⟩ := List.mem_flatten.mp m
  rw [List.eq_of_mem_replicate hl] at hc
  exact h c hc
theorem ok_mul : OpOk K .mul rMulM := by
  intro ex H ρ st d1 d2 v1 v2 X Q M r1 r2 h
  unfold opF at h
  simp only at h
  split at h
  · cases r1
    cases r2
    split at h
    · rename_i hc
      exact .inl ⟨_, _, rfl, rfl, hc, h.here M rfl⟩
    · split at h
      · rename_i hc
        exact .inr (.inl ⟨_, _, rfl, rfl, .inr (by constructor <;> omega), h.here M rfl⟩)
      · split at h
        · rename_i hc
          exact .inr (.inl ⟨_, _, rfl, rfl, .inl (by constructor <;> omega), h.here M rfl⟩)
        · exact h.elim
  · obtain ⟨rfl, o1⟩ := r1
    cases r2
    split at h
    · rename_i hc
      refine .inr (.inr ⟨_, _, rfl, rfl, hc.1, hc.2.1, by rw [strOf_len]; exact hc.2.2, ?_⟩)
      exact h.here M ⟨rfl, txOk_rep o1 _⟩
    · exact h.elim
  · exact h.elim
def CDivM (_ j : Int) : Prop := j ≠ 0 ∧ j.natAbs.log2 < 9000
theorem op_fdivM {X : Cx} : OpR X (binaryOp .FloorDiv) (rI CDivM fun i j => .int (i.fdiv j)) := opI fun _ _ _ _ _ _ _ hc q => floordiv_int hc.1 q (.inl (PyProof.noPylong_of_log2 hc.2))
theorem ok_fdiv : OpOk K .fdiv (rI CDivM fun i j => .int (i.fdiv j)) := by
  intro ex H ρ st d1 d2 v1 v2 X Q M r1 r2 h
  unfold opF at h
  simp only at h
  split at h
  · cases r1
    cases r2
    split at h
    · rename_i hc
      exact ⟨_, _, rfl, rfl, hc, h.here M rfl⟩
    · exact h.elim
  · exact h.elim
theorem ok_mod : OpOk K .mod (rI (fun _ j => 0 < j) fun i j => .int (i % j)) := by
  intro ex H ρ st d1 d2 v1 v2 X Q M r1 r2 h
  unfold opF at h
  simp only at h
  split at h
  · cases r1
    cases r2
    split at h
    · rename_i hc
      exact ⟨_, _, rfl, rfl, hc, h.here M rfl⟩
    · exact h.elim
  · exact h.elim
theorem ok_pow : OpOk K .pow (rI CPow fun i j => .int (i ^ j.toNat)) := by
  intro ex H ρ st d1 d2 v1 v2 X Q M r1 r2 h
  unfold opF at h
  simp only at h
  split at h
  · cases r1
    cases r2
    split at h
    · rename_i hc
      exact ⟨_, _, rfl, rfl, hc, h.here M rfl⟩
    · exact h.elim
  · exact h.elim
theorem ok_le : OpOk K .le (rI0 fun i j => .bl (decide (i ≤ j))) := by
  intro ex H ρ st d1 d2 v1 v2 X Q M r1 r2 h
  unfold opF at h
  simp only at h
  split at h
  · cases r1
    cases r2
    exact ⟨_, _, rfl, rfl, h.here M rfl⟩
  · exact h.elim
theorem ok_gt : OpOk K .gt (rI0 fun i j => .bl (decide (j < i))) := by
  intro ex H ρ st d1 d2 v1 v2 X Q M r1 r2 h
  unfold opF at h
  simp only at h
  split at h
  · cases r1
    cases r2
    exact ⟨_, _, rfl, rfl, h.here M rfl⟩
  · exact h.elim
theorem ok_ge : OpOk K .ge (rI0 fun i j => .bl (decide (j ≤ i))) := by
  intro ex H ρ st d1 d2 v1 v2 X Q M r1 r2 h
  unfold opF at h
  simp only at h
  split at h
  · cases r1
    cases r2
    exact ⟨_, _, rfl, rfl, h.here M rfl⟩
  · exact h.elim
/-! ### == -/
theorem scalar_cmp {d : D} (h : scalar d = true) : cmpD d = true ∧ dep d = 0 := by
  cases d <;> simp_all [scalar, cmpD, dep]
theorem RepE.memV {p : List Key × V} : ∀ {es : List (Pl × D)} {kvs : List (List Key × V)}, RepE K ex H ρ es kvs → p ∈ kvs → ∃ e ∈ es, p.1 = kP e.1 ∧ Rep K ex H ρ e.2 p.2
  | [], _, h, m => by cases h; simp at m
  | (k, d) :: es, kvs, ⟨v, r, e, h1, h2⟩, m => by
    subst e
    rcases List.mem_cons.mp m with rfl | m
    · exact ⟨(k, d), by simp, rfl, h1⟩
    · obtain ⟨e, he, h⟩ := RepE.memV h2 m
      exact ⟨e, by simp [he], h⟩
theorem eqE_same {es fs : List (Pl × D)} {v u : V} (r1 : Rep K ex H ρ (.dct es) v) (r2 : Rep K ex H ρ (.dct fs) u) (he : eqE es fs = true) : SameT K H v u := by
        obtain ⟨a, kvs, rfl, ra, _, _, rs⟩ := r1
        obtain ⟨b, lvs, rfl, rb, _, _, rt⟩ := r2
        unfold eqE at he
        rw [Bool.and_eq_true, decide_eq_true_eq, List.all_eq_true] at he
        refine ⟨a, b, kvs, lvs, rfl, rfl, ra, rb, by rw [← rs.length, ← rt.length]; exact he.1, fun p hp => ?_⟩
        obtain ⟨e, hem, hk, re⟩ := RepE.memV rs hp
        have h2 := he.2 e hem
        rcases rt.val e.1 with ⟨g1, g2⟩ | ⟨x, y2, g1, g2, r⟩
        · rw [g1] at h2; cases h2
        · rw [g1] at h2
          simp only [Bool.and_eq_true, decide_eq_true_eq] at h2
          obtain ⟨⟨⟨⟨c1, c2⟩, d1⟩, d2⟩, q⟩ := h2
          have q1 := rep_dp c1 re
          have q2 := rep_dp c2 r
          exact ⟨y2, by rw [hk]; exact g2, _, _, q1.1, q2.1, shaped_py c1 q1.2 (by omega), shaped_py c2 q2.2 (by omega), by rw [eqv_py _ _ c1 c2]; exact q⟩
mutual
theorem eqU_same : ∀ (n : Nat) {x y : D} {v u : V}, Rep K ex H ρ x v → Rep K ex H ρ y u → eqU n x y = true → SameX K H n v u
  | 0, _, _, _, _, _, _, h => by simp [eqU] at h
  | n + 1, x, y, v, u, r1, r2, h => by
    unfold eqU at h
    rw [Bool.or_eq_true] at h
    rcases h with h | h
    · simp only [Bool.and_eq_true, decide_eq_true_eq] at h
      obtain ⟨⟨⟨⟨c1, c2⟩, d1⟩, d2⟩, q⟩ := h
      have q1 := rep_dp c1 r1
      have q2 := rep_dp c2 r2
      exact .inl ⟨_, _, q1.1, q2.1, shaped_py c1 q1.2 (by omega), shaped_py c2 q2.2 (by omega), by rw [eqv_py _ _ c1 c2]; exact q⟩
    · split at h
      · exact .inr (.inl (eqE_same r1 r2 h))
      · obtain ⟨a, xs', rfl, ta, ra⟩ := r1
        obtain ⟨b, ys', rfl, tb, rb⟩ := r2
        exact .inr (.inr ⟨a, b, xs', ys', rfl, rfl, ta.sq, tb.sq, eqUs_same n ra rb h⟩)
      · cases h
theorem eqUs_same : ∀ (n : Nat) {xs ys : List D} {vs us : List V}, Reps K ex H ρ xs vs → Reps K ex H ρ ys us → eqUs n xs ys = true → Paired (SameX K H n) vs us
  | _, [], [], _, _, r1, r2, _ => by cases r1; cases r2; exact .nil
  | n, x :: xs, y :: ys, _, _, r1, r2, h => by
    obtain ⟨v, vs, rfl, rv, rvs⟩ := r1
    obtain ⟨u, us, rfl, ru, rus⟩ := r2
    rw [eqUs, Bool.and_eq_true] at h
    exact .cons (eqU_same n rv ru h.1) (eqUs_same n rvs rus h.2)
  | _, [], _ :: _, _, _, _, _, h => by simp [eqUs] at h
  | _, _ :: _, [], _, _, _, _, h => by simp [eqUs] at h
end
theorem eqX_same {x y : D} {v u : V} {k : Bool} (r1 : Rep K ex H ρ x v) (r2 : Rep K ex H ρ y u) (h : eqX x y = some k) : (SameT K H v u ∨ SameU K H v u) ∧ k = true := by
  unfold eqX at h
  split at h
  · split at h
    · rename_i he
      cases h
      exact ⟨.inl (eqE_same r1 r2 he), rfl⟩
    · cases h
  · split at h
    · rename_i he
      cases h
      obtain ⟨a, xs', rfl, ta, ra⟩ := r1
      obtain ⟨b, ys', rfl, tb, rb⟩ := r2
      exact ⟨.inr ⟨a, b, xs', ys', rfl, rfl, ta.sq, tb.sq, eqUs_same 8 ra rb he⟩, rfl⟩
    · cases h
  · cases h
theorem eqVal_dp (M : Mem K ex H ρ st) {a b : D} {v u : V} {k : Bool} (r1 : Rep K ex H ρ a v) (r2 : Rep K ex H ρ b u) (h : eqVal st a b = some k) :
    (∃ d e, Dp K H v d ∧ Dp K H u e ∧ SeqAt.shaped d = true ∧ SeqAt.shaped e = true ∧ PyData.eqv d e = k) ∨ ((SameT K H v u ∨ SameU K H v u) ∧ k = true) := by
  unfold eqVal at h
  split at h
  · rename_i hs
    rw [Bool.and_eq_true] at hs
    cases h
    have c1 := scalar_cmp hs.1
    have c2 := scalar_cmp hs.2
    have q1 := rep_dp c1.1 r1
    have q2 := rep_dp c2.1 r2
    exact .inl ⟨_, _, q1.1, q2.1, shaped_py c1.1 q1.2 (by rw [c1.2]; omega), shaped_py c2.1 q2.2 (by rw [c2.2]; omega), eqv_py _ _ c1.1 c2.1⟩
  · split at h
    · rename_i x y h1 h2
      have s1 : Rep K (fun _ => False) H [] x v := Rep.rsv M (fun _ _ q => q) (fun _ _ q => q) h1 r1
      have s2 : Rep K (fun _ => False) H [] y u := Rep.rsv M (fun _ _ q => q) (fun _ _ q => q) h2 r2
      split at h
      · rename_i hc
        simp only [Bool.and_eq_true, decide_eq_true_eq] at hc
        obtain ⟨⟨⟨c1, c2⟩, e1⟩, e2⟩ := hc
        cases h
        have q1 := rep_dp c1 s1
        have q2 := rep_dp c2 s2
        exact .inl ⟨_, _, q1.1, q2.1, shaped_py c1 q1.2 e1, shaped_py c2 q2.2 e2, eqv_py _ _ c1 c2⟩
      · exact .inr (eqX_same s1 s2 h)
    · cases h
theorem ok_eq : OpOk K .eq fun x y H Q => rEqD K x y H Q ∨ rEqT K x y H Q ∨ rEqU K x y H Q := by
  intro ex H ρ st d1 d2 v1 v2 X Q M r1 r2 h
  unfold opF at h
  simp only at h
  cases e : eqVal st d1 d2 with
  | none => rw [e] at h; exact h.elim
  | some k =>
    rw [e] at h
    rcases eqVal_dp M r1 r2 e with ⟨d, f, h1, h2, h3, h4, rfl⟩ | ⟨h1 | h1, rfl⟩
    · exact .inl ⟨d, f, h1, h2, h3, h4, h.here M rfl⟩
    · exact .inr (.inl ⟨h1, h.here M rfl⟩)
    · exact .inr (.inr ⟨h1, h.here M rfl⟩)
theorem ok_ne : OpOk K .ne fun x y H Q => rNeD K x y H Q ∨ rNeT K x y H Q ∨ rNeU K x y H Q := by
  intro ex H ρ st d1 d2 v1 v2 X Q M r1 r2 h
  unfold opF at h
  simp only at h
  cases e : eqVal st d1 d2 with
  | none => rw [e] at h; exact h.elim
  | some k =>
    rw [e] at h
    rcases eqVal_dp M r1 r2 e with ⟨d, f, h1, h2, h3, h4, rfl⟩ | ⟨h1 | h1, rfl⟩
    · exact .inl ⟨d, f, h1, h2, h3, h4, h.here M rfl⟩
    · exact .inr (.inl ⟨h1, h.here M rfl⟩)
    · exact .inr (.inr ⟨h1, h.here M rfl⟩)
end
end MP
end
section
set_option maxRecDepth 100000
set_option maxHeartbeats 4000000
/-! MP: 'in', subscripts, slices, built-ins, methods over the hand layer's rules. -/
namespace MP
open PySem PySem.Spec PyProof.Rows L2
section
variable {K : PySem.W.Frag} {ex : Addr → Prop} {H : Hp} {ρ : List Addr} {st : Store} {X : Ex → Hp → List Addr → Store → Prop} {Q : VK}
theorem rep_flatV {d : D} {v : V} (h : scalar d = true) (r : Rep K ex H ρ d v) : flatV v = true := by
  cases d with
  | non => cases r; rfl
  | bl b => cases r; rfl
  | int i => cases r; rfl
  | str s => obtain ⟨rfl, _⟩ := r; rfl
  | _ => simp [scalar] at h
theorem rep_flatVs : ∀ {ds : List D} {vs : List V}, ds.all scalar = true → Reps K ex H ρ ds vs → vs.all flatV = true
  | [], _, _, h => by cases h; rfl
  | d :: ds, _, c, ⟨v, r, e, h, t⟩ => by
    subst e
    rw [List.all_cons, Bool.and_eq_true] at c
    rw [List.all_cons, rep_flatV c.1 h, rep_flatVs c.2 t]
    rfl
theorem eqV_eqD {d e : D} {v u : V} (h1 : scalar d = true) (h2 : scalar e = true) (r1 : Rep K ex H ρ d v) (r2 : Rep K ex H ρ e u) : eqV v u = eqD d e := by
  cases d <;> cases e <;> simp_all [scalar, Rep, eqV, eqD, strOf_beq]
theorem inV_any {d : D} {v : V} (h1 : scalar d = true) (r1 : Rep K ex H ρ d v) : ∀ {ds : List D} {vs : List V}, ds.all scalar = true → Reps K ex H ρ ds vs → inV v vs = ds.any fun y => eqD y d
  | [], _, _, h => by cases h; rfl
  | d' :: ds, _, c, ⟨u, r, e, h, t⟩ => by
    subst e
    rw [List.all_cons, Bool.and_eq_true] at c
    have ih := inV_any h1 r1 c.2 t
    unfold inV at ih ⊢
    rw [List.any_cons, List.any_cons, ih, eqV_eqD c.1 h1 h r1]
theorem any_py {x : D} (hx : cmpD x = true) : ∀ {ys : List D}, cmpDs ys = true → ((pys ys).any fun z => PyData.eqv z (py x)) = ys.any fun z => eqD z x
  | [], _ => rfl
  | y :: ys, h => by
    have h' : cmpD y = true ∧ cmpDs ys = true := by simpa [cmpDs] using h
    rw [pys, List.any_cons, List.any_cons, any_py hx h'.2, eqv_py y x h'.1 hx]
def rIn0 (K : PySem.W.Frag) : R2 := fun x y H Q => (∃ (c : Nat) (z : Str), x = .str ⟨#[c]⟩ ∧ y = .str z ∧ Q (.bl (decide (c ∈ z.cps.toList))) H) ∨
  (∃ i j, x = .str i ∧ y = .str j ∧ Q (.bl (!(Builtin.Str.occurrences j i 0 j.length 1).isEmpty)) H) ∨ rIn K false x y H Q ∨ rInD K x y H Q
def rNi0 (K : PySem.W.Frag) : R2 := fun x y H Q => (∃ (c : Nat) (z : Str), x = .str ⟨#[c]⟩ ∧ y = .str z ∧ Q (.bl (!decide (c ∈ z.cps.toList))) H) ∨
  (∃ i j, x = .str i ∧ y = .str j ∧ Q (.bl (!(!(Builtin.Str.occurrences j i 0 j.length 1).isEmpty))) H) ∨ rIn K true x y H Q ∨ rNotInD K x y H Q
theorem op_in0 {X : Cx} (hu : X.A.units + 65 < cLine) : OpR X (compareOp .In) (rIn0 X.K) := OpR.or' op_in_sign (OpR.or' op_in_str (OpR.or' op_in_seq (op_inD hu)))
theorem op_ni0 {X : Cx} (hu : X.A.units + 65 < cLine) : OpR X (compareOp .NotIn) (rNi0 X.K) := OpR.or' op_notIn_sign (OpR.or' op_notIn_str (OpR.or' op_notIn_seq (op_notInD hu)))
def rDIn (neg : Bool) : R2 := fun x y H Q => ∃ a o, y = .ref a ∧ DGet H a x o ∧ Q (.bl (if neg then !o.isSome else o.isSome)) H
theorem DGet.of {a : Addr} {kvs : List (List Key × V)} {b : Addr} {p : Pl} (h : Rd H a (.dT kvs)) (hb : H b = some (.tup ((kP p).map kV))) : DGet H a (.ref b) (valV kvs (kP p)) := .inr ⟨kvs, kP p, b, h, rfl, hb, rfl⟩
theorem deps_eq : ∀ {ys : List D}, dep (.lst ys) = deps ys + 1 := fun {ys} => by simp only [dep]
theorem inVal_any (M : Mem K ex H ρ st) {a b : D} {v u : V} {k neg : Bool} {Q : VK} (r1 : Rep K ex H ρ a v) (r2 : Rep K ex H ρ b u) (h : inVal st a b = some k) (q : Q (.bl (if neg then !k else k)) H) :
    (if neg then rNi0 K else rIn0 K) v u H Q ∨ rDIn neg v u H Q := by
  unfold inVal at h
  split at h
  · rename_i t
    obtain ⟨rfl, _⟩ := r2
    refine .inl ?_
    split at h
    · rename_i c
      cases h
      obtain ⟨rfl, _⟩ := r1
      cases neg with
      | true => exact .inl ⟨c, _, rfl, rfl, q⟩
      | false => exact .inl ⟨c, _, rfl, rfl, q⟩
    · rename_i s _
      cases h
      obtain ⟨rfl, _⟩ := r1
      have e : (!(Builtin.Str.occurrences (strOf t) (strOf s) 0 (strOf t).length 1).isEmpty) = isSub s t := by
        unfold isSub
        rw [strOf_len]
        rfl
      cases neg with
      | true => exact .inr (.inl ⟨_, _, rfl, rfl, by rw [e]; exact q⟩)
      | false => exact .inr (.inl ⟨_, _, rfl, rfl, by rw [e]; exact q⟩)
    · cases h
  · split at h
    · rename_i es hd
      split at h
      · rename_i p hp
        cases h
        obtain ⟨d, kvs, rfl, rd, rs⟩ := rep_dct M r2 hd
        obtain ⟨b, rfl, hb⟩ := rep_pl r1 hp
        refine .inr ⟨d, _, rfl, DGet.of rd hb, ?_⟩
        rcases rs.val p with ⟨e1, e2⟩ | ⟨x, y, e1, e2, _⟩
        · rw [e2]; rw [e1] at q; exact q
        · rw [e2]; rw [e1] at q; exact q
      · cases h
    · split at h
      · rename_i xs hx
        split at h
        · rename_i hs
          rw [Bool.and_eq_true] at hs
          cases h
          obtain ⟨p, vs, rfl, hq, rs⟩ := rep_seq M r2 hx
          have e := inV_any hs.1 r1 hs.2 rs
          refine .inl ?_
          cases neg with
          | true => exact .inr (.inr (.inl ⟨p, vs, rfl, hq, rep_flatV hs.1 r1, rep_flatVs hs.2 rs, by rw [e]; exact q⟩))
          | false => exact .inr (.inr (.inl ⟨p, vs, rfl, hq, rep_flatV hs.1 r1, rep_flatVs hs.2 rs, by rw [e]; exact q⟩))
        · split at h
          · rename_i zs x ys h1 h2 h3
            split at h
            · rename_i hc
              simp only [Bool.and_eq_true, decide_eq_true_eq] at hc
              obtain ⟨⟨⟨c1, c2⟩, e1⟩, e2⟩ := hc
              cases h
              have s1 : Rep K (fun _ => False) H [] x v := Rep.rsv M (fun _ _ q => q) (fun _ _ q => q) h2 r1
              have q1 := rep_dp c1 s1
              have ez : zs = xs := by
                cases b <;> simp_all [seqOf, lstOf]
              subst ez
              obtain ⟨p, vs, rfl, hl, rs⟩ := rep_lst M r2 h1
              have s2 : Reps K (fun _ => False) H [] ys vs := Reps.rsv M (fun _ _ q => q) (fun _ _ q => q) h3 rs
              have q2 := rep_dps c2 s2
              have sl : SeqAt.shaped (.list (pys ys)) = true := by
                have := shaped_py (d := .lst ys) (by simpa [cmpD] using c2) (by simp only [py, PyData.canLay0]; exact q2.2) (by rw [deps_eq]; omega)
                simpa [py] using this
              have e := any_py c1 c2
              refine .inl ?_
              cases neg with
              | true => exact .inr (.inr (.inr ⟨_, _, q1.1, .lst hl q2.1, shaped_py c1 q1.2 e1, sl, by rw [e]; exact q⟩))
              | false => exact .inr (.inr (.inr ⟨_, _, q1.1, .lst hl q2.1, shaped_py c1 q1.2 e1, sl, by rw [e]; exact q⟩))
            · cases h
          · cases h
      · cases h
theorem ok_in (M : Mem K ex H ρ st) {a b : D} {v u : V} (r1 : Rep K ex H ρ a v) (r2 : Rep K ex H ρ b u) (h : PostV K ex H ρ (opF .isin a b st) X Q) : rIn0 K v u H Q ∨ rDIn false v u H Q := by
  unfold opF at h
  simp only at h
  cases e : inVal st a b with
  | none => rw [e] at h; exact h.elim
  | some k =>
    rw [e] at h
    have := inVal_any (neg := false) M r1 r2 e (Q := Q) (h.here M rfl)
    simpa using this
theorem ok_notin (M : Mem K ex H ρ st) {a b : D} {v u : V} (r1 : Rep K ex H ρ a v) (r2 : Rep K ex H ρ b u) (h : PostV K ex H ρ (opF .notin a b st) X Q) : rNi0 K v u H Q ∨ rDIn true v u H Q := by
  unfold opF at h
  simp only at h
  cases e : inVal st a b with
  | none => rw [e] at h; exact h.elim
  | some k =>
    rw [e] at h
    have := inVal_any (neg := true) M r1 r2 e (Q := Q) (h.here M rfl)
    simpa using this
/-! ### subscripts -/
theorem atL_map {α β : Type} (f : α → β) (xs : List α) (i : Int) : atL (xs.map f) i = (atL xs i).map f := by
  unfold atL
  rw [List.length_map]
  cases ixN xs.length i with
  | none => rfl
  | some j => simp
theorem reps_at {xs : List D} {vs : List V} {i : Int} {d : D} (r : Reps K ex H ρ xs vs) (h : atL xs i = some d) : ∃ v, atI vs i = some v ∧ Rep K ex H ρ d v := by
  unfold atL at h
  unfold atI
  rw [← r.length]
  cases e : ixN xs.length i with
  | none => rw [e] at h; cases h
  | some j =>
    rw [e] at h
    exact r.get h
def rDIx : R2 := fun x y H Q => ∃ a v, x = .ref a ∧ DGet H a y (some v) ∧ Q v H
theorem txOk_one {s : Tx} (h : txOk s) {j : Int} {c : Nat} (e : atL s j = some c) : txOk [c] := fun x m => by
  rw [List.mem_singleton.mp m]
  unfold atL at e
  cases q : ixN s.length j with
  | none => rw [q] at e; cases e
  | some k => rw [q] at e; exact h c (mem_of_get e)
theorem ok_ix (M : Mem K ex H ρ st) {a i : D} {v u : V} (r1 : Rep K ex H ρ a v) (r2 : Rep K ex H ρ i u) (h : PostV K ex H ρ (prim2F .ix a i st) X Q) : rIx K v u H Q ∨ rDIx v u H Q := by
  unfold prim2F at h
  simp only at h
  split at h
  · rename_i s
    obtain ⟨rfl, o1⟩ := r1
    split at h
    · rename_i j
      cases r2
      split at h
      · rename_i hl
        cases e : atL s j with
        | none => rw [e] at h; exact h.elim
        | some c =>
          rw [e] at h
          exact .inl (.inr (.inr ⟨_, j, c, rfl, rfl, by rw [strOf_len, lim_eq]; exact hl, e, h.here M ⟨rfl, txOk_one o1 e⟩⟩))
      · exact h.elim
    · exact h.elim
  · split at h
    · rename_i es hd
      split at h
      · rename_i p hp
        obtain ⟨d, kvs, rfl, rd, rs⟩ := rep_dct M r1 hd
        obtain ⟨b, rfl, hb⟩ := rep_pl r2 hp
        rcases rs.val p with ⟨e1, e2⟩ | ⟨x, y, e1, e2, r⟩
        · rw [e1] at h; exact h.elim
        · rw [e1] at h
          refine .inr ⟨d, y, rfl, ?_, h.here M r⟩
          rw [← e2]
          exact DGet.of rd hb
      · exact h.elim
    · split at h
      · rename_i xs j hx
        cases r2
        cases e : atL xs j with
        | none => rw [e] at h; exact h.elim
        | some d =>
          rw [e] at h
          obtain ⟨p, vs, rfl, hq, rs⟩ := rep_seq M r1 hx
          obtain ⟨w, hw, rw'⟩ := reps_at rs e
          rcases hq with hq | hq
          · exact .inl (.inl ⟨p, vs, j, w, rfl, rfl, hq, hw, h.here M rw'⟩)
          · exact .inl (.inr (.inl ⟨p, vs, j, w, rfl, rfl, hq, hw, h.here M rw'⟩))
      · exact h.elim
/-! ### slices -/
theorem cutL_map {α β : Type} (f : α → β) (xs : List α) (lo hi : Option Int) : cutL (xs.map f) lo hi = (cutL xs lo hi).map f := by
  unfold cutL
  rw [List.length_map, List.map_take, List.map_drop]
theorem reps_cut {xs : List D} {vs : List V} (r : Reps K ex H ρ xs vs) (lo hi : Option Int) : Reps K ex H ρ (cutL xs lo hi) (cutV vs lo hi) := by
  unfold cutL cutV
  rw [r.length]
  exact (r.drop _).take _
def rSlM (K : PySem.W.Frag) : V → Option Int → Option Int → Hp → VK → Prop := fun x lo hi H Q => rSlS x lo hi H Q ∨ rSlT K x lo hi H Q ∨ rSlL K x lo hi H Q
theorem sl_M {X : Cx} : SlR X (rSlM X.K) := SlR.or sl_str (SlR.or sl_tup sl_list)
theorem txOk_cut {s : Tx} (h : txOk s) (lo hi : Option Int) : txOk (cutL s lo hi) := fun c m => h c (List.mem_of_mem_drop (List.mem_of_mem_take m))
/-- what a part of a slice says -/
def PartV (d : D) (o : Option Int) : Prop := partOf d = some o
theorem ok_slc {m : Bool} (M : Mem K ex H ρ st) {a lo hi : D} {l u : Option Int} {v : V} (r1 : Rep K ex H ρ a v) (hl : partOf lo = some l) (hh : partOf hi = some u) (h : PostV K ex H ρ (slcF m a lo hi st) X Q) : rSlM K v l u H Q := by
  unfold slcF at h
  rw [hl, hh] at h
  simp only at h
  split at h
  · rename_i s
    obtain ⟨rfl, o1⟩ := r1
    split at h
    · rename_i hz
      refine .inl ⟨_, rfl, by rw [strOf_len, lim_eq]; exact hz, ?_⟩
      have e : cutS (strOf s) l u = strOf (cutL s l u) := by
        unfold cutS cutL
        rw [strOf_len]
        rfl
      rw [e]
      exact h.here M ⟨rfl, txOk_cut o1 _ _⟩
    · exact h.elim
  · rename_i xs
    obtain ⟨p, vs, rfl, t, rs⟩ := r1
    split at h
    · exact h.elim
    · rename_i hn
      refine .inr (.inl ⟨p, vs, rfl, t.sq, by rw [← rs.length]; exact hn, fun q hq => ?_⟩)
      have e : Ext ρ H ρ (upd H q (.tup (cutV vs l u))) := Ext.laid hq
      exact h (.ref q) _ ρ e (M.laid hq) ⟨q, _, rfl, .inl upd_same, (reps_cut rs l u).ext e⟩
  · split at h
    · rename_i xs hx
      obtain ⟨p, vs, rfl, hq, rs⟩ := rep_lst M r1 hx
      exact .inr (.inr ⟨p, vs, rfl, hq, fun q hq => h.newL M (reps_cut rs l u) q hq⟩)
    · exact h.elim
end
end MP
end
section
set_option maxRecDepth 100000
set_option maxHeartbeats 4000000
/-! MP: built-ins by their names. -/
namespace MP
open PySem PySem.Spec PyProof.Rows L2
/-! ### isinstance -/
inductive TyM (K : PySem.W.Frag) (H : Hp) : V → String → Prop where
  | non : TyM K H .non "NoneType"
  | bl (b : Bool) : TyM K H (.bl b) "bool"
  | int (i : Int) : TyM K H (.int i) "int"
  | str (s : Str) : TyM K H (.str s) "str"
  | lst {a : Addr} {xs : List V} (h : SqL K H a xs) : TyM K H (.ref a) "list"
  | tup {a : Addr} {xs : List V} (h : SqT K H a xs) : TyM K H (.ref a) "tuple"
  | dct {a : Addr} {kvs : List (List Key × V)} (h : Rd H a (.dT kvs)) : TyM K H (.ref a) "dict"
theorem kit_ofM {X : Cx} {pins : List (Addr × Obj)} {σ : L2.St} {H : Hp} {s : Shared} {x : V} {u : Value} {t : String} (I : Inv X pins σ H s) (rx : RelV x u) (ty : TyM X.K H x t) : ∃ P : Heap → Prop, PySem.W.KitX X.K u (.type t) P ∧ P s.heap ∧ u ≠ .builtin "__main__.__loader__#opaque" := by
  cases ty with
  | non => cases (show u = Value.none from rx); exact ⟨_, PySem.W.kitx_none, True.intro, fun z => nomatch z⟩
  | bl y => cases (show u = Value.bool y from rx); exact ⟨_, PySem.W.kitx_bool, True.intro, fun z => nomatch z⟩
  | int i => obtain ⟨t, q⟩ := (show ∃ t, u = Value.int i t from rx); cases q; exact ⟨_, PySem.W.kitx_int, True.intro, fun z => nomatch z⟩
  | str y => obtain ⟨t, q⟩ := (show ∃ t, u = Value.str y t from rx); cases q; exact ⟨_, PySem.W.kitx_str, True.intro, fun z => nomatch z⟩
  | @lst a xs h =>
    cases (show u = Value.ref a from rx)
    obtain ⟨its, _, ⟨o, n, ho, hc, _⟩, _⟩ := I.list h
    exact ⟨_, PySem.W.kitx_list, ⟨o, ho, hc⟩, fun z => nomatch z⟩
  | @tup a xs h =>
    cases (show u = Value.ref a from rx)
    obtain ⟨its, _, ⟨o, ho, hc, _⟩, _⟩ := I.tuple h
    exact ⟨_, PySem.W.kitx_tuple, ⟨o, ho, hc⟩, fun z => nomatch z⟩
  | @dct a kvs h =>
    cases (show u = Value.ref a from rx)
    obtain ⟨_, _, xs, _, o, es, ep, h1, h2, _⟩ := (show ObjOk X.prog X.w H s.heap a (.dT kvs) from h.ok I.hok)
    exact ⟨_, PySem.W.kitx_dict, ⟨o, h1, h2.1⟩, fun z => nomatch z⟩
def rIsiM (K : PySem.W.Frag) : List V → Hp → VK → Prop := fun xs H Q => ∃ (x : V) (T U : String) (b : Bool), xs = [x, .ty U] ∧ TyM K H x T ∧ kitB T U = some b ∧ Q (.bl b) H
theorem call_isiM {X : Cx} : CallR X (.builtin "isinstance") (rIsiM X.K) := by
  intro pins s σ H xs us Q I r h
  obtain ⟨x, T, U, b, rfl, ty, e, q⟩ := h
  obtain ⟨u1, u2, rfl, r1, r2⟩ := vals2 r
  obtain rfl : u2 = Value.type U := r2
  obtain ⟨P, Z, p, hx⟩ := kit_ofM I r1 ty
  exact PySem.W.kia_one Z I.kIn p (kit_ty e) hx fun tk => ⟨.bl b, H, I.tok tk, rfl, q⟩
def tyName : Ty → String
  | .int => "int"
  | .bool => "bool"
  | .str => "str"
  | .tuple => "tuple"
  | .list => "list"
  | .dict => "dict"
theorem kitB_ty (a b : Ty) : kitB (tyName a) (tyName b) = some (decide (a = b) || (decide (a = .bool) && decide (b = .int))) := by
  cases a <;> cases b <;> decide +kernel
theorem kitB_none (b : Ty) : kitB "NoneType" (tyName b) = some false := by
  cases b <;> decide +kernel
section
variable {K : PySem.W.Frag} {ex : Addr → Prop} {H : Hp} {ρ : List Addr} {st : Store} {X : Ex → Hp → List Addr → Store → Prop} {Q : VK}
theorem rep_ty (M : Mem K ex H ρ st) {d : D} {v : V} {t : Ty} (r : Rep K ex H ρ d v) (h : tyOf st d = some t) : TyM K H v (tyName t) := by
  unfold tyOf at h
  split at h
  · cases h; cases r; exact .bl _
  · cases h; cases r; exact .int _
  · cases h; obtain ⟨rfl, _⟩ := r; exact .str _
  · cases h; obtain ⟨a, vs, rfl, t, _⟩ := r; exact .tup t.sq
  · cases h; obtain ⟨a, vs, rfl, t, _⟩ := r; exact .lst (.inl t)
  · cases h
    obtain ⟨a, rfl, ⟨t, _⟩ | t⟩ := r
    · exact .lst (.inl t)
    · exact .lst (.inr t)
  · cases h; obtain ⟨a, vs, rfl, t, _⟩ := r; exact .dct t
  · rename_i n
    obtain ⟨a, ha, rfl⟩ := r
    split at h
    · rename_i hs; cases h; obtain ⟨b, h1, vs, h2, h3⟩ := M.at hs; rw [ha] at h1; cases h1; exact .lst (.inl (.inl h2))
    · rename_i hs; cases h; obtain ⟨b, h1, o, vs, h2, h3⟩ := M.at hs; rw [ha] at h1; cases h1; exact .lst (.inl (.inr ⟨o, h2⟩))
    · rename_i hs; cases h; obtain ⟨b, h1, vs, h2, h3⟩ := M.at hs; rw [ha] at h1; cases h1; exact .dct (.inl h2)
    · rename_i hs; cases h; obtain ⟨b, h1, o, vs, h2, h3⟩ := M.at hs; rw [ha] at h1; cases h1; exact .dct (.inr ⟨o, h2⟩)
    · cases h
  · cases h
theorem ok_isi {t : Ty} (M : Mem K ex H ρ st) {d : D} {v : V} (r : Rep K ex H ρ d v) (h : PostV K ex H ρ (prim1F (.isi t) d st) X Q) : rIsiM K [v, .ty (tyName t)] H Q := by
  unfold prim1F at h
  simp only at h
  unfold isTy at h
  split at h
  · cases r
    exact ⟨_, _, _, _, rfl, .non, kitB_none t, h.here M rfl⟩
  · split at h
    · rename_i u hu
      exact ⟨_, _, _, _, rfl, rep_ty M r hu, kitB_ty u t, h.here M rfl⟩
    · exact h.elim
/-! ### one argument -/
def P1 (K : PySem.W.Frag) (p : P) (r : List V → Hp → VK → Prop) : Prop := ∀ {ex : Addr → Prop} {H : Hp} {ρ : List Addr} {st : Store} {d : D} {v : V} {X : Ex → Hp → List Addr → Store → Prop} {Q : VK},
  Mem K ex H ρ st → Rep K ex H ρ d v → PostV K ex H ρ (prim1F p d st) X Q → r [v] H Q
def P2 (K : PySem.W.Frag) (p : P) (r : List V → Hp → VK → Prop) : Prop := ∀ {ex : Addr → Prop} {H : Hp} {ρ : List Addr} {st : Store} {d e : D} {v u : V} {X : Ex → Hp → List Addr → Store → Prop} {Q : VK},
  Mem K ex H ρ st → Rep K ex H ρ d v → Rep K ex H ρ e u → PostV K ex H ρ (prim2F p d e st) X Q → r [v, u] H Q
def rLenM (K : PySem.W.Frag) : List V → Hp → VK → Prop := fun xs H Q => (∃ x n, xs = [x] ∧ LenV K x H n ∧ Q (.int n) H) ∨ ∃ (p : Addr) (kvs : List (List Key × V)), xs = [.ref p] ∧ Rd H p (.dT kvs) ∧ Q (.int ((kvs.length : Nat) : Int)) H
theorem call_len_dR {X : Cx} : CallR X (.builtin "len") (fun xs H Q => ∃ (p : Addr) (kvs : List (List Key × V)), xs = [.ref p] ∧ Rd H p (.dT kvs) ∧ Q (.int ((kvs.length : Nat) : Int)) H) := by
  intro pins s σ H xs us Q I r h
  obtain ⟨p, kvs, rfl, hp, q⟩ := h
  obtain ⟨u, rfl, rx⟩ := vals1 r
  obtain rfl : u = .ref p := rx
  obtain ⟨z, hd, ys, rel, dd⟩ := dt_rd I.hok hp
  have hl : kvs.length = ys.length := Paired.length rel
  refine call_len_dictH hd dd (by rw [← hl]; rw [sizeLine_eq] at z; omega) ?_
  rw [← hl]
  exact ⟨.int ((kvs.length : Nat) : Int), H, I.tok _, ⟨_, rfl⟩, q⟩
theorem call_lenM {X : Cx} : CallR X (.builtin "len") (rLenM X.K) := CallR.or call_len call_len_dR
theorem ok_len : P1 K .len (rLenM K) := by
  intro ex H ρ st d v X Q M r h
  unfold prim1F at h
  simp only at h
  split at h
  · rename_i s
    obtain ⟨rfl, _⟩ := r
    split at h
    · rename_i hl
      exact .inl ⟨_, s.length, rfl, ⟨by rw [strOf_len, lim_eq]; exact hl, by rw [strOf_len]⟩, h.here M rfl⟩
    · exact h.elim
  · split at h
    · rename_i es hd
      obtain ⟨a, kvs, rfl, rd, rs⟩ := rep_dct M r hd
      exact .inr ⟨a, kvs, rfl, rd, by rw [← rs.length]; exact h.here M rfl⟩
    · split at h
      · rename_i xs hx
        obtain ⟨a, vs, rfl, hq, rs⟩ := rep_seq M r hx
        exact .inl ⟨_, vs.length, rfl, hq.elim (fun q => .inl ⟨vs, q, rfl⟩) (fun q => .inr ⟨vs, q, rfl⟩), by rw [← rs.length]; exact h.here M rfl⟩
      · exact h.elim
theorem ok_max2 : P2 K .max2 (fun xs H Q => ∃ i j, xs = [.int i, .int j] ∧ Q (.int (if j > i then j else i)) H) := by
  intro ex H ρ st d e v u X Q M r1 r2 h
  unfold prim2F at h
  simp only at h
  split at h
  · cases r1; cases r2
    exact ⟨_, _, rfl, h.here M rfl⟩
  · exact h.elim
theorem ok_min2 : P2 K .min2 (fun xs H Q => ∃ i j, xs = [.int i, .int j] ∧ Q (.int (if j < i then j else i)) H) := by
  intro ex H ρ st d e v u X Q M r1 r2 h
  unfold prim2F at h
  simp only at h
  split at h
  · cases r1; cases r2
    exact ⟨_, _, rfl, h.here M rfl⟩
  · exact h.elim
/-- lists of ints, bools, texts, pairs -/
theorem intsOf_eq : ∀ {xs : List D} {ns : List Int}, intsOf xs = some ns → xs = ns.map .int
  | [], _, h => by cases h; rfl
  | .int i :: xs, _, h => by
    obtain ⟨ms, h1, rfl⟩ := Option.map_eq_some_iff.mp (show (intsOf xs).map (i :: ·) = some _ from h)
    rw [intsOf_eq h1]; rfl
  | .non :: _, _, h => by cases h
  | .bl _ :: _, _, h => by cases h
  | .str _ :: _, _, h => by cases h
  | .tup _ :: _, _, h => by cases h
  | .lst _ :: _, _, h => by cases h
  | .dct _ :: _, _, h => by cases h
  | .scr _ :: _, _, h => by cases h
  | .ref _ :: _, _, h => by cases h
theorem blsOf_eq : ∀ {xs : List D} {ns : List Bool}, blsOf xs = some ns → xs = ns.map .bl
  | [], _, h => by cases h; rfl
  | .bl i :: xs, _, h => by
    obtain ⟨ms, h1, rfl⟩ := Option.map_eq_some_iff.mp (show (blsOf xs).map (i :: ·) = some _ from h)
    rw [blsOf_eq h1]; rfl
  | .non :: _, _, h => by cases h
  | .int _ :: _, _, h => by cases h
  | .str _ :: _, _, h => by cases h
  | .tup _ :: _, _, h => by cases h
  | .lst _ :: _, _, h => by cases h
  | .dct _ :: _, _, h => by cases h
  | .scr _ :: _, _, h => by cases h
  | .ref _ :: _, _, h => by cases h
theorem txsOf_eq : ∀ {xs : List D} {ns : List Tx}, txsOf xs = some ns → xs = ns.map .str
  | [], _, h => by cases h; rfl
  | .str i :: xs, _, h => by
    obtain ⟨ms, h1, rfl⟩ := Option.map_eq_some_iff.mp (show (txsOf xs).map (i :: ·) = some _ from h)
    rw [txsOf_eq h1]; rfl
  | .non :: _, _, h => by cases h
  | .int _ :: _, _, h => by cases h
  | .bl _ :: _, _, h => by cases h
  | .tup _ :: _, _, h => by cases h
  | .lst _ :: _, _, h => by cases h
  | .dct _ :: _, _, h => by cases h
  | .scr _ :: _, _, h => by cases h
  | .ref _ :: _, _, h => by cases h
theorem plsOf_eq : ∀ {xs : List D} {ns : List Pl}, plsOf xs = some ns → xs = ns.map plD
  | [], _, h => by cases h; rfl
  | x :: xs, _, h => by
    rw [plsOf] at h
    split at h
    · rename_i p ps h1 h2
      cases h
      rw [plsOf_eq h2, plOf_eq h1]; rfl
    · cases h
theorem reps_ints : ∀ {ns : List Int} {vs : List V}, Reps K ex H ρ (ns.map .int) vs → vs = ns.map V.int
  | [], _, h => h
  | n :: ns, _, ⟨v, r, e, h, t⟩ => by subst e; cases h; rw [reps_ints t]; rfl
theorem reps_bls : ∀ {ns : List Bool} {vs : List V}, Reps K ex H ρ (ns.map .bl) vs → vs = ns.map V.bl
  | [], _, h => h
  | n :: ns, _, ⟨v, r, e, h, t⟩ => by subst e; cases h; rw [reps_bls t]; rfl
theorem reps_txs : ∀ {ns : List Tx} {vs : List V}, Reps K ex H ρ (ns.map .str) vs → vs = (ns.map strOf).map V.str ∧ ∀ t ∈ ns, txOk t
  | [], _, h => ⟨h, by simp⟩
  | n :: ns, _, ⟨v, r, e, h, t⟩ => by
    subst e
    obtain ⟨rfl, o⟩ := h
    obtain ⟨rfl, os⟩ := reps_txs t
    exact ⟨rfl, fun t m => by
      rcases List.mem_cons.mp m with rfl | m
      · exact o
      · exact os t m⟩
theorem mxL_spec {ns : List Int} {m : Int} (h1 : m ∈ ns) (h2 : ∀ y ∈ ns, y ≤ m) : mxL ns = some m := by
  cases ns with
  | nil => cases h1
  | cons x xs =>
    have key : ∀ (l : List Int) (a : Int), (l.foldl (fun a b => if b > a then b else a) a = a ∨ l.foldl (fun a b => if b > a then b else a) a ∈ l) ∧ a ≤ l.foldl (fun a b => if b > a then b else a) a ∧ ∀ y ∈ l, y ≤ l.foldl (fun a b => if b > a then b else a) a := by
      intro l
      induction l with
      | nil => intro a; simp
      | cons b l ih =>
        intro a
        obtain ⟨k1, k2, k3⟩ := ih (if b > a then b else a)
        simp only [List.foldl_cons]
        refine ⟨?_, ?_, fun y hy => ?_⟩
        · rcases k1 with k1 | k1
          · rw [k1]; split
            · exact .inr (by simp)
            · exact .inl rfl
          · exact .inr (List.mem_cons_of_mem _ k1)
        · refine Int.le_trans ?_ k2; split <;> omega
        · rcases List.mem_cons.mp hy with rfl | hy
          · refine Int.le_trans ?_ k2; split <;> omega
          · exact k3 y hy
    obtain ⟨k1, k2, k3⟩ := key xs x
    show some _ = some m
    congr 1
    apply Int.le_antisymm
    · rcases k1 with k1 | k1
      · rw [k1]; exact h2 x (by simp)
      · exact h2 _ (List.mem_cons_of_mem _ k1)
    · rcases List.mem_cons.mp h1 with rfl | h1
      · exact k2
      · exact k3 m h1
theorem mnL_spec {ns : List Int} {m : Int} (h1 : m ∈ ns) (h2 : ∀ y ∈ ns, m ≤ y) : mnL ns = some m := by
  cases ns with
  | nil => cases h1
  | cons x xs =>
    have key : ∀ (l : List Int) (a : Int), (l.foldl (fun a b => if b < a then b else a) a = a ∨ l.foldl (fun a b => if b < a then b else a) a ∈ l) ∧ l.foldl (fun a b => if b < a then b else a) a ≤ a ∧ ∀ y ∈ l, l.foldl (fun a b => if b < a then b else a) a ≤ y := by
      intro l
      induction l with
      | nil => intro a; simp
      | cons b l ih =>
        intro a
        obtain ⟨k1, k2, k3⟩ := ih (if b < a then b else a)
        simp only [List.foldl_cons]
        refine ⟨?_, ?_, fun y hy => ?_⟩
        · rcases k1 with k1 | k1
          · rw [k1]; split
            · exact .inr (by simp)
            · exact .inl rfl
          · exact .inr (List.mem_cons_of_mem _ k1)
        · refine Int.le_trans k2 ?_; split <;> omega
        · rcases List.mem_cons.mp hy with rfl | hy
          · refine Int.le_trans k2 ?_; split <;> omega
          · exact k3 y hy
    obtain ⟨k1, k2, k3⟩ := key xs x
    show some _ = some m
    congr 1
    apply Int.le_antisymm
    · rcases List.mem_cons.mp h1 with rfl | h1
      · exact k2
      · exact k3 m h1
    · rcases k1 with k1 | k1
      · rw [k1]; exact h2 x (by simp)
      · exact h2 _ (List.mem_cons_of_mem _ k1)
theorem ok_maxL : P1 K .maxL (rMax K) := by
  intro ex H ρ st d v X Q M r h
  unfold prim1F at h
  simp only at h
  split at h
  · rename_i xs hx
    cases e : intsOf xs with
    | none => rw [e] at h; exact h.elim
    | some ns =>
      rw [e] at h
      have e2 := intsOf_eq e
      subst e2
      obtain ⟨a, vs, rfl, hs, rs⟩ := rep_lst M r hx
      have := reps_ints rs
      subst this
      cases ns with
      | nil => exact h.elim
      | cons n ns =>
        refine ⟨a, n :: ns, rfl, hs, by simp, fun m h1 h2 => ?_⟩
        have q := mxL_spec h1 h2
        simp only [Option.bind_some] at h
        rw [q] at h
        exact h.here M rfl
  · exact h.elim
theorem ok_sum : P1 K .sum (rSum K) := by
  intro ex H ρ st d v X Q M r h
  unfold prim1F at h
  simp only at h
  split at h
  · rename_i xs hx
    cases e : intsOf xs with
    | none => rw [e] at h; exact h.elim
    | some ns =>
      rw [e] at h
      have e2 := intsOf_eq e
      subst e2
      obtain ⟨a, vs, rfl, hs, rs⟩ := rep_lst M r hx
      have := reps_ints rs
      subst this
      exact ⟨a, ns, rfl, hs, h.here M rfl⟩
  · exact h.elim
theorem ok_all : P1 K .all (rAll K) := by
  intro ex H ρ st d v X Q M r h
  unfold prim1F at h
  simp only at h
  split at h
  · rename_i xs hx
    cases e : blsOf xs with
    | none => rw [e] at h; exact h.elim
    | some ns =>
      rw [e] at h
      have e2 := blsOf_eq e
      subst e2
      obtain ⟨a, vs, rfl, hs, rs⟩ := rep_lst M r hx
      have := reps_bls rs
      subst this
      exact ⟨a, ns, rfl, hs, h.here M rfl⟩
  · exact h.elim
def rListM (K : PySem.W.Frag) : List V → Hp → VK → Prop := fun xs H Q => (∃ p ys, xs = [.ref p] ∧ (SqL K H p ys ∨ SqT K H p ys) ∧ ∀ l, H l = none → Q (.ref l) (upd H l (.lst ys))) ∨
  ∃ d kvs, xs = [V.ref d] ∧ Rd H d (.dT kvs) ∧ ∀ p bs, H p = none → IsKeys H kvs bs → Q (.ref p) (upd H p (.lst (bs.map V.ref)))
theorem call_listM {X : Cx} (hc : X.calm = true) : CallR X (.type "list") (rListM X.K) := CallR.or call_list_of (call_list_dT hc)
theorem reps_keys : ∀ {es : List (Pl × D)} {kvs : List (List Key × V)} {bs : List Addr}, RepE K ex H ρ es kvs → IsKeys H kvs bs → Reps K ex H ρ (es.map fun e => plD e.1) (bs.map V.ref)
  | [], _, _, h, g => by cases h; cases g; exact rfl
  | (p, d) :: es, _, _, ⟨v, r, e, h, t⟩, g => by
    subst e
    cases g with
    | cons g1 g2 => exact ⟨_, _, rfl, rep_plD g1, reps_keys t g2⟩
theorem ok_list (m : Bool) : P1 K (.list m) (rListM K) := by
  intro ex H ρ st d v X Q M r h
  unfold prim1F at h
  simp only at h
  split at h
  · rename_i es hd
    obtain ⟨a, kvs, rfl, rd, rs⟩ := rep_dct M r hd
    exact .inr ⟨a, kvs, rfl, rd, fun p bs hp hk => h.newL M (reps_keys rs hk) p hp⟩
  · split at h
    · rename_i xs hx
      obtain ⟨a, vs, rfl, hq, rs⟩ := rep_seq M r hx
      exact .inl ⟨a, vs, rfl, hq, fun p hp => h.newL M rs p hp⟩
    · exact h.elim
def rIntM : List V → Hp → VK → Prop := fun xs H Q => ((∃ i, xs = [.int i] ∧ Q (.int i) H) ∨ ∃ k, xs = [.bl k] ∧ Q (.int (if k then 1 else 0)) H) ∨ ∃ a n, xs = [.str a] ∧ PySem.intText? a = some n ∧ a.length ≤ 640 ∧ Q (.int n) H
theorem call_intM {X : Cx} : CallR X (.type "int") rIntM := CallR.or call_int1 call_int_str
theorem ok_int1 : P1 K .int1 rIntM := by
  intro ex H ρ st d v X Q M r h
  unfold prim1F at h
  simp only at h
  split at h
  · cases r; exact .inl (.inl ⟨_, rfl, h.here M rfl⟩)
  · cases r; exact .inl (.inr ⟨_, rfl, h.here M rfl⟩)
  · rename_i s
    obtain ⟨rfl, _⟩ := r
    split at h
    · rename_i hl
      cases e : PySem.intText? (strOf s) with
      | none =>
        have e' : PySem.intText? ⟨s.toArray⟩ = none := e
        rw [e'] at h; exact h.elim
      | some n =>
        have e' : PySem.intText? ⟨s.toArray⟩ = some n := e
        rw [e'] at h
        exact .inr ⟨_, n, rfl, e, by rw [strOf_len]; exact hl, h.here M rfl⟩
    · exact h.elim
  · exact h.elim
theorem ok_abs : P1 K .abs (fun xs H Q => ∃ i, xs = [.int i] ∧ Q (.int (if i < 0 then -i else i)) H) := by
  intro ex H ρ st d v X Q M r h
  unfold prim1F at h
  simp only at h
  split at h
  · cases r; exact ⟨_, rfl, h.here M rfl⟩
  · exact h.elim
end
end MP
end
section
set_option maxRecDepth 100000
set_option maxHeartbeats 4000000
/-! MP: pairs in order: <. -/
namespace MP
open PySem PySem.Spec PyProof.Rows L2 PySem.W
def pyP (p : Pl) : PyData := .tuple [.int p.1, .int p.2]
theorem py_pl {d : D} {p : Pl} (h : plOf d = some p) : py d = pyP p ∧ cmpD d = true := by
  unfold plOf at h
  split at h
  · cases h
    exact ⟨by simp [py, pys, pyP], by simp [cmpD, cmpDs]⟩
  · cases h
theorem alike_pl (p q : Pl) : alike (pyP p) (pyP q) = true := by simp [pyP, alike, alikeAll]
theorem depth_pl (p : Pl) : (pyP p).depth ≤ 2 := by simp [pyP, PyData.depth, PyData.depthAll]
section
variable {X : Cx}
/-- p < q, both pairs -/
def rLtP (K : PySem.W.Frag) (f : Pl → Pl → Bool) : R2 := fun x y H Q => ∃ p q, Dp K H x (pyP p) ∧ Dp K H y (pyP q) ∧ Q (.bl (f p q)) H
theorem op_ltP (hu : X.A.units + 65 < cLine) : OpR X (compareOp .Lt) (rLtP X.K plLt) := by
  intro pins s σ H x y v u Q I rx ry ⟨p, q, h1, h2, k⟩
  obtain ⟨as, r1⟩ := Dp.reads I _ _ _ h1 rx
  obtain ⟨bs, r2⟩ := Dp.reads I _ _ _ h2 ry
  have d1 := depth_pl p
  have d2 := Nat.min_le_left (pyP p).depth (pyP q).depth
  refine lt_data r1 r2 (alike_pl p q) (by simp [pyP]) (by omega) ?_
  refine ⟨.bl (plLt p q), H, I, ?_, k⟩
  show Value.bool (dataLt (pyP p) (pyP q)) = Value.bool _
  rw [pyP, pyP, dataLt_ii]
  rfl
end
section
variable {K : PySem.W.Frag}
theorem ok_ltM : OpOk K .lt (fun x y H Q => rI0 (fun i j => .bl (decide (i < j))) x y H Q ∨ rLtP K plLt x y H Q) := by
  intro ex H ρ st d1 d2 v1 v2 X Q M r1 r2 h
  unfold opF at h
  simp only at h
  split at h
  · cases r1
    cases r2
    exact .inl ⟨_, _, rfl, rfl, h.here M rfl⟩
  · split at h
    · rename_i p q hp hq
      obtain ⟨e1, c1⟩ := py_pl hp
      obtain ⟨e2, c2⟩ := py_pl hq
      exact .inr ⟨p, q, by rw [← e1]; exact (rep_dp c1 r1).1, by rw [← e2]; exact (rep_dp c2 r2).1, h.here M rfl⟩
    · exact h.elim
end
end MP
end
section
set_option maxRecDepth 100000
set_option maxHeartbeats 4000000
/-! MP: expressions over the hand layer's judgements. -/
namespace MP
open PySem PySem.Spec PyProof.Rows L2
abbrev XA := Ex → Value → Option Addr → Hp → Prop
abbrev WXt := WX
def Slots (K : PySem.W.Frag) (ex : Addr → Prop) (H : Hp) (ρ : List Addr) (σ : L2.St) (ds : DS) : Prop :=
  σ.length = ds.length ∧ ∀ (i : Nat) (d : D), ds[i]? = some (some d) → ∃ v, σ[i]? = some (some v) ∧ Rep K ex H ρ d v
def xOf (xa : XA) (W : WX) (σ : L2.St) : Ex → Hp → List Addr → Store → Prop := fun e H' _ _ => ∀ cls dd, xa e cls dd H' → W cls dd σ H'
/-- the reading of a piece of the interpreter -/
def denE (K : PySem.W.Frag) (xa : XA) (W : WX) (f : DS → Store → RE) : TE := fun σ H Q => ∃ ex ρ ds st, Mem K ex H ρ st ∧ Slots K ex H ρ σ ds ∧ PostV K ex H ρ (f ds st) (xOf xa W σ) Q
def denT (K : PySem.W.Frag) (xa : XA) (W : WX) (f : DS → Store → RE) : TT := fun σ H Q => denE K xa W f σ H fun v H' => ∃ c, v = .bl c ∧ Q c H'
section
variable {K : PySem.W.Frag} {ex : Addr → Prop} {H H' : Hp} {ρ ρ' : List Addr} {st : Store} {σ : L2.St} {ds : DS} {Xe : Ex → Hp → List Addr → Store → Prop} {Q Q' : VK}
theorem Slots.ext (e : Ext ρ H ρ' H') (s : Slots K ex H ρ σ ds) : Slots K ex H' ρ' σ ds := ⟨s.1, fun i d h => let ⟨v, h1, h2⟩ := s.2 i d h; ⟨v, h1, h2.ext e⟩⟩
theorem Slots.set (s : Slots K ex H ρ σ ds) (i : Nat) {d : D} {v : V} (r : Rep K ex H ρ d v) : Slots K ex H ρ (σ.set i (some v)) (ds.set i (some d)) := by
  refine ⟨by rw [List.length_set, List.length_set]; exact s.1, fun j e h => ?_⟩
  by_cases hj : j = i
  · subst hj
    have hl : j < ds.length := by have := (List.getElem?_eq_some_iff.mp h).1; rwa [List.length_set] at this
    rw [List.getElem?_set_self hl] at h
    cases h
    exact ⟨v, List.getElem?_set_self (by rw [s.1]; exact hl), r⟩
  · rw [List.getElem?_set_ne (Ne.symm hj)] at h
    rw [List.getElem?_set_ne (Ne.symm hj)]
    exact s.2 j e h
theorem PostV.step {x : RE} (e : Ext ρ H ρ' H') (h : PostV K ex H ρ x Xe Q) : PostV K ex H' ρ' x Xe Q := by
  cases x with
  | ok d s => exact fun v H2 ρ2 e2 M r => h v H2 ρ2 (e.trans e2) M r
  | exc x s => exact fun H2 ρ2 e2 M => h H2 ρ2 (e.trans e2) M
  | no => exact h
theorem PostV.imp {x : RE} (h : PostV K ex H ρ x Xe Q) (q : ∀ v H', Q v H' → Q' v H') : PostV K ex H ρ x Xe Q' := by
  cases x with
  | ok d s => exact fun v H2 ρ2 e2 M r => q _ _ (h v H2 ρ2 e2 M r)
  | exc x s => exact h
  | no => exact h
theorem PostV.bind {x : RE} {g : D → Store → RE} (h : PostV K ex H ρ (x.bind g) Xe Q) :
    PostV K ex H ρ x Xe fun v H1 => ∃ d st1 ρ1, Ext ρ H ρ1 H1 ∧ Mem K ex H1 ρ1 st1 ∧ Rep K ex H1 ρ1 d v ∧ PostV K ex H1 ρ1 (g d st1) Xe Q := by
  cases x with
  | ok d s => exact fun v H2 ρ2 e2 M r => ⟨d, s, ρ2, e2, M, r, PostV.step e2 (show PostV K ex H ρ (g d s) Xe Q from h)⟩
  | exc x s => exact h
  | no => exact h
/-- lists of data -/
def PostL (K : PySem.W.Frag) (ex : Addr → Prop) (H : Hp) (ρ : List Addr) (res : R (List D)) (X : Ex → Hp → List Addr → Store → Prop) (Q : List V → Hp → Prop) : Prop := match res with
  | .ok d st' => ∀ v H' ρ', Ext ρ H ρ' H' → Mem K ex H' ρ' st' → Reps K ex H' ρ' d v → Q v H'
  | .exc e st' => ∀ H' ρ', Ext ρ H ρ' H' → Mem K ex H' ρ' st' → X e H' ρ' st'
  | .no => False
def denL (K : PySem.W.Frag) (xa : XA) (W : WX) (f : DS → Store → R (List D)) : TA := fun σ H Q => ∃ ex ρ ds st, Mem K ex H ρ st ∧ Slots K ex H ρ σ ds ∧ PostL K ex H ρ (f ds st) (xOf xa W σ) Q
theorem PostL.bind {x : R (List D)} {g : List D → Store → RE} (h : PostV K ex H ρ (x.bind g) Xe Q) :
    PostL K ex H ρ x Xe fun v H1 => ∃ d st1 ρ1, Ext ρ H ρ1 H1 ∧ Mem K ex H1 ρ1 st1 ∧ Reps K ex H1 ρ1 d v ∧ PostV K ex H1 ρ1 (g d st1) Xe Q := by
  cases x with
  | ok d s => exact fun v H2 ρ2 e2 M r => ⟨d, s, ρ2, e2, M, r, PostV.step e2 (show PostV K ex H ρ (g d s) Xe Q from h)⟩
  | exc x s => exact h
  | no => exact h
end
theorem _root_.L2.PE.imp {X : Cx} {e : Expr} {t t' : TE} (h : PE X e t) (i : ∀ σ H Q, t' σ H Q → t σ H Q) : PE X e t' := ⟨fun pins s σ H Q I q => h.run pins s σ H Q I (i σ H Q q)⟩
theorem _root_.L2.PE.or {X : Cx} {e : Expr} {t t' : TE} (h : PE X e t) (h' : PE X e t') : PE X e (fun σ H Q => t σ H Q ∨ t' σ H Q) := ⟨fun pins s σ H Q I q => q.elim (h.run pins s σ H Q I) (h'.run pins s σ H Q I)⟩
theorem _root_.L2.PT.imp {X : Cx} {e : Expr} {t t' : TT} (h : PT X e t) (i : ∀ σ H Q, t' σ H Q → t σ H Q) : PT X e t' := ⟨fun pins s σ H Q I q => h.run pins s σ H Q I (i σ H Q q)⟩
theorem _root_.L2.PW.imp {X : Cx} {e : Expr} {t t' : TT} (h : PW X e t) (i : ∀ σ H Q, t' σ H Q → t σ H Q) : PW X e t' := ⟨fun wh pins s σ H Q I q => h.run wh pins s σ H Q I (i σ H Q q)⟩
theorem _root_.L2.PA.imp {X : Cx} {e : List Expr} {t t' : TA} (h : PA X e t) (i : ∀ σ H Q, t' σ H Q → t σ H Q) : PA X e t' := ⟨fun ps pins s σ H Q I q => h.run ps pins s σ H Q I (i σ H Q q)⟩
theorem _root_.L2.PS.imp {X : Cx} {e : Stmt} {t t' : TS} (h : PS X e t) (i : ∀ D σ H, t' D σ H → t D σ H) : PS X e t' := ⟨fun pins s σ H D I q => h.run pins s σ H D I (i D σ H q)⟩
theorem _root_.L2.PSs.imp {X : Cx} {e : List Stmt} {t t' : TS} (h : PSs X e t) (i : ∀ D σ H, t' D σ H → t D σ H) : PSs X e t' := ⟨fun pins s σ H D I q => h.run pins s σ H D I (i D σ H q)⟩
section
variable {X : Cx} {xa : XA} {W : WX} {pos : Pos} {a b c : Expr} {fa fb fc : DS → Store → RE}
theorem den_val {e : Expr} {d : D} {v : V} (h : PE X e (tC v)) (r : ∀ ex H ρ, Rep X.K ex H ρ d v) : PE X e (denE X.K xa W fun _ st => .ok d st) :=
  h.imp fun σ H Q ⟨ex, ρ, ds, st, M, S, q⟩ => q v H ρ (Ext.refl _ _) M (r ex H ρ)
theorem den_var {i : Nat} {x : Str} (h : PE X (.Name x pos) (tVar i)) : PE X (.Name x pos) (denE X.K xa W fun ds st => match ds[i]? with | some (some d) => .ok d st | _ => .no) := by
  refine h.imp fun σ H Q ⟨ex, ρ, ds, st, M, S, q⟩ => ?_
  simp only at q
  split at q
  · rename_i d hd
    obtain ⟨v, h1, h2⟩ := S.2 i d hd
    exact ⟨v, h1, q v H ρ (Ext.refl _ _) M h2⟩
  · exact q.elim
/-- two expressions, then something of their values -/
theorem den_two {σ : L2.St} {H : Hp} {Q : VK} {R : V → V → Hp → Prop} {g : D → D → Store → RE}
    (h : denE X.K xa W (fun ds st => (fa ds st).bind fun x st1 => (fb ds st1).bind fun y st2 => g x y st2) σ H Q)
    (k : ∀ ex H2 ρ2 st2 x y v u, Mem X.K ex H2 ρ2 st2 → Rep X.K ex H2 ρ2 x v → Rep X.K ex H2 ρ2 y u → PostV X.K ex H2 ρ2 (g x y st2) (xOf xa W σ) Q → R v u H2) :
    denE X.K xa W fa σ H fun v H1 => denE X.K xa W fb σ H1 fun u H2 => R v u H2 := by
  obtain ⟨ex, ρ, ds, st, M, S, q⟩ := h
  refine ⟨ex, ρ, ds, st, M, S, (PostV.bind q).imp fun v H1 ⟨x, st1, ρ1, e1, M1, r1, q1⟩ => ?_⟩
  refine ⟨ex, ρ1, ds, st1, M1, S.ext e1, (PostV.bind q1).imp fun u H2 ⟨y, st2, ρ2, e2, M2, r2, q2⟩ => ?_⟩
  exact k ex H2 ρ2 st2 x y v u M2 (r1.ext e2) r2 q2
theorem den_one {σ : L2.St} {H : Hp} {Q : VK} {R : V → Hp → Prop} {g : D → Store → RE}
    (h : denE X.K xa W (fun ds st => (fa ds st).bind fun x st1 => g x st1) σ H Q)
    (k : ∀ ex H2 ρ2 st2 x v, Mem X.K ex H2 ρ2 st2 → Rep X.K ex H2 ρ2 x v → PostV X.K ex H2 ρ2 (g x st2) (xOf xa W σ) Q → R v H2) :
    denE X.K xa W fa σ H fun v H1 => R v H1 := by
  obtain ⟨ex, ρ, ds, st, M, S, q⟩ := h
  exact ⟨ex, ρ, ds, st, M, S, (PostV.bind q).imp fun v H1 ⟨x, st1, ρ1, e1, M1, r1, q1⟩ => k ex H1 ρ1 st1 x v M1 r1 q1⟩
/-- all that an operator of the interpreter asks -/
def OpAll (K : PySem.W.Frag) (o : Op) (r : R2) : Prop := OpOk K o r
theorem den_op {op : Operator} {o : Op} {r : R2} (ho : OpR X (binaryOp op) r) (ok : OpOk X.K o r) (ha : PE X a (denE X.K xa W fa)) (hb : PE X b (denE X.K xa W fb)) :
    PE X (.BinOp a op b pos) (denE X.K xa W fun ds st => (fa ds st).bind fun x st1 => (fb ds st1).bind fun y st2 => opF o x y st2) :=
  (pe_op ho ha hb).imp fun σ H Q h => den_two h fun ex H2 ρ2 st2 x y v u M r1 r2 q => ok M r1 r2 q
theorem den_cmp {op : CmpOp} {o : Op} {r : R2} (ho : OpR X (compareOp op) r) (ok : OpOk X.K o r) (ha : PE X a (denE X.K xa W fa)) (hb : PE X b (denE X.K xa W fb)) (hm : behindInMarks op b = false) :
    PE X (.Compare a [op] [b] pos) (denE X.K xa W fun ds st => (fa ds st).bind fun x st1 => (fb ds st1).bind fun y st2 => opF o x y st2) :=
  (pe_cmpR ho ha hb hm).imp fun σ H Q h => den_two h fun ex H2 ρ2 st2 x y v u M r1 r2 q => ok M r1 r2 q
theorem op_dinM (hu : X.A.units + 65 < cLine) : OpR X (compareOp .In) (rDIn false) := by
  intro pins s σ H x y v u Q I rx ry ⟨a, o, e, g, q⟩
  subst e
  obtain rfl : u = Value.ref a := ry
  exact d_in (by omega) I g rx fun s3 I3 => ⟨.bl o.isSome, H, I3, rfl, q⟩
theorem op_dniM (hu : X.A.units + 65 < cLine) : OpR X (compareOp .NotIn) (rDIn true) := by
  intro pins s σ H x y v u Q I rx ry ⟨a, o, e, g, q⟩
  subst e
  obtain rfl : u = Value.ref a := ry
  exact d_notIn (by omega) I g rx fun s3 I3 => ⟨.bl (!o.isSome), H, I3, rfl, q⟩
/-- the operators -/
def binOf : Op → Option Operator
  | .add _ => some .Add
  | .sub => some .Sub
  | .mul => some .Mult
  | .fdiv => some .FloorDiv
  | .mod => some .Mod
  | .pow => some .Pow
  | _ => none
def cmpOf : Op → Option CmpOp
  | .eq => some .Eq
  | .ne => some .NotEq
  | .lt => some .Lt
  | .le => some .LtE
  | .gt => some .Gt
  | .ge => some .GtE
  | .isin => some .In
  | .notin => some .NotIn
  | _ => none
theorem bin_ok {o : Op} {op : Operator} (h : binOf o = some op) : ∃ r, OpR X (binaryOp op) r ∧ OpOk X.K o r := by
  cases o <;> simp only [binOf, Option.some.injEq, reduceCtorEq] at h <;> subst h
  · exact ⟨_, op_addM, ok_add _⟩
  · exact ⟨_, op_sub, ok_sub⟩
  · exact ⟨_, op_mulM, ok_mul⟩
  · exact ⟨_, op_fdivM, ok_fdiv⟩
  · exact ⟨_, op_mod, ok_mod⟩
  · exact ⟨_, op_pow, ok_pow⟩
theorem cmp_ok (hu : X.A.units + 90 < cLine) {o : Op} {op : CmpOp} (h : cmpOf o = some op) : ∃ r, OpR X (compareOp op) r ∧ OpOk X.K o r := by
  cases o <;> simp only [cmpOf, Option.some.injEq, reduceCtorEq] at h <;> subst h
  · exact ⟨_, opr_or (op_eqD (by omega)) (opr_or (op_eqT (by omega)) (op_eqU (by omega))), ok_eq⟩
  · exact ⟨_, opr_or (op_neD (by omega)) (opr_or (op_neT (by omega)) (op_neU (by omega))), ok_ne⟩
  · exact ⟨_, opr_or op_lt (op_ltP (by omega)), ok_ltM⟩
  · exact ⟨_, op_le, ok_le⟩
  · exact ⟨_, op_gt, ok_gt⟩
  · exact ⟨_, op_ge, ok_ge⟩
  · exact ⟨_, OpR.or' (op_in0 (by omega)) (op_dinM (by omega)), fun M r1 r2 h => ok_in M r1 r2 h⟩
  · exact ⟨_, OpR.or' (op_ni0 (by omega)) (op_dniM (by omega)), fun M r1 r2 h => ok_notin M r1 r2 h⟩
theorem den_chain {op op' : CmpOp} {o o' : Op} {r r' : R2} (ho : OpR X (compareOp op) r) (ho' : OpR X (compareOp op') r') (ok : OpOk X.K o r) (ok' : OpOk X.K o' r')
    (ha : PE X a (denE X.K xa W fa)) (hb : PE X b (denE X.K xa W fb)) (hc : PE X c (denE X.K xa W fc)) (hm : lastMarks [op, op'] [b, c] = false) :
    PE X (.Compare a [op, op'] [b, c] pos) (denE X.K xa W fun ds st => (fa ds st).bind fun x st1 => (fb ds st1).bind fun y st2 => (opF o x y st2).bind fun z st3 => match z with
    | .bl true => (fc ds st3).bind fun w st4 => opF o' y w st4
    | .bl false => .ok (.bl false) st3
    | _ => .no) := by
  refine (pe_chain ho ho' ha hb hc hm).imp fun σ H Q h => ?_
  obtain ⟨ex, ρ, ds, st, M, S, q⟩ := h
  refine ⟨ex, ρ, ds, st, M, S, (PostV.bind q).imp fun v H1 ⟨x, st1, ρ1, e1, M1, r1, q1⟩ => ?_⟩
  refine ⟨ex, ρ1, ds, st1, M1, S.ext e1, (PostV.bind q1).imp fun u H2 ⟨y, st2, ρ2, e2, M2, r2, q2⟩ => ?_⟩
  refine ok M2 (r1.ext e2) r2 ((PostV.bind q2).imp fun z H3 ⟨k, st3, ρ3, e3, M3, r3, q3⟩ => ?_)
  split at q3
  · cases r3
    refine ⟨true, rfl, ?_⟩
    rw [if_pos rfl]
    exact ⟨ex, ρ3, ds, st3, M3, ((S.ext e1).ext e2).ext e3, (PostV.bind q3).imp fun w H4 ⟨l, st4, ρ4, e4, M4, r4, q4⟩ => ok' M4 ((r2.ext e3).ext e4) r4 q4⟩
  · cases r3
    refine ⟨false, rfl, ?_⟩
    rw [if_neg Bool.false_ne_true]
    exact q3 (.bl false) H3 ρ3 (Ext.refl _ _) M3 rfl
  · exact q3.elim
theorem den_isn {neg : Bool} (ha : PE X a (denE X.K xa W fa)) {j : Nat} {p2 : Pos} :
    PE X (.Compare a [if neg then .IsNot else .Is] [.Constant .none j p2] pos) (denE X.K xa W fun ds st => (fa ds st).bind fun x st1 => prim1F (if neg then .notn else .isn) x st1) := by
  cases neg with
  | false =>
    refine (pe_cmp (pc_isN ha) rfl).imp fun σ H Q h => ?_
    refine den_one (g := fun x st1 => prim1F .isn x st1) h fun ex H2 ρ2 st2 x v M r q => ?_
    cases x with
    | non => cases r; exact q _ _ _ (Ext.refl _ _) M rfl
    | bl k => cases r; exact q _ _ _ (Ext.refl _ _) M rfl
    | int k => cases r; exact q _ _ _ (Ext.refl _ _) M rfl
    | str k => obtain ⟨rfl, _⟩ := r; exact q _ _ _ (Ext.refl _ _) M rfl
    | tup k => obtain ⟨p, vs, rfl, _⟩ := r; exact q _ _ _ (Ext.refl _ _) M rfl
    | lst k => obtain ⟨p, vs, rfl, _⟩ := r; exact q _ _ _ (Ext.refl _ _) M rfl
    | dct k => obtain ⟨p, vs, rfl, _⟩ := r; exact q _ _ _ (Ext.refl _ _) M rfl
    | scr k => obtain ⟨p, rfl, _⟩ := r; exact q _ _ _ (Ext.refl _ _) M rfl
    | ref k => obtain ⟨p, _, rfl⟩ := r; exact q _ _ _ (Ext.refl _ _) M rfl
  | true =>
    refine (pe_cmp (pc_notN ha) rfl).imp fun σ H Q h => ?_
    refine den_one (g := fun x st1 => prim1F .notn x st1) h fun ex H2 ρ2 st2 x v M r q => ?_
    cases x with
    | non => cases r; exact q _ _ _ (Ext.refl _ _) M rfl
    | bl k => cases r; exact q _ _ _ (Ext.refl _ _) M rfl
    | int k => cases r; exact q _ _ _ (Ext.refl _ _) M rfl
    | str k => obtain ⟨rfl, _⟩ := r; exact q _ _ _ (Ext.refl _ _) M rfl
    | tup k => obtain ⟨p, vs, rfl, _⟩ := r; exact q _ _ _ (Ext.refl _ _) M rfl
    | lst k => obtain ⟨p, vs, rfl, _⟩ := r; exact q _ _ _ (Ext.refl _ _) M rfl
    | dct k => obtain ⟨p, vs, rfl, _⟩ := r; exact q _ _ _ (Ext.refl _ _) M rfl
    | scr k => obtain ⟨p, rfl, _⟩ := r; exact q _ _ _ (Ext.refl _ _) M rfl
    | ref k => obtain ⟨p, _, rfl⟩ := r; exact q _ _ _ (Ext.refl _ _) M rfl
theorem den_neg (ha : PE X a (denE X.K xa W fa)) : PE X (.UnaryOp .USub a pos) (denE X.K xa W fun ds st => (fa ds st).bind fun x st1 => prim1F .neg x st1) := by
  refine (pe_un un_neg ha).imp fun σ H Q h => ?_
  refine den_one (g := fun x st1 => prim1F .neg x st1) h fun ex H2 ρ2 st2 x v M r q => ?_
  unfold prim1F at q
  simp only at q
  split at q
  · cases r; exact ⟨_, rfl, q.here M rfl⟩
  · exact q.elim
/-! ### subscripts, slices -/
theorem ix_dM (hu : X.A.units + 65 < cLine) : IxR X rDIx := by
  intro value slice pins s σ H x y v u Q I rx ry ⟨a, z, e, g, q⟩ hs
  subst e
  obtain rfl : v = Value.ref a := rx
  exact tail_any (dict_typeIs I g) PySem.F.slot_dict_getitem.lookup (d_getItem (by omega) I g ry fun w' s3 I3 rw' => ⟨z, H, I3, rw', q⟩) hs
theorem den_ix (hu : X.A.units + 65 < cLine) (ha : PE X a (denE X.K xa W fa)) (hb : PE X b (denE X.K xa W fb)) (hs : PlainIx b) :
    PE X (.Subscript a b pos) (denE X.K xa W fun ds st => (fa ds st).bind fun x st1 => (fb ds st1).bind fun y st2 => prim2F .ix x y st2) :=
  (pe_ix (IxR.or ix_seq (ix_dM hu)) ha hb hs).imp fun σ H Q h => den_two h fun ex H2 ρ2 st2 x y v u M r1 r2 q => ok_ix M r1 r2 q
/-- a part of a slice -/
def PartOk (X : Cx) (xa : XA) (W : WX) (h : Bool) (oe : Option Expr) (f : DS → Store → RE) : Prop := ∃ t : TO, PO X oe t ∧ ∀ {ex : Addr → Prop} {ρ : List Addr} {ds : DS} {st : Store} {σ : L2.St} {H : Hp} {Q : Option Int → Hp → Prop},
  Mem X.K ex H ρ st → Slots X.K ex H ρ σ ds → PostV X.K ex H ρ (partR h (f ds st) st) (xOf xa W σ) (fun v H' => ∀ o, (v = .non ∧ o = none ∨ ∃ i, v = .int i ∧ o = some i) → Q o H') → t σ H Q
theorem part_none {f : DS → Store → RE} : PartOk X xa W false none f :=
  ⟨tNoPart, po_none, fun M S q => q .non _ _ (Ext.refl _ _) M rfl none (.inl ⟨rfl, rfl⟩)⟩
theorem part_some (ha : PE X a (denE X.K xa W fa)) : PartOk X xa W true (some a) fa := by
  refine ⟨_, po_some ha, fun {ex ρ ds st σ H Q} M S q => ?_⟩
  refine ⟨ex, ρ, ds, st, M, S, ?_⟩
  unfold partR at q
  rw [if_pos rfl] at q
  refine (PostV.bind q).imp fun v H1 ⟨x, st1, ρ1, e1, M1, r1, q1⟩ => ?_
  cases x with
  | int i => cases r1; exact ⟨i, rfl, q1 (.int i) _ _ (Ext.refl _ _) M1 rfl (some i) (.inr ⟨i, rfl, rfl⟩)⟩
  | _ => exact q1.elim
theorem partR_kind {h : Bool} {r : RE} {st st' : Store} {d : D} (e : partR h r st = .ok d st') : ∃ o, partOf d = some o := by
  unfold partR at e
  cases h with
  | false => simp at e; rw [← e.1]; exact ⟨none, rfl⟩
  | true =>
    simp only [if_true] at e
    cases r with
    | ok x s =>
      cases x with
      | int i => simp [R.bind] at e; rw [← e.1]; exact ⟨some i, rfl⟩
      | _ => simp [R.bind] at e
    | exc _ _ => simp [R.bind] at e
    | no => simp [R.bind] at e
theorem part_rel {ex : Addr → Prop} {H : Hp} {ρ : List Addr} {d : D} {v : V} {o : Option Int} (r : Rep X.K ex H ρ d v) (h : v = .non ∧ o = none ∨ ∃ i, v = .int i ∧ o = some i) (k : ∃ o', partOf d = some o') : partOf d = some o := by
  obtain ⟨o', k⟩ := k
  cases d with
  | non => cases r; rcases h with ⟨_, rfl⟩ | ⟨i, e, _⟩; rfl; cases e
  | int j => cases r; rcases h with ⟨e, _⟩ | ⟨i, e, rfl⟩; cases e; cases e; rfl
  | _ => simp [partOf] at k
theorem den_slc {m hl hh : Bool} {lo hi : Option Expr} {p2 : Pos} (ha : PE X a (denE X.K xa W fa)) (hb : PartOk X xa W hl lo fb) (hc : PartOk X xa W hh hi fc) :
    PE X (.Subscript a (.Slice lo hi none p2) pos) (denE X.K xa W fun ds st => (fa ds st).bind fun x st1 => (partR hl (fb ds st1) st1).bind fun l st2 => (partR hh (fc ds st2) st2).bind fun h st3 => slcF m x l h st3) := by
  obtain ⟨tl, pl, ql⟩ := hb
  obtain ⟨th, ph, qh⟩ := hc
  refine (pe_slice sl_M ha pl ph).imp fun σ H Q h => ?_
  obtain ⟨ex, ρ, ds, st, M, S, q⟩ := h
  refine ⟨ex, ρ, ds, st, M, S, (PostV.bind q).imp fun v H1 ⟨x, st1, ρ1, e1, M1, r1, q1⟩ => ?_⟩
  refine ql M1 (S.ext e1) ?_
  cases el : partR hl (fb ds st1) st1 with
  | no => rw [el] at q1; exact q1
  | exc e s => rw [el] at q1; exact q1
  | ok l st2 =>
    rw [el] at q1
    intro u H2 ρ2 e2 M2 r2 o ho
    refine qh M2 ((S.ext e1).ext e2) ?_
    have q2 := PostV.step e2 (show PostV X.K ex H1 ρ1 ((partR hh (fc ds st2) st2).bind fun h st3 => slcF m x l h st3) _ Q from q1)
    cases eh : partR hh (fc ds st2) st2 with
    | no => rw [eh] at q2; exact q2
    | exc e s => rw [eh] at q2; exact q2
    | ok h' st3 =>
      rw [eh] at q2
      intro w H3 ρ3 e3 M3 r3 o' ho'
      exact ok_slc M3 ((r1.ext e2).ext e3) (part_rel r2 ho (partR_kind el)) (part_rel r3 ho' (partR_kind eh)) (PostV.step e3 q2)
/-! ### and, or, not, if else -/
theorem den_tests (ha : PE X a (denE X.K xa W fa)) (he : ∀ whole, isTrue a X.env whole = (do let v ← whole; standAt a.pos; holding [v] (truthy v))) : PT X a (denT X.K xa W fa) := (pt_val ha he).imp fun σ H Q h => h
theorem den_and {rest : List Expr} (ha : PE X a (denE X.K xa W fa)) (hb : PE X (.BoolOp .And (b :: rest) pos) (denE X.K xa W fb)) :
    PE X (.BoolOp .And (a :: b :: rest) pos) (denE X.K xa W fun ds st => (fa ds st).bind fun x st1 => match x with
    | .bl true => fb ds st1
    | .bl false => .ok (.bl false) st1
    | _ => .no) := by
  refine (pe_and ha hb).imp fun σ H Q h => ?_
  obtain ⟨ex, ρ, ds, st, M, S, q⟩ := h
  refine ⟨ex, ρ, ds, st, M, S, (PostV.bind q).imp fun v H1 ⟨x, st1, ρ1, e1, M1, r1, q1⟩ => ?_⟩
  split at q1
  · cases r1
    exact ⟨true, rfl, iteT (⟨ex, ρ1, ds, st1, M1, S.ext e1, q1⟩)⟩
  · cases r1
    exact ⟨false, rfl, iteF (q1.here M1 rfl)⟩
  · exact q1.elim
theorem den_or {rest : List Expr} (ha : PE X a (denE X.K xa W fa)) (hb : PE X (.BoolOp .Or (b :: rest) pos) (denE X.K xa W fb)) :
    PE X (.BoolOp .Or (a :: b :: rest) pos) (denE X.K xa W fun ds st => (fa ds st).bind fun x st1 => match x with
    | .bl true => .ok (.bl true) st1
    | .bl false => fb ds st1
    | _ => .no) := by
  refine (pe_or ha hb).imp fun σ H Q h => ?_
  obtain ⟨ex, ρ, ds, st, M, S, q⟩ := h
  refine ⟨ex, ρ, ds, st, M, S, (PostV.bind q).imp fun v H1 ⟨x, st1, ρ1, e1, M1, r1, q1⟩ => ?_⟩
  split at q1
  · cases r1
    exact ⟨true, rfl, iteT (q1.here M1 rfl)⟩
  · cases r1
    exact ⟨false, rfl, iteF (⟨ex, ρ1, ds, st1, M1, S.ext e1, q1⟩)⟩
  · exact q1.elim
theorem den_not (ha : PE X a (denE X.K xa W fa)) : PE X (.UnaryOp .Not a pos) (denE X.K xa W fun ds st => (fa ds st).bind fun x st1 => match x with
    | .bl b => .ok (.bl (!b)) st1
    | _ => .no) := by
  refine (pe_not ha).imp fun σ H Q h => ?_
  obtain ⟨ex, ρ, ds, st, M, S, q⟩ := h
  refine ⟨ex, ρ, ds, st, M, S, (PostV.bind q).imp fun v H1 ⟨x, st1, ρ1, e1, M1, r1, q1⟩ => ?_⟩
  split at q1
  · cases r1
    exact ⟨_, rfl, q1.here M1 rfl⟩
  · exact q1.elim
theorem pt_den_and {rest : List Expr} (ha : PT X a (denT X.K xa W fa)) (hb : PW X (.BoolOp .And (b :: rest) pos) (denT X.K xa W fb)) :
    PW X (.BoolOp .And (a :: b :: rest) pos) (denT X.K xa W fun ds st => (fa ds st).bind fun x st1 => match x with
    | .bl true => fb ds st1
    | .bl false => .ok (.bl false) st1
    | _ => .no) := by
  refine (pw_and ha hb).imp fun σ H Q h => ?_
  obtain ⟨ex, ρ, ds, st, M, S, q⟩ := h
  refine ⟨ex, ρ, ds, st, M, S, (PostV.bind q).imp fun v H1 ⟨x, st1, ρ1, e1, M1, r1, q1⟩ => ?_⟩
  split at q1
  · cases r1
    exact ⟨true, rfl, iteT (⟨ex, ρ1, ds, st1, M1, S.ext e1, q1⟩)⟩
  · cases r1
    obtain ⟨c, e, q1⟩ := q1.here M1 rfl
    cases e
    exact ⟨false, rfl, iteF (q1)⟩
  · exact q1.elim
theorem pt_den_or {rest : List Expr} (ha : PT X a (denT X.K xa W fa)) (hb : PW X (.BoolOp .Or (b :: rest) pos) (denT X.K xa W fb)) :
    PW X (.BoolOp .Or (a :: b :: rest) pos) (denT X.K xa W fun ds st => (fa ds st).bind fun x st1 => match x with
    | .bl true => .ok (.bl true) st1
    | .bl false => fb ds st1
    | _ => .no) := by
  refine (pw_or ha hb).imp fun σ H Q h => ?_
  obtain ⟨ex, ρ, ds, st, M, S, q⟩ := h
  refine ⟨ex, ρ, ds, st, M, S, (PostV.bind q).imp fun v H1 ⟨x, st1, ρ1, e1, M1, r1, q1⟩ => ?_⟩
  split at q1
  · cases r1
    obtain ⟨c, e, q1⟩ := q1.here M1 rfl
    cases e
    exact ⟨true, rfl, iteT (q1)⟩
  · cases r1
    exact ⟨false, rfl, iteF (⟨ex, ρ1, ds, st1, M1, S.ext e1, q1⟩)⟩
  · exact q1.elim
theorem pt_den_not (ha : PT X a (denT X.K xa W fa)) : PT X (.UnaryOp .Not a pos) (denT X.K xa W fun ds st => (fa ds st).bind fun x st1 => match x with
    | .bl b => .ok (.bl (!b)) st1
    | _ => .no) := by
  refine (pt_not ha).imp fun σ H Q h => ?_
  obtain ⟨ex, ρ, ds, st, M, S, q⟩ := h
  refine ⟨ex, ρ, ds, st, M, S, (PostV.bind q).imp fun v H1 ⟨x, st1, ρ1, e1, M1, r1, q1⟩ => ?_⟩
  split at q1
  · cases r1
    obtain ⟨c, e, q1⟩ := q1.here M1 rfl
    cases e
    exact ⟨_, rfl, q1⟩
  · exact q1.elim
theorem den_ife (hc : PT X c (denT X.K xa W fc)) (ha : PE X a (denE X.K xa W fa)) (hb : PE X b (denE X.K xa W fb)) :
    PE X (.IfExp c a b pos) (denE X.K xa W fun ds st => (fc ds st).bind fun x st1 => match x with
    | .bl true => fa ds st1
    | .bl false => fb ds st1
    | _ => .no) := by
  refine (pe_ifExp hc ha hb).imp fun σ H Q h => ?_
  obtain ⟨ex, ρ, ds, st, M, S, q⟩ := h
  refine ⟨ex, ρ, ds, st, M, S, (PostV.bind q).imp fun v H1 ⟨x, st1, ρ1, e1, M1, r1, q1⟩ => ?_⟩
  split at q1
  · cases r1
    exact ⟨true, rfl, iteT (⟨ex, ρ1, ds, st1, M1, S.ext e1, q1⟩)⟩
  · cases r1
    exact ⟨false, rfl, iteF (⟨ex, ρ1, ds, st1, M1, S.ext e1, q1⟩)⟩
  · exact q1.elim
/-! ### lists of arguments -/
variable {es : List Expr} {fs : DS → Store → R (List D)}
theorem den_nil : PA X [] (denL X.K xa W fun _ st => .ok [] st) := pa_nil.imp fun σ H Q ⟨ex, ρ, ds, st, M, S, q⟩ => q [] H ρ (Ext.refl _ _) M rfl
theorem den_cons (ha : PE X a (denE X.K xa W fa)) (hr : PA X es (denL X.K xa W fs)) (hs : starEach (a :: es) X.env = (false, eval a X.env) :: starEach es X.env) :
    PA X (a :: es) (denL X.K xa W fun ds st => (fa ds st).bind fun x st1 => (fs ds st1).bind fun xs st2 => .ok (x :: xs) st2) := by
  refine (pa_cons ha hr hs).imp fun σ H Q h => ?_
  obtain ⟨ex, ρ, ds, st, M, S, q⟩ := h
  refine ⟨ex, ρ, ds, st, M, S, ?_⟩
  simp only at q
  cases e : fa ds st with
  | no => rw [e] at q; exact q
  | exc x s => rw [e] at q; exact q
  | ok x st1 =>
    rw [e] at q
    intro v H1 ρ1 e1 M1 r1
    refine ⟨ex, ρ1, ds, st1, M1, S.ext e1, ?_⟩
    simp only [R.bind] at q
    cases e2 : fs ds st1 with
    | no => rw [e2] at q; exact q
    | exc x s => rw [e2] at q; exact fun H' ρ' e' M' => q H' ρ' (e1.trans e') M'
    | ok xs st2 =>
      rw [e2] at q
      exact fun vs H2 ρ2 e3 M2 r2 => q (v :: vs) H2 ρ2 (e1.trans e3) M2 ⟨v, vs, rfl, r1.ext e3, r2⟩
end
end MP
end
section
set_option maxRecDepth 100000
set_option maxHeartbeats 4000000
/-! MP: built-ins, methods, displays, calls, comprehensions over the hand layer's judgements. -/
namespace MP
open PySem PySem.Spec PyProof.Rows L2
section
variable {X : Cx} {xa : XA} {W : WX} {pos p1 p2 : Pos} {a b c : Expr} {fa fb fc : DS → Store → RE} {x : Str}
/-! ### built-ins by name -/
def plainArg (e : Expr) : Bool := match e with
  | .Starred _ _ => false
  | _ => true
theorem star_cons {e : Expr} (h : plainArg e = true) (es : List Expr) (env : Env) : starEach (e :: es) env = (false, eval e env) :: starEach es env := by
  cases e <;> first | rfl | simp [plainArg] at h
theorem back_any {p : Pos} : ∀ {es : List Expr} {env : Env}, es.all plainArg = true → (backTo p (starEach es env)).any (·.1) = false
  | [], _, _ => rfl
  | e :: es, env, h => by
    rw [List.all_cons, Bool.and_eq_true] at h
    rw [star_cons h.1]
    exact back_any (es := es) (env := env) h.2
theorem den_B1 {id : String} {r : List V → Hp → VK → Prop} {p : P} (hc : CallR X (.builtin id) r) (ok : P1 X.K p r) (hg : Gl X x) (hm : X.mg x = none) (hv : bootBuiltins x = some (.builtin id)) (hn : x ≠ "__name__") (hd : (x == ("__debug__" : Str)) = false)
    (pa : plainArg a = true) (ha : PE X a (denE X.K xa W fa)) : PE X (.Call (.Name x p1) [a] [] pos) (denE X.K xa W fun ds st => (fa ds st).bind fun v st1 => prim1F p v st1) := by
  refine (pe_callB hc hg hm hv (pa_cons ha pa_nil (star_cons pa _ _)) hn hd (star_cons pa _ _) rfl).imp fun σ H Q h => ?_
  exact den_one (g := fun v st1 => prim1F p v st1) h fun ex H2 ρ2 st2 y v M r q => ok M r q
theorem den_T1 {id : String} {r : List V → Hp → VK → Prop} {p : P} (hc : CallR X (.type id) r) (ok : P1 X.K p r) (hg : Gl X x) (hm : X.mg x = none) (hv : bootBuiltins x = some (.type id)) (hn : x ≠ "__name__") (hd : (x == ("__debug__" : Str)) = false)
    (pa : plainArg a = true) (ha : PE X a (denE X.K xa W fa)) : PE X (.Call (.Name x p1) [a] [] pos) (denE X.K xa W fun ds st => (fa ds st).bind fun v st1 => prim1F p v st1) := by
  refine (pe_callTy hc hg hm hv (pa_cons ha pa_nil (star_cons pa _ _)) hn hd (star_cons pa _ _) rfl).imp fun σ H Q h => ?_
  exact den_one (g := fun v st1 => prim1F p v st1) h fun ex H2 ρ2 st2 y v M r q => ok M r q
theorem den_B2 {id : String} {r : List V → Hp → VK → Prop} {p : P} (hc : CallR X (.builtin id) r) (ok : P2 X.K p r) (hg : Gl X x) (hm : X.mg x = none) (hv : bootBuiltins x = some (.builtin id)) (hn : x ≠ "__name__") (hd : (x == ("__debug__" : Str)) = false)
    (pa : plainArg a = true) (pb : plainArg b = true) (ha : PE X a (denE X.K xa W fa)) (hb : PE X b (denE X.K xa W fb)) :
    PE X (.Call (.Name x p1) [a, b] [] pos) (denE X.K xa W fun ds st => (fa ds st).bind fun v st1 => (fb ds st1).bind fun u st2 => prim2F p v u st2) := by
  refine (pe_callB hc hg hm hv (pa_cons ha (pa_cons hb pa_nil (star_cons pb _ _)) (star_cons pa _ _)) hn hd (star_cons pa _ _) (back_any (es := [b]) (by simp [pb]))).imp fun σ H Q h => ?_
  exact den_two (g := fun v u st2 => prim2F p v u st2) h fun ex H2 ρ2 st2 y z v u M r1 r2 q => ok M r1 r2 q
theorem den_isi {t : Ty} {y : Str} (hg : Gl X "isinstance") (hm : X.mg "isinstance" = none) (hg2 : Gl X y) (hm2 : X.mg y = none) (hv2 : bootBuiltins y = some (.type (tyName t))) (hn2 : y ≠ "__name__") (hd2 : (y == ("__debug__" : Str)) = false)
    (pa : plainArg a = true) (ha : PE X a (denE X.K xa W fa)) : PE X (.Call (.Name "isinstance" p1) [a, .Name y p2] [] pos) (denE X.K xa W fun ds st => (fa ds st).bind fun v st1 => prim1F (.isi t) v st1) := by
  refine (pe_callB call_isiM hg hm boot_isinstance (pa_cons ha (pa_cons (pe_bltn (v := .ty (tyName t)) hg2 hm2 hv2 rfl hn2 hd2) pa_nil rfl) (star_cons pa _ _)) (by decide) (by decide) (star_cons pa _ _) rfl).imp fun σ H Q h => ?_
  exact den_one (g := fun v st1 => prim1F (.isi t) v st1) h fun ex H2 ρ2 st2 y v M r q => ok_isi M r q
/-! ### displays -/
theorem den_lift {es : List Expr} {fs : DS → Store → R (List D)} {R : List V → Hp → Prop} {σ : L2.St} {H : Hp} {Q : VK} {g : List D → Store → RE} (h : denE X.K xa W (fun ds st => (fs ds st).bind fun xs st1 => g xs st1) σ H Q)
    (k : ∀ ex H2 ρ2 st2 xs vs, Mem X.K ex H2 ρ2 st2 → Reps X.K ex H2 ρ2 xs vs → PostV X.K ex H2 ρ2 (g xs st2) (xOf xa W σ) Q → R vs H2) : denL X.K xa W fs σ H R := by
  obtain ⟨ex, ρ, ds, st, M, S, q⟩ := h
  refine ⟨ex, ρ, ds, st, M, S, ?_⟩
  have q' := PostL.bind q
  cases e : fs ds st with
  | no => rw [e] at q'; exact q'
  | exc z s => rw [e] at q'; exact q'
  | ok xs s =>
    rw [e] at q'
    intro vs H1 ρ1 e1 M1 r1
    obtain ⟨ys, st2, ρ2, e2, M2, r2, q2⟩ := q' vs H1 ρ1 e1 M1 r1
    exact k ex H1 ρ2 st2 ys vs M2 r2 q2
theorem den_tup {es : List Expr} {fs : DS → Store → R (List D)} {k : Nat} (h : PA X es (denL X.K xa W fs)) : PE X (.Tuple es k pos) (denE X.K xa W fun ds st => (fs ds st).bind fun xs st1 => primF .tup xs st1) := by
  refine (pe_tup h).imp fun σ H Q h => ?_
  refine den_lift (es := es) (g := fun xs st1 => primF .tup xs st1) h fun ex H2 ρ2 st2 xs vs M r q => ?_
  simp only [primF] at q
  split at q
  · rename_i hl
    refine ⟨by rw [← r.length]; exact Nat.le_trans hl (by decide), fun p hp => ?_⟩
    have e : Ext ρ2 H2 ρ2 (upd H2 p (.tup vs)) := Ext.laid hp
    exact q (.ref p) _ ρ2 e (M.laid hp) ⟨p, vs, rfl, .inl upd_same, r.ext e⟩
  · exact q.elim
theorem den_lst {m : Bool} {es : List Expr} {fs : DS → Store → R (List D)} (h : PA X es (denL X.K xa W fs)) : PE X (.List es pos) (denE X.K xa W fun ds st => (fs ds st).bind fun xs st1 => primF (.lst m) xs st1) := by
  refine (pe_lst h).imp fun σ H Q h => ?_
  refine den_lift (es := es) (g := fun xs st1 => primF (.lst m) xs st1) h fun ex H2 ρ2 st2 xs vs M r q => ?_
  simp only [primF] at q
  split at q
  · rename_i hl
    exact ⟨by rw [← r.length]; exact Nat.le_trans hl (by decide), fun p hp => q.newL M r p hp⟩
  · exact q.elim
theorem den_dnew : PE X (.Dict [] [] pos) (denE X.K xa W fun _ st => mkD true [] st) := by
  refine pe_dnewT.imp fun σ H Q ⟨ex, ρ, ds, st, M, S, q⟩ p hp => ?_
  have r0 : RepE X.K ex H ρ [] [] := by unfold RepE; rfl
  exact q.newD M r0 p hp
/-! ### methods -/
theorem base_of {o : Expr} {m : Str} (h : match o with | .Call _ _ _ _ => false | _ => true) (env : Env) (w : Sem Value) : attributeBase o m env w = w := by
  cases o <;> first | rfl | simp at h
theorem okRecv_lst {K : PySem.W.Frag} {ex : Addr → Prop} {H : Hp} {ρ : List Addr} {st : Store} {d : D} {v : V} (M : Mem K ex H ρ st) (r : Rep K ex H ρ d v) (h : (lstOf st d).isSome = true) : tyV K "list" v H := by
  obtain ⟨xs, hx⟩ := Option.isSome_iff_exists.mp h
  obtain ⟨a, vs, rfl, hs, _⟩ := rep_lst M r hx
  exact .inl ⟨rfl, vs, hs⟩
/-- a list's method with one argument -/
theorem den_mth1 {T : String} {name : Str} {id : String} {apos : Pos} {r : V → List V → Hp → VK → Prop} {p : P} (pa : PlainAttrs T) (slot : Slot T name id) (hty : typeOf (.builtin id) = pure (.type "method_descriptor")) (hm : MtR X id r)
    (ok1 : ∀ {ex H ρ st d v}, Mem X.K ex H ρ st → Rep X.K ex H ρ d v → okRecv p d st = true → tyV X.K T v H)
    (ok2 : ∀ {ex H ρ st d v e u Q Xe}, Mem X.K ex H ρ st → Rep X.K ex H ρ d v → Rep X.K ex H ρ e u → PostV X.K ex H ρ (prim2F p d e st) Xe Q → r v [u] H Q)
    (hb : ∀ w, attributeBase a name X.env w = w) (pb : plainArg b = true) (hl : (apos.endLine == pos.line) = true)
    (ha : PE X a (denE X.K xa W fa)) (hbb : PE X b (denE X.K xa W fb)) :
    PE X (.Call (.Attribute a name apos) [b] [] pos) (denE X.K xa W fun ds st => (fa ds st).bind fun v st1 => if okRecv p v st1 then (fb ds st1).bind fun u st2 => prim2F p v u st2 else .no) := by
  refine (pe_bm pa slot hty hm ha (pa_cons hbb pa_nil (star_cons pb _ _)) (hb _) (by rw [star_cons pb]; rfl) hl (star_cons pb _ _)).imp fun σ H Q h => ?_
  obtain ⟨ex, ρ, ds, st, M, S, q⟩ := h
  refine ⟨ex, ρ, ds, st, M, S, (PostV.bind q).imp fun v H1 ⟨y, st1, ρ1, e1, M1, r1, q1⟩ => ?_⟩
  split at q1
  · rename_i hk
    refine ⟨ok1 M1 r1 hk, ?_⟩
    exact ⟨ex, ρ1, ds, st1, M1, S.ext e1, (PostV.bind q1).imp fun u H2 ⟨z, st2, ρ2, e2, M2, r2, q2⟩ => ok2 M2 (r1.ext e2) r2 q2⟩
  · exact q1.elim
theorem den_mth0 {T : String} {name : Str} {id : String} {apos : Pos} {r : V → List V → Hp → VK → Prop} {p : P} (pa : PlainAttrs T) (slot : Slot T name id) (hty : typeOf (.builtin id) = pure (.type "method_descriptor")) (hm : MtR X id r)
    (ok1 : ∀ {ex H ρ st d v}, Mem X.K ex H ρ st → Rep X.K ex H ρ d v → okRecv p d st = true → tyV X.K T v H)
    (ok2 : ∀ {ex H ρ st d v Q Xe}, Mem X.K ex H ρ st → Rep X.K ex H ρ d v → PostV X.K ex H ρ (prim1F p d st) Xe Q → r v [] H Q)
    (hb : ∀ w, attributeBase a name X.env w = w) (hl : (apos.endLine == pos.line) = true)
    (ha : PE X a (denE X.K xa W fa)) :
    PE X (.Call (.Attribute a name apos) [] [] pos) (denE X.K xa W fun ds st => (fa ds st).bind fun v st1 => if okRecv p v st1 then prim1F p v st1 else .no) := by
  refine (pe_bm0 pa slot hty hm ha (hb _) hl).imp fun σ H Q h => ?_
  obtain ⟨ex, ρ, ds, st, M, S, q⟩ := h
  refine ⟨ex, ρ, ds, st, M, S, (PostV.bind q).imp fun v H1 ⟨y, st1, ρ1, e1, M1, r1, q1⟩ => ?_⟩
  split at q1
  · rename_i hk
    exact ⟨ok1 M1 r1 hk, ok2 M1 r1 q1⟩
  · exact q1.elim
theorem Reps.one {K : PySem.W.Frag} {ex : Addr → Prop} {H : Hp} {ρ : List Addr} {d : D} {v : V} (r : Rep K ex H ρ d v) : Reps K ex H ρ [d] [v] := ⟨v, [], rfl, r, rfl⟩
/-- a cell that is a list -/
theorem ok_append {ex : Addr → Prop} {H : Hp} {ρ : List Addr} {st : Store} {d e : D} {v u : V} {Q : VK} {Xe : Ex → Hp → List Addr → Store → Prop} (M : Mem X.K ex H ρ st) (r1 : Rep X.K ex H ρ d v) (r2 : Rep X.K ex H ρ e u) (h : PostV X.K ex H ρ (prim2F .append d e st) Xe Q) : rAppend v [u] H Q := by
  unfold prim2F at h
  simp only at h
  split at h
  · rename_i n
    obtain ⟨a, ha, rfl⟩ := r1
    split at h
    · rename_i xs hs
      obtain ⟨b, vs, h1, h2, h3⟩ := M.lst hs
      rw [ha] at h1
      cases h1
      split at h
      · rename_i hl
        refine ⟨a, vs, u, rfl, rfl, h2, by rw [← h3.length, lim_eq]; exact hl, ?_⟩
        have e : Ext ρ H ρ (upd H a (.lst (vs ++ [u]))) := Ext.write ha (fun vs => by rw [h2]; simp) (fun ob u => by rw [h2]; simp)
        exact h .non _ ρ e (M.write ha e ⟨_, upd_same, (h3.append (Reps.one r2)).ext e⟩) rfl
      · exact h.elim
    · exact h.elim
  · exact h.elim
theorem getLast_get : ∀ {xs : List D}, True := trivial
theorem ok_pop {ex : Addr → Prop} {H : Hp} {ρ : List Addr} {st : Store} {d : D} {v : V} {Q : VK} {Xe : Ex → Hp → List Addr → Store → Prop} (M : Mem X.K ex H ρ st) (r1 : Rep X.K ex H ρ d v) (h : PostV X.K ex H ρ (prim1F .pop d st) Xe Q) : rPop v [] H Q := by
  unfold prim1F at h
  simp only at h
  split at h
  · rename_i n
    obtain ⟨a, ha, rfl⟩ := r1
    split at h
    · rename_i xs hs
      obtain ⟨b, vs, h1, h2, h3⟩ := M.lst hs
      rw [ha] at h1
      cases h1
      split at h
      · rename_i y hy
        obtain ⟨z, hz, rz⟩ := h3.get hy
        refine ⟨a, vs, z, rfl, rfl, h2, by rw [← h3.length]; exact hz, ?_⟩
        have e : Ext ρ H ρ (upd H a (.lst vs.dropLast)) := Ext.write ha (fun vs => by rw [h2]; simp) (fun ob u => by rw [h2]; simp)
        exact h z _ ρ e (M.write ha e ⟨_, upd_same, h3.dropLast.ext e⟩) (rz.ext e)
      · exact h.elim
    · exact h.elim
  · exact h.elim
theorem ok_clear {ex : Addr → Prop} {H : Hp} {ρ : List Addr} {st : Store} {d : D} {v : V} {Q : VK} {Xe : Ex → Hp → List Addr → Store → Prop} (M : Mem X.K ex H ρ st) (r1 : Rep X.K ex H ρ d v) (h : PostV X.K ex H ρ (prim1F .clear d st) Xe Q) : rClear v [] H Q := by
  unfold prim1F at h
  simp only at h
  split at h
  · rename_i n
    obtain ⟨a, ha, rfl⟩ := r1
    split at h
    · rename_i xs hs
      obtain ⟨b, vs, h1, h2, h3⟩ := M.lst hs
      rw [ha] at h1
      cases h1
      refine ⟨a, vs, rfl, rfl, h2, ?_⟩
      have e : Ext ρ H ρ (upd H a (.lst [])) := Ext.write ha (fun vs => by rw [h2]; simp) (fun ob u => by rw [h2]; simp)
      exact h .non _ ρ e (M.write ha e ⟨[], upd_same, rfl⟩) rfl
    · exact h.elim
  · exact h.elim
end
end MP
end
section
set_option maxRecDepth 100000
set_option maxHeartbeats 4000000
/-! MP: calls, sources of loops, comprehensions over the hand layer's judgements. -/
namespace MP
open PySem PySem.Spec PyProof.Rows L2
/-! ### calls of the program's own functions -/
def spC (K : PySem.W.Frag) (xa : XA) (cl : Cl) (f np : Nat) : Sp := fun vs H Q E => vs.length = np ∧ CallOk K cl f vs H Q (fun e H' => ∀ cls dd, xa e cls dd H' → E cls dd H')
structure CallFacts (X : Cx) (xa : XA) (cl : Cl) (f np : Nat) (x : Str) : Prop where
  ex : ∃ (k : Nat) (a : Addr) (fd : FuncData) (ps : List Str), FnOk X.prog X.w X.K X.mg X.base (L2.CX X.prog X.w) k a fd ps (spC X.K xa cl f np) ∧ Room k X.A ∧ X.mg x = some (.ref a) ∧ PySem.W.keepIn X.K (.ref a) = true ∧ Binds X.K fd ps []
theorem CallOk.imp {K : PySem.W.Frag} {cl : Cl} {f : Nat} {vs : List V} {H : Hp} {Q : VK} {X X' : Ex → Hp → Prop} (h : CallOk K cl f vs H Q X) (i : ∀ e H', X e H' → X' e H') : CallOk K cl f vs H Q X' := by
  obtain ⟨ex, ρ, st, args, M, r, q⟩ := h
  refine ⟨ex, ρ, st, args, M, r, ?_⟩
  cases e : cl f args st with
  | ok d s => rw [e] at q; exact q
  | exc z s => rw [e] at q; exact fun H' ρ' e1 M1 => i _ _ (q H' ρ' e1 M1)
  | no => rw [e] at q; exact q
section
variable {X : Cx} {xa : XA} {W : WX} {pos p1 p2 : Pos} {a b c : Expr} {fa fb fc : DS → Store → RE} {x : Str} {es : List Expr} {fs : DS → Store → R (List D)} {cl : Cl} {f np : Nat} {raw : Bool}
theorem den_call0 {g : Store → RE} (F : CallFacts X xa cl f np x) (tk : Takes X W) (hg : Gl X x) (hd : (x == ("__debug__" : Str)) = false) (h0 : np = 0)
    (hq : ∀ {ex : Addr → Prop} {H : Hp} {ρ : List Addr} {st : Store} {σ : L2.St} {Q : VK}, Mem X.K ex H ρ st → PostV X.K ex H ρ (g st) (xOf xa W σ) Q → CallOk X.K cl f [] H Q (fun e H' => ∀ cls dd, xa e cls dd H' → W cls dd σ H')) :
    PE X (.Call (.Name x p1) [] [] pos) (denE X.K xa W fun _ st => g st) := by
  obtain ⟨k, a, fd, ps, FF, hr, hm, hk, hb⟩ := F.ex
  refine ⟨fun pins s σ H Q I h => ?_⟩
  refine wpAny_Call_Name_kw (ld_glob I hg hm ?_ hd)
  obtain ⟨ex, ρ, ds, st, M, S, q⟩ := h
  exact PySem.W.callWith_K0 I.kIn hk (run_fnSD (E := WE W) (us := []) (dvs := []) FF hr hb .nil (passAt tk σ) I .nil ⟨by rw [h0]; rfl, hq M q⟩)
theorem den_callN {g : List D → Store → RE} (F : CallFacts X xa cl f np x) (tk : Takes X W) (hg : Gl X x) (hd : (x == ("__debug__" : Str)) = false) (hn : (a :: es).length = np) (pa : (a :: es).all plainArg = true)
    (ha : PA X (a :: es) (denL X.K xa W fs)) (hl : ∀ ds st xs st', fs ds st = .ok xs st' → xs.length = np)
    (hq : ∀ {ex : Addr → Prop} {H : Hp} {ρ : List Addr} {st : Store} {σ : L2.St} {Q : VK} {xs : List D} {vs : List V}, Mem X.K ex H ρ st → Reps X.K ex H ρ xs vs → PostV X.K ex H ρ (g xs st) (xOf xa W σ) Q → CallOk X.K cl f vs H Q (fun e H' => ∀ cls dd, xa e cls dd H' → W cls dd σ H')) :
    PE X (.Call (.Name x p1) (a :: es) [] pos) (denE X.K xa W fun ds st => (fs ds st).bind fun xs st1 => g xs st1) := by
  obtain ⟨k, ad, fd, ps, FF, hr, hm, hk, hb⟩ := F.ex
  rw [List.all_cons, Bool.and_eq_true] at pa
  refine (pe_callSD (E := WE W) (dvs := []) FF hr hg hm hk hb .nil (fun σ => passAt tk σ) ha hd (star_cons pa.1 _ _) (back_any pa.2)).imp fun σ H Q h => ?_
  obtain ⟨ex, ρ, ds, st, M, S, q⟩ := h
  refine ⟨ex, ρ, ds, st, M, S, ?_⟩
  have q' := PostL.bind q
  simp only at q
  cases e : fs ds st with
  | no => rw [e] at q'; exact q'
  | exc z s => rw [e] at q'; exact q'
  | ok xs s =>
    rw [e] at q q'
    intro vs H1 ρ1 e1 M1 r1
    rw [List.append_nil]
    refine ⟨by rw [← r1.length]; exact hl ds st xs s e, ?_⟩
    exact hq M1 r1 (PostV.step e1 (show PostV X.K ex H ρ (g xs s) _ Q from q))
/-! ### where a loop draws from -/
/-- the iterator gives the items -/
def JOk (K : PySem.W.Frag) (ex : Addr → Prop) (J : It) (ρ : List Addr) (H : Hp) (xs : List D) : Prop :=
  ∀ ρ' H' (ex2 : Addr → Prop), Ext ρ H ρ' H' → (∀ a, H a ≠ none → ¬ ex a → ¬ ex2 a) → ∀ i, (∀ d, xs[i]? = some d → J.go i H' ∧ ∀ v H'', J.yld i H' v H'' → H'' = H' ∧ Rep K ex2 H' ρ' d v) ∧ (xs.length ≤ i → J.stop i H')
/-- how a source is read: no cell is locked -/
def SrcOk (X : Cx) (xa : XA) (W : WX) (tg iter : Expr) (k : SK) (fs : DS → Store → R (List D)) : Prop := ∃ wi : TI, PI X tg iter wi ∧
  (∀ {ex : Addr → Prop} {H : Hp} {ρ : List Addr} {st : Store} {σ : L2.St} {ds : DS} {xs : List D} {items : List D} {st1 : Store} {R : It → Hp → Prop}, Mem X.K ex H ρ st → Slots X.K ex H ρ σ ds → fs ds st = .ok xs st1 → srcF k xs st1 = some (none, items) →
    (∀ J H1 ρ1, Ext ρ H ρ1 H1 → Mem X.K ex H1 ρ1 st1 → JOk X.K ex J ρ1 H1 items → R J H1) → wi σ H R) ∧
  (∀ {ex : Addr → Prop} {H : Hp} {ρ : List Addr} {st : Store} {σ : L2.St} {ds : DS} {e : Ex} {st1 : Store} {R : It → Hp → Prop}, Mem X.K ex H ρ st → Slots X.K ex H ρ σ ds → fs ds st = .exc e st1 →
    PostL X.K ex H ρ (.exc e st1) (xOf xa W σ) (fun _ _ => False) → wi σ H R)
/-- an exception on the way to the items -/
theorem range_at {lo : Int} {n i : Nat} {d : D} (h : ((List.range n).map fun (i : Nat) => D.int (lo + i))[i]? = some d) : i < n ∧ d = .int (lo + i) := by
  rw [List.getElem?_map] at h
  obtain ⟨j, hj, rfl⟩ := Option.map_eq_some_iff.mp h
  have := List.getElem?_eq_some_iff.mp hj
  obtain ⟨h1, h2⟩ := this
  rw [List.length_range] at h1
  rw [List.getElem_range] at h2
  subst h2
  exact ⟨h1, rfl⟩
theorem jok_range {K : PySem.W.Frag} {ex : Addr → Prop} {ρ : List Addr} {H : Hp} (lo : Int) (n : Nat) : JOk K ex (Itr lo n) ρ H ((List.range n).map fun (i : Nat) => D.int (lo + i)) := by
  intro ρ' H' ex2 e hx i
  refine ⟨fun d h => ?_, fun h => ?_⟩
  · obtain ⟨h1, rfl⟩ := range_at h
    refine ⟨h1, fun v H'' hy => ?_⟩
    obtain ⟨rfl, rfl⟩ := hy
    exact ⟨rfl, rfl⟩
  · rw [List.length_map, List.length_range] at h
    exact h
/-- a list that stands -/
theorem SqL.ext {K : PySem.W.Frag} {H H' : Hp} {ρ ρ' : List Addr} {a : Addr} {vs : List V} (e : Ext ρ H ρ' H') (n : a ∉ ρ ∨ ∃ o, H a = some (.frz o (.lst vs))) (h : SqL K H a vs) : SqL K H' a vs := by
  rcases n with n | ⟨o, n⟩
  · rcases h with h | h
    · exact .inl (Rd.ext e h n)
    · exact .inr h
  · exact .inl (.inr ⟨o, e.frzs a o _ n⟩)
theorem _root_.L2.PI.or {X : Cx} {tg e : Expr} {w w' : TI} (h : PI X tg e w) (h' : PI X tg e w') : PI X tg e (fun σ H R => w σ H R ∨ w' σ H R) := ⟨fun pins s σ H R I q => q.elim (h.run pins s σ H R I) (h'.run pins s σ H R I)⟩
theorem sql_inj {K : PySem.W.Frag} {H : Hp} {a : Addr} {vs ws : List V} (h : Rd H a (.lst vs)) (g : Rd H a (.lst ws)) : vs = ws := by
  rcases h with h | ⟨o, h⟩ <;> rcases g with g | ⟨o', g⟩ <;> rw [h] at g <;> cases g <;> rfl
/-- a list that stands is walked -/
theorem jok_list {K : PySem.W.Frag} {ex : Addr → Prop} {ρ : List Addr} {H : Hp} {a : Addr} {xs : List D} {vs : List V} (h : ∀ ρ' H', Ext ρ H ρ' H' → SqL K H' a vs) (r : Reps K ex H ρ xs vs) : JOk K ex (Itl K a) ρ H xs := by
  intro ρ' H' ex2 e hx i
  have hr := h ρ' H' e
  have r' := r.ext2 e hx
  refine ⟨fun d hd => ?_, fun hi => ⟨vs, hr, by rw [← r'.length]; exact hi⟩⟩
  obtain ⟨v, hv, rv⟩ := r'.get hd
  refine ⟨⟨vs, v, hr, hv⟩, fun w H'' hy => ?_⟩
  obtain ⟨rfl, hy⟩ := hy
  have := hy vs hr
  rw [hv] at this
  cases this
  exact ⟨rfl, rv⟩
theorem jok_tup {K : PySem.W.Frag} {ex : Addr → Prop} {ρ : List Addr} {H : Hp} {a : Addr} {xs : List D} {vs : List V} (h : TupAt K H a vs) (r : Reps K ex H ρ xs vs) : JOk K ex (Itt K a) ρ H xs := by
  intro ρ' H' ex2 e hx i
  have hr := (h.ext e).sq
  have r' := r.ext2 e hx
  refine ⟨fun d hd => ?_, fun hi => ⟨vs, hr, by rw [← r'.length]; exact hi⟩⟩
  obtain ⟨v, hv, rv⟩ := r'.get hd
  refine ⟨⟨vs, v, hr, hv⟩, fun w H'' hy => ?_⟩
  obtain ⟨rfl, hy⟩ := hy
  have := hy vs hr
  rw [hv] at this
  cases this
  exact ⟨rfl, rv⟩
theorem jok_str {K : PySem.W.Frag} {ex : Addr → Prop} {ρ : List Addr} {H : Hp} {s : Tx} (ok : txOk s) : JOk K ex (Its (strOf s)) ρ H (s.map oneS) := by
  intro ρ' H' ex2 e hx i
  refine ⟨fun d hd => ?_, fun hi => ?_⟩
  · rw [List.getElem?_map] at hd
    obtain ⟨c, hc, rfl⟩ := Option.map_eq_some_iff.mp hd
    have hl := (List.getElem?_eq_some_iff.mp hc).1
    refine ⟨by show i < (strOf s).cps.size; rw [show (strOf s).cps.size = s.length from strOf_len s]; exact hl, fun w H'' hy => ?_⟩
    obtain ⟨rfl, c', hc', rfl⟩ := hy
    have e2 : (strOf s).cps[i]? = s[i]? := by
      show s.toArray[i]? = s[i]?
      simp
    rw [e2, hc] at hc'
    cases hc'
    exact ⟨rfl, rfl, fun x m => by rw [List.mem_singleton.mp m]; exact ok c (mem_of_get hc)⟩
  · rw [List.length_map] at hi
    show (strOf s).cps.size ≤ i
    rw [show (strOf s).cps.size = s.length from strOf_len s]
    exact hi
theorem keys_get {K : PySem.W.Frag} {ex : Addr → Prop} {ρ : List Addr} {H : Hp} : ∀ {es : List (Pl × D)} {kvs : List (List Key × V)} {i : Nat} {e : Pl × D}, RepE K ex H ρ es kvs → es[i]? = some e → ∃ v, kvs[i]? = some (kP e.1, v)
  | [], _, _, _, _, h => by simp at h
  | (p, d) :: es, _, 0, _, ⟨v, r, e1, h, t⟩, q => by cases q; subst e1; exact ⟨v, rfl⟩
  | (p, d) :: es, _, i + 1, _, ⟨v, r, e1, h, t⟩, q => by
    subst e1
    obtain ⟨w, hw⟩ := keys_get (i := i) t (by simpa using q)
    exact ⟨w, by simpa using hw⟩
theorem jok_keys {K : PySem.W.Frag} {ex : Addr → Prop} {ρ : List Addr} {H : Hp} {a : Addr} {o : Obj} {es : List (Pl × D)} {kvs : List (List Key × V)} (h : H a = some (.frz o (.dT kvs))) (r : RepE K ex H ρ es kvs) : JOk K ex (Itkt a o kvs) ρ H (es.map fun e => plD e.1) := by
  intro ρ' H' ex2 e hx i
  have hr := e.frzs a o _ h
  have r' := r.ext2 e hx
  refine ⟨fun d hd => ?_, fun hi => ⟨hr, by rw [← r'.length]; rw [List.length_map] at hi; exact hi⟩⟩
  rw [List.getElem?_map] at hd
  obtain ⟨en, hen, rfl⟩ := Option.map_eq_some_iff.mp hd
  obtain ⟨v, hv⟩ := keys_get r' hen
  refine ⟨⟨hr, (List.getElem?_eq_some_iff.mp hv).1⟩, fun w H'' hy => ?_⟩
  obtain ⟨rfl, k, u, q, hk, rfl, hq⟩ := hy
  rw [hv] at hk
  cases hk
  exact ⟨rfl, rep_plD hq⟩
/-! ### the sources -/
def one (fe : DS → Store → RE) : DS → Store → R (List D) := fun ds st => (fe ds st).bind fun x st1 => .ok [x] st1
theorem one_ok {ds : DS} {st st1 : Store} {xs : List D} (h : one fa ds st = .ok xs st1) : ∃ d, fa ds st = .ok d st1 ∧ xs = [d] := by
  unfold one at h
  cases e : fa ds st with
  | ok d s => rw [e] at h; cases h; exact ⟨d, rfl, rfl⟩
  | exc _ _ => rw [e] at h; cases h
  | no => rw [e] at h; cases h
theorem one_exc {ds : DS} {st st1 : Store} {z : Ex} (h : one fa ds st = .exc z st1) : fa ds st = .exc z st1 := by
  unfold one at h
  cases e : fa ds st with
  | ok d s => rw [e] at h; cases h
  | exc _ _ => rw [e] at h; cases h; rfl
  | no => rw [e] at h; cases h
theorem src_rng1 {tg : Expr} (hg : Gl X "range") (hm : X.mg "range" = none) (pa : plainArg a = true) (ha : PE X a (denE X.K xa W fa)) : SrcOk X xa W tg (.Call (.Name "range" p1) [a] [] pos) .rng1 (one fa) := by
  refine ⟨_, pi_range1 hg hm (pa_cons ha pa_nil (star_cons pa _ _)) (star_cons pa _ _), ?_, ?_⟩
  · intro ex H ρ st σ ds xs items st1 R M S h hs q
    obtain ⟨d, e, rfl⟩ := one_ok h
    refine ⟨ex, ρ, ds, st, M, S, ?_⟩
    rw [e]
    intro v H1 ρ1 e1 M1 r1
    cases d with
    | int n =>
      cases r1
      simp only [srcF] at hs
      split at hs
      · rename_i hn
        cases hs
        refine ⟨n, rfl, hn.1, hn.2, q _ H1 ρ1 e1 M1 ?_⟩
        have := jok_range (K := X.K) (ex := ex) (ρ := ρ1) (H := H1) 0 n.toNat
        unfold rangeD
        rw [Int.sub_zero]
        exact this
      · cases hs
    | _ => simp [srcF] at hs
  · intro ex H ρ st σ ds e st1 R M S h q
    refine ⟨ex, ρ, ds, st, M, S, ?_⟩
    rw [one_exc h]
    exact q
def two (fe fg : DS → Store → RE) : DS → Store → R (List D) := fun ds st => (fe ds st).bind fun x st1 => (fg ds st1).bind fun y st2 => .ok [x, y] st2
theorem two_ok {ds : DS} {st st2 : Store} {xs : List D} (h : two fa fb ds st = .ok xs st2) : ∃ d e st1, fa ds st = .ok d st1 ∧ fb ds st1 = .ok e st2 ∧ xs = [d, e] := by
  unfold two at h
  cases e : fa ds st with
  | ok d s =>
    rw [e] at h
    simp only [R.bind] at h
    cases e2 : fb ds s with
    | ok y s2 => rw [e2] at h; cases h; exact ⟨d, y, s, rfl, e2, rfl⟩
    | exc _ _ => rw [e2] at h; cases h
    | no => rw [e2] at h; cases h
  | exc _ _ => rw [e] at h; cases h
  | no => rw [e] at h; cases h
theorem two_exc {ds : DS} {st st2 : Store} {z : Ex} (h : two fa fb ds st = .exc z st2) : fa ds st = .exc z st2 ∨ ∃ d st1, fa ds st = .ok d st1 ∧ fb ds st1 = .exc z st2 := by
  unfold two at h
  cases e : fa ds st with
  | ok d s =>
    rw [e] at h
    simp only [R.bind] at h
    cases e2 : fb ds s with
    | ok y s2 => rw [e2] at h; cases h
    | exc _ _ => rw [e2] at h; cases h; exact .inr ⟨d, s, rfl, e2⟩
    | no => rw [e2] at h; cases h
  | exc _ _ => rw [e] at h; cases h; exact .inl rfl
  | no => rw [e] at h; cases h
theorem src_rng2 {tg : Expr} (hg : Gl X "range") (hm : X.mg "range" = none) (pa : plainArg a = true) (pb : plainArg b = true) (ha : PE X a (denE X.K xa W fa)) (hb : PE X b (denE X.K xa W fb)) :
    SrcOk X xa W tg (.Call (.Name "range" p1) [a, b] [] pos) .rng2 (two fa fb) := by
  refine ⟨_, pi_range2 hg hm (pa_cons ha (pa_cons hb pa_nil (star_cons pb _ _)) (star_cons pa _ _)) (by rw [star_cons pa, star_cons pb]; rfl) (by rw [star_cons pb]; rfl), ?_, ?_⟩
  · intro ex H ρ st σ ds xs items st1 R M S h hs q
    obtain ⟨x, y, s, e, e2, rfl⟩ := two_ok h
    refine ⟨ex, ρ, ds, st, M, S, ?_⟩
    rw [e]
    intro v H1 ρ1 e1 M1 r1
    refine ⟨ex, ρ1, ds, s, M1, S.ext e1, ?_⟩
    rw [e2]
    intro u H2 ρ2 e3 M2 r2
    cases x with
    | int i =>
      cases y with
      | int j =>
        cases r1
        cases r2
        simp only [srcF] at hs
        split at hs
        · rename_i hn
          cases hs
          exact ⟨i, j, rfl, ⟨hn.1.1, hn.1.2, hn.2.1, hn.2.2⟩, q _ H2 ρ2 (e1.trans e3) M2 (jok_range i (j - i).toNat)⟩
        · cases hs
      | _ => simp [srcF] at hs
    | _ => simp [srcF] at hs
  · intro ex H ρ st σ ds z st1 R M S h q
    refine ⟨ex, ρ, ds, st, M, S, ?_⟩
    rcases two_exc h with e | ⟨x, s, e, e2⟩
    · rw [e]; exact q
    · rw [e]
      intro v H1 ρ1 e1 M1 r1
      refine ⟨ex, ρ1, ds, s, M1, S.ext e1, ?_⟩
      rw [e2]
      exact fun H' ρ' e' M' => q H' ρ' (e1.trans e') M'
def iM (K : PySem.W.Frag) (te : TE) : TI := fun σ H R => iList K te σ H R ∨ iTup K te σ H R ∨ iStr te σ H R ∨ iKeys te σ H R
theorem pi_M {tg : Expr} {te : TE} (ha : PE X a te) : PI X tg a (iM X.K te) := PI.or (pi_list ha) (PI.or (pi_tup ha) (PI.or (pi_str ha) (pi_keys ha)))
/-- lists, tuples, texts, the script, walked -/
theorem walk_it {ex : Addr → Prop} {H : Hp} {ρ : List Addr} {st st1 : Store} {σ : L2.St} {ds : DS} {d : D} {items : List D} {R : It → Hp → Prop} (M : Mem X.K ex H ρ st) (S : Slots X.K ex H ρ σ ds) (e : fa ds st = .ok d st1) (hs : srcF .it [d] st1 = some (none, items))
    (q : ∀ J H1 ρ1, Ext ρ H ρ1 H1 → Mem X.K ex H1 ρ1 st1 → JOk X.K ex J ρ1 H1 items → R J H1) : iM X.K (denE X.K xa W fa) σ H R := by
  cases d with
  | lst xs =>
    cases hs
    refine .inl ⟨ex, ρ, ds, st, M, S, ?_⟩
    rw [e]
    intro v H1 ρ1 e1 M1 ⟨p, vs, hv, t, n, x, rs⟩
    exact ⟨p, hv, ⟨vs, .inl t⟩, q _ H1 ρ1 e1 M1 (jok_list (fun ρ' H' e' => .inl (Rd.ext e' t n)) rs)⟩
  | scr ns =>
    cases hs
    refine .inl ⟨ex, ρ, ds, st, M, S, ?_⟩
    rw [e]
    intro v H1 ρ1 e1 M1 ⟨p, hv, r⟩
    rcases r with ⟨t, n, x⟩ | t
    · exact ⟨p, hv, ⟨_, .inl t⟩, q _ H1 ρ1 e1 M1 (jok_list (fun ρ' H' e' => .inl (Rd.ext e' t n)) (Reps.ints ns))⟩
    · exact ⟨p, hv, ⟨_, .inr t⟩, q _ H1 ρ1 e1 M1 (jok_list (fun ρ' H' e' => .inr t) (Reps.ints ns))⟩
  | tup xs =>
    cases hs
    refine .inr (.inl ⟨ex, ρ, ds, st, M, S, ?_⟩)
    rw [e]
    intro v H1 ρ1 e1 M1 ⟨p, vs, hv, t, rs⟩
    exact ⟨p, hv, ⟨vs, t.sq⟩, q _ H1 ρ1 e1 M1 (jok_tup t rs)⟩
  | str s =>
    cases hs
    refine .inr (.inr (.inl ⟨ex, ρ, ds, st, M, S, ?_⟩))
    rw [e]
    intro v H1 ρ1 e1 M1 ⟨hv, ok⟩
    exact ⟨_, hv, q _ H1 ρ1 e1 M1 (jok_str ok)⟩
  | _ => simp [srcF] at hs
theorem src_it {tg : Expr} (ha : PE X a (denE X.K xa W fa)) : SrcOk X xa W tg a .it (one fa) := by
  refine ⟨_, pi_M ha, ?_, ?_⟩
  · intro ex H ρ st σ ds xs items st1 R M S h hs q
    obtain ⟨d, e, rfl⟩ := one_ok h
    exact walk_it M S e hs q
  · intro ex H ρ st σ ds e st1 R M S h q
    refine .inl ⟨ex, ρ, ds, st, M, S, ?_⟩
    rw [one_exc h]
    exact q
end
end MP
end
section
set_option maxRecDepth 100000
set_option maxHeartbeats 4000000
/-! MP: {'a': 1, ..}[e], texts and whole numbers that stand there. -/
namespace MP
open PySem PySem.Spec PyProof.Rows L2
def dictB : List (Tx × Int) → List (Option Expr) → List Expr → Bool
  | [], [], [] => true
  | (s, i) :: r, some (.Constant (.str t) _ _) :: ks, .Constant (.int j) _ _ :: vs => decide (s = t.cps.toList) && decide (i = j) && dictB r ks vs
  | _, _, _ => false
def kvsOfK (ks : List (Tx × Int)) : List (Key × V) := ks.map fun p => (Sum.inr (strOf p.1), V.int p.2)
theorem pps_dict {X : Cx} {pos : Pos} : ∀ {ks : List (Tx × Int)} {keys : List (Option Expr)} {values : List Expr}, dictB ks keys values = true →
    ∃ trs, PPs X pos keys values trs ∧ keys.all (·.isSome) = true ∧ keys.length = values.length ∧ keys.length = ks.length ∧ ∀ σ H Q, Q ((kvsOfK ks).map fun kv => (kV kv.1, kv.2)) H → tPairs trs σ H Q
  | [], keys, values, h => by
    unfold dictB at h
    split at h
    · exact ⟨[], pps_nil, rfl, rfl, rfl, fun σ H Q q => q⟩
    · rename_i h1
      cases h1
    · cases h
  | (s, i) :: ks, keys, values, h => by
    unfold dictB at h
    split at h
    · rename_i h1
      cases h1
    · rename_i s' i' r t a b ks' j c d vs' h1
      cases h1
      simp only [Bool.and_eq_true, decide_eq_true_eq] at h
      obtain ⟨⟨rfl, rfl⟩, h⟩ := h
      obtain ⟨trs, h1, h2, h3, h4, h5⟩ := pps_dict (X := X) (pos := pos) h
      refine ⟨_, pps_cons pe_str pe_int h1, by simpa using h2, by simp [h3], by simp [h4], fun σ H Q q => ?_⟩
      show tPairs _ σ H _
      refine h5 σ H _ ?_
      have e : strOf t.cps.toList = t := by show (⟨t.cps.toList.toArray⟩ : Str) = t; rw [Array.toArray_toList]
      simp only [kvsOfK, List.map_cons, e] at q
      exact q
    · cases h
theorem val_merge (ks : List (Tx × Int)) (s : Tx) : ∀ acc : List (Key × V), valV (mergeK acc (kvsOfK ks)) (Sum.inr (strOf s)) = ks.foldl (fun o p => if p.1 = s then some (V.int p.2) else o) (valV acc (Sum.inr (strOf s))) := by
  induction ks with
  | nil => intro acc; rfl
  | cons p ks ih =>
    intro acc
    show valV (mergeK (putK acc (Sum.inr (strOf p.1)) (V.int p.2)) (kvsOfK ks)) _ = _
    rw [ih, List.foldl_cons, valV_put]
    congr 1
    by_cases h : p.1 = s
    · subst h; simp
    · have h2 : ¬ ((Sum.inr (strOf s) : Key) = Sum.inr (strOf p.1)) := by
        intro e
        injection e with e
        have := congrArg (fun x : Str => x.cps.toList) e
        exact h (by simpa [strOf] using this.symm)
      rw [if_neg h2, if_neg h]
theorem fold_look (ks : List (Tx × Int)) (s : Tx) : ∀ o : Option Int, ks.foldl (fun o p => if p.1 = s then some (V.int p.2) else o) (o.map V.int) = (ks.foldl (fun o p => if p.1 = s then some p.2 else o) o).map V.int := by
  induction ks with
  | nil => intro o; rfl
  | cons p ks ih =>
    intro o
    rw [List.foldl_cons, List.foldl_cons, ← ih]
    congr 1
    split <;> rfl
theorem den_kix {X : Cx} {xa : XA} {W : WX} {pos p1 : Pos} {e : Expr} {fe : DS → Store → RE} {ks : List (Tx × Int)} {keys : List (Option Expr)} {values : List Expr} (hu : X.A.units + 65 < cLine) (hd : dictB ks keys values = true) (h0 : ks ≠ []) (h15 : ks.length ≤ 15) (hs : NoSl e)
    (he : PE X e (denE X.K xa W fe)) : PE X (.Subscript (.Dict keys values p1) e pos) (denE X.K xa W fun ds st => (fe ds st).bind fun x st1 => prim1F (.kix ks) x st1) := by
  obtain ⟨trs, h1, h2, h3, h4, h5⟩ := pps_dict (X := X) (pos := p1) hd
  have hk : keys ≠ [] := by intro z; rw [z] at h4; exact h0 (List.length_eq_zero_iff.mp h4.symm)
  refine (pe_dget (by omega) (pe_disp h1 h2 h3 hk (by omega)) he hs).imp fun σ H Q h => ?_
  obtain ⟨ex, ρ, ds, st, M, S, q⟩ := h
  intro p hp
  refine h5 σ _ _ ⟨upd_same, kvsOfK ks, rfl, by unfold kvsOfK; rw [List.length_map]; omega, ?_⟩
  rw [upd_upd]
  have ee : Ext ρ H ρ (upd H p (.dK (mergeK [] (kvsOfK ks)))) := Ext.laid hp
  have hpr : p ∉ ρ := (M.fresh hp).1
  refine ⟨ex, ρ, ds, st, M.laid hp, S.ext ee, (PostV.bind (PostV.step ee q)).imp fun v H2 ⟨x, st1, ρ1, e1, M1, r1, q1⟩ => ?_⟩
  have hrd : Rd H2 p (.dK (mergeK [] (kvsOfK ks))) := Rd.ext e1 (.inl upd_same) hpr
  unfold prim1F at q1
  simp only at q1
  split at q1
  · rename_i s
    obtain ⟨rfl, _⟩ := r1
    have hv := val_merge ks s []
    rw [show valV ([] : List (Key × V)) (Sum.inr (strOf s)) = (none : Option Int).map V.int from rfl, fold_look] at hv
    cases hl : ks.foldl (fun o p => if p.1 = s then some p.2 else o) (none : Option Int) with
    | none => rw [hl] at q1; exact q1.elim
    | some i =>
      rw [hl] at q1 hv
      exact ⟨p, V.int i, rfl, .inl ⟨_, Sum.inr (strOf s), hrd, rfl, hv.symm⟩, q1.here M1 rfl⟩
  · exact q1.elim
end MP
end
section
set_option maxRecDepth 100000
set_option maxHeartbeats 4000000
/-! MP: more methods and built-ins: insert, join, get, sorted, str. -/
namespace MP
open PySem PySem.Spec PyProof.Rows L2
section
variable {X : Cx} {xa : XA} {W : WX} {pos p1 p2 : Pos} {a b c : Expr} {fa fb fc : DS → Store → RE} {x : Str}
theorem den_mth2 {T : String} {name : Str} {id : String} {apos : Pos} {r : V → List V → Hp → VK → Prop} {p : P} (pa : PlainAttrs T) (slot : Slot T name id) (hty : typeOf (.builtin id) = pure (.type "method_descriptor")) (hm : MtR X id r)
    (ok1 : ∀ {ex H ρ st d v}, Mem X.K ex H ρ st → Rep X.K ex H ρ d v → okRecv p d st = true → tyV X.K T v H)
    (ok2 : ∀ {ex H ρ st d v e u f w Q Xe}, Mem X.K ex H ρ st → Rep X.K ex H ρ d v → Rep X.K ex H ρ e u → Rep X.K ex H ρ f w → PostV X.K ex H ρ (prim3F p d e f st) Xe Q → r v [u, w] H Q)
    (hb : ∀ w, attributeBase a name X.env w = w) (pb : plainArg b = true) (pc : plainArg c = true) (hl : (apos.endLine == pos.line) = true)
    (ha : PE X a (denE X.K xa W fa)) (hbb : PE X b (denE X.K xa W fb)) (hcc : PE X c (denE X.K xa W fc)) :
    PE X (.Call (.Attribute a name apos) [b, c] [] pos) (denE X.K xa W fun ds st => (fa ds st).bind fun v st1 => if okRecv p v st1 then (fb ds st1).bind fun u st2 => (fc ds st2).bind fun w st3 => prim3F p v u w st3 else .no) := by
  refine (pe_bm pa slot hty hm ha (pa_cons hbb (pa_cons hcc pa_nil (star_cons pc _ _)) (star_cons pb _ _)) (hb _) (by rw [star_cons pb, star_cons pc]; rfl) hl (star_cons pb _ _) (by rw [star_cons pc]; rfl)).imp fun σ H Q h => ?_
  obtain ⟨ex, ρ, ds, st, M, S, q⟩ := h
  refine ⟨ex, ρ, ds, st, M, S, (PostV.bind q).imp fun v H1 ⟨y, st1, ρ1, e1, M1, r1, q1⟩ => ?_⟩
  split at q1
  · rename_i hk
    refine ⟨ok1 M1 r1 hk, ?_⟩
    refine ⟨ex, ρ1, ds, st1, M1, S.ext e1, (PostV.bind q1).imp fun u H2 ⟨z, st2, ρ2, e2, M2, r2, q2⟩ => ?_⟩
    exact ⟨ex, ρ2, ds, st2, M2, (S.ext e1).ext e2, (PostV.bind q2).imp fun w H3 ⟨z', st3, ρ3, e3, M3, r3, q3⟩ => ok2 M3 ((r1.ext e2).ext e3) (r2.ext e3) r3 q3⟩
  · exact q1.elim
end
section
variable {K : PySem.W.Frag} {ex : Addr → Prop} {H : Hp} {ρ : List Addr} {st : Store} {Xe : Ex → Hp → List Addr → Store → Prop} {Q : VK}
def rInsertM : V → List V → Hp → VK → Prop := fun x vs H Q => ∃ (l : Addr) (xs : List V) (i : Int) (y : V), x = .ref l ∧ vs = [.int i, y] ∧ H l = some (.lst xs) ∧ xs.length < sizeLine ∧ 0 ≤ i ∧ i < 2 ^ 63 ∧
    Q .non (upd H l (.lst (xs.take i.toNat ++ [y] ++ xs.drop i.toNat)))
theorem ok_insert {d e f : D} {v u w : V} (M : Mem K ex H ρ st) (r1 : Rep K ex H ρ d v) (r2 : Rep K ex H ρ e u) (r3 : Rep K ex H ρ f w) (h : PostV K ex H ρ (prim3F .insert d e f st) Xe Q) : rInsertM v [u, w] H Q := by
  unfold prim3F at h
  simp only at h
  split at h
  · rename_i n i
    obtain ⟨a, ha, rfl⟩ := r1
    cases r2
    split at h
    · rename_i xs hs
      obtain ⟨b, vs, h1, h2, h3⟩ := M.lst hs
      rw [ha] at h1
      cases h1
      split at h
      · rename_i hl
        refine ⟨a, vs, i, w, rfl, rfl, h2, by rw [← h3.length, lim_eq]; exact hl.1, hl.2.1, hl.2.2, ?_⟩
        have e : Ext ρ H ρ (upd H a (.lst (vs.take i.toNat ++ [w] ++ vs.drop i.toNat))) := Ext.write ha (fun vs => by rw [h2]; simp) (fun ob u => by rw [h2]; simp)
        exact h .non _ ρ e (M.write ha e ⟨_, upd_same, (((h3.take _).append (Reps.one r3)).append (h3.drop _)).ext e⟩) rfl
      · exact h.elim
    · exact h.elim
  · exact h.elim
/-! ### join -/
theorem okRecv_join {d : D} {v : V} (M : Mem K ex H ρ st) (r : Rep K ex H ρ d v) (h : okRecv .join d st = true) : ∃ s, d = .str s ∧ v = .str (strOf s) ∧ txOk s := by
  cases d with
  | str s => exact ⟨s, rfl, r.1, r.2⟩
  | _ => simp [okRecv] at h
theorem joinT_eq (s : Tx) : ∀ ts : List Tx, strOf (joinT s ts) = Txt.join (strOf s) (ts.map strOf)
  | ts => by
    rw [TL.join_eq]
    have e : ∀ ts : List Tx, joinT s ts = TL.joinL s ts := by
      intro ts
      induction ts with
      | nil => rfl
      | cons p r ih =>
        cases r with
        | nil => rfl
        | cons q r => rw [joinT, TL.joinL, ih, List.append_assoc]; intro z; cases z
    have := TL.tl_join (strOf s) (ts.map strOf)
    have e2 : (ts.map strOf).map TL.tl = ts := by rw [List.map_map]; exact (List.map_congr_left fun t _ => by show (strOf t).cps.toList = t; rfl).trans (List.map_id _)
    rw [e2, show TL.tl (strOf s) = s from rfl, ← e] at this
    show (⟨(joinT s ts).toArray⟩ : Str) = _
    rw [← this]
theorem txOk_join {s : Tx} (hs : txOk s) : ∀ {ts : List Tx}, (∀ t ∈ ts, txOk t) → txOk (joinT s ts)
  | [], _ => fun c m => by simp [joinT] at m
  | [t], h => h t (by simp)
  | t :: t' :: ts, h => fun c m => by
    simp only [joinT, List.mem_append] at m
    rcases m with (m | m) | m
    · exact h t (by simp) c m
    · exact hs c m
    · exact txOk_join hs (ts := t' :: ts) (fun u hu => h u (List.mem_cons_of_mem _ hu)) c m
def rJoinM (K : PySem.W.Frag) : V → List V → Hp → VK → Prop := fun x xs H Q => ∃ a p, ∃ ys : List Str, x = .str a ∧ xs = [.ref p] ∧ (SqL K H p (ys.map V.str) ∨ SqT K H p (ys.map V.str)) ∧
    (ys.map (·.length)).sum + ys.length * a.length ≤ 16777216 ∧ Q (.str (Txt.join a ys)) H
theorem ok_join {d e : D} {v u : V} (M : Mem K ex H ρ st) (r1 : Rep K ex H ρ d v) (r2 : Rep K ex H ρ e u) (h : PostV K ex H ρ (prim2F .join d e st) Xe Q) : rJoinM K v [u] H Q := by
  unfold prim2F at h
  simp only at h
  split at h
  · rename_i s
    obtain ⟨rfl, hs⟩ := r1
    split at h
    · rename_i xs hx
      split at h
      · rename_i ts ht
        split at h
        · rename_i hl
          obtain ⟨p, vs, rfl, hq, rs⟩ := rep_lst M r2 hx
          rw [txsOf_eq ht] at rs
          obtain ⟨rfl, ok⟩ := reps_txs rs
          refine ⟨_, p, ts.map strOf, rfl, rfl, .inl hq, ?_, ?_⟩
          · rw [List.map_map, List.length_map, strOf_len]
            have : (ts.map ((fun x : Str => x.length) ∘ strOf)) = ts.map List.length := List.map_congr_left fun t _ => strOf_len t
            rw [this]
            exact hl
          · rw [← joinT_eq]
            exact h.here M ⟨rfl, txOk_join hs ok⟩
        · exact h.elim
      · exact h.elim
    · exact h.elim
  · exact h.elim
def rFindM : V → List V → Hp → VK → Prop := fun x xs H Q => ∃ a b, x = .str a ∧ xs = [.str b] ∧ Q (.int (Txt.find a b)) H
theorem ok_find {d e : D} {v u : V} (M : Mem K ex H ρ st) (r1 : Rep K ex H ρ d v) (r2 : Rep K ex H ρ e u) (h : PostV K ex H ρ (prim2F .find d e st) Xe Q) : rFindM v [u] H Q := by
  unfold prim2F at h
  simp only at h
  split at h
  · rename_i s t
    obtain ⟨rfl, hs⟩ := r1
    obtain ⟨rfl, ht⟩ := r2
    refine ⟨_, _, rfl, rfl, ?_⟩
    have e : Txt.find (strOf s) (strOf t) = findT s t := by
      unfold Txt.find findT
      rw [strOf_len]
      rfl
    rw [e]
    exact h.here M rfl
  · exact h.elim
theorem okRecv_find {d : D} {v : V} (M : Mem K ex H ρ st) (r : Rep K ex H ρ d v) (h : okRecv .find d st = true) : ∃ s, d = .str s ∧ v = .str (strOf s) ∧ txOk s := by
  cases d with
  | str s => exact ⟨s, rfl, r.1, r.2⟩
  | _ => simp [okRecv] at h
/-! ### sorted -/
theorem perm_eq : ∀ {l m : List Pl}, l.Perm m → l.Pairwise (fun a b => plLe a b = true) → m.Pairwise (fun a b => plLe a b = true) → l = m
  | [], m, p, _, _ => (List.nil_perm.mp p).symm
  | a :: l, [], p, _, _ => absurd p.length_eq (by simp)
  | a :: l, b :: m, p, hl, hm => by
    have hab : a = b := by
      rcases List.mem_cons.mp (p.mem_iff.mp (List.mem_cons_self (a := a) (l := l))) with e | e
      · exact e
      · rcases List.mem_cons.mp (p.symm.mem_iff.mp (List.mem_cons_self (a := b) (l := m))) with e2 | e2
        · exact e2.symm
        · have h1 := (List.pairwise_cons.mp hl).1 b e2
          have h2 := (List.pairwise_cons.mp hm).1 a e
          unfold plLe at h1 h2
          simp only [Bool.or_eq_true, Bool.and_eq_true, decide_eq_true_eq] at h1 h2
          exact Prod.ext (by omega) (by omega)
    subst hab
    rw [perm_eq p.cons_inv (List.pairwise_cons.mp hl).2 (List.pairwise_cons.mp hm).2]
theorem sortP_perm (ps : List Pl) : (sortP ps).Perm ps := List.mergeSort_perm ps plLe
theorem plLe_trans (a b c : Pl) (h1 : plLe a b = true) (h2 : plLe b c = true) : plLe a c = true := by
  unfold plLe at *
  simp only [Bool.or_eq_true, Bool.and_eq_true, decide_eq_true_eq] at *
  omega
theorem plLe_total (a b : Pl) : (plLe a b || plLe b a) = true := by
  unfold plLe
  simp only [Bool.or_eq_true, Bool.and_eq_true, decide_eq_true_eq]
  omega
theorem sortP_sorted (ps : List Pl) : (sortP ps).Pairwise fun a b => plLe a b = true := List.pairwise_mergeSort plLe_trans plLe_total ps
/-- the pair that an address stands for -/
def pairAt (H : Hp) (v : V) : Int × Int := match v with
  | .ref a => match H a with
    | some (.tup [.int i, .int j]) => (i, j)
    | _ => (0, 0)
  | _ => (0, 0)
theorem reps_pls : ∀ {ps : List Pl} {vs : List V}, Reps K ex H ρ (ps.map plD) vs → (∀ x ∈ vs, ∃ t, x = V.ref t ∧ H t = some (.tup [.int (pairAt H x).1, .int (pairAt H x).2])) ∧ vs.map (pairAt H) = ps
  | [], _, h => by cases h; exact ⟨fun x m => by simp at m, rfl⟩
  | p :: ps, _, ⟨v, r, e, hv, hr⟩ => by
    subst e
    obtain ⟨b, rfl, hb⟩ := rep_pl hv (p := p) rfl
    have hb' : H b = some (.tup [.int p.1, .int p.2]) := hb
    have hp : pairAt H (.ref b) = p := by simp only [pairAt, hb']
    obtain ⟨h1, h2⟩ := reps_pls hr
    refine ⟨fun x m => ?_, by rw [List.map_cons, hp, h2]⟩
    rcases List.mem_cons.mp m with rfl | m
    · exact ⟨b, rfl, by rw [hp]; exact hb'⟩
    · exact h1 x m
theorem reps_of_pairs : ∀ {ys : List V}, (∀ x ∈ ys, ∃ t, x = V.ref t ∧ H t = some (.tup [.int (pairAt H x).1, .int (pairAt H x).2])) → Reps K ex H ρ ((ys.map (pairAt H)).map plD) ys
  | [], _ => rfl
  | y :: ys, h => by
    obtain ⟨t, rfl, ht⟩ := h y List.mem_cons_self
    exact ⟨_, _, rfl, rep_plD ht, reps_of_pairs fun x m => h x (List.mem_cons_of_mem _ m)⟩
theorem ok_sortedL (m : Bool) {ex : Addr → Prop} {H : Hp} {ρ : List Addr} {st : Store} {d : D} {v : V} {Xe : Ex → Hp → List Addr → Store → Prop} {Q : VK} (M : Mem K ex H ρ st) (r : Rep K ex H ρ d v) (hnd : dctOf st d = none) (h : PostV K ex H ρ (prim1F (.sorted m) d st) Xe Q) : rSortedPO K [v] H Q := by
  unfold prim1F at h
  simp only [hnd] at h
  split at h
  · rename_i xs hx
    split at h
    · rename_i ps hp
      obtain ⟨a, vs, rfl, hq, rs⟩ := rep_lst M r hx
      rw [plsOf_eq hp] at rs
      obtain ⟨h1, h2⟩ := reps_pls rs
      refine ⟨a, vs, pairAt H, rfl, hq, h1, fun ys p hs hb hn => ?_⟩
      have hy : ∀ x ∈ ys, ∃ t, x = V.ref t ∧ H t = some (.tup [.int (pairAt H x).1, .int (pairAt H x).2]) := fun x m => h1 x (hb.perm.mem_iff.mp m)
      have es : ys.map (pairAt H) = sortP ps := by
        refine perm_eq ?_ ?_ (sortP_sorted ps)
        · rw [← h2]
          exact (hb.perm.map _).trans (sortP_perm _).symm
        · rw [List.pairwise_map]
          refine hs.imp fun {x y} hxy => ?_
          have := SrtO.lexB_no.mp hxy
          unfold plLe
          simp only [Bool.or_eq_true, Bool.and_eq_true, decide_eq_true_eq]
          omega
      have rr : Reps K ex H ρ ((sortP ps).map plD) ys := by rw [← es]; exact reps_of_pairs hy
      exact h.newL M rr p hn
    · exact h.elim
  · exact h.elim
def rStrM : List V → Hp → VK → Prop := fun xs H Q => (∃ i : Int, xs = [.int i] ∧ i.natAbs.log2 < 1920 ∧ Q (.str (toString i)) H) ∨ ∃ a : Str, xs = [.str a] ∧ Q (.str a) H
theorem call_strM {X : Cx} : CallR X (.type "str") rStrM := CallR.or call_str_int SkE.call_str_str
theorem ok_str1 : P1 K .str1 rStrM := by
  intro ex H ρ st d v Xe Q M r h
  unfold prim1F at h
  simp only at h
  split at h
  · rename_i i
    cases r
    split at h
    · rename_i hl
      refine .inl ⟨i, rfl, hl, h.here M ⟨?_, ?_⟩⟩
      · show V.str (Str.ofString (toString i)) = V.str ⟨(Str.ofString (toString i)).cps.toList.toArray⟩
        rw [Array.toArray_toList]
      · intro c hc
        have : c ∈ (Str.ofString (toString i)).cps := by simpa using hc
        rw [Str.ofString_eq_toList] at this
        simp only [List.mem_toArray, List.mem_map] at this
        obtain ⟨ch, _, rfl⟩ := this
        have := ch.valid
        have e : ch.toNat = ch.val.toNat := rfl
        rw [e]
        rcases this with h | ⟨_, h⟩
        · exact Nat.lt_trans h (by decide)
        · exact h
    · exact h.elim
  · rename_i s
    exact .inr ⟨_, by rw [r.1], h.here M ⟨rfl, r.2⟩⟩
  · exact h.elim
end
/-! ### get -/
theorem den_dget {X : Cx} {xa : XA} {W : WX} {pos apos : Pos} {a b : Expr} {fa fb : DS → Store → RE} (hu : X.A.units + 65 < cLine) (hb : ∀ w, attributeBase a "get" X.env w = w) (pb : plainArg b = true) (hl : (apos.endLine == pos.line) = true)
    (ha : PE X a (denE X.K xa W fa)) (hbb : PE X b (denE X.K xa W fb)) :
    PE X (.Call (.Attribute a "get" apos) [b] [] pos) (denE X.K xa W fun ds st => (fa ds st).bind fun v st1 => if okRecv .dget v st1 then (fb ds st1).bind fun u st2 => prim2F .dget v u st2 else .no) := by
  refine (pe_dget1 (by omega) ha hbb ⟨hb _, by rw [star_cons pb]; rfl, hl, by rw [star_cons pb]; rfl⟩).imp fun σ H Q h => ?_
  obtain ⟨ex, ρ, ds, st, M, S, q⟩ := h
  refine ⟨ex, ρ, ds, st, M, S, (PostV.bind q).imp fun v H1 ⟨y, st1, ρ1, e1, M1, r1, q1⟩ => ?_⟩
  split at q1
  · rename_i hk
    obtain ⟨es, he⟩ := Option.isSome_iff_exists.mp (show (dctOf st1 y).isSome = true from hk)
    obtain ⟨ad, kvs, rfl, rd, _⟩ := rep_dct M1 r1 he
    refine ⟨ad, rfl, .inr ⟨kvs, rd⟩, ?_⟩
    refine ⟨ex, ρ1, ds, st1, M1, S.ext e1, (PostV.bind q1).imp fun u H2 ⟨z, st2, ρ2, e2, M2, r2, q2⟩ => ?_⟩
    unfold prim2F at q2
    simp only at q2
    split at q2
    · rename_i es2 p h1 h2
      obtain ⟨ad2, kvs2, e3, rd2, rs⟩ := rep_dct M2 (r1.ext e2) h1
      cases e3
      obtain ⟨bb, rfl, hbb⟩ := rep_pl r2 h2
      refine ⟨_, DGet.of rd2 hbb, ?_⟩
      rcases rs.val p with ⟨g1, g2⟩ | ⟨x, y2, g1, g2, r⟩
      · rw [g1] at q2
        rw [g2]
        exact q2.here M2 rfl
      · rw [g1] at q2
        rw [g2]
        exact q2.here M2 r
    · exact q2.elim
  · exact q1.elim
end MP
end
section
set_option maxRecDepth 100000
set_option maxHeartbeats 4000000
/-! MP: list(range(a, b)). -/
namespace MP
open PySem PySem.Spec PyProof.Rows L2
section
variable {K : PySem.W.Frag} {ex : Addr → Prop} {H : Hp} {ρ : List Addr}
theorem reps_rg (a b : Int) : Reps K ex H ρ (rangeD a b) (rgV a b) := by
  unfold rangeD rgV
  induction List.range (b - a).toNat with
  | nil => rfl
  | cons i r ih => exact ⟨_, _, rfl, rfl, ih⟩
theorem ok_lrng {m : Bool} {st : Store} {Xe : Ex → Hp → List Addr → Store → Prop} {Q : VK} {d e : D} {v u : V} (M : Mem K ex H ρ st) (r1 : Rep K ex H ρ d v) (r2 : Rep K ex H ρ e u) (h : PostV K ex H ρ (prim2F (.lrng m) d e st) Xe Q) :
    ∃ i j, v = .int i ∧ u = .int j ∧ RgOk i j ∧ ∀ q, H q = none → Q (.ref q) (upd H q (.lst (rgV i j))) := by
  unfold prim2F at h
  simp only at h
  split at h
  · rename_i i j
    cases r1
    cases r2
    split at h
    · rename_i hk
      obtain ⟨⟨⟨k1, k2⟩, k3, k4⟩, k5⟩ := hk
      exact ⟨i, j, rfl, rfl, ⟨k1, k2, k3, k4, k5⟩, fun p hp => h.newL M (reps_rg i j) p hp⟩
    · exact h.elim
  · exact h.elim
end
section
variable {X : Cx} {xa : XA} {W : WX} {pos p1 p2 p3 : Pos} {a b : Expr} {fa fb : DS → Store → RE} {m : Bool}
theorem den_lrng (hc : X.calm = true) (hg : Gl X "list") (hm : X.mg "list" = none) (hg2 : Gl X "range") (hm2 : X.mg "range" = none) (pa : plainArg a = true) (pb : plainArg b = true)
    (ha : PE X a (denE X.K xa W fa)) (hb : PE X b (denE X.K xa W fb)) :
    PE X (.Call (.Name "list" p1) [.Call (.Name "range" p2) [a, b] [] p3] [] pos) (denE X.K xa W fun ds st => (fa ds st).bind fun x st1 => (fb ds st1).bind fun y st2 => primF (.lrng m) [x, y] st2) := by
  refine (pe_listRg hc hg hm (prg_2 hg2 hm2 ha hb (star_cons pa _ _) (star_cons pb _ _) (by rw [star_cons pb]; rfl))).imp fun σ H Q h => ?_
  obtain ⟨ex, ρ, ds, st, M, S, q⟩ := h
  refine ⟨ex, ρ, ds, st, M, S, (PostV.bind q).imp fun v H1 ⟨x, st1, ρ1, e1, M1, r1, q1⟩ => ?_⟩
  refine ⟨ex, ρ1, ds, st1, M1, S.ext e1, (PostV.bind q1).imp fun u H2 ⟨y, st2, ρ2, e2, M2, r2, q2⟩ => ?_⟩
  exact ok_lrng M2 (r1.ext e2) r2 q2
end
end MP
end
section
set_option maxRecDepth 100000
set_option maxHeartbeats 4000000
/-! MP: dict(d) where d's keys are small pairs: their hashes are apart. -/
namespace MP
open PySem PySem.Spec PyProof.Rows L2 PySem.W
/-! ### numbers apart, by their bits -/
def apart : Nat → List Nat → Bool
  | 0, xs => match xs with
    | [] => true
    | [_] => true
    | _ => false
  | k + 1, xs => match xs with
    | [] => true
    | [_] => true
    | _ => apart k ((xs.filter fun n => n % 2 == 0).map (· / 2)) && apart k ((xs.filter fun n => !(n % 2 == 0)).map (· / 2))
theorem nodup_parts {p : Nat → Bool} : ∀ {xs : List Nat}, (xs.filter p).Nodup → (xs.filter fun n => !p n).Nodup → xs.Nodup
  | [], _, _ => List.nodup_nil
  | x :: xs, h1, h2 => by
    rw [List.nodup_cons]
    cases hp : p x with
    | true =>
      rw [List.filter_cons_of_pos hp, List.nodup_cons] at h1
      rw [List.filter_cons_of_neg (by simp [hp])] at h2
      exact ⟨fun m => h1.1 (List.mem_filter.mpr ⟨m, hp⟩), nodup_parts h1.2 h2⟩
    | false =>
      rw [List.filter_cons_of_neg (by simp [hp])] at h1
      rw [List.filter_cons_of_pos (by simp [hp]), List.nodup_cons] at h2
      exact ⟨fun m => h2.1 (List.mem_filter.mpr ⟨m, by simp [hp]⟩), nodup_parts h1 h2.2⟩
theorem nodup_of_map {α β : Type} (f : α → β) {l : List α} (h : (l.map f).Nodup) : l.Nodup := by
  unfold List.Nodup at *
  rw [List.pairwise_map] at h
  exact h.imp fun hab e => hab (congrArg f e)
theorem apart_nodup : ∀ (k : Nat) (xs : List Nat), apart k xs = true → xs.Nodup
  | 0, [], _ => List.nodup_nil
  | 0, [_], _ => by simp
  | 0, _ :: _ :: _, h => by simp [apart] at h
  | k + 1, [], _ => List.nodup_nil
  | k + 1, [_], _ => by simp
  | k + 1, x :: y :: r, h => by
    unfold apart at h
    simp only [Bool.and_eq_true] at h
    exact nodup_parts (nodup_of_map _ (apart_nodup k _ h.1)) (nodup_of_map _ (apart_nodup k _ h.2))
theorem inj_of {α β : Type} {f : α → β} : ∀ {l : List α} {a b : α}, (l.map f).Nodup → a ∈ l → b ∈ l → f a = f b → a = b
  | x :: l, a, b, h, ha, hb, e => by
    rw [List.map_cons, List.nodup_cons] at h
    rcases List.mem_cons.mp ha with ea | ha'
    · rcases List.mem_cons.mp hb with eb | hb'
      · rw [ea, eb]
      · exact absurd (List.mem_map.mpr ⟨b, hb', by rw [← e, ea]⟩) h.1
    · rcases List.mem_cons.mp hb with eb | hb'
      · exact absurd (List.mem_map.mpr ⟨a, ha', by rw [e, eb]⟩) h.1
      · exact inj_of h.2 ha' hb' e
/-! ### the hash of a small pair -/
def hv (p : Nat × Nat) : Nat := (reduceHash (Builtin.Tuple.tupleHashOf [(p.1 : Int), (p.2 : Int)]) + 2 ^ 63).toNat
def smallKeys : List (Nat × Nat) := (List.range 104).flatMap fun r => (List.range 32).map fun c => (r, c)
theorem hashes_apart : apart 64 (smallKeys.map hv) = true := by decide +kernel
theorem hv_inj {a b : Nat × Nat} (ha : a.1 < 104 ∧ a.2 < 32) (hb : b.1 < 104 ∧ b.2 < 32) (h : hv a = hv b) : a = b := by
  have m : ∀ a : Nat × Nat, a.1 < 104 ∧ a.2 < 32 → a ∈ smallKeys := fun a ha => by
    unfold smallKeys
    rw [List.mem_flatMap]
    exact ⟨a.1, List.mem_range.mpr ha.1, List.mem_map.mpr ⟨a.2, List.mem_range.mpr ha.2, rfl⟩⟩
  exact inj_of (apart_nodup _ _ hashes_apart) (m a ha) (m b hb) h
theorem rawHash_small {n : Nat} (h : n < 104) : rawHash (n : Int) = n := by
  unfold rawHash
  have e : (((n : Int).natAbs : Nat) : Int) % ((2 ^ 61 - 1 : Nat) : Int) = n := by
    rw [Int.natAbs_natCast]
    exact Int.emod_eq_of_lt (by omega) (by omega)
  have e2 : ¬ ((n : Int) < 0) := by omega
  have e3 : ((n : Int) == -1) = false := by
    rw [beq_eq_false_iff_ne]; omega
  simp only [e, e2, if_false, e3, Bool.false_eq_true]
theorem hashInt_small {n : Nat} (h : n < 104) : hashInt (n : Int) = n := by
  unfold hashInt
  rw [rawHash_small h]
  have e3 : ((n : Int) == -1) = false := by
    rw [beq_eq_false_iff_ne]; omega
  simp [e3]
theorem keyHash_small {P : Program} {w : World} {p : Pl} (h : smallK p = true) : (tupleKind (mixKind P w)).hash (kP p) = reduceHash (Builtin.Tuple.tupleHashOf [((p.1.toNat : Nat) : Int), ((p.2.toNat : Nat) : Int)]) := by
  unfold smallK at h
  simp only [Bool.and_eq_true, decide_eq_true_eq] at h
  show reduceHash (Builtin.Tuple.tupleHashOf [hashInt p.1, hashInt p.2]) = _
  have e1 : p.1 = ((p.1.toNat : Nat) : Int) := by omega
  have e2 : p.2 = ((p.2.toNat : Nat) : Int) := by omega
  have h1 : hashInt p.1 = ((p.1.toNat : Nat) : Int) := by
    conv => lhs; rw [e1]
    exact hashInt_small (by omega)
  have h2 : hashInt p.2 = ((p.2.toNat : Nat) : Int) := by
    conv => lhs; rw [e2]
    exact hashInt_small (by omega)
  rw [h1, h2]
theorem keyHash_inj {P : Program} {w : World} {p q : Pl} (hp : smallK p = true) (hq : smallK q = true) (h : (tupleKind (mixKind P w)).hash (kP p) = (tupleKind (mixKind P w)).hash (kP q)) : p = q := by
  rw [keyHash_small hp, keyHash_small hq] at h
  unfold smallK at hp hq
  simp only [Bool.and_eq_true, decide_eq_true_eq] at hp hq
  have := hv_inj (a := (p.1.toNat, p.2.toNat)) (b := (q.1.toNat, q.2.toNat)) ⟨by omega, by omega⟩ ⟨by omega, by omega⟩ (by unfold hv; rw [h])
  have e1 := congrArg Prod.fst this
  have e2 := congrArg Prod.snd this
  simp only at e1 e2
  exact Prod.ext (by omega) (by omega)
section
variable {prog : Program} {w : World} {K : Type} [DecidableEq K] {knd : KeyKind prog w K} {A : Around} {E : Value → Shared → Prop} {s : Shared}
theorem kt_call_dictH {o : Addr} {more : List (List K × Addr × Value)} {Q : Value → Shared → Prop} (hu : A.units + 2 < cLine) (hoS : (o == sysModules) = false) (ho : s.heap.DictOfH (tupleKind knd) o more) (hsz : more.length ≤ sizeLine)
    (hap : (more.map fun x => (tupleKind knd).hash x.1).Nodup)
    (h : ∀ h', h'.DictOfH (tupleKind knd) s.heap.objs.size more → Heap.SameBut s.heap.objs.size (s.heap.push { cls := .type "dict", data := .dict #[] }) h' → Q (.ref s.heap.objs.size) { s with heap := h' }) :
    wpAny (model prog w) A (call (.type "dict") [.ref o]) Q E s := by
  refine callType_codes (Q₁ := fun obj s₁ => obj = .ref s.heap.objs.size ∧ s₁ = { s with heap := s.heap.push { cls := .type "dict", data := .dict #[] } }) F.kt_called_dict (F.kt_typeCall_dict_1 _) F.entry_dict_init (kt_code_dict_new _ ⟨rfl, rfl⟩) ?_
  rintro obj s₁ ⟨rfl, rfl⟩
  have hnew : (s.heap.push { cls := .type "dict", data := .dict #[] }).DictOfH (tupleKind knd) s.heap.objs.size [] := Heap.DictOfH.new s.heap
  have kp : ∀ b o', s.heap.get? b = some o' → (s.heap.push { cls := .type "dict", data := .dict #[] }).get? b = some o' := fun b o' e => Heap.get?_push_of_some _ e
  have ho' : (s.heap.push { cls := .type "dict", data := .dict #[] }).DictOfH (tupleKind knd) o more := by
    obtain ⟨oo, es, ep, h1, h2, h3, h4, h5, h6⟩ := ho
    exact ⟨oo, es, ep, kp _ _ h1, h2, h3, h4, fun y hy => tupleKind_stays.stays (fun b o' vs n e _ => kp b o' e) (h5 y hy), h6⟩
  have hn : (more.map (·.1)).Nodup := let ⟨_, _, _, _, _, _, _, _, hn⟩ := ho; hn
  have hdo : s.heap.objs.size ≠ o := by
    obtain ⟨_, _, _, hg, _⟩ := ho
    exact fun e => absurd (Heap.lt_size hg) (by rw [e]; exact Nat.lt_irrefl _)
  refine ⟨hnew.typeIs, F.args_dict_init_2 _ _, ?_⟩
  unfold Builtin.«dict.__init__»
  refine wpAny_bind ?_
  unfold Builtin.Dict.selfAndRest
  refine wpAny_bind (wpAny_notOrdered_dict hnew.typeIs ?_)
  show wpAny _ _ (pure (s.heap.objs.size, [Value.ref o])) _ _ _
  refine wpAny_pure ?_
  show wpAny _ _ (Builtin.Dict.updateFrom "dict.__init__" s.heap.objs.size (.ref o) [] .none) _ _ _
  have hty : ∀ x ∈ more, Shared.TypeIs { s with heap := s.heap.push { cls := .type "dict", data := .dict #[] } } (.ref x.2.1) "tuple" := fun x hx => by
    obtain ⟨oo, es, ep, h1, h2, h3, h4, h5, h6⟩ := ho'
    exact tupleKind_stays.tuple (s := { s with heap := s.heap.push { cls := .type "dict", data := .dict #[] } }) (h5 x hx)
  refine updateFrom_dictH .none ?_ hdo hoS hnew ho' (.inr ⟨hty, hap⟩) (by simpa using hsz) fun h' hd' _ hs' => ?_
  · exact hu
  · rw [storedAllH_nil_of_nodup more hn] at hd'
    exact ⟨rfl, h h' hd' hs'⟩
end
section
variable {X : Cx}
def rDictT : List V → Hp → VK → Prop := fun xs H Q => ∃ (a : Addr) (ks : List (Pl × V)), xs = [.ref a] ∧ Rd H a (.dT (ks.map fun p => (kP p.1, p.2))) ∧ ks.all (fun p => smallK p.1) = true ∧ ks.length ≤ sizeLine ∧ ∀ p, H p = none → Q (.ref p) (upd H p (.dT (ks.map fun p => (kP p.1, p.2))))
theorem nodup_hash {P : Program} {w : World} {H : Hp} : ∀ {ks : List (Pl × V)} {xs : List (List Key × Addr × Value)}, KT H (ks.map fun p => (kP p.1, p.2)) xs → ks.all (fun p => smallK p.1) = true → (xs.map (·.1)).Nodup → (xs.map fun x => (tupleKind (mixKind P w)).hash x.1).Nodup := by
  intro ks
  induction ks with
  | nil => intro xs r _ _; cases r; exact List.nodup_nil
  | cons p ks ih =>
    intro xs r hs hn
    cases r with
    | @cons _ q _ qs h t =>
      rw [List.map_cons, List.nodup_cons] at hn ⊢
      rw [List.all_cons, Bool.and_eq_true] at hs
      refine ⟨fun m => ?_, ih t hs.2 hn.2⟩
      obtain ⟨x, hx, e⟩ := List.mem_map.mp m
      have back : ∀ {ks : List (Pl × V)} {xs : List (List Key × Addr × Value)}, KT H (ks.map fun p => (kP p.1, p.2)) xs → ∀ x ∈ xs, ∃ p ∈ ks, x.1 = kP p.1 := by
        intro ks
        induction ks with
        | nil => intro xs r x hx; cases r; exact nomatch hx
        | cons p ks ih =>
          intro xs r x hx
          cases r with
          | @cons _ q _ qs h t =>
            rcases List.mem_cons.mp hx with rfl | hx
            · exact ⟨p, List.mem_cons_self, h.1.symm⟩
            · obtain ⟨p', hp', e⟩ := ih t x hx
              exact ⟨p', List.mem_cons_of_mem _ hp', e⟩
      obtain ⟨p', hp', e'⟩ := back t x hx
      have e0 : q.1 = kP p.1 := h.1.symm
      rw [e', e0] at e
      have := keyHash_inj (List.all_eq_true.mp hs.2 p' hp') hs.1 e
      exact hn.1 (List.mem_map.mpr ⟨x, hx, by rw [e', e0, this]⟩)
theorem call_dictT (hu : X.A.units + 65 < cLine) : CallR X (.type "dict") rDictT := by
  intro pins s σ H xs us Q I r q
  obtain ⟨a, ks, ex, hd, hs, hz, q⟩ := q
  subst ex
  obtain ⟨u, eu, rx⟩ := vals1 r
  subst eu
  cases rx
  obtain ⟨z, lo, vs, rel, dd⟩ := dt_rd I.hok hd
  have hn : (vs.map (·.1)).Nodup := let ⟨_, _, _, _, _, _, _, _, hn⟩ := dd; hn
  refine kt_call_dictH (by omega) lo dd (by rw [← rel.length]; exact z) (nodup_hash rel hs hn) fun h' d' hs => ?_
  have hm : (s.heap.objs.size == sysModules) = false := beq_eq_false_iff_ne.mpr (Nat.ne_of_gt I.big)
  have fresh := I.hok.fresh (Nat.le_refl _)
  have rel' : KT (upd H s.heap.objs.size (.dT (ks.map fun p => (kP p.1, p.2)))) (ks.map fun p => (kP p.1, p.2)) vs := rel.keeps fun b ys e => by
    rw [upd_ne]
    · exact e
    · intro e2; rw [e2, fresh] at e; exact nomatch e
  obtain ⟨o', es', ep', g1, g2, g3, g4, g5, g6⟩ := d'
  exact ⟨.ref s.heap.objs.size, upd H s.heap.objs.size (.dT (ks.map fun p => (kP p.1, p.2))), I.laid (t' := s.toks) (fun b u e => (hs.2 b (Nat.ne_of_lt (Heap.lt_size e))).trans (Heap.get?_push_of_some _ e)) (Nat.le_refl _)
    (show ObjOk X.prog X.w _ _ _ (.dT (ks.map fun p => (kP p.1, p.2))) from ⟨z, hm, vs, rel', o', es', ep', g1, g2, g3, g4, g6⟩), rfl, q _ fresh⟩
end
section
variable {K : PySem.W.Frag} {ex : Addr → Prop} {H : Hp} {ρ : List Addr} {st : Store} {Xe : Ex → Hp → List Addr → Store → Prop} {Q : VK}
theorem repE_split : ∀ {es : List (Pl × D)} {kvs : List (List Key × V)}, RepE K ex H ρ es kvs → ∃ ks : List (Pl × V), kvs = ks.map (fun p => (kP p.1, p.2)) ∧ ks.map (·.1) = es.map (·.1)
  | [], _, h => by cases h; exact ⟨[], rfl, rfl⟩
  | (p, d) :: es, _, ⟨v, r, e, _, t⟩ => by
    obtain ⟨ks, rfl, e2⟩ := repE_split t
    exact ⟨(p, v) :: ks, by rw [e]; rfl, by simp [e2]⟩
theorem ok_dict (m : Bool) : P1 K (.dict m) rDictT := by
  intro ex H ρ st d v Xe Q M r h
  unfold prim1F at h
  simp only at h
  split at h
  · rename_i es he
    split at h
    · rename_i hk
      rw [Bool.and_eq_true, decide_eq_true_eq] at hk
      obtain ⟨a, kvs, rfl, rd, rs⟩ := rep_dct M r he
      obtain ⟨ks, rfl, e2⟩ := repE_split rs
      have hl : ks.length = es.length := by
        have := congrArg List.length e2
        simpa using this
      refine ⟨a, ks, rfl, rd, ?_, by rw [hl]; exact hk.2, fun p hp => h.newD M rs p hp⟩
      rw [List.all_eq_true]
      intro x hx
      have : x.1 ∈ es.map (·.1) := by rw [← e2]; exact List.mem_map.mpr ⟨x, hx, rfl⟩
      obtain ⟨y, hy, e⟩ := List.mem_map.mp this
      rw [← e]
      exact List.all_eq_true.mp hk.1 y hy
    · exact h.elim
  · exact h.elim
end
end MP
end
section
set_option maxRecDepth 100000
set_option maxHeartbeats 4000000
/-! MP: pairs in order: <, min, sorted(d), setdefault. -/
namespace MP
open PySem PySem.Spec PyProof.Rows L2 PySem.W
section
variable {K : PySem.W.Frag}
/-! ### min of pairs -/
def rMinP (K : PySem.W.Frag) : List V → Hp → VK → Prop := fun vs H Q => ∃ (a : Addr) (xs : List V) (p : Pl) (ps : List Pl), vs = [V.ref a] ∧ SqL K H a xs ∧ DpAll K H xs ((p :: ps).map pyP) ∧
  (∀ x ∈ xs, ∃ t, x = V.ref t ∧ H t = some (.tup [.int (pairAt H x).1, .int (pairAt H x).2])) ∧ ∀ t q, H t = some (.tup [.int q.1, .int q.2]) → q = ps.foldl (fun a y => if plLt y a then y else a) p → Q (.ref t) H
theorem minD_pl (p : Pl) : ∀ ps : List Pl, minD (pyP p) (ps.map pyP) = pyP (ps.foldl (fun a y => if plLt y a then y else a) p) := by
  intro ps
  unfold minD
  induction ps generalizing p with
  | nil => rfl
  | cons q ps ih =>
    rw [List.map_cons, List.foldl_cons, List.foldl_cons, ← ih]
    congr 1
    have : dataLt (pyP q) (pyP p) = plLt q p := by rw [pyP, pyP, dataLt_ii]; rfl
    rw [this]
    split <;> rfl
theorem pyP_inj {p q : Pl} (h : pyP p = pyP q) : p = q := by
  unfold pyP at h
  injection h with h
  injection h with h1 h2
  injection h1 with h1
  injection h2 with h2 _
  injection h2 with h2
  exact Prod.ext h1 h2
theorem depthAll_pl : ∀ ps : List Pl, PyData.depthAll (ps.map pyP) ≤ 2
  | [] => by simp [PyData.depthAll]
  | p :: ps => by
    have h1 := depth_pl p
    have h2 := depthAll_pl ps
    rw [List.map_cons, PyData.depthAll]
    omega
theorem call_minP {X : Cx} (hc : X.calm = true) (hu : X.A.units + 65 < cLine) : CallR X (.builtin "min") (rMinP X.K) := by
  intro pins s σ H vs us Q I r h
  obtain ⟨a, xs, p, ps, rfl, hs, hd, hx, q⟩ := h
  obtain ⟨its, rv, hl, hz⟩ := I.list hs
  rw [Vals.ref1 r]
  obtain ⟨as, ra⟩ := Dp.readsAll I _ _ _ hd rv
  have hal : AlikeAll (pyP p :: ps.map pyP) := by
    have e : ∀ x ∈ pyP p :: ps.map pyP, ∃ q, x = pyP q := fun x hx => by
      rcases List.mem_cons.mp hx with rfl | hx
      · exact ⟨p, rfl⟩
      · obtain ⟨q, _, rfl⟩ := List.mem_map.mp hx
        exact ⟨q, rfl⟩
    refine ⟨fun x hx y hy => ?_, fun x hx => ?_⟩
    · obtain ⟨q1, rfl⟩ := e x hx
      obtain ⟨q2, rfl⟩ := e y hy
      exact alike_pl q1 q2
    · obtain ⟨q1, rfl⟩ := e x hx
      simp [pyP]
  have hdp := depthAll_pl (p :: ps)
  rw [List.map_cons] at hdp
  rw [List.map_cons] at ra
  refine min_list_data (vs := its.toArray) (I.ok.hd hc) hl.isList (by simpa using ra) hal (by omega) fun i v h' tk bs hv hr hk => ?_
  obtain ⟨x, hx2, rx⟩ : ∃ x, xs[i]? = some x ∧ RelV x v := by
    have hi : its[i]? = some v := by rw [← hv]; simp
    cases hxi : xs[i]? with
    | none => rw [Vals.none_of rv hxi] at hi; cases hi
    | some x =>
      obtain ⟨u, hu1, hu2⟩ := Vals.get rv hxi
      rw [hi] at hu1
      cases hu1
      exact ⟨x, rfl, hu2⟩
  have hmem : x ∈ xs := List.mem_of_getElem? hx2
  obtain ⟨t, rfl, ht⟩ := hx x hmem
  obtain rfl : v = Value.ref t := rx
  have hdt : Dp X.K H (.ref t) (pyP (pairAt H (.ref t))) := by
    have := (rep_dp (K := X.K) (ex := fun _ => False) (ρ := []) (d := plD (pairAt H (.ref t))) (by simp [plD, cmpD, cmpDs]) (rep_plD ht)).1
    have e : py (plD (pairAt H (.ref t))) = pyP (pairAt H (.ref t)) := by simp [plD, py, pys, pyP]
    rw [← e]
    exact this
  obtain ⟨bs2, r2⟩ := Dp.reads I _ _ _ hdt (show RelV (V.ref t) (Value.ref t) from rfl)
  have r3 : Reads h' (.ref t) (pyP (pairAt H (.ref t))) bs2 := reads_keeps hk r2
  rw [minD_pl] at hr
  have e := (Reads.unique r3 _ _ hr).1
  exact ⟨.ref t, H, I.kept hk, rfl, q t _ ht (pyP_inj e)⟩
theorem ok_minL : P1 K .minL (fun vs H Q => rMin K vs H Q ∨ rMinP K vs H Q) := by
  intro ex H ρ st d v X Q M r h
  unfold prim1F at h
  simp only at h
  split at h
  · rename_i xs hx
    obtain ⟨a, vs, rfl, hs, rs⟩ := rep_lst M r hx
    cases e : intsOf xs with
    | some ns =>
      rw [e] at h
      have e2 := intsOf_eq e
      subst e2
      have := reps_ints rs
      subst this
      cases ns with
      | nil =>
        exact (show False from h).elim
      | cons n ns =>
        refine .inl ⟨a, n :: ns, rfl, hs, by simp, fun m h1 h2 => ?_⟩
        have q := mnL_spec h1 h2
        simp only [Option.bind_some] at h
        rw [q] at h
        exact h.here M rfl
    | none =>
      rw [e] at h
      simp only [Option.bind_none] at h
      cases hp : plsOf xs with
      | none => rw [hp] at h; exact h.elim
      | some ps =>
        rw [hp] at h
        cases ps with
        | nil => exact h.elim
        | cons p ps =>
          have e3 := plsOf_eq hp
          subst e3
          obtain ⟨h1, h2⟩ := reps_pls rs
          have hdp := (rep_dps (ds := (p :: ps).map plD) (by
            have : ∀ qs : List Pl, cmpDs (qs.map plD) = true := fun qs => by
              induction qs with
              | nil => rfl
              | cons q qs ih => simp [cmpDs, plD, cmpD] at ih ⊢; exact ih
            exact this _) rs).1
          have epy : pys ((p :: ps).map plD) = (p :: ps).map pyP := by
            have : ∀ qs : List Pl, pys (qs.map plD) = qs.map pyP := fun qs => by
              induction qs with
              | nil => rfl
              | cons q qs ih => simp [pys, plD, py, pyP] at ih ⊢; exact ih
            exact this _
          rw [epy] at hdp
          exact .inr ⟨a, vs, p, ps, rfl, hs, hdp, h1, fun t q ht hq => h.here M (by rw [← hq]; exact rep_plD ht)⟩
  · exact h.elim
/-! ### sorted(d), d a dict -/
def rSortDT : List V → Hp → VK → Prop := fun vs H Q => ∃ (a : Addr) (ks : List (Pl × V)), vs = [V.ref a] ∧ Rd H a (.dT (ks.map fun p => (kP p.1, p.2))) ∧
  ∀ ys p, (∀ x ∈ ys, ∃ t, x = V.ref t ∧ H t = some (.tup [.int (pairAt H x).1, .int (pairAt H x).2])) → ys.map (pairAt H) = sortP (ks.map (·.1)) → H p = none → Q (.ref p) (upd H p (.lst ys))
theorem call_sortDT {X : Cx} (hc : X.calm = true) : CallR X (.builtin "sorted") rSortDT := by
  intro pins s σ H vs us Q I r h
  obtain ⟨d, kl, rfl, hd, q⟩ := h
  obtain ⟨u, rfl, ru⟩ := r.one
  cases ru
  obtain ⟨z, hs, ks, pr, o, es, ep, ho, hx, hdt, he, hn⟩ := (show ObjOk X.prog X.w H s.heap d (.dT _) from hd.ok I.hok)
  have l1 : es.size = ks.length := size_of_entries he
  have l2 : (kl.map fun p => (kP p.1, p.2)).length = ks.length := Paired.length pr
  refine Calls.call_function_entry PyProof.Rows.kind_sorted PyProof.Rows.plain_sorted PyProof.Rows.entry_sorted (PyProof.Rows.args_sorted1 _) ?_
  unfold Builtin.«sorted»
  refine wpAny_bind (m := checkCount "sorted" 1 1 _) (wpAny_pure ?_)
  refine wpAny_bind (PySem.W.kdu_collect (A := X.A.in1) (kdl_raw hs hx hdt) (I.ok.hd hc) ho (by omega) fun h' tk acc hk it => ?_)
  have ea : acc.toList = ks.map fun x => Value.ref x.2.1 := by
    have hl : acc.toList.length = ks.length := by rw [Array.length_toList, it.1]; exact l1
    apply List.ext_getElem?
    intro j
    rw [List.getElem?_map]
    cases hj : acc.toList[j]? with
    | none =>
      have h1 := List.getElem?_eq_none_iff.mp hj
      rw [List.getElem?_eq_none (by omega)]
      all_goals rfl
    | some v =>
      obtain ⟨en, hen, hv⟩ := it.2 j v (by rw [← Array.getElem?_toList]; exact hj)
      have qe := entry_at he j
      rw [hen] at qe
      cases hb : ks[j]? with
      | none =>
        rw [hb] at qe
        exact nomatch (show some en = none from qe)
      | some b =>
        rw [hb] at qe
        have e2 : en = entryOfKey (tupleKind (mixKind X.prog X.w)) b := Option.some.inj qe
        rw [hv, e2]
        all_goals rfl
  -- every key is a pair
  have hpr : ∀ (l : List (Pl × V)) (m : List (List Key × Addr × Value)), KT H (l.map fun p => (kP p.1, p.2)) m → (∀ x ∈ m, H x.2.1 = some (.tup [.int (pairAt H (.ref x.2.1)).1, .int (pairAt H (.ref x.2.1)).2])) ∧ m.map (fun x => pairAt H (.ref x.2.1)) = l.map (·.1) := by
    intro l
    induction l with
    | nil => intro m hm; cases hm; exact ⟨fun x hx => (nomatch hx), rfl⟩
    | cons p l ih =>
      intro m hm
      cases hm with
      | @cons _ b _ m' h1 t =>
        obtain ⟨i1, i2⟩ := ih m' t
        have hb : H b.2.1 = some (.tup [.int p.1.1, .int p.1.2]) := h1.2.1
        have hpb : pairAt H (.ref b.2.1) = p.1 := by simp only [pairAt, hb]
        refine ⟨fun x hx => ?_, by rw [List.map_cons, hpb, i2]; rfl⟩
        rcases List.mem_cons.mp hx with rfl | hx
        · rw [hpb]; exact hb
        · exact i1 x hx
  obtain ⟨p1, p2⟩ := hpr kl ks pr
  have hz : acc.toList.length ≤ sizeLine := by rw [ea, List.length_map]; omega
  have I1 : Inv X pins σ H { s with heap := h', toks := tk } := I.kept hk
  refine wpAny_bind (wpAny_newList ?_ hz)
  have hoL : (h'.push (seqObj "list" acc.toList.toArray 0)).get? h'.objs.size = some (seqObj "list" acc.toList.toArray 0) := Heap.get?_push_size _ rfl
  show wpAny _ _ _ _ _ { s with heap := h'.push (seqObj "list" acc.toList.toArray 0), toks := tk }
  have I2 : Inv X pins σ H { s with heap := h'.push (seqObj "list" acc.toList.toArray 0), toks := tk } := I1.kept (t' := tk) fun b u e => Heap.get?_push_of_some _ e
  have hip : ∀ v ∈ acc.toList, Srt.IsPair (h'.push (seqObj "list" acc.toList.toArray 0)) v (pairAt H (backV v)).1 (pairAt H (backV v)).2 := fun v hv => by
    rw [ea] at hv
    obtain ⟨x, hx, rfl⟩ := List.mem_map.mp hv
    have ht := p1 x hx
    obtain ⟨_, its2, r2, o, ho, hc, n, hd⟩ := I2.hok _ _ ht
    obtain ⟨u1, u2, rfl, ri, rj⟩ := vals2 r2
    obtain ⟨t1, rfl⟩ := ri
    obtain ⟨t2, rfl⟩ := rj
    exact ⟨x.2.1, o, t1, t2, n, rfl, ho, hc, hd⟩
  refine wpAny_bind (wpAny_holding (wpAny_call_entry PyProof.Rows.slot_list_sort ⟨_, hoL, rfl⟩ PyProof.Rows.entry_list_sort
    (SrtO.list_sort_ord (s := { s with heap := h'.push (seqObj "list" acc.toList.toArray 0), toks := tk }) (SrtO.swo_lex fun v => pairAt H (backV v)) hoL hz (fun h2 => SrtO.pairs_sortableO (k := fun v => pairAt H (backV v)) (by omega) hip fun o e => ?_) fun out hs hb => ⟨_, rfl, ?_⟩)
    (PyProof.Rows.args_list_sort _)))
  · have e' : some o = some (seqObj "list" acc.toList.toArray 0) := e.symm.trans hoL
    cases e'
    intro c
    exact absurd (Value.type.inj c) (by decide)
  · have hall : ∀ v ∈ out, ∃ x ∈ ks, v = Value.ref x.2.1 := fun v hv => by
      have := hb.perm.mem_iff.mp hv
      rw [ea] at this
      obtain ⟨x, hx, rfl⟩ := List.mem_map.mp this
      exact ⟨x, hx, rfl⟩
    have h3 : ∀ u ∈ out, ∃ a, u = Value.ref a := fun u hu => by
      obtain ⟨x, _, rfl⟩ := hall u hu
      exact ⟨_, rfl⟩
    obtain ⟨n, hn⟩ := PyProof.Rows.sortedHeap_at (vs := acc.toList) (out := out.toArray) hoL
    have hlen : (out.map backV).length ≤ sizeLine := by rw [List.length_map, hb.perm.length_eq]; exact hz
    refine wpAny_pure ⟨_, rfl, .ref h'.objs.size, upd H h'.objs.size (.lst (out.map backV)), I1.laid (t' := tk) (fun b u e => ?_) (Nat.le_refl _) ⟨hlen, out, n, vals_back h3, hn⟩, rfl, q _ h'.objs.size (fun x hx => ?_) ?_ (I1.hok.fresh (Nat.le_refl _))⟩
    · have hb : b < h'.objs.size := Heap.lt_size e
      rw [PyProof.Rows.sortedHeap_old (Nat.ne_of_lt hb) (by rw [size_push']; exact Nat.lt_succ_of_lt hb)]
      exact Heap.get?_push_of_some _ e
    · obtain ⟨v, hv, rfl⟩ := List.mem_map.mp hx
      obtain ⟨y, hy, rfl⟩ := hall v hv
      exact ⟨y.2.1, rfl, p1 y hy⟩
    · refine perm_eq ?_ ?_ (sortP_sorted _)
      · refine List.Perm.trans ?_ (sortP_perm _).symm
        rw [← p2, List.map_map]
        have := hb.perm.map fun v => pairAt H (backV v)
        rw [ea, List.map_map] at this
        exact this
      · rw [List.pairwise_map, List.pairwise_map]
        refine hs.imp fun {x y} hxy => ?_
        have := SrtO.lexB_no.mp hxy
        unfold plLe
        simp only [Bool.or_eq_true, Bool.and_eq_true, decide_eq_true_eq]
        omega
theorem ok_sortedM (m : Bool) : P1 K (.sorted m) (fun vs H Q => rSortedPO K vs H Q ∨ rSortDT vs H Q) := by
  intro ex H ρ st d v Xe Q M r h
  unfold prim1F at h
  simp only at h
  split at h
  · rename_i es he
    obtain ⟨a, kvs, rfl, rd, rs⟩ := rep_dct M r he
    obtain ⟨ks, rfl, e2⟩ := repE_split rs
    refine .inr ⟨a, ks, rfl, rd, fun ys p h1 h2 hn => ?_⟩
    rw [← e2, ← h2] at h
    exact h.newL M (reps_of_pairs h1) p hn
  · rename_i hnd
    refine .inl (ok_sortedL m (Xe := Xe) M r hnd ?_)
    unfold prim1F
    simp only [hnd]
    exact h
/-! ### setdefault -/
def rSetT : V → List V → Hp → VK → Prop := fun x xs H Q => ∃ (a : Addr) (kvs : List (List L2.Key × V)) (k : List L2.Key) (b : Addr) (d : V), x = .ref a ∧ xs = [.ref b, d] ∧ H a = some (.dT kvs) ∧ H b = some (.tup (k.map kV)) ∧ kvs.length < sizeLine ∧
  (∀ v, valV kvs k = some v → Q v H) ∧ (valV kvs k = none → Q d (upd H a (.dT (putK kvs k d))))
theorem mt_setT {X : Cx} (hu : X.A.units + 65 < cLine) : MtR X "dict.setdefault" rSetT := by
  intro pins s σ H x xs v us Q I rx rxs h
  obtain ⟨a, kvs, k, b, d, rfl, rfl, ha, hb, hl0, q1, q2⟩ := h
  cases rx
  obtain ⟨u1, u2, rfl, r1, r2⟩ := vals2 rxs
  cases r1
  obtain ⟨z, hd, xs', rel, dd⟩ := dt_of I.hok ha
  have hz : xs'.length ≤ sizeLine := by rw [← Paired.length rel]; exact z
  have hl : (putK kvs k d).length ≤ sizeLine := by have := length_putK kvs k d; omega
  refine call_setdefault_heap (hsz := hz) (knd := tupleKind (mixKind X.prog X.w)) (tupleKind_room_in1 (by omega)) (key_of I.hok hb) hd dd (fun p hp => ?_) fun hn h' dd' hs => ?_
  · have r := rel.val k
    rw [hp] at r
    obtain ⟨v0, ev, rv⟩ : ∃ v0, valV kvs k = some v0 ∧ RelV v0 p.2 := by
      cases ev : valV kvs k with
      | none =>
        rw [ev] at r
        exact (show False from r).elim
      | some v0 =>
        rw [ev] at r
        exact ⟨v0, rfl, r⟩
    exact ⟨v0, H, I.tok _, rv, q1 v0 ev⟩
  · have r := rel.val k
    rw [hn] at r
    have e : valV kvs k = none := by
      cases ev : valV kvs k with
      | none => rfl
      | some v0 =>
        rw [ev] at r
        exact (show False from r).elim
    obtain ⟨q, es, ep, hq, h2, h3, h4, _, h5⟩ := dd'
    refine ⟨d, upd H a (.dT (putK kvs k d)), d_write I (by rw [ha]; exact True.intro) hs ⟨q, hq⟩ ⟨hl, hd, _, (rel.put k hb r2).keeps fun c ys ec => ?_, q, es, ep, hq, h2, h3, h4, h5⟩, r2, q2 e⟩
    rw [upd_ne (ne_of ec ha (fun z => nomatch z))]
    exact ec
section
variable {ex : Addr → Prop} {H : Hp} {ρ : List Addr} {st : Store} {Xe : Ex → Hp → List Addr → Store → Prop} {Q : VK}
theorem okRecv_dctU {d : D} {v : V} (M : Mem K ex H ρ st) (r : Rep K ex H ρ d v) (h : okRecv .setd d st = true) : tyV K "dict" v H := by
  unfold okRecv at h
  simp only at h
  split at h
  · obtain ⟨a, ha, rfl⟩ := r
    split at h
    · rename_i es hs
      obtain ⟨a2, kvs, h1, h2, h3⟩ := M.dct hs
      rw [ha] at h1
      cases h1
      exact .inr (.inr (.inl ⟨rfl, .inr ⟨kvs, h2⟩⟩))
    · cases h
  · cases h
theorem ok_setd {d e f : D} {v u w : V} (M : Mem K ex H ρ st) (r1 : Rep K ex H ρ d v) (r2 : Rep K ex H ρ e u) (r3 : Rep K ex H ρ f w) (h : PostV K ex H ρ (prim3F .setd d e f st) Xe Q) : rSetT v [u, w] H Q := by
  unfold prim3F at h
  simp only at h
  split at h
  · rename_i n k hk
    obtain ⟨a, ha, rfl⟩ := r1
    obtain ⟨b, rfl, hb⟩ := rep_pl r2 hk
    split at h
    · rename_i es hs
      obtain ⟨a2, kvs, h1, h2, h3⟩ := M.dct hs
      rw [ha] at h1
      cases h1
      have hlen : kvs.length = es.length := h3.length.symm
      split at h
      · rename_i hl
        rcases h3.val k with ⟨e1, e2⟩ | ⟨x, y, e1, e2, rxy⟩
        · rw [e1] at h
          simp only at h
          refine ⟨a, kvs, kP k, b, w, rfl, rfl, h2, hb, by rw [hlen, lim_eq]; exact hl, fun v hv => ?_, fun _ => ?_⟩
          · rw [e2] at hv; cases hv
          · have e : Ext ρ H ρ (upd H a (.dT (putK kvs (kP k) w))) := Ext.write ha (fun vs => by rw [h2]; simp) (fun ob u => by rw [h2]; simp)
            exact h w _ ρ e (M.write ha e ⟨_, upd_same, (h3.put r3).ext e⟩) (r3.ext e)
        · rw [e1] at h
          simp only at h
          refine ⟨a, kvs, kP k, b, w, rfl, rfl, h2, hb, by rw [hlen, lim_eq]; exact hl, fun v hv => ?_, fun hn => ?_⟩
          · rw [e2] at hv; cases hv
            exact h.here M rxy
          · rw [e2] at hn; cases hn
      · exact h.elim
    · exact h.elim
  · exact h.elim
end
end
end MP
end
section
set_option maxRecDepth 100000
set_option maxHeartbeats 4000000
/-! MP: d.clear(), d.pop(), dict(pairs), xs.reverse(), xs.index(), s.index(), s.lower(). -/
namespace MP
open PySem PySem.Spec PyProof.Rows L2 PySem.W
section
variable {X : Cx}
/-! ### clear -/
def rDClrT : V → List V → Hp → VK → Prop := fun x xs H Q => ∃ (a : Addr) (kvs : List (List L2.Key × V)), x = .ref a ∧ xs = [] ∧ H a = some (.dT kvs) ∧ Q .non (upd H a (.dT []))
theorem mt_dclrT : MtR X "dict.clear" rDClrT := by
  intro pins s σ H x xs v us Q I rx rxs h
  obtain ⟨a, kvs, rfl, rfl, ha, q⟩ := h
  cases rx
  cases rxs
  obtain ⟨z, hd, xs', rel, dd⟩ := dt_of I.hok ha
  refine clear_keyed (knd := tupleKind (mixKind X.prog X.w)) (kvs := pairsH xs') ⟨xs', dd, rfl⟩ (fun h' dd' hs => ?_) (by rw [pairsH_length, ← Paired.length rel]; exact z)
  obtain ⟨ys, dd2, e⟩ := dd'
  have ey : ys = [] := by
    have := congrArg List.length e
    rw [pairsH_length] at this
    exact List.length_eq_zero_iff.mp this
  subst ey
  obtain ⟨o, es, ep, hq, h2, h3, h4, _, h5⟩ := dd2
  exact ⟨.non, upd H a (.dT []), d_write I (by rw [ha]; exact True.intro) hs ⟨o, hq⟩ ⟨Nat.zero_le _, hd, [], .nil, o, es, ep, hq, h2, h3, h4, h5⟩, rfl, q⟩
/-! ### pop without a default, the key there -/
def rPopT1 : V → List V → Hp → VK → Prop := fun x xs H Q => ∃ (a : Addr) (kvs : List (List L2.Key × V)) (k : List L2.Key) (b : Addr) (v : V), x = .ref a ∧ xs = [.ref b] ∧ H a = some (.dT kvs) ∧ H b = some (.tup (k.map kV)) ∧ valV kvs k = some v ∧ Q v (upd H a (.dT (dropK kvs k)))
theorem mt_popT1 (hu : X.A.units + 65 < cLine) : MtR X "dict.pop" rPopT1 := by
  intro pins s σ H x xs v us Q I rx rxs h
  obtain ⟨a, kvs, k, b, v0, rfl, rfl, ha, hb, hv, q⟩ := h
  cases rx
  obtain ⟨u1, rfl, r1⟩ := vals1 rxs
  cases r1
  obtain ⟨z, hd, xs', rel, dd⟩ := dt_of I.hok ha
  have hz : xs'.length ≤ sizeLine := by rw [← Paired.length rel]; exact z
  have r := rel.val k
  rw [hv] at r
  obtain ⟨pv, hp, rp⟩ := r.some_of
  obtain ⟨pp, hpp, rfl⟩ := Option.map_eq_some_iff.mp hp
  refine call_pop_heap (more := []) (hsz := hz) (.inl rfl) (PySem.F.args_dict_pop_2 _ _) (knd := tupleKind (mixKind X.prog X.w)) (tupleKind_room_in1 (by omega)) (key_of I.hok hb) hd dd hpp fun h' dd' hs => ?_
  obtain ⟨o, es, ep, hq, h2, h3, h4, _, h5⟩ := dd'
  have I2 : L2.Inv X pins σ (upd H a (.dT (dropK kvs k))) { s with heap := h', toks := s.toks + (tupleKind (mixKind X.prog X.w)).draws k } :=
    d_write I (by rw [ha]; exact True.intro) hs ⟨o, hq⟩ ⟨Nat.le_trans (dropK_le kvs k) z, hd, _, (DX.KT_drop k rel).keeps (fun c ys ec => (by rw [upd_ne (ne_of ec ha (fun z => nomatch z))]; exact ec)), o, es, ep, hq, h2, h3, h4, h5⟩
  exact ⟨v0, _, I2, rp, q⟩
/-! ### dict of pairs -/
def rDictLT (K : Frag) : List V → Hp → VK → Prop := fun xs H Q => ∃ (a : Addr) (ts : List Addr) (es : List (List L2.Key × V)), xs = [.ref a] ∧ SqL K H a (ts.map V.ref) ∧
  Paired (fun t e => ∃ b, H t = some (.tup [.ref b, e.2]) ∧ H b = some (.tup (e.1.map kV))) ts es ∧ ∀ p, H p = none → Q (.ref p) (upd H p (.dT (es.foldl (fun g (e : _ × V) => putK g e.1 e.2) [])))
theorem pairsT_of {pins : List (Addr × Obj)} {σ : L2.St} {H : Hp} {s : Shared} (I : Inv X pins σ H s) : ∀ {ts : List Addr} {es : List (List L2.Key × V)}, Paired (fun t e => ∃ b, H t = some (.tup [.ref b, e.2]) ∧ H b = some (.tup (e.1.map kV))) ts es →
    ∃ ps : List (List L2.Key × Addr × Value), KT H es ps ∧ ps.length = ts.length ∧ ∀ (j : Nat) (q : List L2.Key × Addr × Value), ps[j]? = some q → ∃ t, ts[j]? = some t ∧ PairAt s.heap t (.ref q.2.1) q.2.2
  | _, _, .nil => ⟨[], .nil, rfl, fun j q e => by simp at e⟩
  | _, _, .cons (a := t) (b := e) h tl => by
    obtain ⟨ps, r, hl, hp⟩ := pairsT_of I tl
    obtain ⟨b, h1, h2⟩ := h
    obtain ⟨_, its, rv, o, g1, g2, n, g3⟩ := (show ObjOk X.prog X.w H s.heap t (.tup [.ref b, e.2]) from I.hok t _ h1)
    obtain ⟨u1, u2, rfl, r1, r2⟩ := vals2 rv
    cases r1
    refine ⟨(e.1, b, u2) :: ps, .cons ⟨rfl, h2, r2⟩ r, by rw [List.length_cons, List.length_cons, hl], fun j q ej => ?_⟩
    cases j with
    | zero =>
      have e' : (e.1, b, u2) = q := Option.some.inj ej
      subst e'
      exact ⟨t, rfl, .inl ⟨o, g1, g2, n, g3⟩⟩
    | succ j =>
      obtain ⟨t', e1, e2⟩ := hp j q (by simpa using ej)
      exact ⟨t', by simpa using e1, e2⟩
theorem KT_all {H : Hp} : ∀ {es : List (List L2.Key × V)} {ps : List (List L2.Key × Addr × Value)} {g : List (List L2.Key × V)} {xs : List (List L2.Key × Addr × Value)}, KT H es ps → KT H g xs → KT H (es.foldl (fun g (e : _ × V) => putK g e.1 e.2) g) (storedAllH xs ps)
  | _, _, g, xs, .nil, r => r
  | _, _, g, xs, .cons (a := e) (b := q) h t, r => by
    show KT H (List.foldl (fun g (e : _ × V) => putK g e.1 e.2) (putK g e.1 e.2) _) (storedAllH (storedH xs q.1 q.2.1 q.2.2) _)
    have := r.put e.1 h.2.1 h.2.2
    rw [← h.1]
    exact KT_all t this
theorem putAll_le {κ : Type} [DecidableEq κ] : ∀ (es g : List (κ × V)), (es.foldl (fun g (e : _ × V) => putK g e.1 e.2) g).length ≤ g.length + es.length
  | [], g => Nat.le_refl _
  | e :: es, g => by
    have h1 := putAll_le es (putK g e.1 e.2)
    have h2 := length_putK g e.1 e.2
    rw [List.foldl_cons, List.length_cons]
    omega
theorem call_dictLT (hcalm : X.calm = true) (hu : X.A.units + 65 < cLine) : CallR X (.type "dict") (rDictLT X.K) := by
  intro pins s σ H xs us Q I r q
  obtain ⟨a, ts, es, ex, hq, hp, q⟩ := q
  subst ex
  obtain ⟨u, eu, rx⟩ := vals1 r
  subst eu
  cases rx
  obtain ⟨its, rv, pl, hz⟩ := I.list hq
  have ei := refs_at rv
  subst ei
  rw [List.length_map] at hz
  obtain ⟨ps, rel, hl, hpr⟩ := pairsT_of I hp
  obtain ⟨o, n, ho, hc, hd, hdat⟩ := pl
  have hT : ∀ (j : Nat) (t : Addr), ts[j]? = some t → (ts[j]?).getD 0 = t := fun j t e => by rw [e]; rfl
  have P := PairArg.list (prog := X.prog) (w := X.w) a (ts.map Value.ref).toArray (fun j => (ts[j]?).getD 0) (ps.map fun q => (Value.ref q.2.1, q.2.2))
  refine call_dict_pairsH (knd := tupleKind (mixKind X.prog X.w)) (ps := ps) P (I.ok.hd hcalm) (tupleKind_room_in1 (by show X.A.units + 1 + _ < _; omega)) ⟨⟨o, n, ho, hc, hd, hdat⟩, by simp [hl], fun j k v e => ?_⟩ ⟨by simp, fun i key v e => ?_⟩ (fun h' hk x hx => ?_) (by rw [List.length_map, hl]; exact hz) fun h' tk hd' k => ?_
  · rw [List.getElem?_map] at e
    obtain ⟨q', e1, e2⟩ := Option.map_eq_some_iff.mp e
    cases e2
    obtain ⟨t, g1, g2⟩ := hpr j q' e1
    have e3 := hT j t g1
    show _ ∧ PairAt s.heap ((ts[j]?).getD 0) _ _
    rw [e3]
    exact ⟨by simp [g1], g2⟩
  · have e : (ps.map fun q => (Value.ref q.2.1, q.2.2))[i]? = some (key, v) := e
    rw [List.getElem?_map] at e
    obtain ⟨q', e1, e2⟩ := Option.map_eq_some_iff.mp e
    cases e2
    exact ⟨_, _, e1, rfl⟩
  · have his : ∀ {es : List (List L2.Key × V)} {ps : List (List L2.Key × Addr × Value)}, KT H es ps → ∀ x ∈ ps, (tupleKind (mixKind X.prog X.w)).is s.heap x.1 x.2.1 := by
      intro es ps r
      induction r with
      | nil => intro x hx; exact nomatch hx
      | @cons p q ps qs h t ih =>
        intro x hx
        rcases List.mem_cons.mp hx with rfl | hx
        · rw [← h.1]; exact key_of I.hok h.2.1
        · exact ih x hx
    exact tupleKind_stays.stays (fun b o' vs n' e _ => hk b o' (Nat.ne_of_lt (Heap.lt_size e)) (fun z => nomatch z) e) (his rel x hx)
  · have hm : (s.heap.objs.size == sysModules) = false := beq_eq_false_iff_ne.mpr (Nat.ne_of_gt I.big)
    have fresh := I.hok.fresh (Nat.le_refl _)
    have hlen : (es.foldl (fun g (e : _ × V) => putK g e.1 e.2) []).length ≤ sizeLine := by
      refine Nat.le_trans (putAll_le es []) ?_
      rw [List.length_nil, Nat.zero_add, rel.length, hl]
      exact hz
    have rel' : KT (upd H s.heap.objs.size (.dT (es.foldl (fun g (e : _ × V) => putK g e.1 e.2) []))) (es.foldl (fun g (e : _ × V) => putK g e.1 e.2) []) (storedAllH [] ps) := (KT_all rel .nil).keeps fun b ys e => by
      rw [upd_ne]
      · exact e
      · intro e2; rw [e2, fresh] at e; exact nomatch e
    obtain ⟨o', es', ep', g1, g2, g3, g4, g5, g6⟩ := hd'
    exact ⟨.ref s.heap.objs.size, upd H s.heap.objs.size (.dT (es.foldl (fun g (e : _ × V) => putK g e.1 e.2) [])), I.laid (t' := tk) (fun b u e => k b u (fun z => nomatch z) e) (Nat.le_refl _)
      (show ObjOk X.prog X.w _ _ _ (.dT (es.foldl (fun g (e : _ × V) => putK g e.1 e.2) [])) from ⟨hlen, hm, _, rel', o', es', ep', g1, g2, g3, g4, g6⟩), rfl, q _ fresh⟩
end
section
variable {K : PySem.W.Frag} {ex : Addr → Prop} {H : Hp} {ρ : List Addr} {st : Store} {Xe : Ex → Hp → List Addr → Store → Prop} {Q : VK}
theorem okRecv_dctC {p : P} (hp : p = .dclr ∨ p = .dpop ∨ p = .dpop1) {d : D} {v : V} (M : Mem K ex H ρ st) (r : Rep K ex H ρ d v) (h : okRecv p d st = true) : tyV K "dict" v H := by
  have h' : okRecv .setd d st = true := by rcases hp with rfl | rfl | rfl <;> exact h
  exact okRecv_dctU M r h'
theorem ok_dclr {d : D} {v : V} (M : Mem K ex H ρ st) (r1 : Rep K ex H ρ d v) (h : PostV K ex H ρ (prim1F .dclr d st) Xe Q) : rDClrT v [] H Q := by
  unfold prim1F at h
  simp only at h
  split at h
  · rename_i n
    obtain ⟨a, ha, rfl⟩ := r1
    split at h
    · rename_i es hs
      obtain ⟨b, kvs, h1, h2, h3⟩ := M.dct hs
      rw [ha] at h1
      cases h1
      refine ⟨a, kvs, rfl, rfl, h2, ?_⟩
      have e : Ext ρ H ρ (upd H a (.dT [])) := Ext.write ha (fun vs => by rw [h2]; simp) (fun ob u => by rw [h2]; simp)
      exact h .non _ ρ e (M.write ha e ⟨[], upd_same, rfl⟩) rfl
    · exact h.elim
  · exact h.elim
theorem RepE.drop {es : List (Pl × D)} {kvs : List (List L2.Key × V)} {p : Pl} : RepE K ex H ρ es kvs → RepE K ex H ρ (ddrop es p) (dropK kvs (kP p)) := by
  intro h
  induction es generalizing kvs with
  | nil => cases h; rfl
  | cons e es ih =>
    obtain ⟨q, d⟩ := e
    obtain ⟨v, r, rfl, rv, rr⟩ := h
    have hk : (kP q ≠ kP p) ↔ q ≠ p := by
      constructor
      · exact fun hn e => hn (by rw [e])
      · intro hn e
        apply hn
        unfold kP at e
        simp only [List.cons.injEq, Sum.inl.injEq, and_true] at e
        exact Prod.ext e.1 e.2
    have := ih rr
    unfold ddrop dropK at this ⊢
    by_cases hq : q = p
    · subst hq
      simpa using this
    · have h2 := hk.mpr hq
      rw [List.filter_cons_of_pos (by simpa using hq), List.filter_cons_of_pos (by simpa using h2)]
      exact ⟨v, _, rfl, rv, this⟩
theorem ok_dpop1 {d e : D} {v u : V} (M : Mem K ex H ρ st) (r1 : Rep K ex H ρ d v) (r2 : Rep K ex H ρ e u) (h : PostV K ex H ρ (prim2F .dpop1 d e st) Xe Q) : rPopT1 v [u] H Q := by
  unfold prim2F at h
  simp only at h
  split at h
  · rename_i n k hk
    obtain ⟨a, ha, rfl⟩ := r1
    obtain ⟨b, rfl, hb⟩ := rep_pl r2 hk
    split at h
    · rename_i es hs
      obtain ⟨a2, kvs, h1, h2, h3⟩ := M.dct hs
      rw [ha] at h1
      cases h1
      rcases h3.val k with ⟨e1, e2⟩ | ⟨x, y, e1, e2, rxy⟩
      · rw [e1] at h
        exact h.elim
      · rw [e1] at h
        simp only at h
        refine ⟨a, kvs, kP k, b, y, rfl, rfl, h2, hb, e2, ?_⟩
        have e : Ext ρ H ρ (upd H a (.dT (dropK kvs (kP k)))) := Ext.write ha (fun vs => by rw [h2]; simp) (fun ob u => by rw [h2]; simp)
        exact h y _ ρ e (M.write ha e ⟨_, upd_same, h3.drop.ext e⟩) (rxy.ext e)
    · exact h.elim
  · exact h.elim
theorem ok_dpop {d e f : D} {v u w : V} (M : Mem K ex H ρ st) (r1 : Rep K ex H ρ d v) (r2 : Rep K ex H ρ e u) (r3 : Rep K ex H ρ f w) (h : PostV K ex H ρ (prim3F .dpop d e f st) Xe Q) : DX.rPopT v [u, w] H Q := by
  unfold prim3F at h
  simp only at h
  split at h
  · rename_i n k hk
    obtain ⟨a, ha, rfl⟩ := r1
    obtain ⟨b, rfl, hb⟩ := rep_pl r2 hk
    split at h
    · rename_i es hs
      obtain ⟨a2, kvs, h1, h2, h3⟩ := M.dct hs
      rw [ha] at h1
      cases h1
      rcases h3.val k with ⟨e1, e2⟩ | ⟨x, y, e1, e2, rxy⟩
      · rw [e1] at h
        simp only at h
        exact ⟨a, kvs, kP k, b, w, rfl, rfl, h2, hb, (fun v hv => by rw [e2] at hv; cases hv), fun _ => h.here M r3⟩
      · rw [e1] at h
        simp only at h
        refine ⟨a, kvs, kP k, b, w, rfl, rfl, h2, hb, fun v hv => ?_, fun hn => by rw [e2] at hn; cases hn⟩
        rw [e2] at hv
        cases hv
        have e : Ext ρ H ρ (upd H a (.dT (dropK kvs (kP k)))) := Ext.write ha (fun vs => by rw [h2]; simp) (fun ob u => by rw [h2]; simp)
        exact h y _ ρ e (M.write ha e ⟨_, upd_same, h3.drop.ext e⟩) (rxy.ext e)
    · exact h.elim
  · exact h.elim
theorem ok_rev {d : D} {v : V} (M : Mem K ex H ρ st) (r1 : Rep K ex H ρ d v) (h : PostV K ex H ρ (prim1F .rev d st) Xe Q) : rReverse v [] H Q := by
  unfold prim1F at h
  simp only at h
  split at h
  · rename_i n
    obtain ⟨a, ha, rfl⟩ := r1
    split at h
    · rename_i xs hs
      obtain ⟨b, vs, h1, h2, h3⟩ := M.lst hs
      rw [ha] at h1
      cases h1
      refine ⟨a, vs, rfl, rfl, h2, ?_⟩
      have e : Ext ρ H ρ (upd H a (.lst vs.reverse)) := Ext.write ha (fun vs => by rw [h2]; simp) (fun ob u => by rw [h2]; simp)
      have rr : ∀ {xs : List D} {vs : List V}, Reps K ex H ρ xs vs → Reps K ex H ρ xs.reverse vs.reverse := by
        intro xs
        induction xs with
        | nil => intro vs h; cases h; exact rfl
        | cons x xs ih =>
          intro vs h
          obtain ⟨v, r, rfl, rv, rr⟩ := h
          rw [List.reverse_cons, List.reverse_cons]
          exact (ih rr).append (Reps.one rv)
      exact h .non _ ρ e (M.write ha e ⟨_, upd_same, (rr h3).ext e⟩) rfl
    · exact h.elim
  · exact h.elim
theorem reps_pairs : ∀ {xs : List D} {es : List (Pl × D)} {vs : List V}, pairsOf xs = some es → Reps K ex H ρ xs vs → ∃ (ts : List Addr) (ks : List (List L2.Key × V)), vs = ts.map V.ref ∧
    Paired (fun t e => ∃ b, H t = some (.tup [.ref b, e.2]) ∧ H b = some (.tup (e.1.map kV))) ts ks ∧ ∀ {g : List (Pl × D)} {k : List (List L2.Key × V)}, RepE K ex H ρ g k → RepE K ex H ρ (es.foldl (fun g e => dput g e.1 e.2) g) (ks.foldl (fun g (e : _ × V) => putK g e.1 e.2) k)
  | [], es, vs, h, r => by
    rw [pairsOf] at h
    cases h
    cases r
    exact ⟨[], [], rfl, .nil, fun h => h⟩
  | x :: xs, es, vs, h, r => by
    obtain ⟨v, r', rfl, rv, rr⟩ := r
    cases x with
    | tup ys =>
      match ys with
      | [p, d] =>
        rw [pairsOf] at h
        cases hp : plOf p with
        | none => rw [hp] at h; simp at h
        | some k =>
          cases hx : pairsOf xs with
          | none => rw [hp, hx] at h; simp at h
          | some es' =>
            rw [hp, hx] at h
            simp only [Option.some.injEq] at h
            subst h
            obtain ⟨ts, ks, rfl, h2, h3⟩ := reps_pairs hx rr
            obtain ⟨t, us, rfl, ht, ru⟩ := rv
            obtain ⟨u1, w1, rfl, rp, ru2⟩ := ru
            obtain ⟨u2, w2, rfl, rd, ru3⟩ := ru2
            cases ru3
            obtain ⟨b, rfl, hb⟩ := rep_pl rp hp
            refine ⟨t :: ts, (kP k, u2) :: ks, rfl, .cons ⟨b, ?_, hb⟩ h2, fun hg => ?_⟩
            · rcases ht with ht | ⟨ht, _⟩
              · exact ht
              · simp at ht
            · exact h3 (hg.put rd)
      | [] => simp [pairsOf] at h
      | [_] => simp [pairsOf] at h
      | _ :: _ :: _ :: _ => simp [pairsOf] at h
    | _ => simp [pairsOf] at h
theorem ok_dictL (m : Bool) : P1 K (.dictL m) (rDictLT K) := by
  intro ex H ρ st d v Xe Q M r h
  unfold prim1F at h
  simp only at h
  split at h
  · rename_i xs hx
    split at h
    · rename_i es he
      obtain ⟨a, vs, rfl, hq, rs⟩ := rep_lst M r hx
      obtain ⟨ts, ks, rfl, h2, h3⟩ := reps_pairs he rs
      exact ⟨a, ts, ks, rfl, hq, h2, fun p hp => h.newD M (h3 (g := []) (k := []) rfl) p hp⟩
    · exact h.elim
  · exact h.elim
/-! ### texts -/
theorem lower1 : ∀ c : Nat, 65 ≤ c → c ≤ 90 → Txt.lower ⟨#[c]⟩ = (⟨#[c + 32]⟩ : Str) := by
  have : (List.range 26).all (fun i => decide (Txt.lower ⟨#[65 + i]⟩ = (⟨#[65 + i + 32]⟩ : Str))) = true := by decide +kernel
  intro c h1 h2
  have h := List.all_eq_true.mp this (c - 65) (List.mem_range.mpr (by omega))
  rw [decide_eq_true_eq, show 65 + (c - 65) = c by omega] at h
  exact h
def rLowerM : V → List V → Hp → VK → Prop := fun x xs H Q => ∃ a : Str, x = .str a ∧ xs = [] ∧ a.length ≤ 5592405 ∧ Q (.str (Txt.lower a)) H
theorem okRecv_str {p : P} (hp : p = .lower ∨ p = .sidx) {d : D} {v : V} (M : Mem K ex H ρ st) (r : Rep K ex H ρ d v) (h : okRecv p d st = true) : ∃ s, d = .str s ∧ v = .str (strOf s) ∧ txOk s := by
  cases d with
  | str s => exact ⟨s, rfl, r.1, r.2⟩
  | _ => rcases hp with rfl | rfl <;> simp [okRecv] at h
theorem ok_lower {d : D} {v : V} (M : Mem K ex H ρ st) (r1 : Rep K ex H ρ d v) (h : PostV K ex H ρ (prim1F .lower d st) Xe Q) : rLowerM v [] H Q := by
  unfold prim1F at h
  simp only at h
  split at h
  · rename_i c
    obtain ⟨rfl, hc⟩ := r1
    split at h
    · rename_i hk
      refine ⟨_, rfl, rfl, by rw [strOf_len]; simp, ?_⟩
      rw [show strOf [c] = ⟨#[c]⟩ from rfl, lower1 c hk.1 hk.2]
      exact h.here M ⟨rfl, fun x hx => by rw [List.mem_singleton.mp hx]; omega⟩
    · exact h.elim
  · exact h.elim
def rSidxM : V → List V → Hp → VK → Prop := fun x xs H Q => ∃ (a b : Str) (i : Nat) (rest : List Nat), x = .str a ∧ xs = [.str b] ∧ Builtin.Str.occurrences a b 0 a.length 1 = i :: rest ∧ Q (.int (i : Nat)) H
theorem ok_sidx {d e : D} {v u : V} (M : Mem K ex H ρ st) (r1 : Rep K ex H ρ d v) (r2 : Rep K ex H ρ e u) (h : PostV K ex H ρ (prim2F .sidx d e st) Xe Q) : rSidxM v [u] H Q := by
  unfold prim2F at h
  simp only at h
  split at h
  · rename_i s t
    obtain ⟨rfl, hs⟩ := r1
    obtain ⟨rfl, ht⟩ := r2
    split at h
    · rename_i hk
      unfold findT at hk h
      split at hk
      · rename_i i rest ho
        rw [ho] at h
        exact ⟨_, _, i, rest, rfl, rfl, by rw [strOf_len]; exact ho, h.here M rfl⟩
      · simp at hk
    · exact h.elim
  · exact h.elim
/-! ### index -/
theorem okRecv_rev {d : D} {v : V} (M : Mem K ex H ρ st) (r : Rep K ex H ρ d v) (h : okRecv .rev d st = true) : tyV K "list" v H := okRecv_lst M r h
theorem okRecv_idx {d : D} {v : V} (M : Mem K ex H ρ st) (r : Rep K ex H ρ d v) (h : okRecv .index d st = true) : tyV K "list" v H := okRecv_lst M r h
theorem eqD_pl0 (a b : Pl) : eqD (plD a) (plD b) = decide (a = b) := by
  have : eqD (plD a) (plD b) = (decide (a.1 = b.1) && decide (a.2 = b.2)) := by
    simp [plD, eqD, eqDs]
    rfl
  rw [this, ← Bool.decide_and]
  exact decide_eq_decide.mpr ⟨fun h => Prod.ext h.1 h.2, fun h => by rw [h]; exact ⟨rfl, rfl⟩⟩
theorem eqv_pls2 (p q : Pl) : PyData.eqv (py (plD p)) (py (plD q)) = decide (p = q) := by
  rw [eqv_py _ _ rfl rfl, eqD_pl0]
theorem pys_map : ∀ xs : List D, pys xs = xs.map py
  | [] => by simp [pys]
  | x :: xs => by simp [pys, pys_map xs]
theorem cmps_pls0 : ∀ ps : List Pl, cmpDs (ps.map plD) = true
  | [] => rfl
  | p :: ps => by simp [plD, cmpDs, cmpD]; exact cmps_pls0 ps
theorem deps_pls0 : ∀ ps : List Pl, deps (ps.map plD) ≤ 1
  | [] => by simp [deps]
  | p :: ps => by
    have := deps_pls0 ps
    simp only [List.map_cons, deps, plD, dep] at this ⊢
    omega
theorem ok_index {d e : D} {v u : V} (M : Mem K ex H ρ st) (r1 : Rep K ex H ρ d v) (r2 : Rep K ex H ρ e u) (h : PostV K ex H ρ (prim2F .index d e st) Xe Q) : rIndexD K v [u] H Q := by
  unfold prim2F at h
  simp only at h
  split at h
  · rename_i xs p hx hp
    split at h
    · rename_i ps hps
      split at h
      · rename_i hm
        obtain ⟨a, vs, rfl, hq, rs⟩ := rep_lst M r1 hx
        rw [plsOf_eq hps] at rs
        rw [plOf_eq hp] at r2
        have q1 := rep_dps (cmps_pls0 ps) rs
        have q2 := rep_dp (d := plD p) rfl r2
        have hcl : (py (.lst (ps.map plD))).canLay0 = true := by simp only [py, PyData.canLay0]; exact q1.2
        have hsh := shaped_py (d := .lst (ps.map plD)) (by simp [cmpD, cmps_pls0]) hcl (by have := deps_pls0 ps; simp only [dep]; omega)
        have epy : py (.lst (ps.map plD)) = .list (ps.map fun x => py (plD x)) := by simp [py, pys_map, List.map_map, Function.comp_def]
        have hlt := List.idxOf_lt_length_of_mem hm
        rw [epy] at hsh
        refine ⟨a, u, py (plD p), ps.map (fun x => py (plD x)), ps.idxOf p, py (plD p), rfl, rfl, ?_, q2.1, hsh, shaped_py (d := plD p) rfl q2.2 (by simp [plD, dep, deps]), ?_, ?_, fun m z' hml hz => ?_, h.here M rfl⟩
        · rw [← show pys (ps.map plD) = ps.map (fun x => py (plD x)) by rw [pys_map, List.map_map]; rfl]
          exact .lst hq q1.1
        · rw [List.getElem?_map, List.getElem?_eq_getElem hlt, List.getElem_idxOf]
          rfl
        · rw [eqv_pls2]; simp
        · rw [List.getElem?_map] at hz
          obtain ⟨y, hy, rfl⟩ := Option.map_eq_some_iff.mp hz
          rw [eqv_pls2]
          refine decide_eq_false fun e => ?_
          subst e
          obtain ⟨hlm, e2⟩ := List.getElem?_eq_some_iff.mp hy
          have := List.not_of_lt_findIdx (p := (· == y)) (xs := ps) (i := m) hml
          simp [e2] at this
      · exact h.elim
    · exact h.elim
  · exact h.elim
end
end MP
end
section
set_option maxRecDepth 100000
set_option maxHeartbeats 4000000
/-! MP: len(set(xs)), xs a list of places. -/
namespace MP
open PySem PySem.Spec PyProof.Rows L2
section
variable {X : Cx} {xa : XA} {W : WX} {a : Expr} {ta : TE} {p1 p2 p3 pos : Pos} {fa : DS → Store → RE}
def tLenSetP (K : PySem.W.Frag) (ta : TE) : TE := fun σ H Q => ta σ H fun x H1 => ∃ (l : Addr) (ks : List (Addr × List Int)), x = V.ref l ∧ SqL K H1 l (ks.map fun p => V.ref p.1) ∧ (∀ p ∈ ks, SqT K H1 p.1 (p.2.map V.int)) ∧ ks.length < 64 ∧ (ks.map (·.2)).Nodup ∧ Q (.int ks.length) H1
theorem lens_eq {ks L : List (Addr × List Int)} (h1 : (ks.map (·.2)).Nodup) (h2 : (L.map (·.2)).Nodup) (h3 : ∀ p ∈ L, p ∈ ks) (h4 : ∀ p ∈ ks, p.2 ∈ L.map (·.2)) : L.length = ks.length := by
  have hp : (L.map (·.2)).Perm (ks.map (·.2)) := (List.perm_ext_iff_of_nodup h2 h1).mpr fun x => by
    constructor
    · intro hx
      obtain ⟨p, hp, rfl⟩ := List.mem_map.mp hx
      exact List.mem_map.mpr ⟨p, h3 p hp, rfl⟩
    · intro hx
      obtain ⟨p, hp, rfl⟩ := List.mem_map.mp hx
      exact h4 p hp
  have := hp.length_eq
  simpa using this
theorem pe_lenSetT (hc : X.calm = true) (hu : X.A.units + 65 < cLine) (hg : Gl X "len") (hm : X.mg "len" = none) (hg2 : Gl X "set") (hm2 : X.mg "set" = none) (ha : PE X a ta)
    (na : starEach [a] X.env = (false, eval a X.env) :: starEach [] X.env) : PE X (.Call (.Name "len" p1) [.Call (.Name "set" p2) [a] [] p3] [] pos) (tLenSetP X.K ta) := by
  refine ⟨fun pins s σ H Q I h => ?_⟩
  refine Call_ (ld_blt I hg hm PySem.boot_len ?_)
  refine PyProof.Rows.callWith_builtin1 (PyProof.Rows.args_cons ?_ rfl) rfl rfl
  refine Call_ (ld_blt I hg2 hm2 PyProof.Rows.boot_set ?_)
  refine PyProof.Rows.callWith_type1 (PyProof.Rows.args_cons (thn (ha.run pins s σ H _ I h) fun v s1 ⟨x, H1, I1, r1, q1⟩ => PyProof.Rows.args_nil ?_) na) na rfl
  obtain ⟨l, ks, rfl, hq, hk, h1, hnd, q1⟩ := q1
  cases r1
  obtain ⟨its, rv, pl, hz⟩ := I1.list hq
  refine call_set_tups (P := X.prog) (w := X.w) ks (I1.ok.hd hc) pl.isList (by simpa using refs_of_vals rv) (fun p hp => I1.isT (hk p hp)) h1 (by omega) fun h' tk L es ep t R g hkeep => ?_
  refine PyProof.Rows.args_nil ?_
  have I2 : L2.Inv X pins σ H1 { s1 with heap := h', toks := tk } := I1.kept fun b o e => hkeep b o e
  have R' : SetTR X.prog X.w ({ s1 with heap := h', toks := tk } : Shared).heap s1.heap.objs.size L es ep t := R
  obtain ⟨o, ho, hex, hd⟩ := R.ob
  have hsz := R'.size
  have hll : L.length = ks.length := lens_eq hnd R.nd (fun p hp => List.mem_of_mem_take (g.sub p hp)) fun p hp => g.all p (by rw [List.take_length]; exact hp)
  have hf := R'.fits
  refine call_len_set ho hex hd hf (by rw [hsz]; omega) ⟨.int ks.length, H1, I2.tok _, ⟨_, by rw [hsz, hll]⟩, q1⟩
theorem den_nset (hc : X.calm = true) (hu : X.A.units + 65 < cLine) (hg : Gl X "len") (hm : X.mg "len" = none) (hg2 : Gl X "set") (hm2 : X.mg "set" = none) (pa : plainArg a = true)
    (ha : PE X a (denE X.K xa W fa)) :
    PE X (.Call (.Name "len" p1) [.Call (.Name "set" p2) [a] [] p3] [] pos) (denE X.K xa W fun ds st => (fa ds st).bind fun x st1 => primF .nset [x] st1) := by
  refine (pe_lenSetT hc hu hg hm hg2 hm2 ha (star_cons pa _ _)).imp fun σ H Q h => ?_
  obtain ⟨ex, ρ, ds, st, M, S, q⟩ := h
  refine ⟨ex, ρ, ds, st, M, S, (PostV.bind q).imp fun v H1 ⟨x, st1, ρ1, e1, M1, r1, q1⟩ => ?_⟩
  change PostV _ _ _ _ (prim1F .nset x st1) _ _ at q1
  unfold prim1F at q1
  simp only at q1
  split at q1
  · rename_i xs hx
    obtain ⟨l, vs, rfl, hs, rs⟩ := rep_lst M1 r1 hx
    split at q1
    · rename_i ps hp
      split at q1
      · rename_i hk
        have e3 := plsOf_eq hp
        subst e3
        obtain ⟨h1, h2⟩ := reps_pls rs
        obtain ⟨hlt, hnd⟩ := hk
        let adr : V → Addr := fun v => match v with | .ref t => t | _ => 0
        have hlen : vs.length = ps.length := by rw [← h2, List.length_map]
        refine ⟨l, vs.map fun v => (adr v, [(pairAt H1 v).1, (pairAt H1 v).2]), rfl, ?_, ?_, ?_, ?_, ?_⟩
        · have : (vs.map fun v => (adr v, [(pairAt H1 v).1, (pairAt H1 v).2])).map (fun p => V.ref p.1) = vs := by
            rw [List.map_map]
            conv => rhs; rw [← List.map_id vs]
            apply List.map_congr_left
            intro v hv
            obtain ⟨t, rfl, _⟩ := h1 v hv
            rfl
          rw [this]
          exact hs
        · intro p hp
          obtain ⟨v, hv, rfl⟩ := List.mem_map.mp hp
          obtain ⟨t, rfl, ht⟩ := h1 v hv
          exact .inl (.inl ht)
        · rw [List.length_map]; omega
        · have : (vs.map fun v => (adr v, [(pairAt H1 v).1, (pairAt H1 v).2])).map (·.2) = ps.map fun p => [p.1, p.2] := by
            rw [← h2, List.map_map, List.map_map]
            rfl
          rw [this]
          refine List.Pairwise.map _ (fun a b hab e => hab ?_) hnd
          simp only [List.cons.injEq, and_true] at e
          exact Prod.ext e.1 e.2
        · rw [List.length_map, hlen]
          exact q1.here M1 rfl
      · exact q1.elim
    · exact q1.elim
  · exact q1.elim
end
end MP
end
section
set_option maxRecDepth 100000
set_option maxHeartbeats 4000000
/-! MP: max(xs, default = d). -/
namespace MP
open PySem PySem.Spec PyProof.Rows L2
section
variable {prog : Program} {w : World} {A : Around} {R : Result → Shared → Prop} {I : Addr} {fp wr : List Addr} {n : Nat} {P : Nat → Value → Prop} {St : Nat → Heap → Prop} {kw : List (Str × Value)}
theorem nameLoop : (toString "max" ++ toString ".loop" : String) = "max.loop" := by decide
/-- the turns, whatever keywords stand behind -/
theorem maxTurns (Wk : Walks prog w A.in1 I fp wr n P St) (bt : Nat → Nat → Bool) (hc : CmpOf prog w A.in1 .Gt P bt) (B : Addr) (hB : B ∉ fp) : ∀ (m j : Nat) (s : Shared) (v0 : Value) (c : Nat), n - (j + 1) = m → j + 1 ≤ n → St (j + 1) s.heap → P (argBest bt j) v0 →
    s.heap.get? B = some { cls := .type "list", dict := none, data := .seq #[v0, v0] c, slots := #[] } →
    (∀ v h' tk, P (argBest bt (n - 1)) v → (∀ b o, b ∉ wr → b ≠ B → s.heap.get? b = some o → h'.get? b = some o) → R (.ok (.ret v)) { s with heap := h', toks := tk }) → codeAny (model prog w) A (.builtin "max.loop" ⟨[.ref I, .none, .ref B], kw⟩) R s := by
  have hw : B ∉ wr := fun h => hB (Wk.sub _ h)
  intro m
  induction m with
  | zero =>
    intro j s v0 c hm hj hs h0 hb hR
    have en : j + 1 = n := by omega
    refine codeAny_builtin PySem.F.entry_max_loop ?_; rw [Around.under_plainId PySem.F.plain_max_loop _]
    show wpAny _ A.in1 (seqItems? (.ref B) >>= _) _ _ s; refine wpAny_bind (wpAny_seqItems hb rfl ?_)
    show wpAny _ A.in1 (tryCatch (pyNext (.ref I)) _ >>= _) _ _ s; refine wpAny_bind (wpAny_tryCatch (Wk.done s _ _ (en ▸ hs) fun h' tk k1 => ?_))
    show wpAny _ A.in1 (updateSeq B (fun _ => #[]) >>= _) _ _ _; refine wpAny_bind (wpAny_updateSeq (k1 B _ hw hb) rfl (wpAny_bind (wpAny_letGo (wpAny_pure ?_))))
    exact hR v0 _ tk (by rw [← en]; exact h0) fun b o h1 h2 e => (Heap.get?_update_other _ _ (Ne.symm h2)).trans (k1 b o h1 e)
  | succ m ih =>
    intro j s v0 c hm hj hs h0 hb hR
    have lt : j + 1 < n := by omega
    refine codeAny_builtin PySem.F.entry_max_loop ?_; rw [Around.under_plainId PySem.F.plain_max_loop _]
    show wpAny _ A.in1 (seqItems? (.ref B) >>= _) _ _ s; refine wpAny_bind (wpAny_seqItems hb rfl ?_)
    show wpAny _ A.in1 (tryCatch (pyNext (.ref I)) _ >>= _) _ _ s; refine wpAny_bind (wpAny_tryCatch (Wk.item (j + 1) s _ _ lt hs fun v h' tk hv hs' k1 => ?_))
    have hb' := k1 B _ hw hb
    show wpAny _ A.in1 (tryCatch (holding [v, v] (richCompare .Gt v v0 >>= _)) _ >>= _) _ _ _; refine wpAny_bind (wpAny_tryCatch (wpAny_holding (wpAny_bind (hc (j + 1) (argBest bt j) v v0 _ _ _ hv h0 ?_))))
    refine wpAny_bind (wpAny_holding (wpAny_truthy_bool ?_)); refine wpAny_bind (wpAny_letGo (wpAny_pure ?_))
    cases q : bt (j + 1) (argBest bt j) with
    | true =>
      simp only [if_true]; refine wpAny_bind (wpAny_updateSeq hb' rfl (wpAny_bind (wpAny_letGo ?_))); rw [nameLoop]
      refine wpAny_pure ⟨plainId_quiet PySem.F.plain_max_loop _, ih (j + 1) _ v _ (by omega) lt (Wk.frame _ _ _ hs' fun b hf o e => (Heap.get?_update_other _ _ (fun h : B = b => hB (by rw [h]; exact hf))).trans e) (by simp only [argBest, q, if_true]; exact hv) (Heap.get?_update_self _ hb' rfl) fun v' h2 tk2 hv' k2 => ?_⟩
      exact hR v' h2 tk2 hv' fun b o h1 h3 e => k2 b o h1 h3 ((Heap.get?_update_other _ _ (Ne.symm h3)).trans (k1 b o h1 e))
    | false =>
      simp only [Bool.false_eq_true, if_false]; refine wpAny_bind (wpAny_letGo ?_); rw [nameLoop]
      refine wpAny_pure ⟨plainId_quiet PySem.F.plain_max_loop _, ih (j + 1) _ v0 c (by omega) lt hs' (by simp only [argBest, q, Bool.false_eq_true, if_false]; exact h0) hb' fun v' h2 tk2 hv' k2 => ?_⟩
      exact hR v' h2 tk2 hv' fun b o h1 h3 e => k2 b o h1 h3 (k1 b o h1 e)
theorem maxFirst (Wk : Walks prog w A.in1 I fp wr n P St) (bt : Nat → Nat → Bool) (hc : CmpOf prog w A.in1 .Gt P bt) (B : Addr) (hB : B ∉ fp) (hn : 0 < n) {s : Shared} {c : Nat} (hs : St 0 s.heap) (hb : s.heap.get? B = some { cls := .type "list", dict := none, data := .seq #[] c, slots := #[] })
    (hR : ∀ v h' tk, P (argBest bt (n - 1)) v → (∀ b o, b ∉ wr → b ≠ B → s.heap.get? b = some o → h'.get? b = some o) → R (.ok (.ret v)) { s with heap := h', toks := tk }) : codeAny (model prog w) A (.builtin "max.loop" ⟨[.ref I, .none, .ref B], kw⟩) R s := by
  have hw : B ∉ wr := fun h => hB (Wk.sub _ h)
  refine codeAny_builtin PySem.F.entry_max_loop ?_; rw [Around.under_plainId PySem.F.plain_max_loop _]
  show wpAny _ A.in1 (seqItems? (.ref B) >>= _) _ _ s; refine wpAny_bind (wpAny_seqItems hb rfl ?_)
  show wpAny _ A.in1 (tryCatch (pyNext (.ref I)) _ >>= _) _ _ s; refine wpAny_bind (wpAny_tryCatch (Wk.item 0 s _ _ hn hs fun v h' tk hv hs' k1 => ?_))
  have hb' := k1 B _ hw hb
  show wpAny _ A.in1 (updateSeq B (fun _ => #[v, v]) >>= _) _ _ _; refine wpAny_bind (wpAny_updateSeq hb' rfl ?_); rw [nameLoop]
  refine wpAny_pure ⟨plainId_quiet PySem.F.plain_max_loop _, maxTurns Wk bt hc B hB _ 0 _ v _ rfl hn (Wk.frame _ _ _ hs' fun b hf o e => (Heap.get?_update_other _ _ (fun h : B = b => hB (by rw [h]; exact hf))).trans e) hv (Heap.get?_update_self _ hb' rfl) fun v' h2 tk2 hv' k2 => ?_⟩
  exact hR v' h2 tk2 hv' fun b o h1 h3 e => k2 b o h1 h3 ((Heap.get?_update_other _ _ (Ne.symm h3)).trans (k1 b o h1 e))
/-- no item: the default -/
theorem maxNone (Wk : Walks prog w A.in1 I fp wr 0 P St) (B : Addr) (hB : B ∉ fp) {s : Shared} {c : Nat} {d : Value} {x : Str} (hs : St 0 s.heap) (hb : s.heap.get? B = some { cls := .type "list", dict := none, data := .seq #[] c, slots := #[] })
    (hR : ∀ h' tk, (∀ b o, b ∉ wr → s.heap.get? b = some o → h'.get? b = some o) → R (.ok (.ret d)) { s with heap := h', toks := tk }) : codeAny (model prog w) A (.builtin "max.loop" ⟨[.ref I, .none, .ref B], [(x, d)]⟩) R s := by
  refine codeAny_builtin PySem.F.entry_max_loop ?_; rw [Around.under_plainId PySem.F.plain_max_loop _]
  show wpAny _ A.in1 (seqItems? (.ref B) >>= _) _ _ s; refine wpAny_bind (wpAny_seqItems hb rfl ?_)
  show wpAny _ A.in1 (tryCatch (pyNext (.ref I)) _ >>= _) _ _ s; refine wpAny_bind (wpAny_tryCatch (Wk.done s _ _ hs fun h' tk k1 => ?_))
  exact wpAny_bind (wpAny_rule (wpAny_pure (hR h' tk k1)))
end
section
variable {prog : Program} {w : World} {A : Around} {E : Value → Shared → Prop} {s : Shared}
theorem call_tree_kw {id : String} {b : Builtin} {args : List Value} {kw : List (Str × Value)} {Q : Value → Shared → Prop} (hk : builtinKind id = none) (hp : plainId id = true) (hb : entryFor table id = some b) (ha : argsOk id ⟨args, kw⟩)
    (hc : wpAny (model prog w) A.in1 (b ⟨args, kw⟩) (fun fin s' => match fin with
      | .done f => (match (Except.ok f : Result) with | .ok (.ret v) => Q v s' | .ok _ => False | .error e => E e s')
      | .again c' => c'.quiet = true ∧ codeAny (model prog w) A c' (fun r s' => match r with | .ok (.ret v) => Q v s' | .ok _ => False | .error e => E e s') s') E s) : wpAny (model prog w) A (call (.builtin id) args kw) Q E s := by
  refine wpAny_call (codeAny_call_builtin hp hb ?_); simp only [checkBuiltinCall, hk]
  cases hg : Manifest.signature? id with
  | none => exact wpAny_pure hc
  | some sg =>
    have h2 : Bind.checkArgs id sg ⟨args, kw⟩ = pure () := by simp only [argsOk, hg] at ha; exact ha
    show wpAny _ A.in1 (Bind.checkArgs id sg ⟨args, kw⟩) _ _ s; rw [h2]; exact wpAny_pure hc
theorem args_maxD (a d : Value) : argsOk "max" ⟨[a], [(Str.ofString "default", d)]⟩ := by unfold argsOk; kernel_rfl
theorem call_maxDef {x d : Value} {Q : Value → Shared → Prop}
    (h : wpAny (model prog w) A.in1 (pyIter x) (fun it s2 => ∃ I fp wr n P St bt, it = .ref I ∧ Walks prog w A.in1 I fp wr n P St ∧ St 0 s2.heap ∧ (∀ b ∈ fp, b < s2.heap.objs.size) ∧ CmpOf prog w A.in1 .Gt P bt ∧
      (∀ v h' tk, 0 < n → P (argBest bt (n - 1)) v → (∀ b o, b ∉ wr → s2.heap.get? b = some o → h'.get? b = some o) → Q v { s2 with heap := h', toks := tk }) ∧
      (∀ h' tk, n = 0 → (∀ b o, b ∉ wr → s2.heap.get? b = some o → h'.get? b = some o) → Q d { s2 with heap := h', toks := tk })) E s) : wpAny (model prog w) A (call (.builtin "max") [x] [(Str.ofString "default", d)]) Q E s := by
  refine call_tree_kw PySem.F.kind_max PySem.F.plain_max PySem.F.entry_max (args_maxD _ _) ?_
  show wpAny _ A.in1 (Builtin.Builtins.bindParams "max" ["key", "default"] 0 ⟨[], [(Str.ofString "default", d)]⟩ >>= _) _ _ s; refine wpAny_bind (wpAny_of_eq (show Builtin.Builtins.bindParams "max" ["key", "default"] 0 ⟨[], [(Str.ofString "default", d)]⟩ = pure [none, some d] from by kernel_rfl) ?_)
  refine wpAny_bind (wpAny_pure ?_); refine wpAny_bind (wpAny_mono h (fun it s2 h2 => ?_) fun _ _ e => e)
  obtain ⟨I, fp, wr, n, P, St, bt, rfl, Wk, hs, hf, hc, hQ, hD⟩ := h2
  refine wpAny_bind (wpAny_newObj_type ?_)
  have nf : s2.heap.objs.size ∉ fp := fun hm => Nat.lt_irrefl _ (hf _ hm)
  rw [nameLoop]
  refine wpAny_pure ⟨plainId_quiet PySem.F.plain_max_loop _, ?_⟩
  have fr := Wk.frame _ _ _ hs fun b (_ : b ∈ fp) o (e : s2.heap.get? b = some o) => Heap.get?_push_of_some { cls := .type "list", dict := none, data := .seq #[], slots := #[] } e
  by_cases h0 : n = 0
  · subst h0
    exact maxNone Wk s2.heap.objs.size nf fr (Heap.get?_push_size _ rfl) fun h' tk k1 => hD h' tk rfl fun b o hb e => k1 b o hb (Heap.get?_push_of_some _ e)
  · exact maxFirst Wk bt hc s2.heap.objs.size nf (by omega) fr (Heap.get?_push_size _ rfl) fun v h' tk hv k1 => hQ v h' tk (by omega) hv fun b o hb e => k1 b o hb (Nat.ne_of_lt (Heap.lt_size e)) (Heap.get?_push_of_some _ e)
end
def rMaxDef (K : PySem.W.Frag) : List V → List V → Hp → VK → Prop := fun vs zs H Q => ∃ (a : Addr) (ns : List Int) (d : Int), vs = [V.ref a] ∧ zs = [.int d] ∧ SqL K H a (ns.map V.int) ∧ (ns = [] → Q (.int d) H) ∧ ∀ m, m ∈ ns → (∀ y ∈ ns, y ≤ m) → Q (.int m) H
theorem cr_maxDef {X : Cx} (hc : X.calm = true) : CallRK X (.builtin "max") [Str.ofString "default"] (rMaxDef X.K) := by
  intro pins s σ H vs zs us ws Q I r rz h
  obtain ⟨a, ns, d, rfl, rfl, hs, q0, q1⟩ := h
  obtain ⟨its, rv, hl, _⟩ := I.list hs
  obtain rfl := Vals.ref1 r
  obtain ⟨w1, rfl, t, rfl⟩ := vals1 rz
  have hi := rv.ints
  obtain ⟨xs, e⟩ := hi.allInts.items
  have hn : numsOf (intItems xs).toList = ns := by rw [← e]; exact hi.numsOf
  rw [nums_intItems] at hn
  subst hn
  rw [e] at hl
  refine call_maxDef (iter_intList hl.isList fun s2 e2 st hfp hlI => ?_)
  subst e2
  refine ⟨_, _, _, _, _, _, _, rfl, Walks.list (A := X.A.in1) (I.ok.hd hc) _ a hlI (intItems xs), st, hfp, CmpOf.ints_gt (numAt xs) (fun _ _ => intItems_at), fun v h' tk hpos hv k1 => ?_, fun h' tk h0 k1 => ?_⟩
  · obtain ⟨t2, rfl⟩ := intItems_at hv
    obtain ⟨g1, g2⟩ := argBest_gt (numAt xs) ((intItems xs).size - 1)
    have hz : (intItems xs).size = xs.size := by simp [intItems]
    rw [hz] at g1 g2 hpos ⊢
    refine ⟨.int _, H, I.kept (old_kept k1), ⟨_, rfl⟩, q1 _ ?_ fun y hy => ?_⟩
    · rw [numAt_eq]; exact PySem.getD_mem (by rw [List.length_map, Array.length_toList]; omega)
    · obtain ⟨j, hj, rfl⟩ := mem_getD hy
      rw [List.length_map, Array.length_toList] at hj
      rw [← numAt_eq]; exact g2 j (by omega)
  · have hz : xs.size = 0 := by simpa [intItems] using h0
    refine ⟨.int d, H, I.kept (old_kept k1), ⟨_, rfl⟩, q0 ?_⟩
    have : xs = #[] := Array.eq_empty_of_size_eq_zero hz
    rw [this]
    rfl
end MP
namespace MP
open PySem PySem.Spec PyProof.Rows L2
theorem ok_maxD {K : PySem.W.Frag} {ex : Addr → Prop} {H : Hp} {ρ : List Addr} {st : Store} {d : D} {v : V} {Xe : Ex → Hp → List Addr → Store → Prop} {Q : VK} (M : Mem K ex H ρ st) (r : Rep K ex H ρ d v) (h : PostV K ex H ρ (prim1F .maxD d st) Xe Q) : rMaxDef K [v] [.int 0] H Q := by
  unfold prim1F at h
  simp only at h
  split at h
  · rename_i xs hx
    obtain ⟨a, vs, rfl, hq, rs⟩ := rep_lst M r hx
    split at h
    · rename_i hi
      rw [intsOf_eq hi] at rs
      rw [reps_ints rs] at hq
      exact ⟨a, [], 0, rfl, rfl, hq, fun _ => h.here M rfl, fun m hm => by cases hm⟩
    · rename_i ns hne hi
      rw [intsOf_eq hi] at rs
      rw [reps_ints rs] at hq
      refine ⟨a, ns, 0, rfl, rfl, hq, fun e => ?_, fun m hm hall => ?_⟩
      · subst e
        simp [mxL] at h
        exact h.elim
      · rw [mxL_spec hm hall] at h
        exact h.here M rfl
    · exact h.elim
  · exact h.elim
theorem den_maxD {X : Cx} {xa : XA} {W : WX} {pos p1 p2 p3 : Pos} {k : Nat} {a : Expr} {fa : DS → Store → RE} (hcalm : X.calm = true) (hg : Gl X "max") (hm : X.mg "max" = none) (hv : bootBuiltins "max" = some (.builtin "max")) (pa : plainArg a = true) (ha : PE X a (denE X.K xa W fa)) :
    PE X (.Call (.Name "max" p1) [a] [⟨some "default", .Constant (.int 0) k p2, p3⟩] pos) (denE X.K xa W fun ds st => (fa ds st).bind fun v st1 => prim1F .maxD v st1) := by
  refine (pe_callBK (cr_maxDef hcalm) hg hm hv (pa_cons ha pa_nil (star_cons pa _ _)) (pk_cons pe_int pk_nil) (by decide) (by decide) (by rw [star_cons pa]; rfl) (by rw [star_cons pa]; rfl) rfl rfl rfl).imp fun σ H Q h => ?_
  exact den_one (g := fun v st1 => prim1F .maxD v st1) h fun ex H2 ρ2 st2 y v M r q => ok_maxD M r q
end MP
end
section
set_option maxRecDepth 100000
set_option maxHeartbeats 4000000
/-! MP: comprehensions, locks over the hand layer's judgements. -/
namespace MP
open PySem PySem.Spec PyProof.Rows L2
/-- nothing is raised -/
abbrev W0 : WX := fun _ _ _ _ => False
/-- a ban upon one more object -/
def banD (ex : Addr → Prop) (D : Addr) : Addr → Prop := fun a => ex a ∨ a = D
section
variable {K : PySem.W.Frag} {ex : Addr → Prop} {H H' : Hp} {ρ ρ' : List Addr} {st : Store} {D : Addr}
theorem ne_D (hD : H D = none) : ∀ a, H a ≠ none → ¬ ex a → ¬ banD ex D a := fun a h n q => q.elim n fun e => h (by rw [e]; exact hD)
/-- behind a write at an object that no one knows -/
theorem Ext.behind {o : HO} (hD : H D = none) (e : Ext ρ H ρ' H') (hD' : H' D ≠ none) : Ext ρ H ρ' (upd H' D o) where
  keep := fun a u h n => by rw [upd_ne (ne_of_none h hD)]; exact e.keep a u h n
  tups := fun a u h => by rw [upd_ne (ne_of_none h hD)]; exact e.tups a u h
  frzs := fun a ob u h => by rw [upd_ne (ne_of_none h hD)]; exact e.frzs a ob u h
  pre := e.pre
  new := e.new
  trk := fun a h => by
    by_cases q : a = D
    · subst q; rw [upd_same]; simp
    · rw [upd_ne q]; exact e.trk a h
theorem hk_D {o : HO} (hl : ∃ xs, H D = some (.lst xs)) : ∀ a u, Plain u → Rd H a u → a ∉ ρ → ¬ banD ex D a → Rd (upd H D o) a u ∧ a ∉ ρ ∧ ¬ banD ex D a := fun a u _ t n x => by
  have q : a ≠ D := fun e => x (.inr e)
  refine ⟨?_, n, x⟩
  rcases t with t | ⟨ob, t⟩
  · exact .inl (by rw [upd_ne q]; exact t)
  · exact .inr ⟨ob, by rw [upd_ne q]; exact t⟩
theorem ht_D {o : HO} (hl : ∃ xs, H D = some (.lst xs)) : ∀ a vs, H a = some (.tup vs) → (upd H D o) a = some (.tup vs) := fun a vs h => by
  obtain ⟨xs, hl⟩ := hl
  rw [upd_ne fun e => by subst e; rw [hl] at h; cases h]
  exact h
theorem Mem.writeD {o : HO} (M : Mem K (banD ex D) H ρ st) (hl : ∃ xs, H D = some (.lst xs)) (hn : D ∉ ρ) : Mem K (banD ex D) (upd H D o) ρ st :=
  M.gen (hk_D hl) (ht_D hl) (fun a m => upd_ne fun e => hn (by rw [← e]; exact m)) (fun a q => by
    by_cases e : a = D
    · subst e; rw [upd_same]; simp
    · rw [upd_ne e]; exact M.exT a q) M.exD
theorem Mem.startD {o : HO} (M : Mem K ex H ρ st) (hD : H D = none) : Mem K (banD ex D) (upd H D o) ρ st :=
  M.gen (fun a u _ t n x => ⟨Rd.ext (Ext.laid (ρ := ρ) hD) t n, n, ne_D hD a (Rd.ne t) x⟩) (Ext.laid (ρ := ρ) hD).tups (fun a m => upd_ne fun e => M.tracked m (by rw [e]; exact hD)) (fun a q => by
    by_cases e : a = D
    · subst e; rw [upd_same]; simp
    · rw [upd_ne e]; exact q.elim (M.exT a) (fun z => absurd z e)) (fun a m q => q.elim (M.exD a m) fun e => M.tracked m (by rw [e]; exact hD))
theorem Mem.lessD (M : Mem K (banD ex D) H ρ st) : Mem K ex H ρ st := M.gen (fun a u _ t n x => ⟨t, n, fun q => x (.inl q)⟩) (fun _ _ h => h) (fun _ _ => rfl) (fun a q => M.exT a (.inl q)) (fun a m q => M.exD a m (.inl q))
end
section
variable {X : Cx} {xa : XA} {W : WX} {pos p1 p2 : Pos} {a b c : Expr} {fe fc : DS → Store → RE} {fs : DS → Store → R (List D)}
/-- the loop of a comprehension -/
theorem comp_loop {m : Bool} {J : It} {te : TE} {tt : TT} {v : Nat} {ex : Addr → Prop} {H : Hp} {ρ : List Addr} {st st' : Store} {σ : L2.St} {ds : DS} {items ys : List D} {Q : VK} {Xe : Ex → Hp → List Addr → Store → Prop} {D : Addr}
    (M : Mem X.K ex H ρ st) (S : Slots X.K ex H ρ σ ds) (j : JOk X.K ex J ρ H items) (hc : compB fe fc v items [] ds st = some (ys, st')) (q : PostV X.K ex H ρ (mkL m ys st') Xe Q) (hD : H D = none)
    (hte : ∀ σ H Q, denE X.K xa W0 fe σ H Q → te σ H Q) (htt : ∀ σ H Q, denT X.K xa W0 fc σ H Q → tt σ H Q) :
    ∃ Wv : Nat → Nat → Hp → Prop, (∃ m, Wv 0 m (upd H D (.lst []))) ∧ ∀ i m H, Wv i m H →
      (J.stop i H ∧ Q (.ref D) H) ∨ (J.go i H ∧ ∃ Nx : Hp → Prop, (∀ H', Nx H' → ∃ m', m' < m ∧ Wv (i + 1) m' H') ∧ ∀ x H', J.yld i H x H' → gName v x (wipe σ [v]) H' fun σ2 H2 => wipe σ2 [v] = wipe σ [v] ∧ tt σ2 H2 fun b H3 =>
        if b = true then te σ2 H3 fun y H4 => ∃ acc, H4 D = some (.lst acc) ∧ acc.length < sizeLine ∧ Nx (upd H4 D (.lst (acc ++ [y]))) else Nx H3) := by
  refine ⟨fun i m' H1 => ∃ ρ1 st1 acc vs, Ext ρ H ρ1 H1 ∧ Mem X.K (banD ex D) H1 ρ1 st1 ∧ H1 D = some (.lst vs) ∧ D ∉ ρ1 ∧ Reps X.K (banD ex D) H1 ρ1 acc vs ∧ compB fe fc v (items.drop i) acc ds st1 = some (ys, st') ∧ i + m' = items.length,
    ⟨items.length, ρ, st, [], [], Ext.laid hD, M.startD hD, upd_same, (M.fresh hD).1, rfl, by rw [List.drop_zero]; exact hc, by omega⟩, ?_⟩
  rintro i m' H1 ⟨ρ1, st1, acc, vs, e1, M1, hl, hn, ra, hcb, hi⟩
  obtain ⟨j1, j2⟩ := j ρ1 H1 (banD ex D) e1 (ne_D hD) i
  by_cases hlt : i < items.length
  · -- a turn
    have hd : items[i]? = some items[i] := List.getElem?_eq_getElem hlt
    rw [List.drop_eq_getElem_cons hlt] at hcb
    obtain ⟨go, yld⟩ := j1 _ hd
    refine .inr ⟨go, fun H' => ∃ ρ1 st1 acc vs, Ext ρ H ρ1 H' ∧ Mem X.K (banD ex D) H' ρ1 st1 ∧ H' D = some (.lst vs) ∧ D ∉ ρ1 ∧ Reps X.K (banD ex D) H' ρ1 acc vs ∧ compB fe fc v (items.drop (i + 1)) acc ds st1 = some (ys, st'), fun H' ⟨ρ2, st2, acc2, vs2, z1, z2, z3, z4, z5, z6⟩ => ⟨m' - 1, by omega, ρ2, st2, acc2, vs2, z1, z2, z3, z4, z5, z6, by omega⟩, fun x H' hy => ?_⟩
    obtain ⟨rfl, rx⟩ := yld x H' hy
    show wipe ((wipe σ [v]).set v (some x)) [v] = wipe σ [v] ∧ _
    have hw : wipe ((wipe σ [v]).set v (some x)) [v] = wipe σ [v] := by
      show ((σ.set v none).set v (some x)).set v none = σ.set v none
      rw [List.set_set, List.set_set]
    refine ⟨hw, ?_⟩
    have S1 : Slots X.K (banD ex D) H' ρ1 ((wipe σ [v]).set v (some x)) (ds.set v (some items[i])) := by
      have e0 : (wipe σ [v]).set v (some x) = σ.set v (some x) := by
        show (σ.set v none).set v (some x) = σ.set v (some x)
        rw [List.set_set]
      rw [e0]
      refine Slots.set ⟨S.1, fun k d h => ?_⟩ v rx
      obtain ⟨u, h1, h2⟩ := S.2 k d h
      exact ⟨u, h1, h2.ext2 e1 (ne_D hD)⟩
    rw [compB] at hcb
    refine htt _ _ _ ⟨banD ex D, ρ1, _, st1, M1, S1, ?_⟩
    split at hcb
    · -- the test holds
      rename_i st2 e2
      rw [e2]
      intro u H2 ρ2 x2 M2 r2
      cases r2
      refine ⟨true, rfl, iteT ?_⟩
      split at hcb
      · rename_i y st3 e3
        refine hte _ _ _ ⟨banD ex D, ρ2, _, st2, M2, S1.ext x2, ?_⟩
        rw [e3]
        intro u H3 ρ3 x3 M3 r3
        split at hcb
        · rename_i hlim
          have h2 : H2 D = some (.lst vs) := x2.keep _ _ hl hn
          have n2 : D ∉ ρ2 := not_new x2 (by rw [hl]; simp) hn
          have h3 : H3 D = some (.lst vs) := x3.keep _ _ h2 n2
          have n3 : D ∉ ρ3 := not_new x3 (by rw [h2]; simp) n2
          refine ⟨vs, h3, by rw [← ra.length, lim_eq]; exact hlim, ρ3, st3, acc ++ [y], vs ++ [u], Ext.behind hD ((e1.trans x2).trans x3) (by rw [h3]; simp), M3.writeD ⟨_, h3⟩ n3, upd_same, n3, ?_, hcb⟩
          exact (((ra.ext x2).ext x3).append (Reps.one r3)).gen (hk_D ⟨_, h3⟩) (ht_D ⟨_, h3⟩) (fun _ _ h => h)
        · cases hcb
      · cases hcb
    · rename_i st2 e2
      rw [e2]
      intro u H2 ρ2 x2 M2 r2
      cases r2
      refine ⟨false, rfl, iteF ?_⟩
      exact ⟨ρ2, st2, acc, vs, e1.trans x2, M2, x2.keep _ _ hl hn, not_new x2 (by rw [hl]; simp) hn, ra.ext x2, hcb⟩
    · cases hcb
  · -- the end
    refine .inl ⟨j2 (by omega), ?_⟩
    rw [List.drop_eq_nil_of_le (by omega), compB] at hcb
    cases hcb
    have rb : Reps X.K ex H1 ρ1 ys vs := ra.gen (fun a u _ t n x => ⟨t, n, fun q => x (.inl q)⟩) (fun _ _ h => h) (fun _ _ h => h)
    have nx : ¬ ex D := fun z => M.exT D z hD
    unfold mkL at q
    cases m with
    | false =>
      simp only [Bool.false_eq_true, if_false] at q
      exact q (.ref D) H1 ρ1 e1 M1.lessD ⟨D, vs, rfl, .inl hl, hn, nx, rb⟩
    | true =>
      simp only [if_true] at q
      have hg : ∀ a u, Plain u → Rd H1 a u → a ∉ ρ1 → ¬ banD ex D a → Rd H1 a u ∧ a ∉ ρ1 ++ [D] ∧ ¬ ex a := fun a u _ t n x => ⟨t, fun z => (List.mem_append.mp z).elim n fun z => x (.inr (List.mem_singleton.mp z)), fun z => x (.inl z)⟩
      have hp : ∀ (n : Nat) (a : Addr), ρ1[n]? = some a → (ρ1 ++ [D])[n]? = some a := fun n a h => by rw [List.getElem?_append_left (List.getElem?_eq_some_iff.mp h).1]; exact h
      have e2 : Ext ρ H (ρ1 ++ [D]) H1 := ⟨e1.keep, e1.tups, e1.frzs, fun n a h => hp n a (e1.pre n a h), fun a h => (List.mem_append.mp h).elim (e1.new a) fun z => .inr (by rw [List.mem_singleton.mp z]; exact hD), e1.trk⟩
      refine q (.ref D) H1 (ρ1 ++ [D]) e2 ⟨?_, ?_, fun n a c h1 h2 => ?_, fun a z => M1.exT a (.inl z), fun a z => (List.mem_append.mp z).elim (fun z q => M1.exD a z (.inl q)) fun z => by rw [List.mem_singleton.mp z]; exact nx⟩ ⟨D, ?_, rfl⟩
      · rw [List.length_append, List.length_append, M1.len]; rfl
      · rw [List.nodup_append]
        refine ⟨M1.nod, by simp, fun a ha b hb e => ?_⟩
        rw [List.mem_singleton.mp hb] at e
        subst e
        exact hn ha
      · by_cases hb : n < ρ1.length
        · rw [List.getElem?_append_left hb] at h1
          rw [List.getElem?_append_left (by rw [← M1.len]; exact hb)] at h2
          have h := M1.cell n a c h1 h2
          cases c with
          | lst xs => obtain ⟨vs, e1, r⟩ := h; exact ⟨vs, e1, r.gen hg (fun _ _ h => h) hp⟩
          | dct xs => obtain ⟨vs, e1, r⟩ := h; exact ⟨vs, e1, r.gen hg (fun _ _ h => h) hp⟩
          | lckL xs => obtain ⟨o, vs, e1, r⟩ := h; exact ⟨o, vs, e1, r.gen hg (fun _ _ h => h) hp⟩
          | lckD xs => obtain ⟨o, vs, e1, r⟩ := h; exact ⟨o, vs, e1, r.gen hg (fun _ _ h => h) hp⟩
        · rw [List.getElem?_append_right (by omega)] at h1
          rw [List.getElem?_append_right (by rw [← M1.len]; omega)] at h2
          have : n = ρ1.length := by
            have := (List.getElem?_eq_some_iff.mp h1).1
            simp at this
            omega
          subst this
          rw [Nat.sub_self] at h1
          rw [M1.len, Nat.sub_self] at h2
          cases h1
          cases h2
          exact ⟨vs, hl, ra.gen hg (fun _ _ h => h) hp⟩
      · rw [← M1.len, List.getElem?_append_right (Nat.le_refl _), Nat.sub_self]
        rfl
/-- [elt for v in iter if cond] where no cell is locked -/
theorem comp_reading {m : Bool} {k : SK} {te : TE} {tt : TT} {v : Nat} {wi : TI} {σ : L2.St} {H : Hp} {Q : VK}
    (w1 : ∀ {ex : Addr → Prop} {H : Hp} {ρ : List Addr} {st : Store} {σ : L2.St} {ds : DS} {xs : List D} {items : List D} {st1 : Store} {R : It → Hp → Prop}, Mem X.K ex H ρ st → Slots X.K ex H ρ σ ds → fs ds st = .ok xs st1 → srcF k xs st1 = some (none, items) →
      (∀ J H1 ρ1, Ext ρ H ρ1 H1 → Mem X.K ex H1 ρ1 st1 → JOk X.K ex J ρ1 H1 items → R J H1) → wi σ H R)
    (w2 : ∀ {ex : Addr → Prop} {H : Hp} {ρ : List Addr} {st : Store} {σ : L2.St} {ds : DS} {e : Ex} {st1 : Store} {R : It → Hp → Prop}, Mem X.K ex H ρ st → Slots X.K ex H ρ σ ds → fs ds st = .exc e st1 →
      PostL X.K ex H ρ (.exc e st1) (xOf xa W σ) (fun _ _ => False) → wi σ H R)
    (hte : ∀ σ H Q, denE X.K xa W0 fe σ H Q → te σ H Q) (htt : ∀ σ H Q, denT X.K xa W0 fc σ H Q → tt σ H Q)
    {ex : Addr → Prop} {ρ : List Addr} {ds : DS} {st : Store} (M : Mem X.K ex H ρ st) (S : Slots X.K ex H ρ σ ds)
    (hn : ∀ xs st1, fs ds st = .ok xs st1 → ∀ n items, srcF k xs st1 ≠ some (some n, items))
    (q : PostV X.K ex H ρ ((fs ds st).bind fun xs st1 => compF m fe fc v k xs ds st1) (xOf xa W σ) Q) : tLc wi (gName v) tt te [v] σ H Q := by
  cases e : fs ds st with
  | no => rw [e] at q; exact q.elim
  | exc z s => rw [e] at q; exact w2 M S e q
  | ok xs st1 =>
    rw [e] at q
    have q0 : PostV X.K ex H ρ (compF m fe fc v k xs ds st1) (xOf xa W σ) Q := q
    unfold compF at q0
    split at q0
    · rename_i items hs
      refine w1 M S e hs fun J H1 ρ1 e1 M1 j => ?_
      split at q0
      · rename_i ys st' hc
        exact fun D hD => comp_loop M1 (S.ext e1) j hc (PostV.step e1 q0) hD hte htt
      · exact q0.elim
    · rename_i n items hs
      exact absurd hs (hn xs st1 e n items)
    · exact q0.elim
/-! ### locks -/
/-- what stands under the lock -/
def LockAt (K : PySem.W.Frag) (ex : Addr → Prop) (H : Hp) (ρ : List Addr) (st st1 : Store) (a : Addr) (u : HO) : Prop :=
  H a = some u ∧ ((∃ n, ρ[n]? = some a ∧ lock n st = some st1) ∨ (a ∉ ρ ∧ st1 = st)) ∧ ((∃ vs, u = .lst vs) ∨ ∃ kvs, u = .dT kvs)
theorem LockAt.mut {K : PySem.W.Frag} {ex : Addr → Prop} {H : Hp} {ρ : List Addr} {st st1 : Store} {a : Addr} {u : HO} (h : LockAt K ex H ρ st st1 a u) : Mut (some u) := by
  rcases h.2.2 with ⟨vs, rfl⟩ | ⟨vs, rfl⟩ <;> trivial
theorem rd_lock {H : Hp} {a : Addr} {u : HO} {od : Obj} (h : H a = some u) (hu : Plain u) : ∀ b w, Plain w → Rd H b w → Rd (upd H a (.frz od u)) b w := fun b w hw r => by
  by_cases e : b = a
  · subst e
    rcases r with r | ⟨o, r⟩
    · rw [h] at r; cases r; exact .inr ⟨od, upd_same⟩
    · rw [h] at r; cases r; exact hu.elim
  · rcases r with r | ⟨o, r⟩
    · exact .inl (by rw [upd_ne e]; exact r)
    · exact .inr ⟨o, by rw [upd_ne e]; exact r⟩
theorem rd_unlock {H : Hp} {a : Addr} {u : HO} {od : Obj} (h : H a = some (.frz od u)) : ∀ b w, Plain w → Rd H b w → Rd (upd H a u) b w := fun b w hw r => by
  by_cases e : b = a
  · subst e
    rcases r with r | ⟨o, r⟩
    · rw [h] at r; cases r; exact hw.elim
    · rw [h] at r; cases r; exact .inl upd_same
  · rcases r with r | ⟨o, r⟩
    · exact .inl (by rw [upd_ne e]; exact r)
    · exact .inr ⟨o, by rw [upd_ne e]; exact r⟩
section
variable {K : PySem.W.Frag} {ex : Addr → Prop} {H H' : Hp} {ρ ρ' : List Addr} {st st1 st' : Store} {σ : L2.St} {ds : DS} {ad : Addr} {u : HO} {od : Obj}
theorem LockAt.plain (h : LockAt K ex H ρ st st1 ad u) : Plain u := by
  rcases h.2.2 with ⟨vs, rfl⟩ | ⟨vs, rfl⟩ <;> trivial
theorem LockAt.tup (h : LockAt K ex H ρ st st1 ad u) {o : HO} : ∀ b vs, H b = some (.tup vs) → (upd H ad o) b = some (.tup vs) := fun b vs e => by
  rw [upd_ne fun q => by subst q; rw [h.1] at e; cases e; exact h.plain]
  exact e
theorem LockAt.rep (h : LockAt K ex H ρ st st1 ad u) {d : D} {v : V} (r : Rep K ex H ρ d v) : Rep K ex (upd H ad (.frz od u)) ρ d v :=
  r.gen (fun a w hw t n x => ⟨rd_lock h.1 h.plain a w hw t, n, x⟩) h.tup (fun _ _ h => h)
theorem LockAt.slots (h : LockAt K ex H ρ st st1 ad u) (S : Slots K ex H ρ σ ds) : Slots K ex (upd H ad (.frz od u)) ρ σ ds :=
  ⟨S.1, fun i d e => let ⟨v, h1, h2⟩ := S.2 i d e; ⟨v, h1, h.rep h2⟩⟩
theorem lock_eq {n : Nat} (h : lock n st = some st1) : (∃ xs, st[n]? = some (.lst xs) ∧ st1 = st.set n (.lckL xs)) ∨ ∃ es, st[n]? = some (.dct es) ∧ st1 = st.set n (.lckD es) := by
  unfold lock at h
  split at h
  · rename_i xs e; cases h; exact .inl ⟨xs, e, rfl⟩
  · rename_i xs e; cases h; exact .inr ⟨xs, e, rfl⟩
  · cases h
theorem unlock_eq {n : Nat} (h : unlock n st = some st1) : (∃ xs, st[n]? = some (.lckL xs) ∧ st1 = st.set n (.lst xs)) ∨ ∃ es, st[n]? = some (.lckD es) ∧ st1 = st.set n (.dct es) := by
  unfold unlock at h
  split at h
  · rename_i xs e; cases h; exact .inl ⟨xs, e, rfl⟩
  · rename_i xs e; cases h; exact .inr ⟨xs, e, rfl⟩
  · cases h
theorem LockAt.mem (h : LockAt K ex H ρ st st1 ad u) (M : Mem K ex H ρ st) : Mem K ex (upd H ad (.frz od u)) ρ st1 := by
  have hk : ∀ a w, Plain w → Rd H a w → a ∉ ρ → ¬ ex a → Rd (upd H ad (.frz od u)) a w ∧ a ∉ ρ ∧ ¬ ex a := fun a w hw t n x => ⟨rd_lock h.1 h.plain a w hw t, n, x⟩
  have hT : ∀ a, ex a → (upd H ad (.frz od u)) a ≠ none := fun a q => by
    by_cases e : a = ad
    · subst e; rw [upd_same]; simp
    · rw [upd_ne e]; exact M.exT a q
  rcases h.2.1 with ⟨n, hn, hl⟩ | ⟨hn, rfl⟩
  · have len1 : st1.length = st.length := by rcases lock_eq hl with ⟨xs, _, rfl⟩ | ⟨es, _, rfl⟩ <;> rw [List.length_set]
    refine ⟨by rw [len1]; exact M.len, M.nod, fun m b c h1 h2 => ?_, hT, M.exD⟩
    by_cases e : m = n
    · subst e
      rw [hn] at h1
      cases h1
      have hs : m < st.length := by rw [← M.len]; exact (List.getElem?_eq_some_iff.mp hn).1
      rcases lock_eq hl with ⟨xs, e1, rfl⟩ | ⟨es, e1, rfl⟩
      · rw [List.getElem?_set_self hs] at h2
        cases h2
        obtain ⟨vs, e2, r⟩ := M.cell m ad _ hn e1
        rw [h.1] at e2
        cases e2
        exact ⟨od, vs, upd_same, r.gen hk h.tup (fun _ _ h => h)⟩
      · rw [List.getElem?_set_self hs] at h2
        cases h2
        obtain ⟨vs, e2, r⟩ := M.cell m ad _ hn e1
        rw [h.1] at e2
        cases e2
        exact ⟨od, vs, upd_same, r.gen hk h.tup (fun _ _ h => h)⟩
    · have h2' : st[m]? = some c := by
        rcases lock_eq hl with ⟨xs, e1, rfl⟩ | ⟨es, e1, rfl⟩ <;> rw [List.getElem?_set_ne (Ne.symm e)] at h2 <;> exact h2
      have hb : b ≠ ad := fun q => e (nodup_get M.nod (by rw [← q]; exact h1) hn)
      have hc := M.cell m b c h1 h2'
      cases c with
      | lst xs => obtain ⟨vs, e1, r⟩ := hc; exact ⟨vs, by rw [upd_ne hb]; exact e1, r.gen hk h.tup (fun _ _ h => h)⟩
      | dct xs => obtain ⟨vs, e1, r⟩ := hc; exact ⟨vs, by rw [upd_ne hb]; exact e1, r.gen hk h.tup (fun _ _ h => h)⟩
      | lckL xs => obtain ⟨o, vs, e1, r⟩ := hc; exact ⟨o, vs, by rw [upd_ne hb]; exact e1, r.gen hk h.tup (fun _ _ h => h)⟩
      | lckD xs => obtain ⟨o, vs, e1, r⟩ := hc; exact ⟨o, vs, by rw [upd_ne hb]; exact e1, r.gen hk h.tup (fun _ _ h => h)⟩
  · exact M.gen hk h.tup (fun a m => upd_ne fun e => hn (by rw [← e]; exact m)) hT M.exD
/-- the step as a whole, behind the lock -/
theorem LockAt.ext (h : LockAt K ex H ρ st st1 ad u) (e : Ext ρ (upd H ad (.frz od u)) ρ' H') : Ext ρ H ρ' (upd H' ad u) where
  keep := fun b o q n => by
    by_cases eb : b = ad
    · subst eb; rw [h.1] at q; cases q; rw [upd_same]
    · rw [upd_ne eb]; exact e.keep b o (by rw [upd_ne eb]; exact q) n
  tups := fun b vs q => by
    have eb : b ≠ ad := fun z => by subst z; rw [h.1] at q; cases q; exact h.plain
    rw [upd_ne eb]; exact e.tups b vs (by rw [upd_ne eb]; exact q)
  frzs := fun b o w q => by
    have eb : b ≠ ad := fun z => by subst z; rw [h.1] at q; cases q; exact h.plain
    rw [upd_ne eb]; exact e.frzs b o w (by rw [upd_ne eb]; exact q)
  pre := e.pre
  new := fun b m => (e.new b m).imp _root_.id fun q => by
    have eb : b ≠ ad := fun z => by subst z; rw [upd_same] at q; cases q
    rw [upd_ne eb] at q; exact q
  trk := fun b q => by
    by_cases eb : b = ad
    · subst eb; rw [upd_same]; simp
    · rw [upd_ne eb]; exact e.trk b (by rw [upd_ne eb]; exact q)
theorem LockAt.held (h : LockAt K ex H ρ st st1 ad u) (e : Ext ρ (upd H ad (.frz od u)) ρ' H') : H' ad = some (.frz od u) := e.frzs ad od u upd_same
theorem LockAt.tup2 (h : LockAt K ex H ρ st st1 ad u) (e : Ext ρ (upd H ad (.frz od u)) ρ' H') : ∀ b vs, H' b = some (.tup vs) → (upd H' ad u) b = some (.tup vs) := fun b vs q => by
  rw [upd_ne fun z => by subst z; rw [h.held e] at q; cases q]
  exact q
theorem LockAt.rep2 (h : LockAt K ex H ρ st st1 ad u) (e : Ext ρ (upd H ad (.frz od u)) ρ' H') {d : D} {v : V} (r : Rep K ex H' ρ' d v) : Rep K ex (upd H' ad u) ρ' d v :=
  r.gen (fun a w hw t n x => ⟨rd_unlock (h.held e) a w hw t, n, x⟩) (h.tup2 e) (fun _ _ h => h)
theorem LockAt.slots2 (h : LockAt K ex H ρ st st1 ad u) (e : Ext ρ (upd H ad (.frz od u)) ρ' H') (S : Slots K ex H' ρ' σ ds) : Slots K ex (upd H' ad u) ρ' σ ds :=
  ⟨S.1, fun i d q => let ⟨v, h1, h2⟩ := S.2 i d q; ⟨v, h1, h.rep2 e h2⟩⟩
/-- the store behind -/
def Unl (ρ : List Addr) (ad : Addr) (st' st2 : Store) : Prop := (∃ n, ρ[n]? = some ad ∧ unlock n st' = some st2) ∨ (ad ∉ ρ ∧ st2 = st')
theorem LockAt.mem2 {st2 : Store} (h : LockAt K ex H ρ st st1 ad u) (e : Ext ρ (upd H ad (.frz od u)) ρ' H') (M : Mem K ex H' ρ' st') (hu : Unl ρ ad st' st2) : Mem K ex (upd H' ad u) ρ' st2 := by
  have hk : ∀ a w, Plain w → Rd H' a w → a ∉ ρ' → ¬ ex a → Rd (upd H' ad u) a w ∧ a ∉ ρ' ∧ ¬ ex a := fun a w hw t n x => ⟨rd_unlock (h.held e) a w hw t, n, x⟩
  have hT : ∀ a, ex a → (upd H' ad u) a ≠ none := fun a q => by
    by_cases z : a = ad
    · subst z; rw [upd_same]; simp
    · rw [upd_ne z]; exact M.exT a q
  rcases hu with ⟨n, hn, hl⟩ | ⟨hn, rfl⟩
  · have hn' := e.pre n ad hn
    have len1 : st2.length = st'.length := by rcases unlock_eq hl with ⟨xs, _, rfl⟩ | ⟨es, _, rfl⟩ <;> rw [List.length_set]
    refine ⟨by rw [len1]; exact M.len, M.nod, fun m b c h1 h2 => ?_, hT, M.exD⟩
    by_cases z : m = n
    · subst z
      rw [hn'] at h1
      cases h1
      have hs : m < st'.length := by rw [← M.len]; exact (List.getElem?_eq_some_iff.mp hn').1
      rcases unlock_eq hl with ⟨xs, e1, rfl⟩ | ⟨es, e1, rfl⟩
      · rw [List.getElem?_set_self hs] at h2
        cases h2
        obtain ⟨o, vs, e2, r⟩ := M.cell m ad _ hn' e1
        rw [h.held e] at e2
        cases e2
        exact ⟨vs, upd_same, r.gen hk (h.tup2 e) (fun _ _ h => h)⟩
      · rw [List.getElem?_set_self hs] at h2
        cases h2
        obtain ⟨o, vs, e2, r⟩ := M.cell m ad _ hn' e1
        rw [h.held e] at e2
        cases e2
        exact ⟨vs, upd_same, r.gen hk (h.tup2 e) (fun _ _ h => h)⟩
    · have h2' : st'[m]? = some c := by
        rcases unlock_eq hl with ⟨xs, e1, rfl⟩ | ⟨es, e1, rfl⟩ <;> rw [List.getElem?_set_ne (Ne.symm z)] at h2 <;> exact h2
      have hb : b ≠ ad := fun q => z (nodup_get M.nod (by rw [← q]; exact h1) hn')
      have hc := M.cell m b c h1 h2'
      cases c with
      | lst xs => obtain ⟨vs, e1, r⟩ := hc; exact ⟨vs, by rw [upd_ne hb]; exact e1, r.gen hk (h.tup2 e) (fun _ _ h => h)⟩
      | dct xs => obtain ⟨vs, e1, r⟩ := hc; exact ⟨vs, by rw [upd_ne hb]; exact e1, r.gen hk (h.tup2 e) (fun _ _ h => h)⟩
      | lckL xs => obtain ⟨o, vs, e1, r⟩ := hc; exact ⟨o, vs, by rw [upd_ne hb]; exact e1, r.gen hk (h.tup2 e) (fun _ _ h => h)⟩
      | lckD xs => obtain ⟨o, vs, e1, r⟩ := hc; exact ⟨o, vs, by rw [upd_ne hb]; exact e1, r.gen hk (h.tup2 e) (fun _ _ h => h)⟩
  · refine M.gen hk (h.tup2 e) (fun a m => upd_ne fun z => ?_) hT M.exD
    have : ad ∉ ρ' := fun q => (e.new ad q).elim hn (fun z => by rw [upd_same] at z; cases z)
    exact this (by rw [← z]; exact m)
end
end
end MP
end
section
set_option maxRecDepth 100000
set_option maxHeartbeats 4000000
/-! MP: statements over the hand layer's judgements. -/
namespace MP
open PySem PySem.Spec PyProof.Rows L2
def PostS (K : PySem.W.Frag) (ex : Addr → Prop) (H : Hp) (ρ : List Addr) (res : RS) (xa : XA) (W : WX) (D : Ends) : Prop := match res with
  | .nx ds' st' => ∀ σ' H' ρ', Ext ρ H ρ' H' → Mem K ex H' ρ' st' → Slots K ex H' ρ' σ' ds' → D.nx σ' H'
  | .rt d st' => ∀ v H' ρ', Ext ρ H ρ' H' → Mem K ex H' ρ' st' → Rep K ex H' ρ' d v → D.rt v H'
  | .bk ds' st' => ∀ σ' H' ρ', Ext ρ H ρ' H' → Mem K ex H' ρ' st' → Slots K ex H' ρ' σ' ds' → D.bk σ' H'
  | .ct ds' st' => ∀ σ' H' ρ', Ext ρ H ρ' H' → Mem K ex H' ρ' st' → Slots K ex H' ρ' σ' ds' → D.ct σ' H'
  | .exc e ds' st' => ∀ σ' H' ρ', Ext ρ H ρ' H' → Mem K ex H' ρ' st' → Slots K ex H' ρ' σ' ds' → ∀ cls dd, xa e cls dd H' → W cls dd σ' H'
  | .no => False
def denS (K : PySem.W.Frag) (xa : XA) (W : WX) (f : DS → Store → RS) : TS := fun D σ H => ∃ ex ρ ds st, Mem K ex H ρ st ∧ Slots K ex H ρ σ ds ∧ PostS K ex H ρ (f ds st) xa W D
section
variable {K : PySem.W.Frag} {ex : Addr → Prop} {H H' : Hp} {ρ ρ' : List Addr} {st : Store} {σ : L2.St} {ds : DS} {xa : XA} {W : WX} {En : Ends}
theorem PostS.step {x : RS} (e : Ext ρ H ρ' H') (h : PostS K ex H ρ x xa W En) : PostS K ex H' ρ' x xa W En := by
  cases x with
  | nx d s => exact fun v H2 ρ2 e2 => h v H2 ρ2 (e.trans e2)
  | rt d s => exact fun v H2 ρ2 e2 => h v H2 ρ2 (e.trans e2)
  | bk d s => exact fun v H2 ρ2 e2 => h v H2 ρ2 (e.trans e2)
  | ct d s => exact fun v H2 ρ2 e2 => h v H2 ρ2 (e.trans e2)
  | exc x d s => exact fun v H2 ρ2 e2 => h v H2 ρ2 (e.trans e2)
  | no => exact h
/-- an expression, then a statement's rest -/
theorem PostS.bind {x : RE} {g : D → Store → RS} {σ : L2.St} (S : Slots K ex H ρ σ ds) (h : PostS K ex H ρ (x.bindS ds g) xa W En) :
    PostV K ex H ρ x (xOf xa W σ) fun v H1 => ∃ d st1 ρ1, Ext ρ H ρ1 H1 ∧ Mem K ex H1 ρ1 st1 ∧ Rep K ex H1 ρ1 d v ∧ PostS K ex H1 ρ1 (g d st1) xa W En := by
  cases x with
  | ok d s => exact fun v H2 ρ2 e2 M r => ⟨d, s, ρ2, e2, M, r, PostS.step e2 (show PostS K ex H ρ (g d s) xa W En from h)⟩
  | exc x s => exact fun H2 ρ2 e2 M => h σ H2 ρ2 e2 M (S.ext e2)
  | no => exact h
end
section
variable {X : Cx} {xa : XA} {W : WX} {pos p1 p2 : Pos} {a b c : Expr} {fa fb fc : DS → Store → RE} {x : Str} {i : Nat} {sa sb : List Stmt} {ga gb : DS → Store → RS}
theorem den_bnil : PSs X [] (denS X.K xa W fun ds st => .nx ds st) := pss_nil.imp fun D σ H ⟨ex, ρ, ds, st, M, S, q⟩ => q σ H ρ (Ext.refl _ _) M S
theorem den_bcons {s : Stmt} (hs : PS X s (denS X.K xa W ga)) (hr : PSs X sb (denS X.K xa W gb)) : PSs X (s :: sb) (denS X.K xa W fun ds st => match ga ds st with
    | .nx ds' st' => gb ds' st'
    | x => x) := by
  refine (pss_cons hs hr).imp fun D σ H h => ?_
  obtain ⟨ex, ρ, ds, st, M, S, q⟩ := h
  refine ⟨ex, ρ, ds, st, M, S, ?_⟩
  simp only at q
  cases e : ga ds st with
  | nx ds' st' => rw [e] at q; exact fun σ' H' ρ' e1 M1 S1 => ⟨ex, ρ', ds', st', M1, S1, PostS.step e1 q⟩
  | rt d s => rw [e] at q; exact q
  | bk d s => rw [e] at q; exact q
  | ct d s => rw [e] at q; exact q
  | exc x d s => rw [e] at q; exact q
  | no => rw [e] at q; exact q
theorem den_set (hN : X.N.Nodup) (hi : X.N[i]? = some x) (hx : Loc X.env.scope x) (ha : PE X a (denE X.K xa W fa)) (hs : swapsWith a (some (.Name x p1)) pos.line X.env = pure false) (hf : X.fn x = true ∨ X.env.scope.names.lookup x = some .local) :
    PS X (.Assign [.Name x p1] a pos) (denS X.K xa W fun ds st => (fa ds st).bindS ds fun d st' => .nx (ds.set i (some d)) st') := by
  refine (ps_set hN hi hx ha hs hf).imp fun D σ H h => ?_
  obtain ⟨ex, ρ, ds, st, M, S, q⟩ := h
  refine ⟨ex, ρ, ds, st, M, S, (PostS.bind S q).imp fun v H1 ⟨d, st1, ρ1, e1, M1, r1, q1⟩ => ?_⟩
  exact q1 (σ.set i (some v)) H1 ρ1 (Ext.refl _ _) M1 ((S.ext e1).set i r1)
theorem den_expr (ha : PE X a (denE X.K xa W fa)) (hs : swapsWith a none pos.line X.env = pure false) : PS X (.Expr a pos) (denS X.K xa W fun ds st => (fa ds st).bindS ds fun _ st' => .nx ds st') := by
  refine (ps_expr ha hs).imp fun D σ H h => ?_
  obtain ⟨ex, ρ, ds, st, M, S, q⟩ := h
  refine ⟨ex, ρ, ds, st, M, S, (PostS.bind S q).imp fun v H1 ⟨d, st1, ρ1, e1, M1, r1, q1⟩ => ?_⟩
  exact q1 σ H1 ρ1 (Ext.refl _ _) M1 (S.ext e1)
theorem den_ret (ha : PE X a (denE X.K xa W fa)) : PS X (.Return (some a) pos) (denS X.K xa W fun ds st => (fa ds st).bindS ds fun d st' => .rt d st') := by
  refine (ps_ret ha).imp fun D σ H h => ?_
  obtain ⟨ex, ρ, ds, st, M, S, q⟩ := h
  refine ⟨ex, ρ, ds, st, M, S, (PostS.bind S q).imp fun v H1 ⟨d, st1, ρ1, e1, M1, r1, q1⟩ => ?_⟩
  exact q1 v H1 ρ1 (Ext.refl _ _) M1 r1
theorem den_if (hc : PT X c (denT X.K xa W fc)) (ha : PSs X sa (denS X.K xa W ga)) (hb : PSs X sb (denS X.K xa W gb)) : PS X (.If c sa sb pos) (denS X.K xa W fun ds st => (fc ds st).bindS ds fun x st' => match x with
    | .bl true => ga ds st'
    | .bl false => gb ds st'
    | _ => .no) := by
  refine (ps_if hc ha hb).imp fun D σ H h => ?_
  obtain ⟨ex, ρ, ds, st, M, S, q⟩ := h
  refine ⟨ex, ρ, ds, st, M, S, (PostS.bind S q).imp fun v H1 ⟨d, st1, ρ1, e1, M1, r1, q1⟩ => ?_⟩
  split at q1
  · cases r1
    exact ⟨true, rfl, iteT ⟨ex, ρ1, ds, st1, M1, S.ext e1, q1⟩⟩
  · cases r1
    exact ⟨false, rfl, iteF ⟨ex, ρ1, ds, st1, M1, S.ext e1, q1⟩⟩
  · exact q1.elim
theorem den_brk : PS X (.Break pos) (denS X.K xa W fun ds st => .bk ds st) := ps_break.imp fun D σ H ⟨ex, ρ, ds, st, M, S, q⟩ => q σ H ρ (Ext.refl _ _) M S
theorem den_cnt : PS X (.Continue pos) (denS X.K xa W fun ds st => .ct ds st) := ps_continue.imp fun D σ H ⟨ex, ρ, ds, st, M, S, q⟩ => q σ H ρ (Ext.refl _ _) M S
theorem den_pass : PS X (.Pass pos) (denS X.K xa W fun ds st => .nx ds st) := ps_pass.imp fun D σ H ⟨ex, ρ, ds, st, M, S, q⟩ => q σ H ρ (Ext.refl _ _) M S
/-! ### loops -/
theorem den_while (hp : PassesOwn (model X.prog X.w) X.A X.env X.xe) (hc : PT X c (denT X.K xa W fc)) (hb : PSs X sa (denS X.K xa W ga)) (n : Nat) : PS X (.While c sa [] pos) (denS X.K xa W fun ds st => whlB fc ga n ds st) := by
  refine (ps_while hp hc hb).imp fun D σ H h => ?_
  obtain ⟨ex, ρ, ds, st, M, S, q⟩ := h
  refine ⟨fun m σ H => ∃ ρ ds st, Mem X.K ex H ρ st ∧ Slots X.K ex H ρ σ ds ∧ PostS X.K ex H ρ (whlB fc ga m ds st) xa W D, ⟨n, ρ, ds, st, M, S, q⟩, ?_⟩
  rintro m σ1 H1 ⟨ρ1, ds1, st1, M1, S1, q1⟩
  cases m with
  | zero => exact q1.elim
  | succ k =>
    rw [whlB] at q1
    refine ⟨ex, ρ1, ds1, st1, M1, S1, (PostS.bind S1 q1).imp fun v H2 ⟨d, st2, ρ2, e2, M2, r2, q2⟩ => ?_⟩
    split at q2
    · cases r2
      refine ⟨true, rfl, iteT ⟨fun σ H => ∃ ρ ds st, Mem X.K ex H ρ st ∧ Slots X.K ex H ρ σ ds ∧ PostS X.K ex H ρ (whlB fc ga k ds st) xa W D, fun σ' H' hn => ⟨k, by omega, hn⟩, ?_⟩⟩
      refine ⟨ex, ρ2, ds1, st2, M2, S1.ext e2, ?_⟩
      cases e : ga ds1 st2 with
      | nx ds' st' => rw [e] at q2; exact fun σ' H' ρ' e1 M1 S1 => ⟨ρ', ds', st', M1, S1, PostS.step e1 q2⟩
      | ct ds' st' => rw [e] at q2; exact fun σ' H' ρ' e1 M1 S1 => ⟨ρ', ds', st', M1, S1, PostS.step e1 q2⟩
      | rt d s => rw [e] at q2; exact q2
      | bk d s => rw [e] at q2; exact q2
      | exc x d s => rw [e] at q2; exact q2
      | no => rw [e] at q2; exact q2
    · cases r2
      exact ⟨false, rfl, iteF (q2 σ1 H2 ρ2 (Ext.refl _ _) M2 (S1.ext e2))⟩
    · exact q2.elim
/-- a for's turns -/
theorem for_loop {J : It} {tb : TS} {v : Nat} {ex : Addr → Prop} {H : Hp} {ρ : List Addr} {st : Store} {σ : L2.St} {ds : DS} {items : List D} {D : Ends}
    (M : Mem X.K ex H ρ st) (S : Slots X.K ex H ρ σ ds) (j : JOk X.K ex J ρ H items) (q : PostS X.K ex H ρ (forB ga v items ds st) xa W D)
    (htb : ∀ D σ H, denS X.K xa W ga D σ H → tb D σ H) :
    ∃ Wv : Nat → Nat → L2.St → Hp → Prop, (∃ m, Wv 0 m σ H) ∧ ∀ i m σ H, Wv i m σ H →
      (J.stop i H ∧ D.nx σ H) ∨ (J.go i H ∧ ∃ N : L2.St → Hp → Prop, (∀ σ' H', N σ' H' → ∃ m', m' < m ∧ Wv (i + 1) m' σ' H') ∧ ∀ x H', J.yld i H x H' → gName v x σ H' fun σ2 H2 => tb { D with nx := N, ct := N, bk := D.nx } σ2 H2) := by
  refine ⟨fun i m' σ1 H1 => ∃ ρ1 ds1 st1, Ext ρ H ρ1 H1 ∧ Mem X.K ex H1 ρ1 st1 ∧ Slots X.K ex H1 ρ1 σ1 ds1 ∧ PostS X.K ex H1 ρ1 (forB ga v (items.drop i) ds1 st1) xa W D ∧ i + m' = items.length,
    ⟨items.length, ρ, ds, st, Ext.refl _ _, M, S, by rw [List.drop_zero]; exact q, by omega⟩, ?_⟩
  rintro i m' σ1 H1 ⟨ρ1, ds1, st1, e1, M1, S1, q1, hi⟩
  obtain ⟨j1, j2⟩ := j ρ1 H1 ex e1 (fun _ _ h => h) i
  by_cases hlt : i < items.length
  · have hd : items[i]? = some items[i] := List.getElem?_eq_getElem hlt
    rw [List.drop_eq_getElem_cons hlt] at q1
    obtain ⟨go, yld⟩ := j1 _ hd
    refine .inr ⟨go, fun σ' H' => ∃ ρ1 ds1 st1, Ext ρ H ρ1 H' ∧ Mem X.K ex H' ρ1 st1 ∧ Slots X.K ex H' ρ1 σ' ds1 ∧ PostS X.K ex H' ρ1 (forB ga v (items.drop (i + 1)) ds1 st1) xa W D, fun σ' H' ⟨ρ2, ds2, st2, z1, z2, z3, z4⟩ => ⟨m' - 1, by omega, ρ2, ds2, st2, z1, z2, z3, z4, by omega⟩, fun x H' hy => ?_⟩
    obtain ⟨rfl, rx⟩ := yld x H' hy
    refine htb _ _ _ ⟨ex, ρ1, ds1.set v (some items[i]), st1, M1, S1.set v rx, ?_⟩
    rw [forB] at q1
    cases e : ga (ds1.set v (some items[i])) st1 with
    | nx ds' st' => rw [e] at q1; exact fun σ' H2 ρ' e2 M2 S2 => ⟨ρ', ds', st', e1.trans e2, M2, S2, PostS.step e2 q1⟩
    | ct ds' st' => rw [e] at q1; exact fun σ' H2 ρ' e2 M2 S2 => ⟨ρ', ds', st', e1.trans e2, M2, S2, PostS.step e2 q1⟩
    | rt d s => rw [e] at q1; exact q1
    | bk d s => rw [e] at q1; exact q1
    | exc x d s => rw [e] at q1; exact q1
    | no => rw [e] at q1; exact q1
  · rw [List.drop_eq_nil_of_le (by omega), forB] at q1
    exact .inl ⟨j2 (by omega), q1 σ1 H1 ρ1 (Ext.refl _ _) M1 S1⟩
theorem srcF_free {k : SK} (hk : k ≠ .itv) (hx : k ≠ .itx) {xs : List MP.D} {st : Store} {n : Nat} {items : List MP.D} : srcF k xs st ≠ some (some n, items) := by
  intro h
  cases k with
  | itv => exact hk rfl
  | itx => exact hx rfl
  | rng1 =>
    rcases xs with _ | ⟨x, _ | ⟨y, r⟩⟩
    · simp [srcF] at h
    · cases x <;> simp [srcF] at h
    · simp [srcF] at h
  | rng2 =>
    rcases xs with _ | ⟨x, _ | ⟨y, _ | ⟨z, r⟩⟩⟩
    · simp [srcF] at h
    · simp [srcF] at h
    · cases x <;> simp [srcF] at h
      cases y <;> simp [srcF] at h
    · simp [srcF] at h
  | it =>
    rcases xs with _ | ⟨x, _ | ⟨y, r⟩⟩
    · simp [srcF] at h
    · cases x <;> simp [srcF] at h
    · simp [srcF] at h
theorem den_for {v : Nat} {k : SK} {iter : Expr} {fs : DS → Store → R (List D)} {tgp : Pos} (hp : PassesOwn (model X.prog X.w) X.A X.env X.xe) (hcalm : X.calm = true) (hk : k ≠ .itv) (hx : k ≠ .itx)
    (hs : SrcOk X xa W (.Name x tgp) iter k fs) (hg : PG X (.Name x tgp) (gName v)) (hb : PSs X sa (denS X.K xa W ga)) (hf : ∀ z, foldedSetIterable iter X.env z = pure z) :
    PS X (.For (.Name x tgp) iter sa [] pos) (denS X.K xa W fun ds st => (fs ds st).bindS ds fun xs st' => match srcF k xs st' with
    | some (none, items) => filtS k (forB ga v items ds st')
    | some (some n, items) => match lock n st' with
      | some st1 => unlockS n (forB ga v items ds st1)
      | none => .no
    | none => .no) := by
  obtain ⟨wi, hw, w1, w2⟩ := hs
  refine (ps_for hp hcalm hw hg hb hf).imp fun D σ H h => ?_
  obtain ⟨ex, ρ, ds, st, M, S, q⟩ := h
  simp only at q
  have hfil : ∀ r, filtS k r = r := fun r => by cases k <;> first | rfl | exact absurd rfl hk
  cases e : fs ds st with
  | no => rw [e] at q; exact q.elim
  | exc z s =>
    rw [e] at q
    exact w2 M S e fun H' ρ' e1 M1 => q σ H' ρ' e1 M1 (S.ext e1)
  | ok xs st1 =>
    rw [e] at q
    simp only [R.bindS] at q
    split at q
    · rename_i items hsrc
      rw [hfil] at q
      exact w1 M S e hsrc fun J H1 ρ1 e1 M1 j => for_loop M1 (S.ext e1) j (PostS.step e1 q) (fun _ _ _ h => h)
    · rename_i n items hsrc
      exact absurd hsrc (srcF_free hk hx)
    · exact q.elim
end
end MP
end
section
set_option maxRecDepth 100000
set_option maxHeartbeats 4000000
/-! MP: loops and comprehensions over a name (locked), stores to items. -/
namespace MP
open PySem PySem.Spec PyProof.Rows L2
theorem _root_.L2.PS.or {X : Cx} {e : Stmt} {t t' : TS} (h : PS X e t) (h' : PS X e t') : PS X e (fun D σ H => t D σ H ∨ t' D σ H) := ⟨fun pins s σ H D I q => q.elim (h.run pins s σ H D I) (h'.run pins s σ H D I)⟩
/-- a name's value -/
def fvar (i : Nat) : DS → Store → RE := fun ds st => match ds[i]? with
  | some (some d) => .ok d st
  | _ => .no
section
variable {X : Cx} {xa : XA} {W : WX} {pos p1 p2 : Pos} {a b c : Expr} {fa fb fc fe : DS → Store → RE} {x y : Str} {i : Nat} {sa sb : List Stmt} {ga gb : DS → Store → RS}
/-- the source stands without a further lock -/
def Free (K : PySem.W.Frag) (ex : Addr → Prop) (H : Hp) (ρ : List Addr) (σ : L2.St) (i : Nat) (d : D) : Prop := ∀ es, d = .dct es → ∃ a od kvs, σ[i]? = some (some (.ref a)) ∧ H a = some (.frz od (.dT kvs)) ∧ RepE K ex H ρ es kvs
theorem walk_itv {ex : Addr → Prop} {H : Hp} {ρ : List Addr} {st : Store} {σ : L2.St} {ds : DS} {d : D} {items : List D} {R : It → Hp → Prop} (M : Mem X.K ex H ρ st) (S : Slots X.K ex H ρ σ ds) (hd : ds[i]? = some (some d)) (hs : srcF .itv [d] st = some (none, items))
    (hf : Free X.K ex H ρ σ i d) (q : ∀ J, JOk X.K ex J ρ H items → R J H) : iM X.K (tVar i) σ H R := by
  obtain ⟨v, hv, r⟩ := S.2 i d hd
  cases d with
  | lst xs =>
    cases hs
    obtain ⟨p, vs, rfl, t, n, x, rs⟩ := r
    exact .inl ⟨_, hv, p, rfl, ⟨vs, .inl t⟩, q _ (jok_list (fun ρ' H' e' => .inl (Rd.ext e' t n)) rs)⟩
  | scr ns =>
    cases hs
    obtain ⟨p, rfl, ⟨t, n, x⟩ | t⟩ := r
    · exact .inl ⟨_, hv, p, rfl, ⟨_, .inl t⟩, q _ (jok_list (fun ρ' H' e' => .inl (Rd.ext e' t n)) (Reps.ints ns))⟩
    · exact .inl ⟨_, hv, p, rfl, ⟨_, .inr t⟩, q _ (jok_list (fun ρ' H' e' => .inr t) (Reps.ints ns))⟩
  | tup xs =>
    cases hs
    obtain ⟨p, vs, rfl, t, rs⟩ := r
    exact .inr (.inl ⟨_, hv, p, rfl, ⟨vs, t.sq⟩, q _ (jok_tup t rs)⟩)
  | str s =>
    cases hs
    obtain ⟨rfl, ok⟩ := r
    exact .inr (.inr (.inl ⟨_, hv, _, rfl, q _ (jok_str ok)⟩))
  | dct es =>
    cases hs
    obtain ⟨a, od, kvs, h1, h2, h3⟩ := hf es rfl
    exact .inr (.inr (.inr ⟨_, h1, a, od, rfl, .inr ⟨kvs, h2, q _ (jok_keys h2 h3)⟩⟩))
  | ref n =>
    obtain ⟨a, ha, rfl⟩ := r
    simp only [srcF] at hs
    split at hs
    · cases hs
    · cases hs
    · rename_i xs e
      cases hs
      obtain ⟨b, h1, o, vs, h2, h3⟩ := M.at e
      rw [ha] at h1
      cases h1
      exact .inl ⟨_, hv, a, rfl, ⟨vs, .inl (.inr ⟨o, h2⟩)⟩, q _ (jok_list (fun ρ' H' e' => .inl (.inr ⟨o, e'.frzs _ _ _ h2⟩)) h3)⟩
    · rename_i es e
      cases hs
      obtain ⟨b, h1, o, kvs, h2, h3⟩ := M.at e
      rw [ha] at h1
      cases h1
      exact .inr (.inr (.inr ⟨_, hv, a, o, rfl, .inr ⟨kvs, h2, q _ (jok_keys h2 h3)⟩⟩))
    · cases hs
  | _ => simp [srcF] at hs
/-- what is needed of a name that is walked: nothing, or a lock -/
theorem need_lock {ex : Addr → Prop} {H : Hp} {ρ : List Addr} {st : Store} {σ : L2.St} {ds : DS} {d : D} (M : Mem X.K ex H ρ st) (S : Slots X.K ex H ρ σ ds) (hd : ds[i]? = some (some d)) {o : Option Nat} {items : List D} (hs : srcF .itv [d] st = some (o, items)) :
    (o = none ∧ Free X.K ex H ρ σ i d) ∨ ∃ a u st1, LockAt X.K ex H ρ st st1 a u ∧ srcF .itv [d] st1 = some (none, items) ∧ (∀ od, Free X.K ex (upd H a (.frz od u)) ρ σ i d) ∧
      ((∃ n, o = some n ∧ ρ[n]? = some a ∧ lock n st = some st1) ∨ (o = none ∧ a ∉ ρ ∧ st1 = st)) := by
  obtain ⟨v, hv, r⟩ := S.2 i d hd
  cases d with
  | dct es =>
    cases hs
    obtain ⟨a, kvs, rfl, t, n, x, rs⟩ := r
    rcases t with t | ⟨od, t⟩
    · refine .inr ⟨a, .dT kvs, st, ⟨t, .inr ⟨n, rfl⟩, .inr ⟨kvs, rfl⟩⟩, rfl, fun od es' e => ?_, .inr ⟨rfl, n, rfl⟩⟩
      cases e
      have L : LockAt X.K ex H ρ st st a (.dT kvs) := ⟨t, .inr ⟨n, rfl⟩, .inr ⟨kvs, rfl⟩⟩
      exact ⟨a, od, kvs, hv, upd_same, rs.gen (fun b w hw t n x => ⟨rd_lock L.1 L.plain b w hw t, n, x⟩) L.tup (fun _ _ h => h)⟩
    · refine .inl ⟨rfl, fun es' e => ?_⟩
      cases e
      exact ⟨a, od, kvs, hv, t, rs⟩
  | ref n =>
    obtain ⟨a, ha, rfl⟩ := r
    have fr : ∀ {H : Hp}, Free X.K ex H ρ σ i (.ref n) := fun es e => nomatch e
    have hlen : n < st.length := by rw [← M.len]; exact (List.getElem?_eq_some_iff.mp ha).1
    simp only [srcF] at hs
    split at hs
    · rename_i xs e
      cases hs
      obtain ⟨b, vs, h1, h2, h3⟩ := M.lst e
      rw [ha] at h1
      cases h1
      refine .inr ⟨a, .lst vs, st.set n (.lckL items), ⟨h2, .inl ⟨n, ha, by unfold lock; rw [e]⟩, .inl ⟨vs, rfl⟩⟩, ?_, fun od => fr, .inl ⟨n, rfl, ha, by unfold lock; rw [e]⟩⟩
      simp only [srcF, List.getElem?_set_self hlen]
    · rename_i es e
      cases hs
      obtain ⟨b, vs, h1, h2, h3⟩ := M.dct e
      rw [ha] at h1
      cases h1
      refine .inr ⟨a, .dT vs, st.set n (.lckD es), ⟨h2, .inl ⟨n, ha, by unfold lock; rw [e]⟩, .inr ⟨vs, rfl⟩⟩, ?_, fun od => fr, .inl ⟨n, rfl, ha, by unfold lock; rw [e]⟩⟩
      simp only [srcF, List.getElem?_set_self hlen]
    · cases hs; exact .inl ⟨rfl, fr⟩
    · cases hs; exact .inl ⟨rfl, fr⟩
    · cases hs
  | lst xs => cases hs; exact .inl ⟨rfl, fun es e => nomatch e⟩
  | tup xs => cases hs; exact .inl ⟨rfl, fun es e => nomatch e⟩
  | scr xs => cases hs; exact .inl ⟨rfl, fun es e => nomatch e⟩
  | str xs => cases hs; exact .inl ⟨rfl, fun es e => nomatch e⟩
  | _ => simp [srcF] at hs
/-- the wishes under a lock -/
def lockE (a : Addr) (u : HO) (od : Obj) (D : Ends) : Ends := ⟨fun σ' H' => H' a = some (.frz od u) ∧ D.nx σ' (upd H' a u), fun v H' => H' a = some (.frz od u) ∧ D.rt v (upd H' a u), fun σ' H' => H' a = some (.frz od u) ∧ D.bk σ' (upd H' a u), fun σ' H' => H' a = some (.frz od u) ∧ D.ct σ' (upd H' a u)⟩
theorem fvar_ok {ds : DS} {st st1 : Store} {d : D} (h : fvar i ds st = .ok d st1) : ds[i]? = some (some d) ∧ st1 = st := by
  unfold fvar at h
  split at h
  · cases h; exact ⟨by assumption, rfl⟩
  · cases h
theorem den_forItv {v : Nat} {tgp : Pos} (hp : PassesOwn (model X.prog X.w) X.A X.env X.xe) (hcalm : X.calm = true) (hv : PE X (.Name y p2) (tVar i)) (hg : PG X (.Name x tgp) (gName v)) (hb : PSs X sa (denS X.K xa W ga)) :
    PS X (.For (.Name x tgp) (.Name y p2) sa [] pos) (denS X.K xa W fun ds st => (one (fvar i) ds st).bindS ds fun xs st' => match srcF .itv xs st' with
    | some (none, items) => filtS .itv (forB ga v items ds st')
    | some (some n, items) => match lock n st' with
      | some st1 => unlockS n (forB ga v items ds st1)
      | none => .no
    | none => .no) := by
  have F := ps_for (pos := pos) hp hcalm (pi_M (tg := .Name x tgp) hv) hg hb (by intro _; rfl)
  refine (PS.or F (ps_lock F)).imp fun En σ H h => ?_
  obtain ⟨ex, ρ, ds, st, M, S, q⟩ := h
  simp only at q
  cases e : one (fvar i) ds st with
  | no => rw [e] at q; exact q.elim
  | exc z s =>
    have := one_exc e
    unfold fvar at this
    split at this <;> cases this
  | ok xs st' =>
    rw [e] at q
    simp only [R.bindS] at q
    obtain ⟨d, e1, rfl⟩ := one_ok e
    obtain ⟨hd, rfl⟩ := fvar_ok e1
    cases hs : srcF .itv [d] st' with
    | none => rw [hs] at q; exact q.elim
    | some on =>
      obtain ⟨o, items⟩ := on
      rw [hs] at q
      rcases need_lock M S hd hs with ⟨rfl, fr⟩ | ⟨ad, u, st1, L, hs1, fr, ho⟩
      · simp only at q
        have q' : PostS X.K ex H ρ (forB ga v items ds st') xa W En := by
          cases ee : forB ga v items ds st' with
          | exc _ _ _ => rw [ee] at q; exact q.elim
          | nx _ _ => rw [ee] at q; exact q
          | rt _ _ => rw [ee] at q; exact q
          | bk _ _ => rw [ee] at q; exact q
          | ct _ _ => rw [ee] at q; exact q
          | no => rw [ee] at q; exact q
        exact .inl (walk_itv M S hd hs fr fun J j => for_loop M S j q' (fun _ _ _ h => h))
      · refine .inr ⟨ad, u, L.1, L.mut, fun od => ?_⟩
        have M1 := L.mem (od := od) M
        have S1 := L.slots (od := od) S
        refine walk_itv M1 S1 hd hs1 (fr od) fun J j => for_loop (D := lockE ad u od En) M1 S1 j ?_ (fun _ _ _ h => h)
        -- the turns under the lock
        have key : PostS X.K ex H ρ (match o with | some n => unlockS n (forB ga v items ds st1) | none => filtS .itv (forB ga v items ds st1)) xa W En ∧ (∀ st2 st3, (match o with | some n => unlock n st2 = some st3 | none => st3 = st2) → Unl ρ ad st2 st3) := by
          rcases ho with ⟨n, rfl, hn, hl⟩ | ⟨rfl, hn, rfl⟩
          · simp only [hl] at q
            exact ⟨q, fun st2 st3 h => .inl ⟨n, hn, h⟩⟩
          · exact ⟨q, fun st2 st3 h => .inr ⟨hn, h⟩⟩
        obtain ⟨q1, hu⟩ := key
        cases o with
        | none =>
          simp only at q1 hu
          cases ee : forB ga v items ds st1 with
          | nx ds2 st2 => rw [ee] at q1; exact fun σ' H' ρ' e1 M2 S2 => ⟨L.held e1, q1 σ' _ ρ' (L.ext e1) (L.mem2 e1 M2 (hu _ _ rfl)) (L.slots2 e1 S2)⟩
          | rt d2 st2 => rw [ee] at q1; exact fun v' H' ρ' e1 M2 r2 => ⟨L.held e1, q1 v' _ ρ' (L.ext e1) (L.mem2 e1 M2 (hu _ _ rfl)) (L.rep2 e1 r2)⟩
          | bk ds2 st2 => rw [ee] at q1; exact fun σ' H' ρ' e1 M2 S2 => ⟨L.held e1, q1 σ' _ ρ' (L.ext e1) (L.mem2 e1 M2 (hu _ _ rfl)) (L.slots2 e1 S2)⟩
          | ct ds2 st2 => rw [ee] at q1; exact fun σ' H' ρ' e1 M2 S2 => ⟨L.held e1, q1 σ' _ ρ' (L.ext e1) (L.mem2 e1 M2 (hu _ _ rfl)) (L.slots2 e1 S2)⟩
          | exc _ _ _ => rw [ee] at q1; exact q1.elim
          | no => rw [ee] at q1; exact q1.elim
        | some n =>
          simp only at q1 hu
          cases ee : forB ga v items ds st1 with
          | nx ds2 st2 =>
            rw [ee] at q1
            simp only [unlockS] at q1
            cases eu : unlock n st2 with
            | none => rw [eu] at q1; exact q1.elim
            | some st3 => rw [eu] at q1; exact fun σ' H' ρ' e1 M2 S2 => ⟨L.held e1, q1 σ' _ ρ' (L.ext e1) (L.mem2 e1 M2 (hu _ _ eu)) (L.slots2 e1 S2)⟩
          | rt d2 st2 =>
            rw [ee] at q1
            simp only [unlockS] at q1
            cases eu : unlock n st2 with
            | none => rw [eu] at q1; exact q1.elim
            | some st3 => rw [eu] at q1; exact fun v' H' ρ' e1 M2 r2 => ⟨L.held e1, q1 v' _ ρ' (L.ext e1) (L.mem2 e1 M2 (hu _ _ eu)) (L.rep2 e1 r2)⟩
          | bk ds2 st2 =>
            rw [ee] at q1
            simp only [unlockS] at q1
            cases eu : unlock n st2 with
            | none => rw [eu] at q1; exact q1.elim
            | some st3 => rw [eu] at q1; exact fun σ' H' ρ' e1 M2 S2 => ⟨L.held e1, q1 σ' _ ρ' (L.ext e1) (L.mem2 e1 M2 (hu _ _ eu)) (L.slots2 e1 S2)⟩
          | ct ds2 st2 =>
            rw [ee] at q1
            simp only [unlockS] at q1
            cases eu : unlock n st2 with
            | none => rw [eu] at q1; exact q1.elim
            | some st3 => rw [eu] at q1; exact fun σ' H' ρ' e1 M2 S2 => ⟨L.held e1, q1 σ' _ ρ' (L.ext e1) (L.mem2 e1 M2 (hu _ _ eu)) (L.slots2 e1 S2)⟩
          | exc _ _ _ => rw [ee] at q1; exact q1.elim
          | no => rw [ee] at q1; exact q1.elim
end
end MP
end
section
set_option maxRecDepth 100000
set_option maxHeartbeats 4000000
/-! MP: comprehensions as values and behind a name; stores to items. -/
namespace MP
open PySem PySem.Spec PyProof.Rows L2
section
variable {X : Cx} {xa : XA} {W : WX} {pos p1 p2 tgp spos py : Pos} {a b c elt iter : Expr} {fa fb fc fe : DS → Store → RE} {fs : DS → Store → R (List D)} {x y z : Str} {i v w : Nat} {ifs : List Expr} {scope : Scope}
/-- the block's parts -/
structure Blk (X : Cx) (xa : XA) (x : Str) (tgp : Pos) (v : Nat) (elt : Expr) (ifs : List Expr) (scope : Scope) (fe fc : DS → Store → RE) : Prop where
  ok : BlkOk X.N X.env.scope scope [(x, v)]
  g : ∀ (s : Shared) (H : Hp) (C : Addr) (cl : List (Str × Addr)) (fp : List Addr), PG (X.blk s H scope (compEnvC scope cl C X.env) fp) (.Name x tgp) (gName v)
  t : ∀ (s : Shared) (H : Hp) (C : Addr) (cl : List (Str × Addr)) (fp : List Addr), PTs (X.blk s H scope (compEnvC scope cl C X.env) fp) ifs (denT X.K xa W0 fc)
  e : ∀ (s : Shared) (H : Hp) (C : Addr) (cl : List (Str × Addr)) (fp : List Addr), PE (X.blk s H scope (compEnvC scope cl C X.env) fp) elt (denE X.K xa W0 fe)
def fComp (m : Bool) (fe fc : DS → Store → RE) (v : Nat) (k : SK) (fs : DS → Store → R (List D)) : DS → Store → RE := fun ds st => (fs ds st).bind fun xs st1 => compF m fe fc v k xs ds st1
theorem den_comp {m : Bool} {k : SK} (hcalm : X.calm = true) (hN : X.N.Nodup) (hk : k ≠ .itv) (hkx : k ≠ .itx) (B : Blk X xa x tgp v elt ifs scope fe fc) (hs : SrcOk X xa W (.Name x tgp) iter k fs) (hf : ∀ z, foldedSetIterable iter X.env z = pure z) :
    PE X (.ListComp elt [⟨.Name x tgp, iter, ifs, 0⟩] scope pos) (denE X.K xa W (fComp m fe fc v k fs)) := by
  obtain ⟨wi, hw, w1, w2⟩ := hs
  refine (pe_lc hcalm hN hw B.ok B.g B.t B.e hf).imp fun σ H Q h => ?_
  obtain ⟨ex, ρ, ds, st, M, S, q⟩ := h
  exact comp_reading w1 w2 (fun _ _ _ h => h) (fun _ _ _ h => h) M S (fun xs st1 _ n items => srcF_free hk hkx) q
theorem den_setc {m : Bool} {k : SK} (hcalm : X.calm = true) (hN : X.N.Nodup) (hk : k ≠ .itv) (hkx : k ≠ .itx) (hy : X.N[i]? = some y) (hyl : X.env.scope.names.lookup y = some .local) (hsw : swapsWith (.ListComp elt [⟨.Name x tgp, iter, ifs, 0⟩] scope pos) (some (.Name y py)) spos.line X.env = pure true)
    (B : Blk X xa x tgp v elt ifs scope fe fc) (hs : SrcOk X xa W (.Name x tgp) iter k fs) (hf : ∀ z, foldedSetIterable iter X.env z = pure z) :
    PS X (.Assign [.Name y py] (.ListComp elt [⟨.Name x tgp, iter, ifs, 0⟩] scope pos) spos) (denS X.K xa W fun ds st => (fComp m fe fc v k fs ds st).bindS ds fun d st' => .nx (ds.set i (some d)) st') := by
  obtain ⟨wi, hw, w1, w2⟩ := hs
  refine (ps_setLc hcalm hN hy hyl hsw hw B.ok B.g B.t B.e hf).imp fun En σ H h => ?_
  obtain ⟨ex, ρ, ds, st, M, S, q⟩ := h
  refine comp_reading w1 w2 (fun _ _ _ h => h) (fun _ _ _ h => h) M S (fun xs st1 _ n items => srcF_free hk hkx) (m := m) ((PostS.bind S q).imp fun u H1 ⟨d, st1, ρ1, e1, M1, r1, q1⟩ => ?_)
  exact q1 (σ.set i (some u)) H1 ρ1 (Ext.refl _ _) M1 ((S.ext e1).set i r1)
/-- over a name, locked where it must be -/
theorem comp_itv {m : Bool} {te : TE} {tt : TT} {ex : Addr → Prop} {H : Hp} {ρ : List Addr} {st : Store} {σ : L2.St} {ds : DS} {Q : VK} {Xe : Ex → Hp → List Addr → Store → Prop} (M : Mem X.K ex H ρ st) (S : Slots X.K ex H ρ σ ds)
    (hte : ∀ σ H Q, denE X.K xa W0 fe σ H Q → te σ H Q) (htt : ∀ σ H Q, denT X.K xa W0 fc σ H Q → tt σ H Q) (q : PostV X.K ex H ρ (fComp m fe fc v .itv (one (fvar w)) ds st) Xe Q) :
    tLc (iM X.K (tVar w)) (gName v) tt te [v] σ H Q ∨ ∃ a u, H a = some u ∧ Mut (some u) ∧ ∀ od, tLc (iM X.K (tVar w)) (gName v) tt te [v] σ (upd H a (.frz od u)) fun y H' => H' a = some (.frz od u) ∧ Q y (upd H' a u) := by
  unfold fComp at q
  cases e : one (fvar w) ds st with
  | no => rw [e] at q; exact q.elim
  | exc z s =>
    have := one_exc e
    unfold fvar at this
    split at this <;> cases this
  | ok xs st' =>
    rw [e] at q
    obtain ⟨d, e1, rfl⟩ := one_ok e
    obtain ⟨hd, rfl⟩ := fvar_ok e1
    have q0 : PostV X.K ex H ρ (compF m fe fc v .itv [d] ds st') Xe Q := q
    unfold compF at q0
    cases hs : srcF .itv [d] st' with
    | none => rw [hs] at q0; exact q0.elim
    | some on =>
      obtain ⟨o, items⟩ := on
      rw [hs] at q0
      rcases need_lock M S hd hs with ⟨rfl, fr⟩ | ⟨ad, u, st1, L, hs1, fr, ho⟩
      · simp only at q0
        split at q0
        · rename_i ys st2 hc
          exact .inl (walk_itv M S hd hs fr fun J j D hD => comp_loop M S j hc q0 hD hte htt)
        · exact q0.elim
      · refine .inr ⟨ad, u, L.1, L.mut, fun od => ?_⟩
        have M1 := L.mem (od := od) M
        have S1 := L.slots (od := od) S
        rcases ho with ⟨n, rfl, hn, hl⟩ | ⟨rfl, hn, rfl⟩
        · simp only [hl] at q0
          split at q0
          · rename_i ys st2 hc
            split at q0
            · rename_i st3 hu
              refine walk_itv M1 S1 hd hs1 (fr od) fun J j D hD => comp_loop (m := m) (Xe := fun _ _ _ _ => True) (Q := fun y H' => H' ad = some (.frz od u) ∧ Q y (upd H' ad u)) M1 S1 j hc ?_ hD hte htt
              -- behind the lock
              unfold mkL at q0 ⊢
              have lenu : st3.length = st2.length := by rcases unlock_eq hu with ⟨xs, _, rfl⟩ | ⟨es, _, rfl⟩ <;> rw [List.length_set]
              cases m with
              | false =>
                simp only [Bool.false_eq_true, if_false] at q0 ⊢
                exact fun v' H' ρ' e1 M2 r2 => ⟨L.held e1, q0 v' _ ρ' (L.ext e1) (L.mem2 e1 M2 (.inl ⟨n, hn, hu⟩)) (L.rep2 e1 r2)⟩
              | true =>
                simp only [if_true] at q0 ⊢
                refine fun v' H' ρ' e1 M2 r2 => ⟨L.held e1, q0 v' _ ρ' (L.ext e1) (L.mem2 e1 M2 (.inl ⟨n, hn, ?_⟩)) (L.rep2 e1 (by rw [lenu]; exact r2))⟩
                have hlt : n < st2.length := by rcases unlock_eq hu with ⟨xs, h, _⟩ | ⟨es, h, _⟩ <;> exact (List.getElem?_eq_some_iff.mp h).1
                rcases unlock_eq hu with ⟨xs, h, rfl⟩ | ⟨es, h, rfl⟩
                · unfold unlock
                  rw [List.getElem?_append_left hlt, h]
                  simp only [List.set_append_left _ _ hlt]
                · unfold unlock
                  rw [List.getElem?_append_left hlt, h]
                  simp only [List.set_append_left _ _ hlt]
            · exact q0.elim
          · exact q0.elim
        · simp only at q0
          split at q0
          · rename_i ys st2 hc
            refine walk_itv M1 S1 hd hs1 (fr od) fun J j D hD => comp_loop (m := m) (Xe := fun _ _ _ _ => True) (Q := fun y H' => H' ad = some (.frz od u) ∧ Q y (upd H' ad u)) M1 S1 j hc ?_ hD hte htt
            unfold mkL at q0 ⊢
            cases m with
            | false =>
              simp only [Bool.false_eq_true, if_false] at q0 ⊢
              exact fun v' H' ρ' e1 M2 r2 => ⟨L.held e1, q0 v' _ ρ' (L.ext e1) (L.mem2 e1 M2 (.inr ⟨hn, rfl⟩)) (L.rep2 e1 r2)⟩
            | true =>
              simp only [if_true] at q0 ⊢
              exact fun v' H' ρ' e1 M2 r2 => ⟨L.held e1, q0 v' _ ρ' (L.ext e1) (L.mem2 e1 M2 (.inr ⟨hn, rfl⟩)) (L.rep2 e1 r2)⟩
          · exact q0.elim
theorem den_compItv {m : Bool} (hcalm : X.calm = true) (hN : X.N.Nodup) (B : Blk X xa x tgp v elt ifs scope fe fc) (hv : PE X (.Name z p2) (tVar w)) :
    PE X (.ListComp elt [⟨.Name x tgp, .Name z p2, ifs, 0⟩] scope pos) (denE X.K xa W (fComp m fe fc v .itv (one (fvar w)))) := by
  have F := pe_lc (pos := pos) hcalm hN (pi_M (tg := .Name x tgp) hv) B.ok B.g B.t B.e (by intro _; rfl)
  refine (PE.or F (pe_lock F)).imp fun σ H Q h => ?_
  obtain ⟨ex, ρ, ds, st, M, S, q⟩ := h
  exact comp_itv M S (fun _ _ _ h => h) (fun _ _ _ h => h) q
theorem den_setcItv {m : Bool} (hcalm : X.calm = true) (hN : X.N.Nodup) (hy : X.N[i]? = some y) (hyl : X.env.scope.names.lookup y = some .local) (hsw : swapsWith (.ListComp elt [⟨.Name x tgp, .Name z p2, ifs, 0⟩] scope pos) (some (.Name y py)) spos.line X.env = pure true)
    (B : Blk X xa x tgp v elt ifs scope fe fc) (hv : PE X (.Name z p2) (tVar w)) :
    PS X (.Assign [.Name y py] (.ListComp elt [⟨.Name x tgp, .Name z p2, ifs, 0⟩] scope pos) spos) (denS X.K xa W fun ds st => (fComp m fe fc v .itv (one (fvar w)) ds st).bindS ds fun d st' => .nx (ds.set i (some d)) st') := by
  have F := ps_setLc (spos := spos) hcalm hN hy hyl hsw (pi_M (tg := .Name x tgp) hv) B.ok B.g B.t B.e (by intro _; rfl)
  refine (PS.or F (ps_lock F)).imp fun En σ H h => ?_
  obtain ⟨ex, ρ, ds, st, M, S, q⟩ := h
  have q' : PostV X.K ex H ρ (fComp m fe fc v .itv (one (fvar w)) ds st) (xOf xa W σ) fun u H1 => En.nx (σ.set i (some u)) H1 :=
    (PostS.bind S q).imp fun u H1 ⟨d, st1, ρ1, e1, M1, r1, q1⟩ => q1 (σ.set i (some u)) H1 ρ1 (Ext.refl _ _) M1 ((S.ext e1).set i r1)
  exact comp_itv M S (fun _ _ _ h => h) (fun _ _ _ h => h) q'
/-- a part of a name's tuple, a list that is locked -/
def LockSrc (fi : DS → Store → RE) : Prop := ∀ ds st d st', fi ds st = .ok d st' → st' = st ∧ ∀ n xs, d = .ref n → st[n]? = some (.lst xs) → fi ds (st.set n (.lckL xs)) = .ok (.ref n) (st.set n (.lckL xs))
theorem comp_itx {m : Bool} {te : TE} {tt : TT} {fi : DS → Store → RE} {ex : Addr → Prop} {H : Hp} {ρ : List Addr} {st : Store} {σ : L2.St} {ds : DS} {Q : VK} {Xe : Ex → Hp → List Addr → Store → Prop} (M : Mem X.K ex H ρ st) (S : Slots X.K ex H ρ σ ds)
    (hlk : LockSrc fi) (hne : ∀ ds st e st', fi ds st ≠ .exc e st')
    (hte : ∀ σ H Q, denE X.K xa W0 fe σ H Q → te σ H Q) (htt : ∀ σ H Q, denT X.K xa W0 fc σ H Q → tt σ H Q) (q : PostV X.K ex H ρ (fComp m fe fc v .itx (one fi) ds st) Xe Q) :
    ∃ a u, H a = some u ∧ Mut (some u) ∧ ∀ od, tLc (iM X.K (denE X.K xa W fi)) (gName v) tt te [v] σ (upd H a (.frz od u)) fun y H' => H' a = some (.frz od u) ∧ Q y (upd H' a u) := by
  unfold fComp at q
  cases e : one fi ds st with
  | no => rw [e] at q; exact q.elim
  | exc z s => exact absurd (one_exc e) (hne _ _ _ _)
  | ok xs st' =>
    rw [e] at q
    obtain ⟨d, e1, rfl⟩ := one_ok e
    obtain ⟨rfl, hlk1⟩ := hlk _ _ _ _ e1
    have q0 : PostV X.K ex H ρ (compF m fe fc v .itx [d] ds st') Xe Q := q
    unfold compF at q0
    cases d with
    | ref n =>
      simp only [srcF] at q0
      cases hc : st'[n]? with
      | none => rw [hc] at q0; exact q0.elim
      | some c =>
        cases c with
        | lst items =>
          have hlk2 := hlk1 n items rfl hc
          obtain ⟨a, vs, h1, h2, h3⟩ := M.lst hc
          have hlen : n < st'.length := (List.getElem?_eq_some_iff.mp hc).1
          have hlo : lock n st' = some (st'.set n (.lckL items)) := by unfold lock; rw [hc]
          have L : LockAt X.K ex H ρ st' (st'.set n (.lckL items)) a (.lst vs) := ⟨h2, .inl ⟨n, h1, hlo⟩, .inl ⟨vs, rfl⟩⟩
          rw [hc] at q0
          simp only [hlo] at q0
          refine ⟨a, _, L.1, L.mut, fun od => ?_⟩
          have M1 := L.mem (od := od) M
          have S1 := L.slots (od := od) S
          split at q0
          · rename_i ys st2 hcb
            split at q0
            · rename_i st3 hu
              refine .inl ⟨ex, ρ, ds, _, M1, S1, ?_⟩
              rw [hlk2]
              intro v' H1 ρ1 e2 M2 r2
              obtain ⟨p, hp, rfl⟩ := r2
              have hp1 : ρ1[n]? = some a := e2.pre n a h1
              rw [hp1] at hp
              cases hp
              obtain ⟨b, hb1, o, us, hb2, hb3⟩ := M2.at (List.getElem?_set_self (l := st') (a := Cell.lckL items) hlen)
              rw [hp1] at hb1
              cases hb1
              refine ⟨a, rfl, ⟨us, .inl (.inr ⟨o, hb2⟩)⟩, fun D hD => ?_⟩
              refine comp_loop (m := m) (Xe := fun _ _ _ _ => True) (Q := fun y H' => H' a = some (.frz od (.lst vs)) ∧ Q y (upd H' a (.lst vs))) M2 (S1.ext e2) (jok_list (fun ρ' H' e' => .inl (.inr ⟨o, e'.frzs _ _ _ hb2⟩)) hb3) hcb ?_ hD hte htt
              unfold mkL at q0 ⊢
              have lenu : st3.length = st2.length := by rcases unlock_eq hu with ⟨xs, _, rfl⟩ | ⟨es, _, rfl⟩ <;> rw [List.length_set]
              cases m with
              | false =>
                simp only [Bool.false_eq_true, if_false] at q0 ⊢
                exact fun v' H' ρ' e3 M3 r3 => ⟨L.held (e2.trans e3), q0 v' _ ρ' (L.ext (e2.trans e3)) (L.mem2 (e2.trans e3) M3 (.inl ⟨n, h1, hu⟩)) (L.rep2 (e2.trans e3) r3)⟩
              | true =>
                simp only [if_true] at q0 ⊢
                refine fun v' H' ρ' e3 M3 r3 => ⟨L.held (e2.trans e3), q0 v' _ ρ' (L.ext (e2.trans e3)) (L.mem2 (e2.trans e3) M3 (.inl ⟨n, h1, ?_⟩)) (L.rep2 (e2.trans e3) (by rw [lenu]; exact r3))⟩
                have hlt : n < st2.length := by rcases unlock_eq hu with ⟨xs, h, _⟩ | ⟨es, h, _⟩ <;> exact (List.getElem?_eq_some_iff.mp h).1
                rcases unlock_eq hu with ⟨xs, h, rfl⟩ | ⟨es, h, rfl⟩
                · unfold unlock
                  rw [List.getElem?_append_left hlt, h]
                  simp only [List.set_append_left _ _ hlt]
                · unfold unlock
                  rw [List.getElem?_append_left hlt, h]
                  simp only [List.set_append_left _ _ hlt]
            · exact q0.elim
          · exact q0.elim
        | _ => rw [hc] at q0; exact q0.elim
    | _ => simp only [srcF] at q0; exact q0.elim
theorem den_compItx {m : Bool} {fi : DS → Store → RE} (hcalm : X.calm = true) (hN : X.N.Nodup) (B : Blk X xa x tgp v elt ifs scope fe fc) (hv : PE X iter (denE X.K xa W fi)) (hf : ∀ z, foldedSetIterable iter X.env z = pure z) (hlk : LockSrc fi) (hne : ∀ ds st e st', fi ds st ≠ .exc e st') :
    PE X (.ListComp elt [⟨.Name x tgp, iter, ifs, 0⟩] scope pos) (denE X.K xa W (fComp m fe fc v .itx (one fi))) := by
  have F := pe_lc (pos := pos) hcalm hN (pi_M (tg := .Name x tgp) hv) B.ok B.g B.t B.e hf
  refine (pe_lock F).imp fun σ H Q h => ?_
  obtain ⟨ex, ρ, ds, st, M, S, q⟩ := h
  exact comp_itx M S hlk hne (fun _ _ _ h => h) (fun _ _ _ h => h) q
theorem den_setcItx {m : Bool} {fi : DS → Store → RE} (hcalm : X.calm = true) (hN : X.N.Nodup) (hy : X.N[i]? = some y) (hyl : X.env.scope.names.lookup y = some .local) (hsw : swapsWith (.ListComp elt [⟨.Name x tgp, iter, ifs, 0⟩] scope pos) (some (.Name y py)) spos.line X.env = pure true)
    (B : Blk X xa x tgp v elt ifs scope fe fc) (hv : PE X iter (denE X.K xa W fi)) (hf : ∀ z, foldedSetIterable iter X.env z = pure z) (hlk : LockSrc fi) (hne : ∀ ds st e st', fi ds st ≠ .exc e st') :
    PS X (.Assign [.Name y py] (.ListComp elt [⟨.Name x tgp, iter, ifs, 0⟩] scope pos) spos) (denS X.K xa W fun ds st => (fComp m fe fc v .itx (one fi) ds st).bindS ds fun d st' => .nx (ds.set i (some d)) st') := by
  have F := ps_setLc (spos := spos) hcalm hN hy hyl hsw (pi_M (tg := .Name x tgp) hv) B.ok B.g B.t B.e hf
  refine (ps_lock F).imp fun En σ H h => ?_
  obtain ⟨ex, ρ, ds, st, M, S, q⟩ := h
  have q' : PostV X.K ex H ρ (fComp m fe fc v .itx (one fi) ds st) (xOf xa W σ) fun u H1 => En.nx (σ.set i (some u)) H1 :=
    (PostS.bind S q).imp fun u H1 ⟨d, st1, ρ1, e1, M1, r1, q1⟩ => q1 (σ.set i (some u)) H1 ρ1 (Ext.refl _ _) M1 ((S.ext e1).set i r1)
  exact comp_itx M S hlk hne (fun _ _ _ h => h) (fun _ _ _ h => h) q'
/-! ### stores to items -/
def rSetM : V → V → V → Hp → (Hp → Prop) → Prop := fun o i v H Q => rSetL o i v H Q ∨ ∃ a H', o = .ref a ∧ DPut H a i v H' ∧ Q H'
theorem set_M (hu : X.A.units + 65 < cLine) : PSet X rSetM := by
  intro pins s σ H o i v ov iv u Q I ro ri rv h
  rcases h with h | ⟨a, H', rfl, g, q⟩
  · exact set_list pins s σ H o i v ov iv u Q I ro ri rv h
  · obtain rfl : ov = Value.ref a := ro
    exact d_setItem (by omega) I g ri rv fun s4 I4 => ⟨H', I4, q⟩
theorem ok_setix {ex : Addr → Prop} {H : Hp} {ρ : List Addr} {st st' : Store} {o i d : D} {ov iv dv : V} {Q : Hp → Prop} (M : Mem X.K ex H ρ st) (r1 : Rep X.K ex H ρ o ov) (r2 : Rep X.K ex H ρ i iv) (r3 : Rep X.K ex H ρ d dv) (h : setixF o i d st = some st')
    (q : ∀ H', Ext ρ H ρ H' → Mem X.K ex H' ρ st' → Q H') : rSetM ov iv dv H Q := by
  unfold setixF at h
  split at h
  · rename_i n
    obtain ⟨a, ha, rfl⟩ := r1
    split at h
    · rename_i xs hs
      obtain ⟨b, vs, h1, h2, h3⟩ := M.lst hs
      rw [ha] at h1
      cases h1
      split at h
      · rename_i j
        cases r2
        obtain ⟨m, hm, rfl⟩ := Option.map_eq_some_iff.mp h
        have e : Ext ρ H ρ (upd H a (.lst (vs.set m dv))) := Ext.write ha (fun vs => by rw [h2]; simp) (fun ob u => by rw [h2]; simp)
        exact .inl ⟨a, vs, j, m, rfl, rfl, h2, by rw [← h3.length]; exact hm, q _ e (M.write ha e ⟨_, upd_same, (h3.set m r3).ext e⟩)⟩
      · cases h
    · rename_i es hs
      obtain ⟨b, kvs, h1, h2, h3⟩ := M.dct hs
      rw [ha] at h1
      cases h1
      split at h
      · rename_i k hk
        split at h
        · rename_i hl
          cases h
          obtain ⟨b, rfl, hb⟩ := rep_pl r2 hk
          have e : Ext ρ H ρ (upd H a (.dT (putK kvs (kP k) dv))) := Ext.write ha (fun vs => by rw [h2]; simp) (fun ob u => by rw [h2]; simp)
          exact .inr ⟨a, _, rfl, DPut.t h2 hb (by rw [← h3.length, lim_eq]; exact hl), q _ e (M.write ha e ⟨_, upd_same, (h3.put r3).ext e⟩)⟩
        · cases h
      · cases h
    · cases h
  · cases h
theorem den_setix (hu : X.A.units + 65 < cLine) (hcv : PE X c (denE X.K xa W fc)) (ha : PE X a (denE X.K xa W fa)) (hb : PE X b (denE X.K xa W fb))
    (hs : swapsWithSole [.Subscript a b p1] c pos.line X.env = pure false) (hw : swappedStores [.Subscript a b p1] c X.env = pure none) (h1 : (assignEach [.Subscript a b p1] X.env).map (·.2) = [assign (.Subscript a b p1) X.env])
    (hasn : ∀ v, assign (.Subscript a b p1) X.env v = (do
      let ov ← holding [v] (eval a X.env)
      let iv ← holding [v, ov] (eval b X.env)
      standAt p1
      holding [v, ov, iv] (setItem ov iv v)
      release [v, ov, iv] [])) :
    PS X (.Assign [.Subscript a b p1] c pos) (denS X.K xa W fun ds st => (fc ds st).bindS ds fun x st1 => (fa ds st1).bindS ds fun y st2 => (fb ds st2).bindS ds fun z st3 => match setixF y z x st3 with
    | some st4 => .nx ds st4
    | none => .no) := by
  refine (ps_asg hcv (pg_sub ha hb (set_M hu) hasn) hs hw h1).imp fun En σ H h => ?_
  obtain ⟨ex, ρ, ds, st, M, S, q⟩ := h
  refine ⟨ex, ρ, ds, st, M, S, (PostS.bind S q).imp fun v H1 ⟨x, st1, ρ1, e1, M1, r1, q1⟩ => ?_⟩
  refine ⟨ex, ρ1, ds, st1, M1, S.ext e1, (PostS.bind (S.ext e1) q1).imp fun u H2 ⟨y, st2, ρ2, e2, M2, r2, q2⟩ => ?_⟩
  refine ⟨ex, ρ2, ds, st2, M2, (S.ext e1).ext e2, (PostS.bind ((S.ext e1).ext e2) q2).imp fun t H3 ⟨z, st3, ρ3, e3, M3, r3, q3⟩ => ?_⟩
  split at q3
  · rename_i st4 h4
    exact ok_setix M3 (r2.ext e3) r3 ((r1.ext e2).ext e3) h4 fun H' e4 M4 => q3 σ H' ρ3 e4 M4 ((((S.ext e1).ext e2).ext e3).ext e4)
  · exact q3.elim
end
end MP
end
section
set_option maxRecDepth 100000
set_option maxHeartbeats 4000000
/-! MP: the interpreter's texts held against the program's. -/
namespace MP
open PySem PySem.Spec PyProof.Rows L2
/-- what a text is held against -/
structure Gam where
  N : List Str
  sc : Scope
  fn : Nat → Option (Str × Nat)
  gl : Str → Option D
  exs : List Nat := []
def visB (sc : Scope) (x : Str) : Bool := match sc.names.lookup x with
  | some .local => true
  | some .cell => true
  | some .free => true
  | _ => false
def locB (sc : Scope) (x : Str) : Bool := match sc.names.lookup x with
  | some .local => true
  | some .cell => true
  | _ => false
def gloB (sc : Scope) (x : Str) : Bool := match sc.names.lookup x with
  | some .globalImplicit => true
  | _ => false
def okName (x : Str) : Bool := !(x == ("__debug__" : Str)) && !(x == ("__classdict__" : Str)) && !(x == ("__name__" : Str))
def sameC (d : D) (c : Const) : Bool := match d, c with
  | .non, .none => true
  | .bl a, .bool b => a == b
  | .int i, .int j => decide (i = j)
  | .str s, .str t => decide (s = t.cps.toList) && s.all (fun c => decide (c < 0x110000))
  | _, _ => false
mutual
def sameD : D → D → Bool
  | .non, .non => true
  | .bl a, .bl b => a == b
  | .int i, .int j => decide (i = j)
  | .str s, .str t => decide (s = t)
  | .tup xs, .tup ys => sameDs xs ys
  | _, _ => false
def sameDs : List D → List D → Bool
  | [], [] => true
  | x :: xs, y :: ys => sameD x y && sameDs xs ys
  | _, _ => false
end
def noSet (b : Expr) : Bool := match b with
  | .Set _ _ _ => false
  | _ => true
def noSlice (b : Expr) : Bool := match b with
  | .Slice _ _ _ _ => false
  | _ => true
def noComp (b : Expr) : Bool := match b with
  | .ListComp _ _ _ _ => false
  | .SetComp _ _ _ _ => false
  | .DictComp _ _ _ _ _ => false
  | _ => true
def okSet (b : Expr) : Bool := match b with
  | .SetComp _ _ _ _ => false
  | .DictComp _ _ _ _ _ => false
  | _ => true
def noBool (b : Expr) : Bool := match b with
  | .Call _ _ _ _ => true
  | _ => false
def noCall (b : Expr) : Bool := match b with
  | .Call _ _ _ _ => false
  | _ => true
/-- a built-in by its name: how many arguments -/
def bltOf : P → Option (Str × Nat)
  | .len => some ("len", 1)
  | .max2 => some ("max", 2)
  | .min2 => some ("min", 2)
  | .maxL => some ("max", 1)
  | .minL => some ("min", 1)
  | .sum => some ("sum", 1)
  | .list _ => some ("list", 1)
  | .int1 => some ("int", 1)
  | .abs => some ("abs", 1)
  | .all => some ("all", 1)
  | .sorted _ => some ("sorted", 1)
  | .str1 => some ("str", 1)
  | .dict _ => some ("dict", 1)
  | .dictL _ => some ("dict", 1)
  | _ => none
def bltNames : List Str := ["len", "max", "min", "sum", "list", "int", "abs", "all", "isinstance", "range", "bool", "str", "tuple", "dict", "sorted", "set", "enumerate", "ValueError"]
def bltArgs (sc : Scope) (p : P) (ex : Expr) : Option (List Expr) := match bltOf p with
  | some (x, n) => match ex with
    | .Call (.Name y _) as [] _ => if decide (y = x) && gloB sc y && as.all plainArg && decide (as.length = n) then some as else none
    | _ => none
  | none => none
/-- the parts of an expression that stands for a primitive -/
def argsP (sc : Scope) : P → Expr → Option (List Expr)
  | .op o, ex => match ex with
    | .BinOp l op r _ => if binOf o = some op then some [l, r] else none
    | .Compare l [op] [r] _ => if cmpOf o = some op ∧ noSet r = true then some [l, r] else none
    | _ => none
  | .neg, ex => match ex with
    | .UnaryOp .USub a _ => some [a]
    | _ => none
  | .isn, ex => match ex with
    | .Compare a [.Is] [.Constant .none _ _] _ => some [a]
    | _ => none
  | .notn, ex => match ex with
    | .Compare a [.IsNot] [.Constant .none _ _] _ => some [a]
    | _ => none
  | .tup, ex => match ex with
    | .Tuple es _ _ => if es.all plainArg = true then some es else none
    | _ => none
  | .lst _, ex => match ex with
    | .List es _ => if es.all plainArg = true then some es else none
    | _ => none
  | .dnew, ex => match ex with
    | .Dict [] [] _ => some []
    | _ => none
  | .ix, ex => match ex with
    | .Subscript a b _ => if noSlice b = true then some [a, b] else none
    | _ => none
  | .isi t, ex => match ex with
    | .Call (.Name f _) [a, .Name y _] [] _ => if decide (f = "isinstance") && gloB sc f && decide (y = (tyName t : Str)) && gloB sc y && plainArg a then some [a] else none
    | _ => none
  | .maxD, ex => match ex with
    | .Call (.Name f _) [a] [⟨some y, .Constant (.int 0) _ _, _⟩] _ => if decide (f = "max") && gloB sc f && decide (y = "default") && plainArg a then some [a] else none
    | _ => none
  | .lrng _, ex => match ex with
    | .Call (.Name f _) [.Call (.Name g _) [a, b] [] _] [] _ => if decide (f = "list") && gloB sc f && decide (g = "range") && gloB sc g && plainArg a && plainArg b then some [a, b] else none
    | _ => none
  | .nset, ex => match ex with
    | .Call (.Name f _) [.Call (.Name g _) [a] [] _] [] _ => if decide (f = "len") && gloB sc f && decide (g = "set") && gloB sc g && plainArg a then some [a] else none
    | _ => none
  | .kix ks, ex => match ex with
    | .Subscript (.Dict keys values _) e _ => if dictB ks keys values && !ks.isEmpty && decide (ks.length ≤ 15) && noSlice e then some [e] else none
    | _ => none
  | p, ex => bltArgs sc p ex
def mthOf : P → Option (Str × Nat)
  | .append => some ("append", 1)
  | .pop => some ("pop", 0)
  | .clear => some ("clear", 0)
  | .insert => some ("insert", 2)
  | .setd => some ("setdefault", 2)
  | .join => some ("join", 1)
  | .find => some ("find", 1)
  | .dget => some ("get", 1)
  | .dclr => some ("clear", 0)
  | .dpop => some ("pop", 2)
  | .dpop1 => some ("pop", 1)
  | .rev => some ("reverse", 0)
  | .index => some ("index", 1)
  | .sidx => some ("index", 1)
  | .lower => some ("lower", 0)
  | _ => none
/-- a method's receiver and arguments -/
def argsM (p : P) (ex : Expr) : Option (Expr × List Expr) := match mthOf p with
  | some (x, n) => match ex with
    | .Call (.Attribute o m apos) as [] pos => if decide (m = x) && as.all plainArg && decide (as.length = n) && noCall o && (apos.endLine == pos.line) then some (o, as) else none
    | _ => none
  | none => none
/-- the source of a loop -/
def argsI (sc : Scope) (k : SK) (ex : Expr) : Option (List Expr) := match k with
  | .rng1 => match ex with
    | .Call (.Name f _) [a] [] _ => if decide (f = "range") && gloB sc f && plainArg a then some [a] else none
    | _ => none
  | .rng2 => match ex with
    | .Call (.Name f _) [a, b] [] _ => if decide (f = "range") && gloB sc f && plainArg a && plainArg b then some [a, b] else none
    | _ => none
  | .it => if noSet ex then some [ex] else none
  | .itv => match ex with
    | .Name _ _ => some [ex]
    | _ => none
  | .itx => if noSet ex then some [ex] else none
def relS (scope sc : Scope) : Scope :=
  { scope with names := scope.names.map fun (n, k) => if (k == .free && sc.kind == .function && sc.names.lookup n == some .cell) then (n, .cell) else (n, k) }
def blkB (N : List Str) (sc scope : Scope) (x : Str) (v : Nat) : Bool :=
  decide (scope.kind = .function) && scope.names.all (fun y => decide (scope.names.lookup y.1 = some y.2)) && decide (N[v]? = some x) &&
  scope.names.all (fun y => decide (y.2 ≠ .free) || decide (sc.names.lookup y.1 = some .cell) || decide (sc.names.lookup y.1 = some .free)) &&
  scope.names.all (fun y => !(decide (y.2 = .local) || decide (y.2 = .cell)) || decide (y.1 = x) || decide (y.1 ∉ N)) && locB scope x
def isIx : List E → Bool
  | [.pr .ix [.var _, .k (.int _)]] => true
  | _ => false
def isVar : List E → Option Nat
  | [.var i] => some i
  | _ => none
mutual
def chkE (G : Gam) : E → Expr → Bool
  | .var i, ex => match ex with
    | .Name x _ => decide (G.N[i]? = some x) && visB G.sc x && okName x
    | _ => false
  | .k d, ex => match ex with
    | .Constant c _ _ => sameC d c
    | _ => false
  | .glob x d, ex => match ex with
    | .Name y _ => decide (y = x) && gloB G.sc x && okName x && (match G.gl x with | some d' => sameD d d' | none => false)
    | _ => false
  | .pr p es, ex => match argsP G.sc p ex with
    | some as => chkL G es as
    | none => false
  | .mth p o es, ex => match argsM p ex with
    | some (ob, as) => chkE G o ob && chkL G es as
    | none => false
  | .slc m hl hh a lo hi, ex => match ex with
    | .Subscript x (.Slice l h none _) _ => chkE G a x && (match l with | some l' => hl && chkE G lo l' | none => !hl) && (match h with | some h' => hh && chkE G hi h' | none => !hh)
    | _ => false
  | .and a b, ex => match ex with
    | .BoolOp .And [x, y] _ => chkE G a x && chkE G b y
    | .BoolOp .And (x :: y :: z :: r) pos => chkE G a x && chkE G b (.BoolOp .And (y :: z :: r) pos)
    | _ => false
  | .or a b, ex => match ex with
    | .BoolOp .Or [x, y] _ => chkE G a x && chkE G b y
    | .BoolOp .Or (x :: y :: z :: r) pos => chkE G a x && chkE G b (.BoolOp .Or (y :: z :: r) pos)
    | _ => false
  | .not a, ex => match ex with
    | .UnaryOp .Not x _ => chkE G a x
    | _ => false
  | .ife c a b, ex => match ex with
    | .IfExp t x y _ => chkE G c t && chkE G a x && chkE G b y
    | _ => false
  | .chain o o' a b c, ex => match ex with
    | .Compare x [op, op'] [y, z] _ => decide (cmpOf o = some op) && decide (cmpOf o' = some op') && noSet z && chkE G a x && chkE G b y && chkE G c z
    | _ => false
  | .call f _ es, ex => match ex with
    | .Call (.Name x _) as [] _ => match G.fn f with
      | some (y, n) => decide (x = y) && gloB G.sc x && okName x && as.all plainArg && decide (as.length = n) && chkL G es as
      | none => false
    | _ => false
  | .callM f es, ex => match ex with
    | .Call (.Name x _) as [] _ => match G.fn f with
      | some (y, n) => decide (x = y) && gloB G.sc x && okName x && as.all plainArg && decide (as.length = n) && chkL G es as
      | none => false
    | _ => false
  | .comp m v elt k src cond, ex => match ex with
    | .ListComp el [⟨.Name x _, iter, ifs, 0⟩] scope _ => match argsI G.sc k iter with
      | some as => chkL G src as && blkB G.N G.sc scope x v && chkE { G with sc := relS scope G.sc } elt el && (match k with | .itv => (isVar src).isSome | .itx => isIx src | _ => true) &&
        (match ifs with | [] => (match cond with | .k (.bl true) => true | _ => false) | [c] => chkE { G with sc := relS scope G.sc } cond c | _ => false)
      | none => false
    | _ => false
  | .exis _, _ => false
  | .exat, _ => false
def chkL (G : Gam) : List E → List Expr → Bool
  | [], xs => match xs with
    | [] => true
    | _ => false
  | e :: es, xs => match xs with
    | x :: xs => chkE G e x && chkL G es xs
    | [] => false
end
/-! ### except suites -/
def clsName : Nat → Str
  | 0 => "SlateError"
  | 1 => "BadPlace"
  | 2 => "BadFormula"
  | 3 => "TooGreat"
  | 4 => "NoRing"
  | 5 => "BadSize"
  | 6 => "Outside"
  | 7 => "BadSpan"
  | _ => "BadRow"
/-- what a suite's expressions are made of -/
def uP : P → Bool
  | .op _ => true
  | .int1 => true
  | .ix => true
  | .tup => true
  | .lst _ => true
  | _ => false
def isXB (G : Gam) (iv : Option Nat) (c : Nat) (ex : Expr) : Bool := match iv with
  | some i => match ex with
    | .Call (.Name f _) [.Name n _, .Name y _] [] _ => decide (f = "isinstance") && gloB G.sc f && decide (G.N[i]? = some n) && visB G.sc n && okName n && gloB G.sc y && okName y &&
        ((decide (c < 9) && decide (c ∈ G.exs) && decide (y = clsName c)) || (decide (c = 9) && decide (y = "ValueError")))
    | _ => false
  | none => false
mutual
def chkU (G : Gam) (iv : Option Nat) : E → Expr → Bool
  | .k d, ex => match ex with
    | .Constant c _ _ => sameC d c
    | _ => false
  | .var j, ex => match ex with
    | .Name x _ => decide (G.N[j]? = some x) && visB G.sc x && okName x
    | _ => false
  | .exis c, ex => isXB G iv c ex
  | .pr p es, ex => uP p && match argsP G.sc p ex with
    | some as => chkUL G iv es as
    | none => false
  | .and a b, ex => match ex with
    | .BoolOp .And [x, y] _ => chkU G iv a x && chkU G iv b y
    | .BoolOp .And (x :: y :: z :: r) pos => chkU G iv a x && chkU G iv b (.BoolOp .And (y :: z :: r) pos)
    | _ => false
  | _, _ => false
def chkUL (G : Gam) (iv : Option Nat) : List E → List Expr → Bool
  | [], xs => match xs with
    | [] => true
    | _ => false
  | e :: es, xs => match xs with
    | x :: xs => chkU G iv e x && chkUL G iv es xs
    | [] => false
end
mutual
def chkV (G : Gam) (iv : Option Nat) : S → Stmt → Bool
  | .set j e, st => match st with
    | .Assign [.Name x _] a _ => decide (iv ≠ some j) && decide (G.N[j]? = some x) && locB G.sc x && noComp a && chkU G iv e a
    | _ => false
  | .ret e, st => match st with
    | .Return (some a) _ => chkU G iv e a
    | _ => false
  | .ifs c a b, st => match st with
    | .If t x y _ => noBool t && chkU G iv c t && chkVs G iv a x && chkVs G iv b y
    | _ => false
  | _, _ => false
def chkVs (G : Gam) (iv : Option Nat) : List S → List Stmt → Bool
  | [], xs => match xs with
    | [] => true
    | _ => false
  | e :: es, xs => match xs with
    | x :: xs => chkV G iv e x && chkVs G iv es xs
    | [] => false
end
/-- an except clause's head -/
def hdB (G : Gam) (c : Nat) (x : Str) : Bool := decide (c < 9) && decide (c ∈ G.exs) && decide (x = clsName c) && gloB G.sc x && okName x
def chkH (G : Gam) : List S → List ExceptHandler → Bool
  | [], hs => match hs with
    | [] => true
    | _ => false
  | s :: r, hs => match s, hs with
    | .hd c none b, .ExceptHandler (some (.Name x _)) none (b0 :: su) _ :: hs => hdB G c x && chkVs G none b (b0 :: su) && chkH G r hs
    | .hd c (some i) b, .ExceptHandler (some (.Name x _)) (some n) (b0 :: su) _ :: hs => hdB G c x && decide (G.N[i]? = some n) && decide (G.sc.names.lookup n = some .local) && chkVs G (some i) b (b0 :: su) && chkH G r hs
    | _, _ => false
def chkA (G : Gam) (c : Nat) (v : Option Nat) (b : List S) (h : ExceptHandler) : Bool := match v, h with
  | some i, .ExceptHandler (some (.Name x _)) (some n) (b0 :: su) _ => hdB G c x && decide (G.N[i]? = some n) && decide (G.sc.names.lookup n = some .local) && chkVs G (some i) b (b0 :: su)
  | _, _ => false
/-- raise C("..") -/
def raiseB (G : Gam) (c : Nat) (m a : E) (st : Stmt) : Bool := match st with
  | .Raise (some (.Call (.Name x _) [.Constant (.str z) _ _] [] _)) none _ => hdB G c x && (match m, a with
    | .k (.str _), .k .non => true
    | _, _ => false)
  | _ => false
/-- is the comprehension's list stored in exchange -/
def swB (G : Gam) (value : Expr) (t : Str) (p : Pos) : Bool := match value with
  | .ListComp _ _ scope pos => (G.sc.kind == .function) && (G.sc.names.lookup t == some .local) && (p.line == pos.line) && !(scope.names.any fun (n, k) => n == t && (k == .local || k == .cell))
  | _ => false
mutual
def chkS (G : Gam) : S → Stmt → Bool
  | .set i e, st => match st with
    | .Assign [.Name x _] a _ => decide (G.N[i]? = some x) && locB G.sc x && okSet a && chkE G e a
    | _ => false
  | .setix o i v, st => match st with
    | .Assign [.Subscript a b _] c _ => chkE G o a && chkE G i b && chkE G v c && noSlice b
    | _ => false
  | .expr e, st => match st with
    | .Expr a _ => chkE G e a && noComp a
    | _ => false
  | .ret e, st => match st with
    | .Return (some a) _ => chkE G e a
    | _ => false
  | .ifs c a b, st => match st with
    | .If t x y _ => chkE G c t && chkB G a x && chkB G b y
    | _ => false
  | .whl c b, st => match st with
    | .While t x [] _ => chkE G c t && chkB G b x
    | _ => false
  | .for v k src b, st => match st with
    | .For (.Name x _) iter bd [] _ => match argsI G.sc k iter with
      | some as => chkL G src as && decide (G.N[v]? = some x) && locB G.sc x && chkB G b bd && (match k with | .itv => (isVar src).isSome | .itx => false | _ => true)
      | none => false
    | _ => false
  | .brk, st => match st with
    | .Break _ => true
    | _ => false
  | .cnt, st => match st with
    | .Continue _ => true
    | _ => false
  | .pass, st => match st with
    | .Pass _ => true
    | _ => false
  | .raise c m a, st => decide (c ≠ 2) && raiseB G c m a st
  | .tri b hs, st => match st with
    | .Try bd hds [] [] _ => chkB G b bd && (match hs, hds with
      | [.hd c v su], [h] => chkA G c v su h || chkH G [.hd c v su] [h]
      | s :: r, h :: hds => chkH G (s :: r) (h :: hds)
      | _, _ => false)
    | _ => false
  | .hd _ _ _, _ => false
  | .dead, _ => true
def chkB (G : Gam) : List S → List Stmt → Bool
  | [], xs => match xs with
    | [] => true
    | _ => false
  | e :: es, xs => match xs with
    | x :: xs => chkS G e x && chkB G es xs
    | [] => false
end
end MP
end
section
set_option maxRecDepth 100000
set_option maxHeartbeats 8000000
/-! MP: what is checked is walked: expressions. -/
namespace MP
open PySem PySem.Spec PyProof.Rows L2
structure Good (X : Cx) (xa : XA) (W : WX) (cl : Cl) (G : Gam) : Prop where
  names : X.N = G.N
  nd : X.N.Nodup
  sc : X.env.scope = G.sc
  calm : X.calm = true
  un2 : X.A.units + 90 < cLine
  blt : ∀ x ∈ bltNames, X.mg x = none
  gl : ∀ x d, G.gl x = some d → ∃ v u, X.mg x = some u ∧ RelV v u ∧ ∀ ex H ρ, Rep X.K ex H ρ d v
  fn : ∀ f x np, G.fn f = some (x, np) → CallFacts X xa cl f np x
  tk : Takes X W
theorem Good.un {X : Cx} {xa : XA} {W : WX} {cl : Cl} {G : Gam} (g : Good X xa W cl G) : X.A.units + 65 < cLine := by have := g.un2; omega
theorem vis_of {sc : Scope} {x : Str} (h : visB sc x = true) : Vis sc x := by
  unfold visB at h
  split at h <;> first | exact .inl ‹_› | exact .inr (.inl ‹_›) | exact .inr (.inr ‹_›) | cases h
theorem loc_of {sc : Scope} {x : Str} (h : locB sc x = true) : Loc sc x := by
  unfold locB at h
  split at h <;> first | exact .inl ‹_› | exact .inr ‹_› | cases h
theorem glo_of {sc : Scope} {x : Str} (h : gloB sc x = true) : sc.names.lookup x = some .globalImplicit := by
  unfold gloB at h
  split at h <;> first | assumption | cases h
theorem okName_of {x : Str} (h : okName x = true) : (x == ("__debug__" : Str)) = false ∧ (x == ("__classdict__" : Str)) = false ∧ x ≠ "__name__" := by
  unfold okName at h
  rw [Bool.and_eq_true, Bool.and_eq_true] at h
  refine ⟨by simpa using h.1.1, by simpa using h.1.2, by simpa using h.2⟩
theorem noSl_of {b : Expr} (h : noSlice b = true) : NoSl b := by
  intro ov iv
  cases b <;> first | rfl | (simp [noSlice] at h)
theorem plainIx_of {b : Expr} (h : noSlice b = true) : PlainIx b := by
  intro o i
  cases b <;> first | rfl | (simp [noSlice] at h)
theorem noSet_hm {b : Expr} (h : noSet b = true) (op : CmpOp) : behindInMarks op b = false := by
  cases b <;> first | rfl | (simp [noSet] at h)
theorem noSet_fold {e : Expr} (h : noSet e = true) (env : Env) (z : Value) : foldedSetIterable e env z = pure z := by
  cases e <;> first | rfl | (simp [noSet] at h)
mutual
theorem sameD_eq : ∀ {d e : D}, sameD d e = true → d = e
  | .non, .non, _ => rfl
  | .bl a, .bl b, h => by simp [sameD] at h; rw [h]
  | .int i, .int j, h => by simp [sameD] at h; rw [h]
  | .str s, .str t, h => by simp [sameD] at h; rw [h]
  | .tup xs, .tup ys, h => by
    have h' : sameDs xs ys = true := by simpa [sameD] using h
    rw [sameDs_eq h']
  | .non, .bl _, h => by simp [sameD] at h
  | .non, .int _, h => by simp [sameD] at h
  | .non, .str _, h => by simp [sameD] at h
  | .non, .tup _, h => by simp [sameD] at h
  | .bl _, .non, h => by simp [sameD] at h
  | .bl _, .int _, h => by simp [sameD] at h
  | .bl _, .str _, h => by simp [sameD] at h
  | .bl _, .tup _, h => by simp [sameD] at h
  | .int _, .non, h => by simp [sameD] at h
  | .int _, .bl _, h => by simp [sameD] at h
  | .int _, .str _, h => by simp [sameD] at h
  | .int _, .tup _, h => by simp [sameD] at h
  | .str _, .non, h => by simp [sameD] at h
  | .str _, .bl _, h => by simp [sameD] at h
  | .str _, .int _, h => by simp [sameD] at h
  | .str _, .tup _, h => by simp [sameD] at h
  | .tup _, .non, h => by simp [sameD] at h
  | .tup _, .bl _, h => by simp [sameD] at h
  | .tup _, .int _, h => by simp [sameD] at h
  | .tup _, .str _, h => by simp [sameD] at h
  | .lst _, _, h => by simp [sameD] at h
  | .dct _, _, h => by simp [sameD] at h
  | .scr _, _, h => by simp [sameD] at h
  | .ref _, _, h => by simp [sameD] at h
  | _, .lst _, h => by simp [sameD] at h
  | _, .dct _, h => by simp [sameD] at h
  | _, .scr _, h => by simp [sameD] at h
  | _, .ref _, h => by simp [sameD] at h
theorem sameDs_eq : ∀ {d e : List D}, sameDs d e = true → d = e
  | [], [], _ => rfl
  | x :: xs, y :: ys, h => by
    simp only [sameDs, Bool.and_eq_true] at h
    rw [sameD_eq h.1, sameDs_eq h.2]
  | [], _ :: _, h => by simp [sameDs] at h
  | _ :: _, [], h => by simp [sameDs] at h
end
/-! ### values of the built-ins -/
theorem bnd1 (cl : Cl) (e : E) (ds : DS) (st : Store) (f : List D → Store → RE) : (evL cl [e] ds st).bind f = (evE cl e ds st).bind fun x st1 => f [x] st1 := by
  simp only [evL]
  cases evE cl e ds st <;> rfl
theorem bnd2 (cl : Cl) (e e2 : E) (ds : DS) (st : Store) (f : List D → Store → RE) : (evL cl [e, e2] ds st).bind f = (evE cl e ds st).bind fun x st1 => (evE cl e2 ds st1).bind fun y st2 => f [x, y] st2 := by
  simp only [evL]
  cases evE cl e ds st with
  | ok x s =>
    simp only [R.bind_ok]
    cases evE cl e2 ds s <;> rfl
  | exc _ _ => rfl
  | no => rfl
section
variable {X : Cx} {xa : XA} {W : WX} {cl : Cl} {G : Gam}
/-- each is walked -/
def PEs (X : Cx) (xa : XA) (W : WX) (cl : Cl) : List E → List Expr → Prop
  | [], [] => True
  | e :: es, x :: xs => PE X x (denE X.K xa W (evE cl e)) ∧ PEs X xa W cl es xs
  | _, _ => False
theorem PEs.length : ∀ {es : List E} {xs : List Expr}, PEs X xa W cl es xs → es.length = xs.length
  | [], [], _ => rfl
  | _ :: _, _ :: _, h => congrArg (· + 1) (PEs.length h.2)
  | [], _ :: _, h => h.elim
  | _ :: _, [], h => h.elim
theorem PEs.pa : ∀ {es : List E} {xs : List Expr}, PEs X xa W cl es xs → xs.all plainArg = true → PA X xs (denL X.K xa W (evL cl es))
  | [], [], _, _ => den_nil
  | e :: es, x :: xs, h, p => by
    rw [List.all_cons, Bool.and_eq_true] at p
    have := den_cons h.1 (PEs.pa h.2 p.2) (star_cons p.1 _ _)
    exact this.imp fun σ H Q q => q
  | [], _ :: _, h, _ => h.elim
  | _ :: _, [], h, _ => h.elim
theorem evL_len (cl : Cl) : ∀ (es : List E) (ds : DS) (st : Store) (xs : List D) (st' : Store), evL cl es ds st = .ok xs st' → xs.length = es.length
  | [], ds, st, xs, st', h => by rw [evL] at h; cases h; rfl
  | e :: es, ds, st, xs, st', h => by
    rw [evL] at h
    cases h1 : evE cl e ds st with
    | ok d s =>
      rw [h1] at h
      simp only [R.bind_ok] at h
      cases h2 : evL cl es ds s with
      | ok ys s2 =>
        rw [h2] at h
        cases h
        exact congrArg (· + 1) (evL_len cl es ds _ ys _ h2)
      | exc _ _ => rw [h2] at h; cases h
      | no => rw [h2] at h; cases h
    | exc _ _ => rw [h1] at h; cases h
    | no => rw [h1] at h; cases h
theorem PEs.one {es : List E} {x : Expr} (h : PEs X xa W cl es [x]) : ∃ e, es = [e] ∧ PE X x (denE X.K xa W (evE cl e)) := by
  match es, h with
  | [e], h => exact ⟨e, rfl, h.1⟩
  | [], h => exact h.elim
  | _ :: _ :: _, h => exact h.2.elim
theorem PEs.two {es : List E} {x y : Expr} (h : PEs X xa W cl es [x, y]) : ∃ e f, es = [e, f] ∧ PE X x (denE X.K xa W (evE cl e)) ∧ PE X y (denE X.K xa W (evE cl f)) := by
  match es, h with
  | [e, f], h => exact ⟨e, f, rfl, h.1, h.2.1⟩
  | [], h => exact h.elim
  | [_], h => exact h.2.elim
  | _ :: _ :: _ :: _, h => exact h.2.2.elim
theorem Good.glob (g : Good X xa W cl G) {x : Str} (h : gloB G.sc x = true) : Gl X x := by
  show X.env.scope.names.lookup x = _
  rw [g.sc]
  exact glo_of h
theorem bootL_max : bootBuiltins "max" = some (.builtin "max") := by decide +kernel
theorem bootL_min : bootBuiltins "min" = some (.builtin "min") := by decide +kernel
theorem bootL_sum : bootBuiltins "sum" = some (.builtin "sum") := by decide +kernel
theorem bootL_len : bootBuiltins "len" = some (.builtin "len") := by decide +kernel
theorem bootL_abs : bootBuiltins "abs" = some (.builtin "abs") := by decide +kernel
theorem bootL_all : bootBuiltins "all" = some (.builtin "all") := by decide +kernel
theorem bootL_list : bootBuiltins "list" = some (.type "list") := by decide +kernel
theorem bootL_int : bootBuiltins "int" = some (.type "int") := by decide +kernel
theorem bootL_sorted : bootBuiltins "sorted" = some (.builtin "sorted") := by decide +kernel
theorem bootL_str : bootBuiltins "str" = some (.type "str") := by decide +kernel
theorem bootL_dict : bootBuiltins "dict" = some (.type "dict") := by decide +kernel
theorem bootL_ty (t : Ty) : bootBuiltins (tyName t) = some (.type (tyName t)) := by cases t <;> decide +kernel
theorem ty_blt (t : Ty) : (tyName t : Str) ∈ bltNames := by cases t <;> decide +kernel
theorem ty_nm (t : Ty) : (tyName t : Str) ≠ "__name__" ∧ ((tyName t : Str) == ("__debug__" : Str)) = false := by cases t <;> decide +kernel
theorem blt_args {sc : Scope} {p : P} {ex : Expr} {as : List Expr} (h : bltArgs sc p ex = some as) : ∃ x n p1 pos, bltOf p = some (x, n) ∧ ex = .Call (.Name x p1) as [] pos ∧ gloB sc x = true ∧ as.all plainArg = true ∧ as.length = n := by
  unfold bltArgs at h
  split at h
  · rename_i x n hb
    split at h
    · rename_i y p1 as' pos
      split at h
      · rename_i hc
        simp only [Bool.and_eq_true, decide_eq_true_eq] at hc
        cases h
        obtain ⟨⟨⟨rfl, h2⟩, h3⟩, h4⟩ := hc
        exact ⟨_, n, p1, pos, hb, rfl, h2, h3, h4⟩
      · cases h
    · cases h
  · cases h
theorem len_one {α : Type} {as : List α} (h : as.length = 1) : ∃ a, as = [a] := List.length_eq_one_iff.mp h
theorem len_two {α : Type} {as : List α} (h : as.length = 2) : ∃ a b, as = [a, b] := by
  match as, h with
  | [a, b], _ => exact ⟨a, b, rfl⟩
theorem blt_ok (g : Good X xa W cl G) {p : P} {es : List E} {ex : Expr} {as : List Expr} (h : bltArgs G.sc p ex = some as) (hp : PEs X xa W cl es as) : PE X ex (denE X.K xa W fun ds st => (evL cl es ds st).bind fun xs st' => primF p xs st') := by
  obtain ⟨x, n, p1, pos, hb, rfl, hg, ha, hl⟩ := blt_args h
  have hgl := g.glob hg
  cases p with
  | len =>
    cases hb
    obtain ⟨a, rfl⟩ := len_one hl
    obtain ⟨e, rfl, he⟩ := hp.one
    simp only [List.all_cons, List.all_nil, Bool.and_true] at ha
    have := den_B1 (pos := pos) (p1 := p1) (call_lenM) (ok_len (K := X.K)) hgl (g.blt _ (by decide)) bootL_len (by decide) (by decide) ha he
    exact this.imp fun σ H Q q => by simp only [bnd1] at q; exact q
  | max2 =>
    cases hb
    obtain ⟨a, b, rfl⟩ := len_two hl
    obtain ⟨e, f, rfl, he, hf⟩ := hp.two
    simp only [List.all_cons, List.all_nil, Bool.and_true, Bool.and_eq_true] at ha
    have := den_B2 (pos := pos) (p1 := p1) (call_max2 g.calm) (ok_max2 (K := X.K)) hgl (g.blt _ (by decide)) bootL_max (by decide) (by decide) ha.1 ha.2 he hf
    exact this.imp fun σ H Q q => by simp only [bnd2] at q; exact q
  | min2 =>
    cases hb
    obtain ⟨a, b, rfl⟩ := len_two hl
    obtain ⟨e, f, rfl, he, hf⟩ := hp.two
    simp only [List.all_cons, List.all_nil, Bool.and_true, Bool.and_eq_true] at ha
    have := den_B2 (pos := pos) (p1 := p1) (call_min2 g.calm) (ok_min2 (K := X.K)) hgl (g.blt _ (by decide)) bootL_min (by decide) (by decide) ha.1 ha.2 he hf
    exact this.imp fun σ H Q q => by simp only [bnd2] at q; exact q
  | maxL =>
    cases hb
    obtain ⟨a, rfl⟩ := len_one hl
    obtain ⟨e, rfl, he⟩ := hp.one
    simp only [List.all_cons, List.all_nil, Bool.and_true] at ha
    have := den_B1 (pos := pos) (p1 := p1) (cr_max g.calm) (ok_maxL (K := X.K)) hgl (g.blt _ (by decide)) bootL_max (by decide) (by decide) ha he
    exact this.imp fun σ H Q q => by simp only [bnd1] at q; exact q
  | minL =>
    cases hb
    obtain ⟨a, rfl⟩ := len_one hl
    obtain ⟨e, rfl, he⟩ := hp.one
    simp only [List.all_cons, List.all_nil, Bool.and_true] at ha
    have := den_B1 (pos := pos) (p1 := p1) (CallR.or (cr_min g.calm) (call_minP g.calm g.un)) (ok_minL (K := X.K)) hgl (g.blt _ (by decide)) bootL_min (by decide) (by decide) ha he
    exact this.imp fun σ H Q q => by simp only [bnd1] at q; exact q
  | sum =>
    cases hb
    obtain ⟨a, rfl⟩ := len_one hl
    obtain ⟨e, rfl, he⟩ := hp.one
    simp only [List.all_cons, List.all_nil, Bool.and_true] at ha
    have := den_B1 (pos := pos) (p1 := p1) (cr_sum g.calm) (ok_sum (K := X.K)) hgl (g.blt _ (by decide)) bootL_sum (by decide) (by decide) ha he
    exact this.imp fun σ H Q q => by simp only [bnd1] at q; exact q
  | all =>
    cases hb
    obtain ⟨a, rfl⟩ := len_one hl
    obtain ⟨e, rfl, he⟩ := hp.one
    simp only [List.all_cons, List.all_nil, Bool.and_true] at ha
    have := den_B1 (pos := pos) (p1 := p1) (cr_all g.calm) (ok_all (K := X.K)) hgl (g.blt _ (by decide)) bootL_all (by decide) (by decide) ha he
    exact this.imp fun σ H Q q => by simp only [bnd1] at q; exact q
  | abs =>
    cases hb
    obtain ⟨a, rfl⟩ := len_one hl
    obtain ⟨e, rfl, he⟩ := hp.one
    simp only [List.all_cons, List.all_nil, Bool.and_true] at ha
    have := den_B1 (pos := pos) (p1 := p1) call_abs (ok_abs (K := X.K)) hgl (g.blt _ (by decide)) bootL_abs (by decide) (by decide) ha he
    exact this.imp fun σ H Q q => by simp only [bnd1] at q; exact q
  | list m =>
    cases hb
    obtain ⟨a, rfl⟩ := len_one hl
    obtain ⟨e, rfl, he⟩ := hp.one
    simp only [List.all_cons, List.all_nil, Bool.and_true] at ha
    have := den_T1 (pos := pos) (p1 := p1) (call_listM g.calm) (ok_list (K := X.K) m) hgl (g.blt _ (by decide)) bootL_list (by decide) (by decide) ha he
    exact this.imp fun σ H Q q => by simp only [bnd1] at q; exact q
  | sorted m =>
    cases hb
    obtain ⟨a, rfl⟩ := len_one hl
    obtain ⟨e, rfl, he⟩ := hp.one
    simp only [List.all_cons, List.all_nil, Bool.and_true] at ha
    have := den_B1 (pos := pos) (p1 := p1) (CallR.or cr_sortedPO (call_sortDT g.calm)) (ok_sortedM (K := X.K) m) hgl (g.blt _ (by decide)) bootL_sorted (by decide) (by decide) ha he
    exact this.imp fun σ H Q q => by simp only [bnd1] at q; exact q
  | dict m =>
    cases hb
    obtain ⟨a, rfl⟩ := len_one hl
    obtain ⟨e, rfl, he⟩ := hp.one
    simp only [List.all_cons, List.all_nil, Bool.and_true] at ha
    have := den_T1 (pos := pos) (p1 := p1) (call_dictT g.un) (ok_dict (K := X.K) m) hgl (g.blt _ (by decide)) bootL_dict (by decide) (by decide) ha he
    exact this.imp fun σ H Q q => by simp only [bnd1] at q; exact q
  | dictL m =>
    cases hb
    obtain ⟨a, rfl⟩ := len_one hl
    obtain ⟨e, rfl, he⟩ := hp.one
    simp only [List.all_cons, List.all_nil, Bool.and_true] at ha
    have := den_T1 (pos := pos) (p1 := p1) (call_dictLT g.calm g.un) (ok_dictL (K := X.K) m) hgl (g.blt _ (by decide)) bootL_dict (by decide) (by decide) ha he
    exact this.imp fun σ H Q q => by simp only [bnd1] at q; exact q
  | str1 =>
    cases hb
    obtain ⟨a, rfl⟩ := len_one hl
    obtain ⟨e, rfl, he⟩ := hp.one
    simp only [List.all_cons, List.all_nil, Bool.and_true] at ha
    have := den_T1 (pos := pos) (p1 := p1) call_strM (ok_str1 (K := X.K)) hgl (g.blt _ (by decide)) bootL_str (by decide) (by decide) ha he
    exact this.imp fun σ H Q q => by simp only [bnd1] at q; exact q
  | int1 =>
    cases hb
    obtain ⟨a, rfl⟩ := len_one hl
    obtain ⟨e, rfl, he⟩ := hp.one
    simp only [List.all_cons, List.all_nil, Bool.and_true] at ha
    have := den_T1 (pos := pos) (p1 := p1) call_intM (ok_int1 (K := X.K)) hgl (g.blt _ (by decide)) bootL_int (by decide) (by decide) ha he
    exact this.imp fun σ H Q q => by simp only [bnd1] at q; exact q
  | _ => simp [bltOf] at hb
end
end MP
end
section
set_option maxRecDepth 100000
set_option maxHeartbeats 8000000
/-! MP: what is checked is walked: expressions, in one. -/
namespace MP
open PySem PySem.Spec PyProof.Rows L2
section
variable {X : Cx} {xa : XA} {W : WX} {cl : Cl} {G : Gam}
theorem prim_ok (g : Good X xa W cl G) {p : P} {es : List E} {ex : Expr} {as : List Expr} (h : argsP G.sc p ex = some as) (hp : PEs X xa W cl es as) : PE X ex (denE X.K xa W fun ds st => (evL cl es ds st).bind fun xs st' => primF p xs st') := by
  unfold argsP at h
  split at h
  · rename_i o ex
    split at h
    · rename_i l op r pos
      split at h
      · rename_i hb
        cases h
        obtain ⟨e, f, rfl, he, hf⟩ := hp.two
        obtain ⟨rr, h1, h2⟩ := bin_ok (X := X) hb
        exact (den_op (pos := pos) h1 h2 he hf).imp fun σ H Q q => by simp only [bnd2] at q; exact q
      · cases h
    · rename_i l op r pos
      split at h
      · rename_i hb
        cases h
        obtain ⟨e, f, rfl, he, hf⟩ := hp.two
        obtain ⟨rr, h1, h2⟩ := cmp_ok (X := X) g.un2 hb.1
        exact (den_cmp (pos := pos) h1 h2 he hf (noSet_hm hb.2 _)).imp fun σ H Q q => by simp only [bnd2] at q; exact q
      · cases h
    · cases h
  · rename_i ex
    split at h
    · rename_i a pos
      cases h
      obtain ⟨e, rfl, he⟩ := hp.one
      exact (den_neg (pos := pos) he).imp fun σ H Q q => by simp only [bnd1] at q; exact q
    · cases h
  · rename_i ex
    split at h
    · rename_i a k p2 pos
      cases h
      obtain ⟨e, rfl, he⟩ := hp.one
      exact (den_isn (neg := false) (pos := pos) he).imp fun σ H Q q => by simp only [bnd1] at q; exact q
    · cases h
  · rename_i ex
    split at h
    · rename_i a k p2 pos
      cases h
      obtain ⟨e, rfl, he⟩ := hp.one
      exact (den_isn (neg := true) (pos := pos) he).imp fun σ H Q q => by simp only [bnd1] at q; exact q
    · cases h
  · rename_i ex
    split at h
    · split at h
      · rename_i hb
        cases h
        exact den_tup (hp.pa hb)
      · cases h
    · cases h
  · rename_i m ex
    split at h
    · split at h
      · rename_i hb
        cases h
        exact den_lst (hp.pa hb)
      · cases h
    · cases h
  · rename_i ex
    split at h
    · cases h
      match es, hp with
      | [], _ => exact den_dnew.imp fun σ H Q q => by simp only [evL] at q; exact q
    · cases h
  · rename_i ex
    split at h
    · rename_i a b pos
      split at h
      · rename_i hb
        cases h
        obtain ⟨e, f, rfl, he, hf⟩ := hp.two
        exact (den_ix (pos := pos) g.un he hf (plainIx_of hb)).imp fun σ H Q q => by simp only [bnd2] at q; exact q
      · cases h
    · cases h
  · rename_i ex t
    split at h
    · rename_i f p1 a y p2 pos
      split at h
      · rename_i hb
        cases h
        obtain ⟨e, rfl, he⟩ := hp.one
        simp only [Bool.and_eq_true, decide_eq_true_eq] at hb
        obtain ⟨⟨⟨⟨rfl, h2⟩, rfl⟩, h4⟩, h5⟩ := hb
        exact (den_isi (t := t) (pos := pos) (p1 := p1) (p2 := p2) (g.glob h2) (g.blt _ (by decide)) (g.glob h4) (g.blt _ (ty_blt t)) (bootL_ty t) (ty_nm t).1 (ty_nm t).2 h5 he).imp fun σ H Q q => by simp only [bnd1] at q; exact q
      · cases h
    · cases h
  · rename_i ex
    split at h
    · rename_i f p1 a y k p2 p3 pos
      split at h
      · rename_i hb
        cases h
        obtain ⟨e, rfl, he⟩ := hp.one
        simp only [Bool.and_eq_true, decide_eq_true_eq] at hb
        obtain ⟨⟨⟨rfl, h2⟩, rfl⟩, h5⟩ := hb
        exact (den_maxD (k := k) (pos := pos) (p1 := p1) (p2 := p2) (p3 := p3) g.calm (g.glob h2) (g.blt _ (by decide)) bootL_max h5 he).imp fun σ H Q q => by simp only [bnd1] at q; exact q
      · cases h
    · cases h
  · rename_i ex m
    split at h
    · rename_i f p1 g' p2 a b p3 pos
      split at h
      · rename_i hb
        cases h
        obtain ⟨e, f, rfl, he, hf⟩ := hp.two
        simp only [Bool.and_eq_true, decide_eq_true_eq] at hb
        obtain ⟨⟨⟨⟨⟨rfl, h2⟩, rfl⟩, h4⟩, h5⟩, h6⟩ := hb
        exact (den_lrng (m := m) (pos := pos) (p1 := p1) (p2 := p2) (p3 := p3) g.calm (g.glob h2) (g.blt _ (by decide)) (g.glob h4) (g.blt _ (by decide)) h5 h6 he hf).imp fun σ H Q q => by simp only [bnd2] at q; exact q
      · cases h
    · cases h
  · rename_i ex
    split at h
    · rename_i f p1 g' p2 a p3 pos
      split at h
      · rename_i hb
        cases h
        obtain ⟨e, rfl, he⟩ := hp.one
        simp only [Bool.and_eq_true, decide_eq_true_eq] at hb
        obtain ⟨⟨⟨⟨rfl, h2⟩, rfl⟩, h4⟩, h5⟩ := hb
        exact (den_nset (pos := pos) (p1 := p1) (p2 := p2) (p3 := p3) g.calm g.un (g.glob h2) (g.blt _ (by decide)) (g.glob h4) (g.blt _ (by decide)) h5 he).imp fun σ H Q q => by simp only [bnd1] at q; exact q
      · cases h
    · cases h
  · rename_i ex ks
    split at h
    · rename_i keys values p1 e' pos
      split at h
      · rename_i hb
        cases h
        obtain ⟨e, rfl, he⟩ := hp.one
        simp only [Bool.and_eq_true, decide_eq_true_eq] at hb
        obtain ⟨⟨⟨h1, h2⟩, h3⟩, h4⟩ := hb
        exact (den_kix (pos := pos) (p1 := p1) g.un h1 (by intro z; rw [z] at h2; cases h2) h3 (noSl_of h4) he).imp fun σ H Q q => by simp only [bnd1] at q; exact q
      · cases h
    · cases h
  · exact blt_ok g h hp
theorem meth_ok (g : Good X xa W cl G) {p : P} {o : E} {es : List E} {ex ob : Expr} {as : List Expr} (h : argsM p ex = some (ob, as)) (ho : PE X ob (denE X.K xa W (evE cl o))) (hp : PEs X xa W cl es as) :
    PE X ex (denE X.K xa W (evE cl (.mth p o es))) := by
  unfold argsM at h
  split at h
  · rename_i x n hb
    split at h
    · rename_i o' m apos as' pos
      split at h
      · rename_i hc
        cases h
        simp only [Bool.and_eq_true, decide_eq_true_eq] at hc
        obtain ⟨⟨⟨⟨rfl, h2⟩, h3⟩, h4⟩, h5⟩ := hc
        have hbase : ∀ w, attributeBase ob m X.env w = w := fun w => base_of (by cases ob <;> first | trivial | simp [noCall] at h4) X.env w
        cases p with
        | append =>
          cases hb
          obtain ⟨a, rfl⟩ := len_one h3
          obtain ⟨e, rfl, he⟩ := hp.one
          simp only [List.all_cons, List.all_nil, Bool.and_true] at h2
          refine (den_mth1 (p := .append) (T := "list") (id := "list.append") F.plainAttrs_list F.slot_list_append F.type_list_append mt_append (fun M r k => okRecv_lst M r k) (fun M r1 r2 q => ok_append M r1 r2 q) hbase h2 h5 ho he).imp fun σ H Q q => ?_
          simp only [evE, bnd1] at q
          exact q
        | pop =>
          cases hb
          match as, h3, hp with
          | [], _, hp =>
            match es, hp with
            | [], _ =>
              refine (den_mth0 (p := .pop) (T := "list") (id := "list.pop") F.plainAttrs_list F.slot_list_pop F.type_list_pop mt_pop (fun M r k => okRecv_lst M r k) (fun M r1 q => ok_pop M r1 q) hbase h5 ho).imp fun σ H Q q => ?_
              simp only [evE, evL, R.bind_ok] at q
              exact q
        | clear =>
          cases hb
          match as, h3, hp with
          | [], _, hp =>
            match es, hp with
            | [], _ =>
              refine (den_mth0 (p := .clear) (T := "list") (id := "list.clear") F.plainAttrs_list F.slot_list_clear F.type_list_clear mt_clear (fun M r k => okRecv_lst M r k) (fun M r1 q => ok_clear M r1 q) hbase h5 ho).imp fun σ H Q q => ?_
              simp only [evE, evL, R.bind_ok] at q
              exact q
        | insert =>
          cases hb
          obtain ⟨a, b, rfl⟩ := len_two h3
          obtain ⟨e, f, rfl, he, hf⟩ := hp.two
          simp only [List.all_cons, List.all_nil, Bool.and_true, Bool.and_eq_true] at h2
          refine (den_mth2 (p := .insert) (T := "list") (id := "list.insert") F.plainAttrs_list F.slot_list_insert F.type_list_insert mt_insert (fun M r k => okRecv_lst M r k) (fun M r1 r2 r3 q => ok_insert M r1 r2 r3 q) hbase h2.1 h2.2 h5 ho he hf).imp fun σ H Q q => ?_
          simp only [evE, bnd2] at q
          exact q
        | setd =>
          cases hb
          obtain ⟨a, b, rfl⟩ := len_two h3
          obtain ⟨e, f, rfl, he, hf⟩ := hp.two
          simp only [List.all_cons, List.all_nil, Bool.and_true, Bool.and_eq_true] at h2
          refine (den_mth2 (p := .setd) (T := "dict") (id := "dict.setdefault") F.plainAttrs_dict F.slot_dict_setdefault F.type_dict_setdefault (mt_setT g.un) (fun M r k => okRecv_dctU M r k) (fun M r1 r2 r3 q => ok_setd M r1 r2 r3 q) hbase h2.1 h2.2 h5 ho he hf).imp fun σ H Q q => ?_
          simp only [evE, bnd2] at q
          exact q
        | join =>
          cases hb
          obtain ⟨a, rfl⟩ := len_one h3
          obtain ⟨e, rfl, he⟩ := hp.one
          simp only [List.all_cons, List.all_nil, Bool.and_true] at h2
          refine (den_mth1 (p := .join) (T := "str") (id := "str.join") F.plainAttrs_str F.slot_str_join F.type_str_join mt_join (fun M r k => by obtain ⟨s, _, rfl, _⟩ := okRecv_join M r k; exact rfl) (fun M r1 r2 q => ok_join M r1 r2 q) hbase h2 h5 ho he).imp fun σ H Q q => ?_
          simp only [evE, bnd1] at q
          exact q
        | find =>
          cases hb
          obtain ⟨a, rfl⟩ := len_one h3
          obtain ⟨e, rfl, he⟩ := hp.one
          simp only [List.all_cons, List.all_nil, Bool.and_true] at h2
          refine (den_mth1 (p := .find) (T := "str") (id := "str.find") F.plainAttrs_str F.slot_str_find F.type_str_find mt_find (fun M r k => by obtain ⟨s, _, rfl, _⟩ := okRecv_find M r k; exact rfl) (fun M r1 r2 q => ok_find M r1 r2 q) hbase h2 h5 ho he).imp fun σ H Q q => ?_
          simp only [evE, bnd1] at q
          exact q
        | dget =>
          cases hb
          obtain ⟨a, rfl⟩ := len_one h3
          obtain ⟨e, rfl, he⟩ := hp.one
          simp only [List.all_cons, List.all_nil, Bool.and_true] at h2
          refine (den_dget g.un hbase h2 h5 ho he).imp fun σ H Q q => ?_
          simp only [evE, bnd1] at q
          exact q
        | dclr =>
          cases hb
          match as, h3, hp with
          | [], _, hp =>
            match es, hp with
            | [], _ =>
              refine (den_mth0 (p := .dclr) (T := "dict") (id := "dict.clear") F.plainAttrs_dict F.slot_dict_clear F.type_dict_clear mt_dclrT (fun M r k => okRecv_dctC (.inl rfl) M r k) (fun M r1 q => ok_dclr M r1 q) hbase h5 ho).imp fun σ H Q q => ?_
              simp only [evE, evL, R.bind_ok] at q
              exact q
        | rev =>
          cases hb
          match as, h3, hp with
          | [], _, hp =>
            match es, hp with
            | [], _ =>
              refine (den_mth0 (p := .rev) (T := "list") (id := "list.reverse") F.plainAttrs_list F.slot_list_reverse F.type_list_reverse mt_reverse (fun M r k => okRecv_rev M r k) (fun M r1 q => ok_rev M r1 q) hbase h5 ho).imp fun σ H Q q => ?_
              simp only [evE, evL, R.bind_ok] at q
              exact q
        | lower =>
          cases hb
          match as, h3, hp with
          | [], _, hp =>
            match es, hp with
            | [], _ =>
              refine (den_mth0 (p := .lower) (T := "str") (id := "str.lower") F.plainAttrs_str F.slot_str_lower F.type_str_lower mt_lower (fun M r k => by obtain ⟨s, _, rfl, _⟩ := okRecv_str (.inl rfl) M r k; exact rfl) (fun M r1 q => ok_lower M r1 q) hbase h5 ho).imp fun σ H Q q => ?_
              simp only [evE, evL, R.bind_ok] at q
              exact q
        | dpop1 =>
          cases hb
          obtain ⟨a, rfl⟩ := len_one h3
          obtain ⟨e, rfl, he⟩ := hp.one
          simp only [List.all_cons, List.all_nil, Bool.and_true] at h2
          refine (den_mth1 (p := .dpop1) (T := "dict") (id := "dict.pop") F.plainAttrs_dict F.slot_dict_pop F.type_dict_pop (mt_popT1 g.un) (fun M r k => okRecv_dctC (.inr (.inr rfl)) M r k) (fun M r1 r2 q => ok_dpop1 M r1 r2 q) hbase h2 h5 ho he).imp fun σ H Q q => ?_
          simp only [evE, bnd1] at q
          exact q
        | sidx =>
          cases hb
          obtain ⟨a, rfl⟩ := len_one h3
          obtain ⟨e, rfl, he⟩ := hp.one
          simp only [List.all_cons, List.all_nil, Bool.and_true] at h2
          refine (den_mth1 (p := .sidx) (T := "str") (id := "str.index") F.plainAttrs_str F.slot_str_index F.type_str_index mt_sindex (fun M r k => by obtain ⟨s, _, rfl, _⟩ := okRecv_str (.inr rfl) M r k; exact rfl) (fun M r1 r2 q => ok_sidx M r1 r2 q) hbase h2 h5 ho he).imp fun σ H Q q => ?_
          simp only [evE, bnd1] at q
          exact q
        | index =>
          cases hb
          obtain ⟨a, rfl⟩ := len_one h3
          obtain ⟨e, rfl, he⟩ := hp.one
          simp only [List.all_cons, List.all_nil, Bool.and_true] at h2
          refine (den_mth1 (p := .index) (T := "list") (id := "list.index") F.plainAttrs_list F.slot_list_index F.type_list_index (mt_indexD g.un) (fun M r k => okRecv_idx M r k) (fun M r1 r2 q => ok_index M r1 r2 q) hbase h2 h5 ho he).imp fun σ H Q q => ?_
          simp only [evE, bnd1] at q
          exact q
        | dpop =>
          cases hb
          obtain ⟨a, b, rfl⟩ := len_two h3
          obtain ⟨e, f, rfl, he, hf⟩ := hp.two
          simp only [List.all_cons, List.all_nil, Bool.and_true, Bool.and_eq_true] at h2
          refine (den_mth2 (p := .dpop) (T := "dict") (id := "dict.pop") F.plainAttrs_dict F.slot_dict_pop F.type_dict_pop (DX.mt_popT (by have := g.un; omega)) (fun M r k => okRecv_dctC (.inr (.inl rfl)) M r k) (fun M r1 r2 r3 q => ok_dpop M r1 r2 r3 q) hbase h2.1 h2.2 h5 ho he hf).imp fun σ H Q q => ?_
          simp only [evE, bnd2] at q
          exact q
        | _ => simp [mthOf] at hb
      · cases h
    · cases h
  · cases h
/-! ### sources -/
theorem evL_one (cl : Cl) (e : E) : evL cl [e] = one (evE cl e) := by
  funext ds st
  simp only [evL, one]
  cases evE cl e ds st <;> rfl
theorem evL_two (cl : Cl) (e e2 : E) : evL cl [e, e2] = two (evE cl e) (evE cl e2) := by
  funext ds st
  simp only [evL, two]
  cases evE cl e ds st with
  | ok x s =>
    simp only [R.bind_ok]
    cases evE cl e2 ds s <;> rfl
  | exc _ _ => rfl
  | no => rfl
theorem src_ok (g : Good X xa W cl G) {tg : Expr} {k : SK} {es : List E} {ex : Expr} {as : List Expr} (h : argsI G.sc k ex = some as) (hk : k ≠ .itv) (hkx : k ≠ .itx) (hp : PEs X xa W cl es as) : SrcOk X xa W tg ex k (evL cl es) ∧ ∀ z, foldedSetIterable ex X.env z = pure z := by
  unfold argsI at h
  split at h
  · split at h
    · rename_i f p1 a pos
      split at h
      · rename_i hb
        cases h
        obtain ⟨e, rfl, he⟩ := hp.one
        simp only [Bool.and_eq_true, decide_eq_true_eq] at hb
        obtain ⟨⟨rfl, h2⟩, h3⟩ := hb
        rw [evL_one]
        exact ⟨src_rng1 (g.glob h2) (g.blt _ (by decide)) h3 he, fun _ => rfl⟩
      · cases h
    · cases h
  · split at h
    · rename_i f p1 a b pos
      split at h
      · rename_i hb
        cases h
        obtain ⟨e, f, rfl, he, hf⟩ := hp.two
        simp only [Bool.and_eq_true, decide_eq_true_eq] at hb
        obtain ⟨⟨⟨rfl, h2⟩, h3⟩, h4⟩ := hb
        rw [evL_two]
        exact ⟨src_rng2 (g.glob h2) (g.blt _ (by decide)) h3 h4 he hf, fun _ => rfl⟩
      · cases h
    · cases h
  · split at h
    · rename_i hb
      cases h
      obtain ⟨e, rfl, he⟩ := hp.one
      rw [evL_one]
      exact ⟨src_it he, fun z => noSet_fold hb _ z⟩
    · cases h
  · exact absurd rfl hk
  · exact absurd rfl hkx
theorem isIx_eq {src : List E} (h : isIx src = true) : ∃ i c, src = [.pr .ix [.var i, .k (.int c)]] := by
  unfold isIx at h
  split at h
  · exact ⟨_, _, rfl⟩
  · cases h
theorem ix_src (cl : Cl) (w : Nat) (c : Int) : LockSrc (evE cl (.pr .ix [.var w, .k (.int c)])) ∧ ∀ ds st e st', evE cl (.pr .ix [.var w, .k (.int c)]) ds st ≠ .exc e st' := by
  have key : ∀ ds st, evE cl (.pr .ix [.var w, .k (.int c)]) ds st = match ds[w]? with
      | some (some d) => prim2F .ix d (.int c) st
      | _ => .no := fun ds st => by
    simp only [evE, evL]
    rcases ds[w]? with _ | _ | d <;> simp [primF]
  have of_ok : ∀ {st st' : Store} {o : Option D} {d : D}, ofO st o = .ok d st' → o = some d ∧ st' = st := fun {st st' o d} h => by
    cases o with
    | none => simp [ofO] at h
    | some x => simp only [ofO_some, R.ok.injEq] at h; exact ⟨by rw [h.1], h.2.symm⟩
  have pl0 : plOf (.int c) = none := rfl
  refine ⟨fun ds st d st' h => ?_, fun ds st e st' h => ?_⟩
  · rw [key] at h
    split at h
    · rename_i x hx
      unfold prim2F at h
      simp only [pl0] at h
      cases x with
      | str s =>
        simp only at h
        split at h
        · obtain ⟨h1, rfl⟩ := of_ok h
          refine ⟨rfl, fun n xs e => ?_⟩
          obtain ⟨q, _, hq⟩ := Option.map_eq_some_iff.mp h1
          rw [e] at hq
          simp [oneS] at hq
        · simp at h
      | ref k =>
        simp only at h
        split at h
        · simp at h
        · rename_i hd
          split at h
          · rename_i ys j hs hj
            cases hj
            obtain ⟨h1, rfl⟩ := of_ok h
            refine ⟨rfl, fun n xs e hn => ?_⟩
            subst e
            rw [key, hx]
            unfold prim2F
            have hlen : n < st'.length := (List.getElem?_eq_some_iff.mp hn).1
            have e1 : dctOf (st'.set n (.lckL xs)) (.ref k) = none := by
              simp only [dctOf] at hd ⊢
              by_cases e : n = k
              · subst e; rw [List.getElem?_set_self hlen]
              · rw [List.getElem?_set_ne e]; exact hd
            have e2 : seqOf (st'.set n (.lckL xs)) (.ref k) = some ys := by
              simp only [seqOf, lstOf] at hs ⊢
              by_cases e : n = k
              · subst e; rw [List.getElem?_set_self hlen]; rw [hn] at hs; exact hs
              · rw [List.getElem?_set_ne e]; exact hs
            simp only [e1, e2, h1, ofO_some]
          · simp at h
      | _ =>
        first
        | (simp [dctOf, seqOf, lstOf] at h; done)
        | (simp only [dctOf, seqOf, lstOf, pl0] at h
           obtain ⟨h1, rfl⟩ := of_ok h
           refine ⟨rfl, fun n xs e hn => ?_⟩
           subst e
           rw [key, hx]
           simp only [prim2F, dctOf, seqOf, lstOf, pl0, h1, ofO_some])
    · simp at h
  · rw [key] at h
    have noexc : ∀ (o : Option D), (ofO st o : RE) ≠ .exc e st' := fun o => by cases o <;> simp [ofO]
    split at h
    · rename_i x hx
      unfold prim2F at h
      simp only [pl0] at h
      cases x with
      | str s =>
        simp only at h
        split at h
        · exact noexc _ h
        · simp at h
      | _ =>
        try simp only at h
        split at h
        · simp at h
        · split at h
          · exact noexc _ h
          · simp at h
    · simp at h
theorem evE_itx (cl : Cl) (m : Bool) (v : Nat) (elt cond e0 : E) : evE cl (.comp m v elt .itx [e0] cond) = fComp m (evE cl elt) (evE cl cond) v .itx (one (evE cl e0)) := by
  funext ds st
  simp only [evE]
  rw [evL_one]
  rfl
theorem isVar_eq {src : List E} (h : (isVar src).isSome = true) : ∃ i, src = [.var i] := by
  unfold isVar at h
  split at h
  · exact ⟨_, rfl⟩
  · cases h
theorem evE_var (cl : Cl) (i : Nat) : evE cl (.var i) = fvar i := by
  funext ds st
  simp only [evE, fvar] <;> rfl
/-! ### and, or with more parts; tests -/
theorem pt_ife {c a b : Expr} {pos : Pos} {tc ta tb : TT} (hc : PT X c tc) (ha : PT X a ta) (hb : PT X b tb) : PT X (.IfExp c a b pos) (fun σ H Q => tc σ H fun k H1 => if k = true then ta σ H1 Q else tb σ H1 Q) := by
  refine ⟨fun pins s σ H Q I h => ?_⟩
  refine isTrue_IfExp (thn (hc.run pins s σ H _ I h) fun k s1 ⟨H1, I1, q1⟩ => ?_)
  cases k with
  | true => exact ha.run pins s1 σ H1 Q I1 q1
  | false => exact hb.run pins s1 σ H1 Q I1 q1
theorem iteTT {fa fb fc : DS → Store → RE} {σ : L2.St} {H : Hp} {Q : Bool → Hp → Prop} (h : denT X.K xa W (fun ds st => (fc ds st).bind fun x st1 => match x with
    | .bl true => fa ds st1
    | .bl false => fb ds st1
    | _ => .no) σ H Q) : denT X.K xa W fc σ H fun k H1 => if k = true then denT X.K xa W fa σ H1 Q else denT X.K xa W fb σ H1 Q := by
  obtain ⟨ex, ρ, ds, st, M, S, q⟩ := h
  refine ⟨ex, ρ, ds, st, M, S, (PostV.bind q).imp fun v H1 ⟨x, st1, ρ1, e1, M1, r1, q1⟩ => ?_⟩
  split at q1
  · cases r1
    exact ⟨true, rfl, iteT ⟨ex, ρ1, ds, st1, M1, S.ext e1, q1⟩⟩
  · cases r1
    exact ⟨false, rfl, iteF ⟨ex, ρ1, ds, st1, M1, S.ext e1, q1⟩⟩
  · exact q1.elim
theorem pts_yes : PTs X [] (denT X.K xa W (evE cl (.k (.bl true)))) := ⟨fun pins s σ H Q I h => by
  refine pts_nil.run pins s σ H Q I ?_
  obtain ⟨ex, ρ, ds, st, M, S, q⟩ := h
  simp only [evE] at q
  obtain ⟨c, e, q1⟩ := q (.bl true) H ρ (Ext.refl _ _) M rfl
  cases e
  exact q1⟩
theorem blk_ok {N : List Str} {sc scope : Scope} {x : Str} {v : Nat} (h : blkB N sc scope x v = true) : BlkOk N sc scope [(x, v)] ∧ N[v]? = some x ∧ locB scope x = true := by
  unfold blkB at h
  simp only [Bool.and_eq_true, decide_eq_true_eq, List.all_eq_true, Bool.or_eq_true, Bool.not_eq_true', Bool.or_eq_false_iff, decide_eq_false_iff_not] at h
  obtain ⟨⟨⟨⟨⟨h1, h2⟩, h3⟩, h4⟩, h5⟩, h6⟩ := h
  refine ⟨⟨h1, h2, fun p hp => ?_, fun y hy e => ?_, fun y hy e => ?_⟩, h3, h6⟩
  · rw [List.mem_singleton.mp hp]; exact h3
  · rcases h4 y hy with (q | q) | q
    · exact absurd e q
    · exact .inl q
    · exact .inr q
  · rcases h5 y hy with (q | q) | q
    · exact absurd e (by rcases e with e | e <;> simp_all)
    · exact .inl (by simp [q])
    · exact .inr q
theorem look_rel {sc : Scope} {x : Str} : ∀ {names : List (Str × NameKind)}, (names.lookup x = some .local → (names.map fun (n, k) => if (k == .free && sc.kind == .function && sc.names.lookup n == some .cell) = true then (n, NameKind.cell) else (n, k)).lookup x = some .local) ∧
    (names.lookup x = some .cell → (names.map fun (n, k) => if (k == .free && sc.kind == .function && sc.names.lookup n == some .cell) = true then (n, NameKind.cell) else (n, k)).lookup x = some .cell)
  | [] => ⟨fun h => by simp at h, fun h => by simp at h⟩
  | (n, k) :: r => by
    have ih := look_rel (sc := sc) (x := x) (names := r)
    rw [List.map_cons]
    cases hx : x == n with
    | true =>
      refine ⟨fun h => ?_, fun h => ?_⟩
      · simp only [List.lookup_cons, hx] at h
        cases h
        simp [List.lookup_cons, hx]
      · simp only [List.lookup_cons, hx] at h
        cases h
        simp [List.lookup_cons, hx]
    | false =>
      simp only [List.lookup_cons, hx]
      by_cases hc : (k == NameKind.free && sc.kind == .function && sc.names.lookup n == some .cell) = true
      · rw [if_pos hc]; simp only [List.lookup_cons, hx]; exact ih
      · rw [if_neg hc]; simp only [List.lookup_cons, hx]; exact ih
theorem Good.blk (g : Good X xa W cl G) {scope : Scope} (s : Shared) (H : Hp) (C : Addr) (cl' : List (Str × Addr)) (fp : List Addr) : Good (X.blk s H scope (compEnvC scope cl' C X.env) fp) xa W0 cl { G with sc := relS scope G.sc } where
  names := g.names
  nd := g.nd
  sc := by
    show relabel scope X.env = _
    rw [← g.sc]
    rfl
  calm := g.calm
  un2 := g.un2
  blt := g.blt
  gl := g.gl
  fn := fun f x np h => ⟨(g.fn f x np h).ex⟩
  tk := takes0
theorem Good.blkG (g : Good X xa W cl G) {scope : Scope} {x : Str} {v : Nat} {tgp : Pos} (h3 : G.N[v]? = some x) (h6 : locB scope x = true) (s : Shared) (H : Hp) (C : Addr) (cl' : List (Str × Addr)) (fp : List Addr) :
    PG (X.blk s H scope (compEnvC scope cl' C X.env) fp) (.Name x tgp) (gName v) := by
  have e : (X.blk s H scope (compEnvC scope cl' C X.env) fp).env.scope.names = (scope.names.map fun (n, k) => if (k == .free && X.env.scope.kind == .function && X.env.scope.names.lookup n == some .cell) = true then (n, NameKind.cell) else (n, k)) := rfl
  have hl := look_rel (sc := X.env.scope) (x := x) (names := scope.names)
  rcases loc_of h6 with q | q
  · refine pg_name g.nd (by show X.N[v]? = _; rw [g.names]; exact h3) (.inl ?_) (.inr ?_)
    · rw [e]; exact hl.1 q
    · rw [e]; exact hl.1 q
  · refine pg_name g.nd (by show X.N[v]? = _; rw [g.names]; exact h3) (.inr ?_) (.inl ?_)
    · rw [e]; exact hl.2 q
    · show (scope.names.lookup x == some .cell) = true
      rw [q]; rfl
end
end MP
end
section
set_option maxRecDepth 100000
set_option maxHeartbeats 8000000
/-! MP: what is checked is walked: the induction over expressions. -/
namespace MP
open PySem PySem.Spec PyProof.Rows L2
def plainT (ex : Expr) : Bool := match ex with
  | .UnaryOp .Not _ _ => false
  | .BoolOp _ _ _ => false
  | .IfExp _ _ _ _ => false
  | .Compare _ _ _ _ => false
  | _ => true
def isBoolOp (ex : Expr) : Bool := match ex with
  | .BoolOp _ _ _ => true
  | _ => false
theorem plainT_is {ex : Expr} (h : plainT ex = true) (env : Env) (whole : Sem Value) : isTrue ex env whole = (do let v ← whole; standAt ex.pos; holding [v] (truthy v)) := by
  cases ex <;> first | rfl | (simp [plainT] at h; done) | skip
  rename_i op a pos
  cases op <;> first | rfl | (simp [plainT] at h)
section
variable {X : Cx} {xa : XA} {W : WX} {cl : Cl} {G : Gam}
theorem primT_ok (g : Good X xa W cl G) {p : P} {es : List E} {ex : Expr} {as : List Expr} (h : argsP G.sc p ex = some as) (hp : PEs X xa W cl es as) : PT X ex (denT X.K xa W fun ds st => (evL cl es ds st).bind fun xs st' => primF p xs st') := by
  by_cases hn : plainT ex = true
  · exact den_tests (prim_ok g h hp) (fun whole => plainT_is hn _ _)
  · unfold argsP at h
    split at h
    · split at h
      · exact absurd rfl hn
      · rename_i l op r pos
        split at h
        · rename_i hb
          cases h
          obtain ⟨e, f, rfl, he, hf⟩ := hp.two
          obtain ⟨rr, h1, h2⟩ := cmp_ok (X := X) g.un2 hb.1
          refine (pt_cmpR (pos := pos) h1 he hf (noSet_hm hb.2 _)).imp fun σ H Q q => ?_
          simp only [bnd2] at q
          exact den_two q fun ex H2 ρ2 st2 x y v u M r1 r2 q => h2 M r1 r2 q
        · cases h
      · cases h
    · split at h
      · exact absurd rfl hn
      · cases h
    · split at h
      · rename_i a k p2 pos
        cases h
        obtain ⟨e, rfl, he⟩ := hp.one
        refine (pt_cmp (pos := pos) (pc_isN he) rfl).imp fun σ H Q q => ?_
        simp only [bnd1] at q
        refine den_one (g := fun x st1 => prim1F .isn x st1) q fun ex H2 ρ2 st2 x v M r q => ?_
        cases x with
        | non => cases r; exact q _ _ _ (Ext.refl _ _) M rfl
        | bl k => cases r; exact q _ _ _ (Ext.refl _ _) M rfl
        | int k => cases r; exact q _ _ _ (Ext.refl _ _) M rfl
        | str k => obtain ⟨rfl, _⟩ := r; exact q _ _ _ (Ext.refl _ _) M rfl
        | tup k => obtain ⟨p, vs, rfl, _⟩ := r; exact q _ _ _ (Ext.refl _ _) M rfl
        | lst k => obtain ⟨p, vs, rfl, _⟩ := r; exact q _ _ _ (Ext.refl _ _) M rfl
        | dct k => obtain ⟨p, vs, rfl, _⟩ := r; exact q _ _ _ (Ext.refl _ _) M rfl
        | scr k => obtain ⟨p, rfl, _⟩ := r; exact q _ _ _ (Ext.refl _ _) M rfl
        | ref k => obtain ⟨p, _, rfl⟩ := r; exact q _ _ _ (Ext.refl _ _) M rfl
      · cases h
    · split at h
      · rename_i a k p2 pos
        cases h
        obtain ⟨e, rfl, he⟩ := hp.one
        refine (pt_cmp (pos := pos) (pc_notN he) rfl).imp fun σ H Q q => ?_
        simp only [bnd1] at q
        refine den_one (g := fun x st1 => prim1F .notn x st1) q fun ex H2 ρ2 st2 x v M r q => ?_
        cases x with
        | non => cases r; exact q _ _ _ (Ext.refl _ _) M rfl
        | bl k => cases r; exact q _ _ _ (Ext.refl _ _) M rfl
        | int k => cases r; exact q _ _ _ (Ext.refl _ _) M rfl
        | str k => obtain ⟨rfl, _⟩ := r; exact q _ _ _ (Ext.refl _ _) M rfl
        | tup k => obtain ⟨p, vs, rfl, _⟩ := r; exact q _ _ _ (Ext.refl _ _) M rfl
        | lst k => obtain ⟨p, vs, rfl, _⟩ := r; exact q _ _ _ (Ext.refl _ _) M rfl
        | dct k => obtain ⟨p, vs, rfl, _⟩ := r; exact q _ _ _ (Ext.refl _ _) M rfl
        | scr k => obtain ⟨p, rfl, _⟩ := r; exact q _ _ _ (Ext.refl _ _) M rfl
        | ref k => obtain ⟨p, _, rfl⟩ := r; exact q _ _ _ (Ext.refl _ _) M rfl
      · cases h
    · split at h
      · exact absurd rfl hn
      · cases h
    · split at h
      · exact absurd rfl hn
      · cases h
    · split at h
      · exact absurd rfl hn
      · cases h
    · split at h
      · exact absurd rfl hn
      · cases h
    · split at h
      · exact absurd rfl hn
      · cases h
    · split at h
      · exact absurd rfl hn
      · cases h
    · split at h
      · exact absurd rfl hn
      · cases h
    · split at h
      · exact absurd rfl hn
      · cases h
    · split at h
      · exact absurd rfl hn
      · cases h
    · obtain ⟨x, n, p1, pos, _, rfl, _⟩ := blt_args h
      exact absurd rfl hn
theorem chain_den {fa fb fc : DS → Store → RE} {o o' : Op} {r r' : R2} (ok : OpOk X.K o r) (ok' : OpOk X.K o' r') {σ : L2.St} {H : Hp} {Q : Bool → Hp → Prop}
    (h : denT X.K xa W (fun ds st => (fa ds st).bind fun x st1 => (fb ds st1).bind fun y st2 => (opF o x y st2).bind fun z st3 => match z with
    | .bl true => (fc ds st3).bind fun w st4 => opF o' y w st4
    | .bl false => .ok (.bl false) st3
    | _ => .no) σ H Q) : tTest (tChain r r' (denE X.K xa W fa) (denE X.K xa W fb) (denE X.K xa W fc)) σ H Q := by
  obtain ⟨ex, ρ, ds, st, M, S, q⟩ := h
  refine ⟨ex, ρ, ds, st, M, S, (PostV.bind q).imp fun v H1 ⟨x, st1, ρ1, e1, M1, r1, q1⟩ => ?_⟩
  refine ⟨ex, ρ1, ds, st1, M1, S.ext e1, (PostV.bind q1).imp fun u H2 ⟨y, st2, ρ2, e2, M2, r2, q2⟩ => ?_⟩
  refine ok M2 (r1.ext e2) r2 ((PostV.bind q2).imp fun z H3 ⟨k, st3, ρ3, e3, M3, r3, q3⟩ => ?_)
  split at q3
  · cases r3
    refine ⟨true, rfl, ?_⟩
    rw [if_pos rfl]
    exact ⟨ex, ρ3, ds, st3, M3, ((S.ext e1).ext e2).ext e3, (PostV.bind q3).imp fun w H4 ⟨l, st4, ρ4, e4, M4, r4, q4⟩ => ok' M4 ((r2.ext e3).ext e4) r4 q4⟩
  · cases r3
    refine ⟨false, rfl, ?_⟩
    rw [if_neg Bool.false_ne_true]
    exact q3 (.bl false) H3 ρ3 (Ext.refl _ _) M3 rfl
  · exact q3.elim
theorem pe_bool1 {op : BoolOp} {b : Expr} {pos : Pos} {t : TE} (h : PE X b t) : PE X (.BoolOp op [b] pos) t := ⟨fun pins s σ H Q I q => BoolOp_one (h.run pins s σ H Q I q)⟩
theorem methT {p : P} {ex ob : Expr} {as : List Expr} (h : argsM p ex = some (ob, as)) : plainT ex = true := by
  unfold argsM at h
  split at h
  · split at h
    · rfl
    · cases h
  · cases h
/-- what is shown of an expression -/
def Shown (X : Cx) (xa : XA) (W : WX) (cl : Cl) (e : E) (ex : Expr) : Prop :=
  PE X ex (denE X.K xa W (evE cl e)) ∧ PT X ex (denT X.K xa W (evE cl e)) ∧ (isBoolOp ex = true → PW X ex (denT X.K xa W (evE cl e)))
theorem Shown.plain {e : E} {ex : Expr} (h : plainT ex = true) (p : PE X ex (denE X.K xa W (evE cl e))) : Shown X xa W cl e ex :=
  ⟨p, den_tests p (fun whole => plainT_is h _ _), fun q => by cases ex <;> simp [plainT, isBoolOp] at h q⟩
theorem k_ok {d : D} {c : Const} {j : Nat} {pos : Pos} (h : sameC d c = true) : PE X (.Constant c j pos) (denE X.K xa W fun _ st => .ok d st) := by
  unfold sameC at h
  split at h
  · exact den_val pe_non fun _ _ _ => rfl
  · rename_i a b
    have : a = b := by simpa using h
    subst this
    exact den_val pe_bl fun _ _ _ => rfl
  · rename_i a b
    have : a = b := by simpa using h
    subst this
    exact den_val pe_int fun _ _ _ => rfl
  · rename_i s t
    simp only [Bool.and_eq_true, decide_eq_true_eq, List.all_eq_true] at h
    obtain ⟨rfl, h2⟩ := h
    refine den_val pe_str fun _ _ _ => ⟨?_, fun c hc => h2 c hc⟩
    show V.str t = V.str ⟨t.cps.toList.toArray⟩
    rw [Array.toArray_toList]
  · cases h
theorem call_ok {raw : Bool} (g : Good X xa W cl G) {f n : Nat} {x : Str} {es : List E} {as : List Expr} {p1 pos : Pos} (hf : G.fn f = some (x, n)) (hg : gloB G.sc x = true) (hx : okName x = true) (ha : as.all plainArg = true) (hl : as.length = n) (hp : PEs X xa W cl es as) :
    PE X (.Call (.Name x p1) as [] pos) (denE X.K xa W fun ds st => (evL cl es ds st).bind fun xs st' => pcall cl f raw xs st') := by
  have F := g.fn f x n hf
  have key : ∀ {ex : Addr → Prop} {H : Hp} {ρ : List Addr} {st : Store} {σ : L2.St} {Q : VK} {xs : List D} {vs : List V}, Mem X.K ex H ρ st → Reps X.K ex H ρ xs vs → PostV X.K ex H ρ (pcall cl f raw xs st) (xOf xa W σ) Q → CallOk X.K cl f vs H Q (fun e H' => ∀ cls dd, xa e cls dd H' → W cls dd σ H') :=
    fun M r q => (pcall_ok M r q).imp fun e H' ⟨_, _, q⟩ => q
  cases as with
  | nil =>
    match es, hp with
    | [], _ =>
      refine (den_call0 (g := fun st => pcall cl f raw [] st) F g.tk (g.glob hg) (okName_of hx).1 hl.symm fun {ex H ρ st σ Q} M q => key M (show Reps X.K ex H ρ [] [] from rfl) q).imp fun σ H Q q => ?_
      simp only [evL, R.bind_ok] at q
      exact q
  | cons a as =>
    refine den_callN (g := fun xs st => pcall cl f raw xs st) F g.tk (g.glob hg) (okName_of hx).1 hl ha (hp.pa ha) (fun ds st xs st' h => ?_) fun M r q => key M r q
    rw [evL_len cl es ds st xs st' h, hp.length]
    exact hl
theorem callM_ok (g : Good X xa W cl G) {f n : Nat} {x : Str} {es : List E} {as : List Expr} {p1 pos : Pos} (hf : G.fn f = some (x, n)) (hg : gloB G.sc x = true) (hx : okName x = true) (ha : as.all plainArg = true) (hl : as.length = n) (hp : PEs X xa W cl es as) :
    PE X (.Call (.Name x p1) as [] pos) (denE X.K xa W fun ds st => (evL cl es ds st).bind fun xs st' => cl f xs st') := by
  have F := g.fn f x n hf
  have key : ∀ {ex : Addr → Prop} {H : Hp} {ρ : List Addr} {st : Store} {σ : L2.St} {Q : VK} {xs : List D} {vs : List V}, Mem X.K ex H ρ st → Reps X.K ex H ρ xs vs → PostV X.K ex H ρ (cl f xs st) (xOf xa W σ) Q → CallOk X.K cl f vs H Q (fun e H' => ∀ cls dd, xa e cls dd H' → W cls dd σ H') :=
    fun {ex H ρ st σ Q xs vs} M r q => ⟨ex, ρ, st, xs, M, r, q⟩
  cases as with
  | nil =>
    match es, hp with
    | [], _ =>
      refine (den_call0 (g := fun st => cl f [] st) F g.tk (g.glob hg) (okName_of hx).1 hl.symm fun {ex H ρ st σ Q} M q => key M (show Reps X.K ex H ρ [] [] from rfl) q).imp fun σ H Q q => ?_
      simp only [evL, R.bind_ok] at q
      exact q
  | cons a as =>
    refine den_callN (g := fun xs st => cl f xs st) F g.tk (g.glob hg) (okName_of hx).1 hl ha (hp.pa ha) (fun ds st xs st' h => ?_) fun M r q => key M r q
    rw [evL_len cl es ds st xs st' h, hp.length]
    exact hl
end
mutual
theorem sndE {xa : XA} {cl : Cl} : ∀ (e : E) {X : Cx} {W : WX} {G : Gam}, Good X xa W cl G → ∀ {ex : Expr}, chkE G e ex = true → Shown X xa W cl e ex
  | .var i, X, W, G, g, ex, h => by
    simp only [chkE] at h
    split at h
    · rename_i x pos
      simp only [Bool.and_eq_true, decide_eq_true_eq] at h
      obtain ⟨⟨h1, h2⟩, h3⟩ := h
      have hv : Vis X.env.scope x := by rw [g.sc]; exact vis_of h2
      refine .plain rfl ((den_var (pe_var (by rw [g.names]; exact h1) hv (okName_of h3).1 (okName_of h3).2.1) (xa := xa) (W := W)).imp (t' := denE X.K xa W (evE cl (.var i))) fun σ H Q q => ?_)
      simp only [evE] at q
      exact q
    · cases h
  | .k d, X, W, G, g, ex, h => by
    simp only [chkE] at h
    split at h
    · refine .plain rfl ((k_ok (xa := xa) (W := W) h).imp fun σ H Q q => ?_)
      simp only [evE] at q
      exact q
    · cases h
  | .glob x d, X, W, G, g, ex, h => by
    simp only [chkE] at h
    split at h
    · rename_i y pos
      simp only [Bool.and_eq_true, decide_eq_true_eq] at h
      obtain ⟨⟨⟨rfl, h2⟩, h3⟩, h4⟩ := h
      split at h4
      · rename_i d' hd
        have := sameD_eq h4
        subst this
        obtain ⟨v, u, q1, q2, q3⟩ := g.gl _ _ hd
        refine .plain rfl ((den_val (d := d) (xa := xa) (W := W) (pe_glob (g.glob h2) q1 q2 (okName_of h3).1) q3).imp fun σ H Q q => ?_)
        simp only [evE] at q
        exact q
      · cases h4
    · cases h
  | .pr p es, X, W, G, g, ex, h => by
    simp only [chkE] at h
    split at h
    · rename_i as ha
      have hp := sndL es g h
      refine ⟨(prim_ok g ha hp).imp fun σ H Q q => ?_, (primT_ok g ha hp).imp fun σ H Q q => ?_, fun q => ?_⟩
      · simp only [evE] at q; exact q
      · simp only [evE] at q; exact q
      · exfalso
        unfold argsP at ha
        cases ex <;> simp [isBoolOp] at q
        split at ha <;> first | (simp at ha; done) | (obtain ⟨x, n, p1, pos, _, q2, _⟩ := blt_args ha; cases q2)
    · cases h
  | .mth p o es, X, W, G, g, ex, h => by
    simp only [chkE] at h
    split at h
    · rename_i ob as ha
      rw [Bool.and_eq_true] at h
      exact .plain (methT ha) (meth_ok g ha (sndE o g h.1).1 (sndL es g h.2))
    · cases h
  | .slc m hl hh a lo hi, X, W, G, g, ex, h => by
    simp only [chkE] at h
    split at h
    · rename_i x l hc p2 pos
      simp only [Bool.and_eq_true] at h
      obtain ⟨⟨h1, h2⟩, h3⟩ := h
      have plo : PartOk X xa W hl l (evE cl lo) := by
        cases l with
        | none => simp only [Bool.not_eq_true'] at h2; subst h2; exact part_none
        | some y => simp only [Bool.and_eq_true] at h2; obtain ⟨h2, h4⟩ := h2; subst h2; exact part_some (sndE lo g h4).1
      have phi : PartOk X xa W hh hc (evE cl hi) := by
        cases hc with
        | none => simp only [Bool.not_eq_true'] at h3; subst h3; exact part_none
        | some y => simp only [Bool.and_eq_true] at h3; obtain ⟨h3, h4⟩ := h3; subst h3; exact part_some (sndE hi g h4).1
      refine .plain rfl ((den_slc (m := m) (pos := pos) (p2 := p2) (sndE a g h1).1 plo phi).imp fun σ H Q q => ?_)
      simp only [evE] at q
      exact q
    · cases h
  | .and a b, X, W, G, g, ex, h => by
    simp only [chkE] at h
    split at h
    · rename_i x y pos
      rw [Bool.and_eq_true] at h
      obtain ⟨a1, a2, a3⟩ := sndE a g h.1
      obtain ⟨b1, b2, b3⟩ := sndE b g h.2
      have w := (pt_den_and (pos := pos) a2 (pw_and1 (pos := pos) b2)).imp (t' := denT X.K xa W (evE cl (.and a b))) fun σ H Q q => by simp only [evE] at q; exact q
      exact ⟨(den_and (pos := pos) a1 (pe_bool1 b1)).imp fun σ H Q q => by simp only [evE] at q; exact q, w.pt, fun _ => w⟩
    · rename_i x y z r pos
      rw [Bool.and_eq_true] at h
      obtain ⟨a1, a2, a3⟩ := sndE a g h.1
      obtain ⟨b1, b2, b3⟩ := sndE b g h.2
      have w := (pt_den_and (pos := pos) a2 (b3 rfl)).imp (t' := denT X.K xa W (evE cl (.and a b))) fun σ H Q q => by simp only [evE] at q; exact q
      exact ⟨(den_and (pos := pos) a1 b1).imp fun σ H Q q => by simp only [evE] at q; exact q, w.pt, fun _ => w⟩
    · cases h
  | .or a b, X, W, G, g, ex, h => by
    simp only [chkE] at h
    split at h
    · rename_i x y pos
      rw [Bool.and_eq_true] at h
      obtain ⟨a1, a2, a3⟩ := sndE a g h.1
      obtain ⟨b1, b2, b3⟩ := sndE b g h.2
      have w := (pt_den_or (pos := pos) a2 (pw_or1 (pos := pos) b2)).imp (t' := denT X.K xa W (evE cl (.or a b))) fun σ H Q q => by simp only [evE] at q; exact q
      exact ⟨(den_or (pos := pos) a1 (pe_bool1 b1)).imp fun σ H Q q => by simp only [evE] at q; exact q, w.pt, fun _ => w⟩
    · rename_i x y z r pos
      rw [Bool.and_eq_true] at h
      obtain ⟨a1, a2, a3⟩ := sndE a g h.1
      obtain ⟨b1, b2, b3⟩ := sndE b g h.2
      have w := (pt_den_or (pos := pos) a2 (b3 rfl)).imp (t' := denT X.K xa W (evE cl (.or a b))) fun σ H Q q => by simp only [evE] at q; exact q
      exact ⟨(den_or (pos := pos) a1 b1).imp fun σ H Q q => by simp only [evE] at q; exact q, w.pt, fun _ => w⟩
    · cases h
  | .not a, X, W, G, g, ex, h => by
    simp only [chkE] at h
    split at h
    · rename_i x pos
      obtain ⟨a1, a2, a3⟩ := sndE a g h
      exact ⟨(den_not (pos := pos) a1).imp fun σ H Q q => by simp only [evE] at q; exact q, (pt_den_not (pos := pos) a2).imp fun σ H Q q => by simp only [evE] at q; exact q, fun q => by simp [isBoolOp] at q⟩
    · cases h
  | .ife c a b, X, W, G, g, ex, h => by
    simp only [chkE] at h
    split at h
    · rename_i x y z pos
      simp only [Bool.and_eq_true] at h
      obtain ⟨c1, c2, c3⟩ := sndE c g h.1.1
      obtain ⟨a1, a2, a3⟩ := sndE a g h.1.2
      obtain ⟨b1, b2, b3⟩ := sndE b g h.2
      exact ⟨(den_ife (pos := pos) c2 a1 b1).imp fun σ H Q q => by simp only [evE] at q; exact q, (pt_ife (pos := pos) c2 a2 b2).imp fun σ H Q q => by simp only [evE] at q; exact iteTT q, fun q => by simp [isBoolOp] at q⟩
    · cases h
  | .chain o o' a b c, X, W, G, g, ex, h => by
    simp only [chkE] at h
    split at h
    · rename_i x op op' y z pos
      simp only [Bool.and_eq_true, decide_eq_true_eq] at h
      obtain ⟨⟨⟨⟨⟨h1, h2⟩, h3⟩, h4⟩, h5⟩, h6⟩ := h
      obtain ⟨a1, a2, a3⟩ := sndE a g h4
      obtain ⟨b1, b2, b3⟩ := sndE b g h5
      obtain ⟨c1, c2, c3⟩ := sndE c g h6
      obtain ⟨r, k1, k2⟩ := cmp_ok (X := X) g.un2 h1
      obtain ⟨r', k3, k4⟩ := cmp_ok (X := X) g.un2 h2
      have hm : lastMarks [op, op'] [y, z] = false := noSet_hm h3 op'
      refine ⟨(den_chain (pos := pos) k1 k3 k2 k4 a1 b1 c1 hm).imp fun σ H Q q => by simp only [evE] at q; exact q, (pt_chain (pos := pos) k1 k3 a1 b1 c1 hm).imp fun σ H Q q => ?_, fun q => by simp [isBoolOp] at q⟩
      simp only [evE] at q
      exact chain_den k2 k4 q
    · cases h
  | .call f raw es, X, W, G, g, ex, h => by
    simp only [chkE] at h
    split at h
    · rename_i x p1 as pos
      split at h
      · rename_i y n hf
        simp only [Bool.and_eq_true, decide_eq_true_eq] at h
        obtain ⟨⟨⟨⟨⟨rfl, h2⟩, h3⟩, h4⟩, h5⟩, h6⟩ := h
        refine .plain rfl ((call_ok (raw := raw) g hf h2 h3 h4 h5 (sndL es g h6)).imp fun σ H Q q => ?_)
        simp only [evE] at q
        exact q
      · cases h
    · cases h
  | .callM f es, X, W, G, g, ex, h => by
    simp only [chkE] at h
    split at h
    · rename_i x p1 as pos
      split at h
      · rename_i y n hf
        simp only [Bool.and_eq_true, decide_eq_true_eq] at h
        obtain ⟨⟨⟨⟨⟨rfl, h2⟩, h3⟩, h4⟩, h5⟩, h6⟩ := h
        refine .plain rfl ((callM_ok g hf h2 h3 h4 h5 (sndL es g h6)).imp fun σ H Q q => ?_)
        simp only [evE] at q
        exact q
      · cases h
    · cases h
  | .comp m v elt k src cond, X, W, G, g, ex, h => by
    simp only [chkE] at h
    split at h
    · rename_i el x tgp iter ifs scope pos
      split at h
      · rename_i as ha
        simp only [Bool.and_eq_true] at h
        obtain ⟨⟨⟨⟨h1, h2⟩, h3⟩, h4⟩, h5⟩ := h
        obtain ⟨b1, b2, b3⟩ := blk_ok h2
        have B : Blk X xa x tgp v el ifs scope (evE cl elt) (evE cl cond) := by
          refine ⟨by rw [g.names, g.sc]; exact b1, fun s H C cl' fp => g.blkG b2 b3 s H C cl' fp, fun s H C cl' fp => ?_, fun s H C cl' fp => (sndE elt (g.blk s H C cl' fp) h3).1⟩
          split at h5
          · split at h5
            · exact pts_yes
            · cases h5
          · exact pts_one (sndE cond (g.blk s H C cl' fp) h5).2.1
          · cases h5
        by_cases hk : k = .itv
        · subst hk
          obtain ⟨i, rfl⟩ := isVar_eq h4
          simp only [argsI] at ha
          split at ha
          · rename_i z p2
            cases ha
            simp only [chkL, chkE, Bool.and_true, Bool.and_eq_true, decide_eq_true_eq] at h1
            obtain ⟨⟨q1, q2⟩, q3⟩ := h1
            have hv : Vis X.env.scope z := by rw [g.sc]; exact vis_of q2
            refine .plain rfl ((den_compItv (W := W) (m := m) (pos := pos) g.calm g.nd B (pe_var (i := i) (by rw [g.names]; exact q1) hv (okName_of q3).1 (okName_of q3).2.1)).imp fun σ H Q q => ?_)
            simp only [evE] at q
            rw [show (fun ds st => (evL cl [.var i] ds st).bind fun xs st' => compF m (evE cl elt) (evE cl cond) v .itv xs ds st') = fComp m (evE cl elt) (evE cl cond) v .itv (one (fvar i)) by
              rw [evL_one, evE_var]; rfl] at q
            exact q
          · cases ha
        · by_cases hkx : k = .itx
          · subst hkx
            obtain ⟨i, c, rfl⟩ := isIx_eq h4
            simp only [argsI] at ha
            split at ha
            · rename_i hb
              cases ha
              have hp := sndL (cl := cl) _ g h1
              obtain ⟨e, he, hpe⟩ := PEs.one hp
              cases he
              obtain ⟨l1, l2⟩ := ix_src cl i c
              refine .plain rfl ((den_compItx (W := W) (m := m) (pos := pos) g.calm g.nd B hpe (fun z => noSet_fold hb _ z) l1 l2).imp fun σ H Q q => ?_)
              rw [evE_itx] at q
              exact q
            · cases ha
          obtain ⟨s1, s2⟩ := src_ok (tg := .Name x tgp) g ha hk hkx (sndL src g h1)
          refine .plain rfl ((den_comp (m := m) (pos := pos) g.calm g.nd hk hkx B s1 s2).imp fun σ H Q q => ?_)
          simp only [evE] at q
          exact q
      · cases h
    · cases h
  | .exis _, X, W, G, g, ex, h => by simp [chkE] at h
  | .exat, X, W, G, g, ex, h => by simp [chkE] at h
theorem sndL {xa : XA} {cl : Cl} : ∀ (es : List E) {X : Cx} {W : WX} {G : Gam}, Good X xa W cl G → ∀ {xs : List Expr}, chkL G es xs = true → PEs X xa W cl es xs
  | [], X, W, G, g, xs, h => by
    cases xs with
    | nil => trivial
    | cons _ _ => simp [chkL] at h
  | e :: es, X, W, G, g, xs, h => by
    cases xs with
    | nil => simp [chkL] at h
    | cons x xs =>
      simp only [chkL, Bool.and_eq_true] at h
      exact ⟨(sndE e g h.1).1, sndL es g h.2⟩
end
end MP
end
section
set_option maxRecDepth 100000
set_option maxHeartbeats 8000000
/-! MP: several except clauses, some with a name. -/
namespace MP
open PySem PySem.Spec PyProof.Rows L2
/-- the name that a clause binds: bound, and gone behind its suite -/
def onI (o : Option Nat) (a : Addr) (σ : L2.St) : L2.St := match o with
  | none => σ
  | some i => σ.set i (some (.ref a))
def offI (o : Option Nat) (σ : L2.St) : L2.St := match o with
  | none => σ
  | some i => σ.set i none
def endI (o : Option Nat) (D : Ends) : Ends := { nx := fun σ H => D.nx (offI o σ) H, rt := D.rt, bk := fun σ H => D.bk (offI o σ) H, ct := fun σ H => D.ct (offI o σ) H }
structure Clz where
  cls : Value
  nm : Option Nat
  ts : Addr → Value → Option Addr → TS
def wMix (K : PySem.W.Frag) (Wout : WX) (D : Ends) : List Clz → WX
  | [] => Wout
  | k :: r => fun cls d σ H => ∃ b, PySem.W.exmOne K cls k.cls = some b ∧ (b = true → ∀ a, H a = none → k.ts a cls d (endI k.nm D) (onI k.nm a σ) H) ∧ (b = false → wMix K Wout D r cls d σ H)
/-- a name as a clause may bind it -/
def NmOk (X : Cx) : Option Str → Option Nat → Prop
  | none, none => True
  | some n, some i => X.N[i]? = some n ∧ X.env.kindOf n = some .local
  | _, _ => False
inductive ClzOk (X : Cx) : List ExceptHandler → List Clz → Prop
  | nil : ClzOk X [] []
  | cons {x : Str} {np pos : Pos} {nm : Option Str} {b₀ : Stmt} {su : List Stmt} {hs : List ExceptHandler} {k : Clz} {ks : List Clz} (hc : Names X x k.cls) (hn : NmOk X nm k.nm)
      (hsu : ∀ (a : Addr) (oe : Obj) (cls : Value) (d : Option Addr) (pn : List (Addr × Obj)), Zc cls d oe → (∃ vs, oe.data = .fields vs) → PSs (X.suite a ((a, oe) :: pn)) (b₀ :: su) (k.ts a cls d)) (r : ClzOk X hs ks) :
      ClzOk X (.ExceptHandler (some (.Name x np)) nm (b₀ :: su) pos :: hs) (k :: ks)
section
variable {X : Cx}
/-- an exception that has come to a clause's head -/
structure Came (X : Cx) (pins : List (Addr × Obj)) (σ : L2.St) (H : Hp) (a : Addr) (s : Shared) : Prop where
  inv : Inv X pins σ H s
  new : H a = none
  loc : a ≠ X.env.locals
  fs : a ∉ X.fs
theorem try_mix {body : List Stmt} {h₀ : ExceptHandler} {hds : List ExceptHandler} {ks : List Clz} {pos : Pos} {tb : WX → TS} {Wout : WX} (hs : X.stack = X.env :: X.outer) (hf : X.env.frame = some X.env.locals) (hN : X.N.Nodup) (tk : Takes X Wout)
    (hb : ∀ (W : WX) (pn : List (Addr × Obj)) (xe : Value → Shared → Prop), Takes (X.tr pn xe) W → PassesOwn (model X.prog X.w) X.A X.env xe → PSs (X.tr pn xe) body (tb W))
    (hh : ClzOk X (h₀ :: hds) ks) : PS X (.Try body (h₀ :: hds) [] [] pos) (fun D σ H => tb (wMix X.K Wout D ks) D σ H) := by
  refine ⟨fun pins s σ H D I h => ?_⟩
  have ok := I.ok
  have hfr : X.A.frames = some (X.env :: X.outer) := by rw [ok.frames, hs]
  refine wpAny_Try_except ?_
  refine wpAny_mono ((hb (wMix X.K Wout D ks) (X.pn ++ pins) (fun e s₁ => wpAny (model X.prog X.w) X.A (noteFrame e X.env) (fun _ s₂ => wpAny (model X.prog X.w) X.A (setFlight e none) (fun _ s₃ =>
    wpAny (model X.prog X.w) X.A (handleBy e X.env (h₀ :: hds)) (SP X pins D) X.xe s₃) X.xe s₂) X.xe s₁) (fun u s' xx => ?_) PassesOwn.looking).run [] s σ H D (I.toTry _) h) (fun f s1 done => ?_) (fun _ _ e => e)
  · obtain ⟨a, B, s0, pins', σ1, H1, cls, d, rfl, J', nb, up, sky, na, os, ag, w⟩ := xx
    have J := J'.ofTry ok
    show wpAny (model X.prog X.w) X.A (noteFrame (.ref a) X.env) _ _ _
    refine Sky.land Zc.steady hfr hf (by rw [← hs]; exact sky) fun hp fl upl => ?_
    have C : Came X pins σ1 H1 a { s' with heap := hp } := by
      obtain ⟨oe, vs, he, _, hd⟩ := fl.there
      have nfr : a ∉ frs (X.env :: X.outer) := fun hm => by
        obtain ⟨_, o', e', hnf⟩ := fl.2.2.1.mem hm
        rw [he] at e'
        cases e'
        exact hnf _ hd
      refine ⟨J.landed nb fl.1 (up.trans upl) os ag, na, fun z => nfr (List.mem_filterMap.mpr ⟨X.env, List.mem_cons_self, by rw [hf, z]⟩), fun hm => ?_⟩
      obtain ⟨e, he', q⟩ := List.mem_filterMap.mp hm
      exact nfr (List.mem_filterMap.mpr ⟨e, List.mem_cons_of_mem _ he', q⟩)
    -- clause by clause
    have run : ∀ {hs' : List ExceptHandler} {ks' : List Clz}, ClzOk X hs' ks' → wMix X.K Wout D ks' cls d σ1 H1 → wpAny (model X.prog X.w) X.A (handleBy (.ref a) X.env hs') (SP X pins D) X.xe { s' with heap := hp } := by
      intro hs' ks' hk
      induction hk with
      | nil =>
        intro w
        refine wpAny_handleBy_nil ?_
        obtain ⟨_, _, _, oe, vs, tb', _, _, he, _, hd, h1, _⟩ := id fl
        unfold PySem.passOn
        refine wpAny_bind (wpAny_field he hd h1 ?_)
        rw [if_neg (show ¬ ((Value.ref tb' == Value.none) = true) from by simp)]
        have out : wpAny (model X.prog X.w) X.A (setFlight (.ref a) X.env.frame) (fun _ s4 => wpAny (model X.prog X.w) X.A (throw (.ref a) : Sem Flow) (SP X pins D) X.xe s4) X.xe { s' with heap := hp } := by
          rw [hf]
          exact HandSPX.setFlight_upZ fl fun h4 hh4 up4 => wpAny_throw (tk _ _ ⟨a, B, s0, pins, σ1, H1, cls, d, rfl, J, nb, (up.trans upl).trans up4, .inr (.inr (by rw [hs]; exact hh4)), na, os, ag, w⟩)
        first
          | exact wpAny_bind (wpAny_pure (wpAny_bind out))
          | exact wpAny_bind out
      | @cons x np pos' nm b₀ su hs2 k ks2 hc hn hsu r ih =>
        intro w
        obtain ⟨b, hb1, yes, no⟩ := w
        obtain ⟨oe, vs, he, hz, hd⟩ := fl.there
        refine wpAny_handleBy_cons (codeAny_handlers_test ?_) (by intro q; cases q)
        have looks : PySem.W.Looks (model X.prog X.w) hp (typeOf (.ref a)) cls := fun A Q E s k q => wpAny_typeOf_ref (k _ _ he) (by rw [hz.1]; exact q)
        have S := C.inv.suite he hd na C.loc C.fs
        have head : ∀ {Q : Value → Shared → Prop} {E : Value → Shared → Prop}, Q k.cls { s' with heap := hp } → wpAny (model X.prog X.w) (X.A.mark (some (.ref a))) (eval (.Name x np) X.env) Q E { s' with heap := hp } := fun {Q E} q => by
          obtain ⟨hg, hdbg, hm | ⟨hm, hv, hnn⟩⟩ := hc
          · exact ld_glob (X := X.suite a ((a, oe) :: (X.pn ++ pins))) S hg hm q hdbg
          · exact ld_blt (X := X.suite a ((a, oe) :: (X.pn ++ pins))) S hg hm hv q hnn hdbg
        refine head ((PySem.W.exm_one (M := model X.prog X.w) C.inv.kIn looks hb1).here ?_)
        cases b with
        | false =>
          show wpAny _ X.A (handleBy (.ref a) X.env hs2) _ _ _
          exact ih (no rfl)
        | true =>
          have yes := yes rfl a na
          cases nm with
          | none =>
            have e0 : k.nm = none := by
              cases hk : k.nm with
              | none => rfl
              | some i => rw [hk] at hn; exact hn.elim
            rw [e0] at yes
            refine codeAny_handlers_suite (HandSPX.lands_againZ fl fun h4 fl4 up4 => ?_)
            obtain ⟨oe4, vs4, he4, hz4, hd4⟩ := fl4.there
            have J4 : Inv X pins σ1 H1 { s' with heap := h4 } := J.landed nb fl4.1 ((up.trans upl).trans up4) os ag
            have S4 := J4.suite he4 hd4 na C.loc C.fs
            refine wpAny_mono ((hsu a oe4 cls d (X.pn ++ pins) hz4 ⟨_, hd4⟩).run [] _ _ H1 _ S4 yes) (fun f s6 e6 => ?_) (fun _ _ z => False.elim z)
            cases f with
            | ret u => obtain ⟨v6, σ6, H6, S6, r6, q6⟩ := e6; exact ⟨_, _, _, S6.unsuite ok, r6, q6⟩
            | _ => obtain ⟨σ6, H6, S6, q6⟩ := e6; exact ⟨_, _, S6.unsuite ok, q6⟩
          | some n =>
            obtain ⟨i, e0, hi, hln⟩ : ∃ i, k.nm = some i ∧ X.N[i]? = some n ∧ X.env.kindOf n = some .local := by
              cases hk : k.nm with
              | none => rw [hk] at hn; exact hn.elim
              | some i => rw [hk] at hn; exact ⟨i, rfl, hn.1, hn.2⟩
            rw [e0] at yes
            refine codeAny_handlers_suite_as (HandSPX.lands_againZ fl fun h4 fl4 up4 => ?_)
            obtain ⟨oe4, vs4, he4, hz4, hd4⟩ := fl4.there
            have J4 : Inv X pins σ1 H1 { s' with heap := h4 } := J.landed nb fl4.1 ((up.trans upl).trans up4) os ag
            have S4 := J4.suite he4 hd4 na C.loc C.fs
            refine store_ok (X := X.suite a ((a, oe4) :: (X.pn ++ pins))) (v := .ref a) S4 hN hi (.inl hln) rfl (fun s5 S5 => ?_) (.inr hln)
            refine wpAny_mono ((hsu a oe4 cls d (X.pn ++ pins) hz4 ⟨_, hd4⟩).run [] s5 _ H1 _ S5 yes) (fun f s6 e6 => ?_) (fun _ _ z => False.elim z)
            have leave : ∀ {σ6 : L2.St} {H6 : Hp} {Q : Shared → Prop}, Inv (X.suite a ((a, oe4) :: (X.pn ++ pins))) [] σ6 H6 s6 → (∀ s7, Inv X pins (σ6.set i none) H6 s7 → Q s7) →
                wpAny (model X.prog X.w) X.A (do bindName X.env n .none; unbindBehindTheSuite X.env n pos') (fun _ s7 => Q s7) X.xe s6 := fun {σ6 H6 Q} S6 hq => gone_ok (S6.unsuite ok) hN hi hln hq
            cases f with
            | ret u => obtain ⟨v6, σ6, H6, S6, r6, q6⟩ := e6; exact leave S6 fun s7 J7 => ⟨_, _, _, J7, r6, q6⟩
            | next => obtain ⟨σ6, H6, S6, q6⟩ := e6; exact leave S6 fun s7 J7 => ⟨_, _, J7, q6⟩
            | brk => obtain ⟨σ6, H6, S6, q6⟩ := e6; exact leave S6 fun s7 J7 => ⟨_, _, J7, q6⟩
            | cont => obtain ⟨σ6, H6, S6, q6⟩ := e6; exact leave S6 fun s7 J7 => ⟨_, _, J7, q6⟩
    exact run hh w
  · cases f with
    | next => obtain ⟨σ2, H2, J2, q⟩ := done; exact wpAny_execs_nil ⟨σ2, H2, J2.ofTry ok, q⟩
    | brk => obtain ⟨σ2, H2, J2, q⟩ := done; exact ⟨σ2, H2, J2.ofTry ok, q⟩
    | cont => obtain ⟨σ2, H2, J2, q⟩ := done; exact ⟨σ2, H2, J2.ofTry ok, q⟩
    | ret u => obtain ⟨v, σ2, H2, J2, r, q⟩ := done; exact ⟨v, σ2, H2, J2.ofTry ok, r, q⟩
end
end MP
end
section
set_option maxRecDepth 100000
set_option maxHeartbeats 8000000
/-! MP: exceptions: raise, try, except suites. -/
namespace MP
open PySem PySem.Spec PyProof.Rows L2
/-- the slot that holds the caught exception -/
def pinS (pn : Option (Nat × Addr)) (σ : L2.St) : Prop := match pn with
  | none => True
  | some p => σ[p.1]? = some (some (.ref p.2))
def denX (pn : Option (Nat × Addr)) (K : PySem.W.Frag) (xa : XA) (f : DS → Store → RE) : TE := fun σ H Q => pinS pn σ ∧ denE K xa W0 f σ H Q
def denLX (pn : Option (Nat × Addr)) (K : PySem.W.Frag) (xa : XA) (f : DS → Store → R (List D)) : TA := fun σ H Q => pinS pn σ ∧ denL K xa W0 f σ H Q
section
variable {K : PySem.W.Frag} {xa : XA} {W : WX} {f : DS → Store → RE} {g : DS → Store → R (List D)} {σ : L2.St} {H : Hp} {pn : Option (Nat × Addr)}
theorem den_mono {Q Q' : VK} (h : denE K xa W f σ H Q) (i : ∀ v H', Q v H' → Q' v H') : denE K xa W f σ H Q' := by
  obtain ⟨ex, ρ, ds, st, M, S, q⟩ := h
  exact ⟨ex, ρ, ds, st, M, S, q.imp i⟩
theorem denL_mono {Q Q' : List V → Hp → Prop} (h : denL K xa W g σ H Q) (i : ∀ v H', Q v H' → Q' v H') : denL K xa W g σ H Q' := by
  obtain ⟨ex, ρ, ds, st, M, S, q⟩ := h
  refine ⟨ex, ρ, ds, st, M, S, ?_⟩
  cases e : g ds st with
  | ok xs s => rw [e] at q; exact fun v H2 ρ2 e2 M r => i _ _ (q v H2 ρ2 e2 M r)
  | exc x s => rw [e] at q; exact q
  | no => rw [e] at q; exact q
end
/-- the context of a suite -/
structure UC (X : Cx) (pn : Option (Nat × Addr)) (xa : XA) (cl : Cl) (G : Gam) : Prop where
  names : X.N = G.N
  nd : X.N.Nodup
  sc : X.env.scope = G.sc
  un : X.A.units + 90 < cLine
  blt : ∀ x ∈ bltNames, X.mg x = none
  fn : ∀ x, X.fn x = true
  is : ∀ c ex, isXB G (pn.map (·.1)) c ex = true → PE X ex (denX pn X.K xa (evE cl (.exis c)))
section
variable {X : Cx} {xa : XA} {cl : Cl} {G : Gam} {pn : Option (Nat × Addr)}
def PEx (X : Cx) (pn : Option (Nat × Addr)) (xa : XA) (cl : Cl) : List E → List Expr → Prop
  | [], [] => True
  | e :: es, x :: xs => PE X x (denX pn X.K xa (evE cl e)) ∧ PEx X pn xa cl es xs
  | _, _ => False
theorem PEx.one {es : List E} {x : Expr} (h : PEx X pn xa cl es [x]) : ∃ e, es = [e] ∧ PE X x (denX pn X.K xa (evE cl e)) := by
  match es, h with
  | [e], h => exact ⟨e, rfl, h.1⟩
  | [], h => exact h.elim
  | _ :: _ :: _, h => exact h.2.elim
theorem PEx.two {es : List E} {x y : Expr} (h : PEx X pn xa cl es [x, y]) : ∃ e f, es = [e, f] ∧ PE X x (denX pn X.K xa (evE cl e)) ∧ PE X y (denX pn X.K xa (evE cl f)) := by
  match es, h with
  | [e, f], h => exact ⟨e, f, rfl, h.1, h.2.1⟩
  | [], h => exact h.elim
  | [_], h => exact h.2.elim
  | _ :: _ :: _ :: _, h => exact h.2.2.elim
theorem PEx.pa : ∀ {es : List E} {xs : List Expr}, PEx X pn xa cl es xs → xs.all plainArg = true → PA X xs (denLX pn X.K xa (evL cl es))
  | [], [], _, _ => pa_nil.imp fun σ H Q ⟨_, ex, ρ, ds, st, M, S, q⟩ => by simp only [evL] at q; exact q [] H ρ (Ext.refl _ _) M rfl
  | e :: es, x :: xs, h, p => by
    rw [List.all_cons, Bool.and_eq_true] at p
    refine (pa_cons h.1 (PEx.pa h.2 p.2) (star_cons p.1 _ _)).imp fun σ H Q ⟨hp, ex, ρ, ds, st, M, S, q⟩ => ?_
    refine ⟨hp, ex, ρ, ds, st, M, S, ?_⟩
    simp only [evL] at q
    cases e1 : evE cl e ds st with
    | no => rw [e1] at q; exact q
    | exc x s => rw [e1] at q; exact q
    | ok x st1 =>
      rw [e1] at q
      intro v H1 ρ1 x1 M1 r1
      refine ⟨hp, ex, ρ1, ds, st1, M1, S.ext x1, ?_⟩
      simp only [R.bind] at q
      cases e2 : evL cl es ds st1 with
      | no => rw [e2] at q; exact q
      | exc x s => rw [e2] at q; exact fun H' ρ' e' M' => q H' ρ' (x1.trans e') M'
      | ok xs st2 =>
        rw [e2] at q
        exact fun vs H2 ρ2 x2 M2 r2 => q (v :: vs) H2 ρ2 (x1.trans x2) M2 ⟨v, vs, rfl, r1.ext x2, r2⟩
  | [], _ :: _, h, _ => h.elim
  | _ :: _, [], h, _ => h.elim
theorem UC.glob (g : UC X pn xa cl G) {x : Str} (h : gloB G.sc x = true) : Gl X x := by
  show X.env.scope.names.lookup x = _
  rw [g.sc]
  exact glo_of h
theorem primU_ok (g : UC X pn xa cl G) {p : P} {es : List E} {ex : Expr} {as : List Expr} (hu : uP p = true) (h : argsP G.sc p ex = some as) (hp : PEx X pn xa cl es as) : PE X ex (denX pn X.K xa fun ds st => (evL cl es ds st).bind fun xs st' => primF p xs st') := by
  have un65 : X.A.units + 65 < cLine := by have := g.un; omega
  cases p with
  | op o =>
    simp only [argsP] at h
    split at h
    · rename_i l op r pos
      split at h
      · rename_i hb
        cases h
        obtain ⟨e, f, rfl, he, hf⟩ := hp.two
        obtain ⟨rr, h1, h2⟩ := bin_ok (X := X) hb
        exact (pe_op (pos := pos) h1 he hf).imp fun σ H Q ⟨q0, q⟩ => by
          simp only [bnd2] at q
          exact ⟨q0, den_mono (den_two (g := fun x y st2 => opF o x y st2) q fun ex H2 ρ2 st2 x y v u M r1 r2 q => h2 M r1 r2 q) fun v H1 z => ⟨q0, z⟩⟩
      · cases h
    · rename_i l op r pos
      split at h
      · rename_i hb
        cases h
        obtain ⟨e, f, rfl, he, hf⟩ := hp.two
        obtain ⟨rr, h1, h2⟩ := cmp_ok (X := X) g.un hb.1
        exact (pe_cmpR (pos := pos) h1 he hf (noSet_hm hb.2 _)).imp fun σ H Q ⟨q0, q⟩ => by
          simp only [bnd2] at q
          exact ⟨q0, den_mono (den_two (g := fun x y st2 => opF o x y st2) q fun ex H2 ρ2 st2 x y v u M r1 r2 q => h2 M r1 r2 q) fun v H1 z => ⟨q0, z⟩⟩
      · cases h
    · cases h
  | int1 =>
    have h : bltArgs G.sc .int1 ex = some as := h
    obtain ⟨x, n, p1, pos, hb, rfl, hg, ha, hl⟩ := blt_args h
    cases hb
    obtain ⟨a, rfl⟩ := len_one hl
    obtain ⟨e, rfl, he⟩ := hp.one
    simp only [List.all_cons, List.all_nil, Bool.and_true] at ha
    refine (pe_callTy (pos := pos) (p := p1) call_intM (g.glob hg) (g.blt _ (by decide)) bootL_int (pa_cons he pa_nil (star_cons ha _ _)) (by decide) (by decide) (star_cons ha _ _) rfl).imp fun σ H Q ⟨q0, q⟩ => ?_
    simp only [bnd1] at q
    exact ⟨q0, den_one (g := fun v st1 => prim1F .int1 v st1) q fun ex H2 ρ2 st2 y v M r q => ok_int1 M r q⟩
  | ix =>
    simp only [argsP] at h
    split at h
    · rename_i a b pos
      split at h
      · rename_i hb
        cases h
        obtain ⟨e, f, rfl, he, hf⟩ := hp.two
        exact (pe_ix (pos := pos) (IxR.or ix_seq (ix_dM un65)) he hf (plainIx_of hb)).imp fun σ H Q ⟨q0, q⟩ => by
          simp only [bnd2] at q
          exact ⟨q0, den_mono (den_two (g := fun x y st2 => prim2F .ix x y st2) q fun ex H2 ρ2 st2 x y v u M r1 r2 q => ok_ix M r1 r2 q) fun v H1 z => ⟨q0, z⟩⟩
      · cases h
    · cases h
  | tup =>
    simp only [argsP] at h
    split at h
    · split at h
      · rename_i hb
        cases h
        refine (pe_tup (hp.pa hb)).imp fun σ H Q ⟨q0, q⟩ => ⟨q0, ?_⟩
        refine den_lift (es := []) (g := fun xs st1 => primF .tup xs st1) q fun ex H2 ρ2 st2 xs vs M r q => ?_
        simp only [primF] at q
        split at q
        · rename_i hl
          refine ⟨by rw [← r.length]; exact Nat.le_trans hl (by decide), fun p hp => ?_⟩
          have e : Ext ρ2 H2 ρ2 (upd H2 p (.tup vs)) := Ext.laid hp
          exact q (.ref p) _ ρ2 e (M.laid hp) ⟨p, vs, rfl, .inl upd_same, r.ext e⟩
        · exact q.elim
      · cases h
    · cases h
  | lst m =>
    simp only [argsP] at h
    split at h
    · split at h
      · rename_i hb
        cases h
        refine (pe_lst (hp.pa hb)).imp fun σ H Q ⟨q0, q⟩ => ⟨q0, ?_⟩
        refine den_lift (es := []) (g := fun xs st1 => primF (.lst m) xs st1) q fun ex H2 ρ2 st2 xs vs M r q => ?_
        simp only [primF] at q
        split at q
        · rename_i hl
          exact ⟨by rw [← r.length]; exact Nat.le_trans hl (by decide), fun p hp => q.newL M r p hp⟩
        · exact q.elim
      · cases h
    · cases h
  | _ => simp [uP] at hu
theorem denX_and {a b : Expr} {rest : List Expr} {pos : Pos} {fa fb : DS → Store → RE} (ha : PE X a (denX pn X.K xa fa)) (hb : PE X (.BoolOp .And (b :: rest) pos) (denX pn X.K xa fb)) :
    PE X (.BoolOp .And (a :: b :: rest) pos) (denX pn X.K xa fun ds st => (fa ds st).bind fun x st1 => match x with
    | .bl true => fb ds st1
    | .bl false => .ok (.bl false) st1
    | _ => .no) := by
  refine (pe_and ha hb).imp fun σ H Q ⟨q0, h⟩ => ⟨q0, ?_⟩
  obtain ⟨ex, ρ, ds, st, M, S, q⟩ := h
  refine ⟨ex, ρ, ds, st, M, S, (PostV.bind q).imp fun v H1 ⟨x, st1, ρ1, e1, M1, r1, q1⟩ => ?_⟩
  split at q1
  · cases r1
    exact ⟨true, rfl, iteT ⟨q0, ex, ρ1, ds, st1, M1, S.ext e1, q1⟩⟩
  · cases r1
    exact ⟨false, rfl, iteF (q1.here M1 rfl)⟩
  · exact q1.elim
theorem peX_bool1 {a : Expr} {pos : Pos} {t : TE} (h : PE X a t) : PE X (.BoolOp .And [a] pos) t := pe_bool1 h
end
mutual
theorem sndU {xa : XA} {cl : Cl} {G : Gam} {pn : Option (Nat × Addr)} : ∀ (e : E) {X : Cx}, UC X pn xa cl G → ∀ {ex : Expr}, chkU G (pn.map (·.1)) e ex = true → PE X ex (denX pn X.K xa (evE cl e))
  | .k d, X, g, ex, h => by
    simp only [chkU] at h
    split at h
    · refine (k_ok (xa := xa) (W := W0) h).imp fun σ H Q ⟨q0, q⟩ => ?_
      simp only [evE] at q
      exact q
    · cases h
  | .var j, X, g, ex, h => by
    simp only [chkU] at h
    split at h
    · rename_i x pos
      simp only [Bool.and_eq_true, decide_eq_true_eq] at h
      obtain ⟨⟨h1, h2⟩, h3⟩ := h
      have hv : Vis X.env.scope x := by rw [g.sc]; exact vis_of h2
      refine (den_var (pe_var (by rw [g.names]; exact h1) hv (okName_of h3).1 (okName_of h3).2.1) (xa := xa) (W := W0)).imp fun σ H Q ⟨q0, q⟩ => ?_
      simp only [evE] at q
      exact q
    · cases h
  | .exis c, X, g, ex, h => by
    simp only [chkU] at h
    exact g.is c ex h
  | .pr p es, X, g, ex, h => by
    simp only [chkU, Bool.and_eq_true] at h
    obtain ⟨hu, h⟩ := h
    split at h
    · rename_i as ha
      refine (primU_ok g hu ha (sndUL es g h)).imp fun σ H Q q => ?_
      simp only [evE] at q
      exact q
    · cases h
  | .and a b, X, g, ex, h => by
    simp only [chkU] at h
    split at h
    · rename_i x y pos
      rw [Bool.and_eq_true] at h
      exact (denX_and (pos := pos) (sndU a g h.1) (peX_bool1 (sndU b g h.2))).imp fun σ H Q q => by simp only [evE] at q; exact q
    · rename_i x y z r pos
      rw [Bool.and_eq_true] at h
      exact (denX_and (pos := pos) (sndU a g h.1) (sndU b g h.2)).imp fun σ H Q q => by simp only [evE] at q; exact q
    · cases h
  | .glob _ _, X, g, ex, h => by simp [chkU] at h
  | .mth _ _ _, X, g, ex, h => by simp [chkU] at h
  | .slc _ _ _ _ _ _, X, g, ex, h => by simp [chkU] at h
  | .or _ _, X, g, ex, h => by simp [chkU] at h
  | .not _, X, g, ex, h => by simp [chkU] at h
  | .ife _ _ _, X, g, ex, h => by simp [chkU] at h
  | .chain _ _ _ _ _, X, g, ex, h => by simp [chkU] at h
  | .call _ _ _, X, g, ex, h => by simp [chkU] at h
  | .callM _ _, X, g, ex, h => by simp [chkU] at h
  | .comp _ _ _ _ _ _, X, g, ex, h => by simp [chkU] at h
  | .exat, X, g, ex, h => by simp [chkU] at h
theorem sndUL {xa : XA} {cl : Cl} {G : Gam} {pn : Option (Nat × Addr)} : ∀ (es : List E) {X : Cx}, UC X pn xa cl G → ∀ {xs : List Expr}, chkUL G (pn.map (·.1)) es xs = true → PEx X pn xa cl es xs
  | [], X, g, xs, h => by
    cases xs with
    | nil => trivial
    | cons _ _ => simp [chkUL] at h
  | e :: es, X, g, xs, h => by
    cases xs with
    | nil => simp [chkUL] at h
    | cons x xs =>
      simp only [chkUL, Bool.and_eq_true] at h
      exact ⟨sndU e g h.1, sndUL es g h.2⟩
end
end MP
end
section
set_option maxRecDepth 100000
set_option maxHeartbeats 8000000
/-! MP: exceptions: statements of suites; clauses. -/
namespace MP
open PySem PySem.Spec PyProof.Rows L2
theorem noComp_sw {a : Expr} (h : noComp a = true) (t : Option Expr) (l : Nat) (env : Env) : swapsWith a t l env = pure false := by
  cases a <;> first | rfl | (simp [noComp] at h)
def PostW (pn : Option (Nat × Addr)) (K : PySem.W.Frag) (ex : Addr → Prop) (H : Hp) (ρ : List Addr) (res : RS) (D : Ends) : Prop := match res with
  | .nx ds' st' => ∀ σ' H' ρ', Ext ρ H ρ' H' → Mem K ex H' ρ' st' → Slots K ex H' ρ' σ' ds' → pinS pn σ' → D.nx σ' H'
  | .rt d st' => ∀ v H' ρ', Ext ρ H ρ' H' → Mem K ex H' ρ' st' → Rep K ex H' ρ' d v → D.rt v H'
  | .bk ds' st' => ∀ σ' H' ρ', Ext ρ H ρ' H' → Mem K ex H' ρ' st' → Slots K ex H' ρ' σ' ds' → pinS pn σ' → D.bk σ' H'
  | .ct ds' st' => ∀ σ' H' ρ', Ext ρ H ρ' H' → Mem K ex H' ρ' st' → Slots K ex H' ρ' σ' ds' → pinS pn σ' → D.ct σ' H'
  | .exc _ _ _ => False
  | .no => False
def denW (pn : Option (Nat × Addr)) (K : PySem.W.Frag) (f : DS → Store → RS) : TS := fun D σ H => pinS pn σ ∧ ∃ ex ρ ds st, Mem K ex H ρ st ∧ Slots K ex H ρ σ ds ∧ PostW pn K ex H ρ (f ds st) D
section
variable {K : PySem.W.Frag} {ex : Addr → Prop} {H H' : Hp} {ρ ρ' : List Addr} {st : Store} {σ : L2.St} {ds : DS} {xa : XA} {En : Ends} {pn : Option (Nat × Addr)}
theorem PostW.step {x : RS} (e : Ext ρ H ρ' H') (h : PostW pn K ex H ρ x En) : PostW pn K ex H' ρ' x En := by
  cases x with
  | nx d s => exact fun v H2 ρ2 e2 => h v H2 ρ2 (e.trans e2)
  | rt d s => exact fun v H2 ρ2 e2 => h v H2 ρ2 (e.trans e2)
  | bk d s => exact fun v H2 ρ2 e2 => h v H2 ρ2 (e.trans e2)
  | ct d s => exact fun v H2 ρ2 e2 => h v H2 ρ2 (e.trans e2)
  | exc x d s => exact h
  | no => exact h
theorem PostW.bind {x : RE} {g : D → Store → RS} (h : PostW pn K ex H ρ (x.bindS ds g) En) :
    PostV K ex H ρ x (xOf xa W0 σ) fun v H1 => ∃ d st1 ρ1, Ext ρ H ρ1 H1 ∧ Mem K ex H1 ρ1 st1 ∧ Rep K ex H1 ρ1 d v ∧ PostW pn K ex H1 ρ1 (g d st1) En := by
  cases x with
  | ok d s => exact fun v H2 ρ2 e2 M r => ⟨d, s, ρ2, e2, M, r, PostW.step e2 (show PostW pn K ex H ρ (g d s) En from h)⟩
  | exc x s => exact h.elim
  | no => exact h
theorem pinS_set {i : Nat} {v : Option V} (hi : pn.map (·.1) ≠ some i) (h : pinS pn σ) : pinS pn (σ.set i v) := by
  cases pn with
  | none => trivial
  | some p =>
    have : p.1 ≠ i := fun e => hi (by rw [← e]; rfl)
    show (σ.set i v)[p.1]? = _
    rw [List.getElem?_set_ne (Ne.symm this)]
    exact h
end
section
variable {X : Cx} {xa : XA} {cl : Cl} {G : Gam} {pn : Option (Nat × Addr)}
theorem testX {a : Expr} {fa : DS → Store → RE} (hb : noBool a = true) (ha : PE X a (denX pn X.K xa fa)) : PT X a (fun σ H Q => denX pn X.K xa fa σ H fun v H' => ∃ c, v = .bl c ∧ Q c H') :=
  pt_val ha (fun whole => plainT_is (by cases a <;> first | rfl | simp [noBool] at hb) _ _)
end
mutual
theorem sndV {xa : XA} {cl : Cl} {G : Gam} {pn : Option (Nat × Addr)} : ∀ (s : S) {X : Cx}, UC X pn xa cl G → ∀ {st : Stmt}, chkV G (pn.map (·.1)) s st = true → PS X st (denW pn X.K (evS cl s))
  | .set j e, X, g, st, h => by
    simp only [chkV] at h
    split at h
    · rename_i x p1 a pos
      simp only [Bool.and_eq_true, decide_eq_true_eq] at h
      obtain ⟨⟨⟨⟨h1, h2⟩, h3⟩, h4⟩, h5⟩ := h
      refine (ps_set (pos := pos) g.nd (by rw [g.names]; exact h2) (by rw [g.sc]; exact loc_of h3) (sndU (xa := xa) e g h5) (noComp_sw h4 _ _ _) (.inl (g.fn x))).imp fun D σ H ⟨q0, ex, ρ, ds, st, M, S, q⟩ => ?_
      simp only [evS] at q
      refine ⟨q0, ex, ρ, ds, st, M, S, (PostW.bind q).imp fun v H1 ⟨d, st1, ρ1, e1, M1, r1, q1⟩ => ?_⟩
      exact q1 (σ.set j (some v)) H1 ρ1 (Ext.refl _ _) M1 ((S.ext e1).set j r1) (pinS_set h1 q0)
    · cases h
  | .ret e, X, g, st, h => by
    simp only [chkV] at h
    split at h
    · refine (ps_ret (sndU (xa := xa) e g h)).imp fun D σ H ⟨q0, ex, ρ, ds, st, M, S, q⟩ => ?_
      simp only [evS] at q
      refine ⟨q0, ex, ρ, ds, st, M, S, (PostW.bind q).imp fun v H1 ⟨d, st1, ρ1, e1, M1, r1, q1⟩ => ?_⟩
      exact q1 v H1 ρ1 (Ext.refl _ _) M1 r1
    · cases h
  | .ifs c a b, X, g, st, h => by
    simp only [chkV] at h
    split at h
    · simp only [Bool.and_eq_true] at h
      obtain ⟨⟨⟨h1, h2⟩, h3⟩, h4⟩ := h
      refine (ps_if (testX h1 (sndU (xa := xa) c g h2)) (sndVs a g h3) (sndVs b g h4)).imp fun D σ H ⟨q0, ex, ρ, ds, st, M, S, q⟩ => ?_
      simp only [evS] at q
      refine ⟨q0, ex, ρ, ds, st, M, S, (PostW.bind q).imp fun v H1 ⟨d, st1, ρ1, e1, M1, r1, q1⟩ => ?_⟩
      split at q1
      · cases r1
        exact ⟨true, rfl, iteT ⟨q0, ex, ρ1, ds, st1, M1, S.ext e1, q1⟩⟩
      · cases r1
        exact ⟨false, rfl, iteF ⟨q0, ex, ρ1, ds, st1, M1, S.ext e1, q1⟩⟩
      · exact q1.elim
    · cases h
  | .setix _ _ _, X, g, st, h => by simp [chkV] at h
  | .expr _, X, g, st, h => by simp [chkV] at h
  | .whl _ _, X, g, st, h => by simp [chkV] at h
  | .for _ _ _ _, X, g, st, h => by simp [chkV] at h
  | .brk, X, g, st, h => by simp [chkV] at h
  | .cnt, X, g, st, h => by simp [chkV] at h
  | .pass, X, g, st, h => by simp [chkV] at h
  | .raise _ _ _, X, g, st, h => by simp [chkV] at h
  | .tri _ _, X, g, st, h => by simp [chkV] at h
  | .hd _ _ _, X, g, st, h => by simp [chkV] at h
  | .dead, X, g, st, h => by simp [chkV] at h
theorem sndVs {xa : XA} {cl : Cl} {G : Gam} {pn : Option (Nat × Addr)} : ∀ (b : List S) {X : Cx}, UC X pn xa cl G → ∀ {sts : List Stmt}, chkVs G (pn.map (·.1)) b sts = true → PSs X sts (denW pn X.K (evB cl b))
  | [], X, g, sts, h => by
    cases sts with
    | nil => exact pss_nil.imp fun D σ H ⟨q0, ex, ρ, ds, st, M, S, q⟩ => by simp only [evB] at q; exact q σ H ρ (Ext.refl _ _) M S q0
    | cons _ _ => simp [chkVs] at h
  | s :: b, X, g, sts, h => by
    cases sts with
    | nil => simp [chkVs] at h
    | cons x xs =>
      simp only [chkVs, Bool.and_eq_true] at h
      refine (pss_cons (sndV s g h.1) (sndVs b g h.2)).imp fun D σ H ⟨q0, ex, ρ, ds, st, M, S, q⟩ => ?_
      refine ⟨q0, ex, ρ, ds, st, M, S, ?_⟩
      simp only [evB] at q
      cases e : evS cl s ds st with
      | nx ds' st' => rw [e] at q; exact fun σ' H' ρ' e1 M1 S1 p1 => ⟨p1, ex, ρ', ds', st', M1, S1, PostW.step e1 q⟩
      | rt d s => rw [e] at q; exact q
      | bk d s => rw [e] at q; exact q
      | ct d s => rw [e] at q; exact q
      | exc x d s => rw [e] at q; exact q
      | no => rw [e] at q; exact q
end
/-! ### classes of exceptions -/
def excCB (K : PySem.W.Frag) (D : Addr) : Bool :=
  decide (PySem.W.findIn K (.ref D) "__getattribute__" = some (some (.builtin "BaseException.__getattribute__"))) && decide (PySem.W.findIn K (.ref D) "__getattr__" = some none) &&
  decide (PySem.W.subIn K (.ref D) (.type "BaseException") = some true) && PySem.W.hasDictIn K D && decide (PySem.W.findIn K (.ref D) "__class__" = some (some (.builtin "object.__class__"))) &&
  decide (PySem.W.specialIn K (.builtin "object.__class__") "__get__" = some (some (.builtin "getset_descriptor.__get__"))) && decide (PySem.W.takesIn K (.builtin "object.__class__") = some true) &&
  decide (PySem.W.mroIn K D (.type "object") = some true)
theorem excCB_ok {K : PySem.W.Frag} {D : Addr} (h : excCB K D = true) : ExcC K D := by
  unfold excCB at h
  simp only [Bool.and_eq_true, decide_eq_true_eq] at h
  obtain ⟨⟨⟨⟨⟨⟨⟨h1, h2⟩, h3⟩, h4⟩, h5⟩, h6⟩, h7⟩, h8⟩ := h
  exact ⟨h1, h2, h3, h4, h5, h6, h7, h8⟩
/-- what is known of the classes -/
structure ExcTab (K : PySem.W.Frag) (mg : Str → Option Value) (xa : XA) (es : List Nat) : Prop where
  glo : ∀ x ∈ es, ∃ C, mg (clsName x) = some (.ref C)
  own : ∀ x ∈ es, x ≠ 2 → ∀ C, mg (clsName x) = some (.ref C) → PySem.W.excIn K C He.veBase "ValueError.__new__" = true ∧ PySem.W.keepIn K (.ref C) = true ∧ PySem.W.subIn K (.ref C) (.type "BaseException") = some true ∧ PySem.W.typeIn K (.ref C) = some (.type "type")
  ec : ∀ x ∈ es, ∀ C, mg (clsName x) = some (.ref C) → ExcC K C
  exm : ∀ x ∈ es, ∀ y ∈ es, ∀ C D, mg (clsName x) = some (.ref C) → mg (clsName y) = some (.ref D) → PySem.W.exmOne K (.ref C) (.ref D) = some (isCls x y) ∧ PySem.W.kitOne K (.ref C) (.ref D) = some (isCls x y)
  ve : ∀ x ∈ es, ∀ C, mg (clsName x) = some (.ref C) → PySem.W.kitOne K (.ref C) (.type "ValueError") = some true
  xmk : ∀ x ∈ es, ∀ C, mg (clsName x) = some (.ref C) → ∀ H, xa ⟨x, none⟩ (.ref C) none H
  xof : ∀ e cls dd H, xa e cls dd H → dd = none ∧ e.cls ∈ es ∧ ∃ C, mg (clsName e.cls) = some (.ref C) ∧ cls = .ref C
theorem boot_VE : bootBuiltins "ValueError" = some (.type "ValueError") := by decide +kernel
section
variable {X : Cx} {xa : XA} {W : WX} {cl : Cl} {G : Gam}
/-- the context of an except suite without a name -/
theorem UC.plain (g : Good X xa W cl G) (hf : ∀ x, X.fn x = true) (a : Addr) (pn : List (Addr × Obj)) : UC (X.suite a pn) none xa cl G :=
  ⟨g.names, g.nd, g.sc, g.un2, g.blt, hf, fun c ex h => by simp [isXB] at h⟩
/-- .. with one -/
theorem UC.named (g : Good X xa W cl G) (T : ExcTab X.K X.mg xa G.exs) (hf : ∀ x, X.fn x = true) {a C : Addr} {oe : Obj} {pn : List (Addr × Obj)} {i : Nat} {e : Ex} (he : e.cls ∈ G.exs) (hC : X.mg (clsName e.cls) = some (.ref C)) (hz : Zc (.ref C) none oe) (hd : ∃ vs, oe.data = .fields vs) :
    UC (X.suite a ((a, oe) :: pn)) (some (i, a)) xa (clE cl e) G := by
  refine ⟨g.names, g.nd, g.sc, g.un2, g.blt, hf, fun c ex h => ?_⟩
  simp only [isXB, Option.map_some] at h
  split at h
  · rename_i f p1 n p2 y p3 pos
    simp only [Bool.and_eq_true, Bool.or_eq_true, decide_eq_true_eq] at h
    obtain ⟨⟨⟨⟨⟨⟨⟨rfl, h1⟩, h2⟩, h3⟩, h4⟩, h5⟩, h6⟩, h7⟩ := h
    have gl : ∀ {z : Str}, gloB G.sc z = true → Gl (X.suite a ((a, oe) :: pn)) z := fun hz => g.glob hz
    have hv : Vis (X.suite a ((a, oe) :: pn)).env.scope n := by show Vis X.env.scope n; rw [g.sc]; exact vis_of h3
    have pv : PE (X.suite a ((a, oe) :: pn)) (.Name n p2) (tVar i) := pe_var (by show X.N[i]? = _; rw [g.names]; exact h2) hv (okName_of h4).1 (okName_of h4).2.1
    have key : ∀ (c' : V) (cv : Value), PE (X.suite a ((a, oe) :: pn)) (.Name y p3) (tC c') → (∀ u, RelV c' u → u = cv) → PySem.W.kitOne X.K (.ref C) cv = some (isCls e.cls c) → c < 10 →
        PE (X.suite a ((a, oe) :: pn)) (.Call (.Name "isinstance" p1) [.Name n p2, .Name y p3] [] pos) (denX (some (i, a)) X.K xa (evE (clE cl e) (.exis c))) := fun c' cv pc hc hk hlt => by
      refine (pe_callB (call_isE (T.ec _ he C hC) hz hd) (gl h1) (g.blt _ (by decide)) boot_isinstance (pa_cons pv (pa_cons pc pa_nil rfl) rfl) (by decide) (by decide) rfl rfl).imp fun σ H Q ⟨q0, ex, ρ, ds, st, M, S, q⟩ => ?_
      have ev : evE (clE cl e) (.exis c) ds st = .ok (.bl (isCls e.cls c)) st := by
        simp only [evE, clE]
        rw [if_neg (by omega), if_pos (by omega), Nat.add_sub_cancel_left]
      rw [ev] at q
      refine ⟨.ref a, q0, c', cv, isCls e.cls c, rfl, hc, hk, q.here M rfl⟩
    rcases h7 with ⟨⟨h7, h8⟩, rfl⟩ | ⟨rfl, rfl⟩
    · obtain ⟨D, hD⟩ := T.glo c h8
      exact key (.ref D) (.ref D) (pe_glob (gl h5) hD rfl (okName_of h6).1) (fun u r => r) (T.exm _ he _ h8 C D hC hD).2 (by omega)
    · refine key (.ty "ValueError") (.type "ValueError") (pe_bltn (gl h5) (g.blt _ (by decide)) boot_VE rfl (by decide) (by decide)) (fun u r => r) ?_ (by omega)
      rw [T.ve _ he C hC]
      rfl
  · cases h
theorem hd_names (g : Good X xa W cl G) (T : ExcTab X.K X.mg xa G.exs) {c : Nat} {x : Str} (h : hdB G c x = true) : ∃ C, X.mg (clsName c) = some (.ref C) ∧ c ∈ G.exs ∧ Names X x (.ref C) := by
  unfold hdB at h
  simp only [Bool.and_eq_true, decide_eq_true_eq] at h
  obtain ⟨⟨⟨⟨h1, h2⟩, rfl⟩, h4⟩, h5⟩ := h
  obtain ⟨C, hC⟩ := T.glo c h2
  exact ⟨C, hC, h2, g.glob h4, (okName_of h5).1, .inl hC⟩
theorem Slots.hole {K : PySem.W.Frag} {ex : Addr → Prop} {H : Hp} {ρ : List Addr} {σ : L2.St} {ds : DS} (s : Slots K ex H ρ σ ds) (i : Nat) (v : Option V) : Slots K ex H ρ (σ.set i v) (ds.set i none) := by
  refine ⟨by rw [List.length_set, List.length_set]; exact s.1, fun j e h => ?_⟩
  by_cases hj : j = i
  · subst hj
    have hl : j < ds.length := by have := (List.getElem?_eq_some_iff.mp h).1; rwa [List.length_set] at this
    rw [List.getElem?_set_self hl] at h
    cases h
  · rw [List.getElem?_set_ne (Ne.symm hj)] at h
    rw [List.getElem?_set_ne (Ne.symm hj)]
    exact s.2 j e h
/-- clauses, some with a name -/
theorem hds_ok (g : Good X xa W cl G) (T : ExcTab X.K X.mg xa G.exs) (hf : ∀ x, X.fn x = true) : ∀ (hs : List S) (hds : List ExceptHandler), chkH G hs hds = true → ∃ l, ClzOk X hds l ∧
    ∀ {ex : Addr → Prop} {H : Hp} {ρ : List Addr} {st : Store} {σ : L2.St} {ds : DS} {e : Ex} {D : Ends} {cls : Value} {dd : Option Addr}, Mem X.K ex H ρ st → Slots X.K ex H ρ σ ds → xa e cls dd H → PostS X.K ex H ρ (evH cl hs e ds st) xa W D → wMix X.K W D l cls dd σ H
  | [], hds, h => by
    cases hds with
    | nil => exact ⟨[], .nil, fun {ex H ρ st σ ds e D cls dd} M S hx q => by simp only [evH] at q; exact q σ H ρ (Ext.refl _ _) M S cls dd hx⟩
    | cons _ _ => simp [chkH] at h
  | s :: r, hds, h => by
    simp only [chkH] at h
    split at h
    · rename_i c b x np b0 su pos hs'
      simp only [Bool.and_eq_true] at h
      obtain ⟨⟨h1, h2⟩, h3⟩ := h
      obtain ⟨l, hl, kl⟩ := hds_ok g T hf r hs' h3
      obtain ⟨C, hC, hc, hn⟩ := hd_names g T h1
      refine ⟨⟨.ref C, none, fun a _ _ => denW none X.K (evB cl b)⟩ :: l, .cons hn trivial (fun a oe cls d pn hz hd => sndVs (xa := xa) (pn := none) b (UC.plain g hf a _) h2) hl, fun {ex H ρ st σ ds e D cls dd} M S hx q => ?_⟩
      obtain ⟨rfl, he, C', hC', rfl⟩ := T.xof _ _ _ _ hx
      refine ⟨isCls e.cls c, (T.exm _ he _ hc C' C hC' hC).1, fun hb a _ => ⟨trivial, ex, ρ, ds, st, M, S, ?_⟩, fun hb => ?_⟩
      · simp only [evH] at q
        rw [if_pos hb] at q
        cases eb : evB cl b ds st with
        | nx d s => rw [eb] at q; exact fun σ' H' ρ' e1 M1 S1 _ => q σ' H' ρ' e1 M1 S1
        | rt d s => rw [eb] at q; exact q
        | bk d s => rw [eb] at q; exact fun σ' H' ρ' e1 M1 S1 _ => q σ' H' ρ' e1 M1 S1
        | ct d s => rw [eb] at q; exact fun σ' H' ρ' e1 M1 S1 _ => q σ' H' ρ' e1 M1 S1
        | exc x d s => rw [eb] at q; exact q
        | no => rw [eb] at q; exact q
      · simp only [evH] at q
        rw [if_neg (by rw [hb]; decide)] at q
        exact kl M S hx q
    · rename_i c i b x np n b0 su pos hs'
      simp only [Bool.and_eq_true, decide_eq_true_eq] at h
      obtain ⟨⟨⟨⟨h1, h2⟩, h3⟩, h4⟩, h5⟩ := h
      obtain ⟨l, hl, kl⟩ := hds_ok g T hf r hs' h5
      obtain ⟨C, hC, hm, hn⟩ := hd_names g T h1
      refine ⟨⟨.ref C, some i, fun a cls dd D σ H => ∃ e : Ex, (e.cls ∈ G.exs ∧ dd = none ∧ ∃ C', X.mg (clsName e.cls) = some (Value.ref C') ∧ cls = Value.ref C') ∧ denW (some (i, a)) X.K (evB (clE cl e) b) D σ H⟩ :: l,
        .cons hn ⟨by rw [g.names]; exact h2, by show X.env.scope.names.lookup n = _; rw [g.sc]; exact h3⟩ (fun a oe cls dd pn hz hd => ⟨fun pins s σ H D I ⟨e, ⟨he, hdd, C', hC', hcl⟩, hw⟩ => ?_⟩) hl, fun {ex H ρ st σ ds e D cls dd} M S hx q => ?_⟩
      · subst hdd hcl
        exact (sndVs (xa := xa) (pn := some (i, a)) b (UC.named g T hf he hC' hz hd) h4).run pins s σ H D I hw
      · obtain ⟨hdd, he, C', hC', hcl⟩ := T.xof _ _ _ _ hx
        have hx' := hx
        subst hdd hcl
        refine ⟨isCls e.cls c, (T.exm _ he _ hm C' C hC' hC).1, fun hb1 a _ => ?_, fun hb1 => ?_⟩
        · simp only [evH] at q
          rw [if_pos hb1] at q
          split at q
          · rename_i hi
            have hi' : i < σ.length := by rw [S.1]; exact hi
            refine ⟨e, ⟨he, rfl, C', hC', rfl⟩, List.getElem?_set_self hi', ex, ρ, ds.set i none, st, M, S.hole i _, ?_⟩
            cases es : evB (clE cl e) b (ds.set i none) st with
            | nx d s => rw [es] at q; exact fun σ2 H2 ρ2 e2 M2 S2 _ => q (σ2.set i none) H2 ρ2 e2 M2 (S2.hole i none)
            | rt d s => rw [es] at q; exact q
            | bk d s => rw [es] at q; exact q.elim
            | ct d s => rw [es] at q; exact q.elim
            | exc x d s => rw [es] at q; exact q.elim
            | no => rw [es] at q; exact q.elim
          · exact q.elim
        · simp only [evH] at q
          rw [if_neg (by rw [hb1]; decide)] at q
          exact kl M S hx' q
    · cases h
theorem Good.tr (g : Good X xa W cl G) {W' : WX} {pn : List (Addr × Obj)} {xe : Value → Shared → Prop} (tk : Takes (X.tr pn xe) W') : Good (X.tr pn xe) xa W' cl G :=
  ⟨g.names, g.nd, g.sc, g.calm, g.un2, g.blt, g.gl, fun f x np h => ⟨(g.fn f x np h).ex⟩, tk⟩
/-- the context of a def's body -/
structure SCx (X : Cx) (xa : XA) (G : Gam) : Prop where
  hp : PassesOwn (model X.prog X.w) X.A X.env X.xe
  hf : ∀ x, X.fn x = true
  exc : ExcTab X.K X.mg xa G.exs
  stk : X.stack = X.env :: X.outer
  frm : X.env.frame = some X.env.locals
theorem raise_ok (g : Good X xa W cl G) (T : ExcTab X.K X.mg xa G.exs) {c : Nat} {m a : E} {st : Stmt} (hc : c ≠ 2) (h : raiseB G c m a st = true) : PS X st (denS X.K xa W (evS cl (.raise c m a))) := by
  unfold raiseB at h
  split at h
  · rename_i x p1 z j p2 pos pos'
    rw [Bool.and_eq_true] at h
    obtain ⟨h1, h2⟩ := h
    obtain ⟨C, hC, hm, hn⟩ := hd_names g T h1
    split at h2
    · rename_i s
      obtain ⟨o1, o2, o3, o4⟩ := T.own c hm hc C hC
      have hx : X.mg x = some (.ref C) := by
        unfold hdB at h1
        simp only [Bool.and_eq_true, decide_eq_true_eq] at h1
        rw [h1.1.1.2]
        exact hC
      refine (ps_raise g.calm g.tk (pmk_own PySem.F.excBase_ValueError o1 hx o2 (raises_own o3 o4) hn.1 hn.2.1)).imp fun D σ H ⟨ex, ρ, ds, sto, M, S, q⟩ => ?_
      have e : evS cl (.raise c (.k (.str s)) (.k .non)) ds sto = .exc ⟨c, none⟩ ds sto := by simp only [evS, evE, R.bindS]
      rw [e] at q
      exact q σ H ρ (Ext.refl _ _) M S (.ref C) none (T.xmk c hm C hC H)
    · cases h2
  · cases h
/-- one clause with a name -/
theorem as_ok (g : Good X xa W cl G) (kx : SCx X xa G) {b : List S} {bd : List Stmt} {c : Nat} {v : Option Nat} {su : List S} {h : ExceptHandler} {pos : Pos} (hA : chkA G c v su h = true)
    (hb : ∀ (W' : WX) (pn : List (Addr × Obj)) (xe : Value → Shared → Prop), Takes (X.tr pn xe) W' → PassesOwn (model X.prog X.w) X.A X.env xe → PSs (X.tr pn xe) bd (denS X.K xa W' (evB cl b))) :
    PS X (.Try bd [h] [] [] pos) (denS X.K xa W (evS cl (.tri b [.hd c v su]))) := by
  unfold chkA at hA
  split at hA
  · rename_i i x np n b0 sus pos'
    simp only [Bool.and_eq_true, decide_eq_true_eq] at hA
    obtain ⟨⟨⟨h1, h2⟩, h3⟩, h4⟩ := hA
    obtain ⟨C, hC, hm, hn⟩ := hd_names g kx.exc h1
    refine (ps_try_as (i := i) (Wout := W) (tb := fun W' => denS X.K xa W' (evB cl b)) (ts := fun a cls dd D σ H => ∃ e : Ex, (e.cls ∈ G.exs ∧ dd = none ∧ ∃ C', X.mg (clsName e.cls) = some (Value.ref C') ∧ cls = Value.ref C') ∧ denW (some (i, a)) X.K (evB (clE cl e) su) D σ H)
      kx.stk kx.frm g.nd (by rw [g.names]; exact h2) (by show X.env.scope.names.lookup n = _; rw [g.sc]; exact h3) hn g.tk hb ?_).imp fun D σ H ⟨ex, ρ, ds, sto, M, S, q⟩ => ?_
    · intro a oe cls dd pn hz hd
      refine ⟨fun pins s σ H D I ⟨e, ⟨he, hdd, C', hC', hcl⟩, hw⟩ => ?_⟩
      subst hdd hcl
      exact (sndVs (xa := xa) (pn := some (i, a)) su (UC.named g kx.exc kx.hf he hC' hz hd) h4).run pins s σ H D I hw
    · refine ⟨ex, ρ, ds, sto, M, S, ?_⟩
      simp only [evS] at q
      cases eb : evB cl b ds sto with
      | nx d s => rw [eb] at q; exact q
      | rt d s => rw [eb] at q; exact q
      | bk d s => rw [eb] at q; exact q
      | ct d s => rw [eb] at q; exact q
      | no => rw [eb] at q; exact q
      | exc e ds' st' =>
        rw [eb] at q
        intro σ' H' ρ' x1 M1 S1 cls dd hx
        obtain ⟨hdd, he, C', hC', hcl⟩ := kx.exc.xof _ _ _ _ hx
        have hx' := hx
        subst hdd hcl
        refine ⟨isCls e.cls c, (kx.exc.exm _ he _ hm C' C hC' hC).1, fun hb1 a _ => ?_, fun hb1 => ?_⟩
        · simp only [evH] at q
          rw [if_pos hb1] at q
          split at q
          · rename_i hi
            have hi' : i < σ'.length := by rw [S1.1]; exact hi
            refine ⟨e, ⟨he, rfl, C', hC', rfl⟩, List.getElem?_set_self hi', ex, ρ', ds'.set i none, st', M1, S1.hole i _, ?_⟩
            have q' := PostS.step x1 q
            cases es : evB (clE cl e) su (ds'.set i none) st' with
            | nx d s => rw [es] at q'; exact fun σ2 H2 ρ2 e2 M2 S2 _ => q' (σ2.set i none) H2 ρ2 e2 M2 (S2.hole i none)
            | rt d s => rw [es] at q'; exact q'
            | bk d s => rw [es] at q'; exact q'.elim
            | ct d s => rw [es] at q'; exact q'.elim
            | exc x d s => rw [es] at q'; exact q'.elim
            | no => rw [es] at q'; exact q'.elim
          · exact q.elim
        · simp only [evH] at q
          rw [if_neg (by rw [hb1]; decide)] at q
          exact q σ' H' ρ' x1 M1 S1 _ _ hx'
  · cases hA
theorem many_ok (g : Good X xa W cl G) (kx : SCx X xa G) {b : List S} {bd : List Stmt} {s : S} {r : List S} {h : ExceptHandler} {hds : List ExceptHandler} {pos : Pos} (hA : chkH G (s :: r) (h :: hds) = true)
    (hb : ∀ (W' : WX) (pn : List (Addr × Obj)) (xe : Value → Shared → Prop), Takes (X.tr pn xe) W' → PassesOwn (model X.prog X.w) X.A X.env xe → PSs (X.tr pn xe) bd (denS X.K xa W' (evB cl b))) :
    PS X (.Try bd (h :: hds) [] [] pos) (denS X.K xa W (evS cl (.tri b (s :: r)))) := by
  obtain ⟨l, hl, kl⟩ := hds_ok g kx.exc kx.hf (s :: r) (h :: hds) hA
  refine (try_mix (tb := fun W' => denS X.K xa W' (evB cl b)) kx.stk kx.frm g.nd g.tk hb hl).imp fun D σ H ⟨ex, ρ, ds, sto, M, S, q⟩ => ?_
  refine ⟨ex, ρ, ds, sto, M, S, ?_⟩
  simp only [evS] at q
  cases eb : evB cl b ds sto with
  | nx d s => rw [eb] at q; exact q
  | rt d s => rw [eb] at q; exact q
  | bk d s => rw [eb] at q; exact q
  | ct d s => rw [eb] at q; exact q
  | no => rw [eb] at q; exact q
  | exc e ds' st' =>
    rw [eb] at q
    exact fun σ' H' ρ' x1 M1 S1 cls dd hx => kl M1 S1 hx (PostS.step x1 q)
theorem try_ok (g : Good X xa W cl G) (kx : SCx X xa G) {b hs : List S} {bd : List Stmt} {hds : List ExceptHandler} {pos : Pos}
    (h : (match hs, hds with
      | [.hd c v su], [h] => chkA G c v su h || chkH G [.hd c v su] [h]
      | s :: r, h :: hds => chkH G (s :: r) (h :: hds)
      | _, _ => false) = true)
    (hb : ∀ (W' : WX) (pn : List (Addr × Obj)) (xe : Value → Shared → Prop), Takes (X.tr pn xe) W' → PassesOwn (model X.prog X.w) X.A X.env xe → PSs (X.tr pn xe) bd (denS X.K xa W' (evB cl b))) :
    PS X (.Try bd hds [] [] pos) (denS X.K xa W (evS cl (.tri b hs))) := by
  split at h
  · rename_i c v su h'
    rw [Bool.or_eq_true] at h
    rcases h with h | h
    · exact as_ok g kx h hb
    · exact many_ok g kx h hb
  · exact many_ok g kx h hb
  · cases h
end
end MP
end
section
set_option maxRecDepth 100000
set_option maxHeartbeats 8000000
/-! MP: what is checked is walked: statements. -/
namespace MP
open PySem PySem.Spec PyProof.Rows L2
section
variable {X : Cx} {xa : XA} {W : WX} {cl : Cl} {G : Gam}
theorem comp_get (g : Good X xa W cl G) {e : E} {el : Expr} {gens : List Comprehension} {scope : Scope} {pos : Pos} (h : chkE G e (.ListComp el gens scope pos) = true) :
    ∃ m v elt k src cond x tgp iter ifs, e = .comp m v elt k src cond ∧ gens = [⟨.Name x tgp, iter, ifs, 0⟩] ∧ Blk X xa x tgp v el ifs scope (evE cl elt) (evE cl cond) ∧
      ((k = .itv ∧ ∃ z p2 w, iter = .Name z p2 ∧ src = [.var w] ∧ PE X (.Name z p2) (tVar w)) ∨ (k = .itx ∧ ∃ e0, src = [e0] ∧ PE X iter (denE X.K xa W (evE cl e0)) ∧ (∀ z, foldedSetIterable iter X.env z = pure z) ∧ LockSrc (evE cl e0) ∧ ∀ ds st e st', evE cl e0 ds st ≠ .exc e st') ∨
        (k ≠ .itv ∧ k ≠ .itx ∧ SrcOk X xa W (.Name x tgp) iter k (evL cl src) ∧ ∀ z, foldedSetIterable iter X.env z = pure z)) := by
  cases e with
  | comp m v elt k src cond =>
    simp only [chkE] at h
    split at h
    · rename_i el x tgp iter ifs scope pos heq
      cases heq
      split at h
      · rename_i as ha
        simp only [Bool.and_eq_true] at h
        obtain ⟨⟨⟨⟨h1, h2⟩, h3⟩, h4⟩, h5⟩ := h
        obtain ⟨b1, b2, b3⟩ := blk_ok h2
        refine ⟨m, v, elt, k, src, cond, x, tgp, iter, ifs, rfl, rfl, ?_, ?_⟩
        · refine ⟨by rw [g.names, g.sc]; exact b1, fun s H C cl' fp => g.blkG b2 b3 s H C cl' fp, fun s H C cl' fp => ?_, fun s H C cl' fp => (sndE elt (g.blk s H C cl' fp) h3).1⟩
          split at h5
          · split at h5
            · exact pts_yes
            · cases h5
          · exact pts_one (sndE cond (g.blk s H C cl' fp) h5).2.1
          · cases h5
        · by_cases hk : k = .itv
          · subst hk
            obtain ⟨i, rfl⟩ := isVar_eq h4
            simp only [argsI] at ha
            split at ha
            · rename_i z p2
              cases ha
              simp only [chkL, chkE, Bool.and_true, Bool.and_eq_true, decide_eq_true_eq] at h1
              obtain ⟨⟨q1, q2⟩, q3⟩ := h1
              have hv : Vis X.env.scope z := by rw [g.sc]; exact vis_of q2
              exact .inl ⟨rfl, z, p2, i, rfl, rfl, pe_var (i := i) (by rw [g.names]; exact q1) hv (okName_of q3).1 (okName_of q3).2.1⟩
            · cases ha
          · by_cases hkx : k = .itx
            · subst hkx
              obtain ⟨i, c, rfl⟩ := isIx_eq h4
              simp only [argsI] at ha
              split at ha
              · rename_i hb
                cases ha
                obtain ⟨e, he, hpe⟩ := PEs.one (sndL (cl := cl) _ g h1)
                cases he
                obtain ⟨l1, l2⟩ := ix_src cl i c
                exact .inr (.inl ⟨rfl, _, rfl, hpe, fun z => noSet_fold hb _ z, l1, l2⟩)
              · cases ha
            · obtain ⟨s1, s2⟩ := src_ok (tg := .Name x tgp) g ha hk hkx (sndL src g h1)
              exact .inr (.inr ⟨hk, hkx, s1, s2⟩)
      · cases h
    · cases h
  | exis c => simp [chkE] at h
  | exat => simp [chkE] at h
  | var i => simp [chkE] at h
  | k d => simp [chkE] at h
  | glob x d => simp [chkE] at h
  | pr p es =>
    simp only [chkE] at h
    split at h
    · rename_i as ha
      exfalso
      unfold argsP at ha
      split at ha <;> first | (simp at ha; done) | (obtain ⟨x, n, p1, pos, _, q2, _⟩ := blt_args ha; cases q2)
    · cases h
  | mth p o es =>
    simp only [chkE] at h
    split at h
    · rename_i ob as ha
      exfalso
      unfold argsM at ha
      split at ha <;> simp at ha
    · cases h
  | slc m hl hh a lo hi => simp [chkE] at h
  | and a b => simp [chkE] at h
  | or a b => simp [chkE] at h
  | not a => simp [chkE] at h
  | ife a b c => simp [chkE] at h
  | chain o o' a b c => simp [chkE] at h
  | call f raw es => simp [chkE] at h
  | callM f es => simp [chkE] at h
theorem sw_sub {a b c : Expr} {p : Pos} (l : Nat) (env : Env) : swapsWithSole [.Subscript a b p] c l env = pure false := by
  cases c <;> rfl
theorem swst_sub {a b c : Expr} {p : Pos} (env : Env) : swappedStores [.Subscript a b p] c env = pure none := by
  cases c <;> rfl
theorem asn_sub {a b : Expr} {p : Pos} (h : noSlice b = true) (env : Env) (v : Value) : assign (.Subscript a b p) env v = (do
      let ov ← holding [v] (eval a env)
      let iv ← holding [v, ov] (eval b env)
      standAt p
      holding [v, ov, iv] (setItem ov iv v)
      release [v, ov, iv] []) := by
  cases b <;> first | rfl | (simp [noSlice] at h)
theorem sw_name {x : Str} {p1 : Pos} {el : Expr} {gens : List Comprehension} {scope : Scope} {pos : Pos} {l : Nat} {env : Env} : swapsWith (.ListComp el gens scope pos) (some (.Name x p1)) l env = pure (env.blockKind == .function && env.kindOf x == some .local && p1.line == pos.line && !(scope.names.any fun (n, k) => n == x && (k == .local || k == .cell))) := rfl
theorem set_ok (g : Good X xa W cl G) (hf : ∀ x, X.fn x = true) {i : Nat} {e : E} {x : Str} {p1 pos : Pos} {a : Expr} (h1 : G.N[i]? = some x) (h2 : locB G.sc x = true) (hb : okSet a = true) (h3 : chkE G e a = true) :
    PS X (.Assign [.Name x p1] a pos) (denS X.K xa W (evS cl (.set i e))) := by
  have hN : X.N[i]? = some x := by rw [g.names]; exact h1
  have hl : Loc X.env.scope x := by rw [g.sc]; exact loc_of h2
  have usual : (swapsWith a (some (.Name x p1)) pos.line X.env = pure false) → PS X (.Assign [.Name x p1] a pos) (denS X.K xa W (evS cl (.set i e))) := fun hs =>
    (den_set (pos := pos) g.nd hN hl (sndE e g h3).1 hs (.inl (hf x))).imp fun D σ H q => by simp only [evS] at q; exact q
  by_cases hn : noComp a = true
  · exact usual (noComp_sw hn _ _ _)
  · cases a with
    | ListComp el gens scope cpos =>
      cases hsw : (X.env.blockKind == .function && X.env.kindOf x == some .local && p1.line == cpos.line && !(scope.names.any fun (n, k) => n == x && (k == .local || k == .cell))) with
      | false => exact usual (by rw [sw_name, hsw])
      | true =>
        have hlo : X.env.scope.names.lookup x = some .local := by
          simp only [Bool.and_eq_true] at hsw
          simpa [Env.kindOf] using hsw.1.1.2
        have hs : swapsWith (.ListComp el gens scope cpos) (some (.Name x p1)) pos.line X.env = pure true := by rw [sw_name, hsw]
        obtain ⟨m, v, elt, k, src, cond, y, tgp, iter, ifs, rfl, rfl, B, hk⟩ := comp_get g h3
        rcases hk with ⟨rfl, z, p2, w, rfl, rfl, hv⟩ | ⟨rfl, e0, rfl, hpe, hfs, l1, l2⟩ | ⟨hk, hkx, s1, s2⟩
        · refine (den_setcItv (W := W) (m := m) (spos := pos) g.calm g.nd hN hlo hs B hv).imp fun D σ H q => ?_
          simp only [evS, evE] at q
          rw [show (fun ds st => ((evL cl [.var w] ds st).bind fun xs st' => compF m (evE cl elt) (evE cl cond) v .itv xs ds st').bindS ds fun d st' => RS.nx (ds.set i (some d)) st') = (fun ds st => (fComp m (evE cl elt) (evE cl cond) v .itv (one (fvar w)) ds st).bindS ds fun d st' => RS.nx (ds.set i (some d)) st') by
            rw [evL_one, evE_var]; rfl] at q
          exact q
        · refine (den_setcItx (W := W) (m := m) (spos := pos) g.calm g.nd hN hlo hs B hpe hfs l1 l2).imp fun D σ H q => ?_
          simp only [evS] at q
          rw [evE_itx] at q
          exact q
        · refine (den_setc (m := m) (spos := pos) g.calm g.nd hk hkx hN hlo hs B s1 s2).imp fun D σ H q => ?_
          simp only [evS, evE] at q
          exact q
    | SetComp _ _ _ _ => simp [okSet] at hb
    | DictComp _ _ _ _ _ => simp [okSet] at hb
    | _ => simp [noComp] at hn
end
mutual
theorem sndS {xa : XA} {cl : Cl} : ∀ (s : S) {X : Cx} {W : WX} {G : Gam}, Good X xa W cl G → SCx X xa G → ∀ {st : Stmt}, chkS G s st = true → PS X st (denS X.K xa W (evS cl s))
  | .set i e, X, W, G, g, kx, st, h => by
    simp only [chkS] at h
    split at h
    · rename_i x p1 a pos
      simp only [Bool.and_eq_true, decide_eq_true_eq] at h
      exact set_ok g kx.hf h.1.1.1 h.1.1.2 h.1.2 h.2
    · cases h
  | .setix o i v, X, W, G, g, kx, st, h => by
    simp only [chkS] at h
    split at h
    · rename_i a b p1 c pos
      simp only [Bool.and_eq_true] at h
      obtain ⟨⟨⟨h1, h2⟩, h3⟩, h4⟩ := h
      refine (den_setix (pos := pos) (p1 := p1) g.un (sndE v g h3).1 (sndE o g h1).1 (sndE i g h2).1 (sw_sub _ _) (swst_sub _) rfl (fun v => asn_sub h4 _ _)).imp fun D σ H q => ?_
      simp only [evS] at q
      exact q
    · cases h
  | .expr e, X, W, G, g, kx, st, h => by
    simp only [chkS] at h
    split at h
    · rw [Bool.and_eq_true] at h
      refine (den_expr (sndE e g h.1).1 (noComp_sw h.2 _ _ _)).imp fun D σ H q => ?_
      simp only [evS] at q
      exact q
    · cases h
  | .ret e, X, W, G, g, kx, st, h => by
    simp only [chkS] at h
    split at h
    · refine (den_ret (sndE e g h).1).imp fun D σ H q => ?_
      simp only [evS] at q
      exact q
    · cases h
  | .ifs c a b, X, W, G, g, kx, st, h => by
    simp only [chkS] at h
    split at h
    · simp only [Bool.and_eq_true] at h
      refine (den_if (sndE c g h.1.1).2.1 (sndB a g kx h.1.2) (sndB b g kx h.2)).imp fun D σ H q => ?_
      simp only [evS] at q
      exact q
    · cases h
  | .whl c b, X, W, G, g, kx, st, h => by
    simp only [chkS] at h
    split at h
    · simp only [Bool.and_eq_true] at h
      refine (den_while kx.hp (sndE c g h.1).2.1 (sndB b g kx h.2) whlFuel).imp fun D σ H q => ?_
      simp only [evS] at q
      exact q
    · cases h
  | .for v k src b, X, W, G, g, kx, st, h => by
    simp only [chkS] at h
    split at h
    · rename_i x tgp iter bd pos
      split at h
      · rename_i as ha
        simp only [Bool.and_eq_true, decide_eq_true_eq] at h
        obtain ⟨⟨⟨⟨h1, h2⟩, h3⟩, h4⟩, h5⟩ := h
        have hl : Loc X.env.scope x := by rw [g.sc]; exact loc_of h3
        have hg : PG X (.Name x tgp) (gName v) := pg_name g.nd (by rw [g.names]; exact h2) hl (.inl (kx.hf x))
        by_cases hk : k = .itv
        · subst hk
          obtain ⟨i, rfl⟩ := isVar_eq h5
          simp only [argsI] at ha
          split at ha
          · rename_i z p2
            cases ha
            simp only [chkL, chkE, Bool.and_true, Bool.and_eq_true, decide_eq_true_eq] at h1
            obtain ⟨⟨q1, q2⟩, q3⟩ := h1
            have hv : Vis X.env.scope z := by rw [g.sc]; exact vis_of q2
            refine (den_forItv (pos := pos) kx.hp g.calm (pe_var (i := i) (by rw [g.names]; exact q1) hv (okName_of q3).1 (okName_of q3).2.1) hg (sndB b g kx h4)).imp fun D σ H q => ?_
            simp only [evS, evL_one, evE_var] at q
            exact q
          · cases ha
        · by_cases hkx : k = .itx
          · subst hkx; cases h5
          obtain ⟨s1, s2⟩ := src_ok (tg := .Name x tgp) g ha hk hkx (sndL src g h1)
          refine (den_for (pos := pos) kx.hp g.calm hk hkx s1 hg (sndB b g kx h4) s2).imp fun D σ H q => ?_
          simp only [evS] at q
          exact q
      · cases h
    · cases h
  | .brk, X, W, G, g, kx, st, h => by
    simp only [chkS] at h
    split at h
    · exact den_brk.imp fun D σ H q => by simp only [evS] at q; exact q
    · cases h
  | .cnt, X, W, G, g, kx, st, h => by
    simp only [chkS] at h
    split at h
    · exact den_cnt.imp fun D σ H q => by simp only [evS] at q; exact q
    · cases h
  | .pass, X, W, G, g, kx, st, h => by
    simp only [chkS] at h
    split at h
    · exact den_pass.imp fun D σ H q => by simp only [evS] at q; exact q
    · cases h
  | .raise c m a, X, W, G, g, kx, st, h => by
    simp only [chkS, Bool.and_eq_true, decide_eq_true_eq] at h
    exact raise_ok g kx.exc h.1 h.2
  | .hd _ _ _, X, W, G, g, kx, st, h => by simp [chkS] at h
  | .tri b hs, X, W, G, g, kx, st, h => by
    simp only [chkS] at h
    split at h
    · rename_i bd hds pos
      rw [Bool.and_eq_true] at h
      exact try_ok g kx h.2 fun W' pn xe tk hp => sndB b (g.tr tk) ⟨hp, kx.hf, kx.exc, kx.stk, kx.frm⟩ h.1
    · cases h
  | .dead, X, W, G, g, kx, st, h => ⟨fun pins s σ H D i ⟨ex, ρ, ds, sto, M, r, q⟩ => by
      simp only [evS] at q
      exact q.elim⟩
theorem sndB {xa : XA} {cl : Cl} : ∀ (b : List S) {X : Cx} {W : WX} {G : Gam}, Good X xa W cl G → SCx X xa G → ∀ {sts : List Stmt}, chkB G b sts = true → PSs X sts (denS X.K xa W (evB cl b))
  | [], X, W, G, g, kx, sts, h => by
    cases sts with
    | nil => exact den_bnil.imp fun D σ H q => by simp only [evB] at q; exact q
    | cons _ _ => simp [chkB] at h
  | s :: b, X, W, G, g, kx, sts, h => by
    cases sts with
    | nil => simp [chkB] at h
    | cons x xs =>
      simp only [chkB, Bool.and_eq_true] at h
      exact (den_bcons (sndS s g kx h.1) (sndB b g kx h.2)).imp fun D σ H q => by simp only [evB] at q; exact q
end
end MP
end
section
set_option maxRecDepth 100000
set_option maxHeartbeats 8000000
/-! MP: a table of functions keeps what the interpreter says. -/
namespace MP
open PySem PySem.Spec PyProof.Rows L2
structure Ent where
  id : Nat
  i : Nat
  x : Str
  ps : List Str
  N : List Str
  fn : Fn
def tabG (tab : List Ent) (f : Nat) : Option Ent := tab.find? fun e => e.id == f
theorem tabG_mem {tab : List Ent} {f : Nat} {e : Ent} (h : tabG tab f = some e) : e ∈ tab := List.mem_of_find?_eq_some h
def Ent.gam (tab : List Ent) (gl : Str → Option D) (es : List Nat) (sc : Scope) (e : Ent) : Gam := { N := e.N, sc := sc, fn := fun f => (tabG tab f).map fun e => (e.x, e.ps.length), gl := gl, exs := es }
def tabF (tab : List Ent) : Nat → Option Fn := fun f => (tabG tab f).map (·.fn)
def scopeB (N ps : List Str) (sc : Scope) : Bool :=
  decide (sc.kind = .function) && decide (sc.isCoroutine = false) && decide (sc.isGenerator = false) && decide N.Nodup && decide (N.take ps.length = ps) && ps.all (locB sc) && sc.names.all (fun y => decide (y.2 ≠ .free))
def entB (tab : List Ent) (gl : Str → Option D) (es : List Nat) (st : Stmt) (e : Ent) : Bool :=
  chkB (e.gam tab gl es (defScope st)) e.fn.body (defBody st) && scopeB e.N e.ps (defScope st) && decide (e.fn.np = e.ps.length) && decide (e.fn.ns = e.N.length)
theorem scope_ok {N ps : List Str} {sc : Scope} (h : scopeB N ps sc = true) : FnScope N ps sc := by
  unfold scopeB at h
  simp only [Bool.and_eq_true, decide_eq_true_eq, List.all_eq_true] at h
  obtain ⟨⟨⟨⟨⟨⟨h1, h2⟩, h3⟩, h4⟩, h5⟩, h6⟩, h7⟩ := h
  exact ⟨h1, h2, h3, h4, h5, fun x hx => loc_of (h6 x hx), h7⟩
/-- an exception, as a class tells it -/
def exA (mg : Str → Option Value) (es : List Nat) : XA := fun e cls dd _ => e.at_ = none ∧ dd = none ∧ e.cls ∈ es ∧ ∃ C, mg (clsName e.cls) = some (.ref C) ∧ cls = .ref C
structure TabOk (K : PySem.W.Frag) (mg : Str → Option Value) (tab : List Ent) (st : Nat → Stmt) (gl : Str → Option D) (es : List Nat) : Prop where
  exc : ExcTab K mg (exA mg es) es
  def_ : ∀ (f : Nat) (e : Ent), tabG tab f = some e → ∃ a fd, FunD K e.x e.x (defArgs (st e.i)) (defBody (st e.i)) (defScope (st e.i)) [] [] a fd ∧ mg e.x = some (.ref a) ∧ Binds K fd e.ps []
  blt : ∀ x ∈ bltNames, mg x = none
  glo : ∀ x d, gl x = some d → ∃ v u, mg x = some u ∧ RelV v u ∧ ∀ ex H ρ, Rep K ex H ρ d v
  chk : ∀ e : Ent, e ∈ tab → entB tab gl es (st e.i) e = true
theorem callF_zero (T : Nat → Option Fn) (f : Nat) (args : List D) (st : Store) : callF T 0 f args st = .no := rfl
theorem replicate_get {α : Type} {n i : Nat} {a b : α} (h : (List.replicate n a)[i]? = some b) : b = a := by
  rw [List.getElem?_replicate] at h
  split at h <;> simp_all
section
variable {P : Program} {w : World} {K : PySem.W.Frag} {mg : Str → Option Value} {base : Heap} {tab : List Ent} {st : Nat → Stmt} {gl : Str → Option D} {es : List Nat}
theorem start_slots {N : List Str} {ex : Addr → Prop} {H : Hp} {ρ : List Addr} {args : List D} {vs : List V} (r : Reps K ex H ρ args vs) (hl : args.length ≤ N.length) : Slots K ex H ρ (L2.start N vs) (args.map some ++ List.replicate (N.length - args.length) none) := by
  have e := r.length
  refine ⟨?_, fun i d h => ?_⟩
  · unfold L2.start
    rw [List.length_append, List.length_append, List.length_map, List.length_map, List.length_replicate, List.length_replicate, e]
  · unfold L2.start
    by_cases hi : i < args.length
    · rw [List.getElem?_append_left (by simpa using hi), List.getElem?_map] at h
      obtain ⟨d', hd, e2⟩ := Option.map_eq_some_iff.mp h
      cases e2
      obtain ⟨v, hv, rv⟩ := r.get hd
      exact ⟨v, by rw [List.getElem?_append_left (by rw [List.length_map]; omega), List.getElem?_map, hv]; rfl, rv⟩
    · rw [List.getElem?_append_right (by simpa using hi)] at h
      have := replicate_get h
      cases this
theorem fn_all (T : TabOk K mg tab st gl es) : ∀ (n f : Nat) (e : Ent), tabG tab f = some e → ∀ (a : Addr) (fd : FuncData), FunD K e.x e.x (defArgs (st e.i)) (defBody (st e.i)) (defScope (st e.i)) [] [] a fd →
    FnOk P w K mg base (L2.CX P w) n a fd e.ps (spC K (exA mg es) (callF (tabF tab) n) f e.ps.length)
  | 0, f, e, he, a, fd, F => by
    refine ⟨fun vs H Q E h => h.1, fun A outer s H args us vs Q E _ _ _ _ h => ?_⟩
    obtain ⟨_, ex, ρ, st, ds, M, r, q⟩ := h
    exact q.elim
  | n + 1, f, e, he, a, fd, F => by
    have hc := T.chk e (tabG_mem he)
    unfold entB at hc
    simp only [Bool.and_eq_true, decide_eq_true_eq] at hc
    obtain ⟨⟨⟨c1, c2⟩, c3⟩, c4⟩ := hc
    have S := scope_ok c2
    have hpl : e.ps.length ≤ e.N.length := by have := congrArg List.length S.pre; rw [List.length_take] at this; omega
    refine F.ok S (fun vs H Q E h => h.1) fun cdv A outer s H vs Q E hr h => ?_
    obtain ⟨hl, ex, ρ, sto, args, M, r, q⟩ := h
    have g : Good (cxOf (L2.CX P w) P w K mg base e.N e.x (defScope (st e.i)) a cdv A outer s H E) (exA mg es) (fun cls d _ H => E cls d H) (callF (tabF tab) n) (e.gam tab gl es (defScope (st e.i))) := by
      refine ⟨rfl, S.nd, rfl, rfl, ?_, T.blt, T.glo, fun f' x np h => ?_, takes_of rfl rfl rfl rfl⟩
      · have := hr.un
        show (A.deeper _).units + 90 < cLine
        omega
      · obtain ⟨e', he', h2⟩ := Option.map_eq_some_iff.mp (show (tabG tab f').map (fun e => (e.x, e.ps.length)) = some (x, np) from h)
        cases h2
        obtain ⟨a', fd', F', hm', hb'⟩ := T.def_ f' e' he'
        have FO := fn_all T n f' e' he' a' fd' F'
        exact ⟨n, a', fd', e'.ps, FO, hr, hm', F'.kp, hb'⟩
    refine ⟨_, sndB e.fn.body g ⟨passes_of rfl, fun _ => rfl, T.exc, rfl, rfl⟩ c1, ?_⟩
    have hal : args.length = e.ps.length := by rw [r.length, hl]
    refine ⟨ex, ρ, args.map some ++ List.replicate (e.N.length - args.length) none, sto, M, start_slots r (by omega), ?_⟩
    have hT : tabF tab f = some e.fn := by unfold tabF; rw [he]; rfl
    have q' := q
    unfold callF at q'
    rw [hT] at q'
    simp only at q'
    rw [if_pos (by rw [c3]; exact hal)] at q'
    rw [show e.fn.ns - e.fn.np = e.N.length - args.length by rw [c4, c3, hal]] at q'
    cases eb : evB (callF (tabF tab) n) e.fn.body (args.map some ++ List.replicate (e.N.length - args.length) none) sto with
    | nx ds' st' => rw [eb] at q'; exact fun σ' H' ρ' e1 M1 S1 => q' .non H' ρ' e1 M1 rfl
    | rt d st' => rw [eb] at q'; exact fun v H' ρ' e1 M1 r1 => q' v H' ρ' e1 M1 r1
    | exc x ds' st' => rw [eb] at q'; exact fun σ' H' ρ' e1 M1 S1 => q' H' ρ' e1 M1
    | bk _ _ => rw [eb] at q'; exact q'.elim
    | ct _ _ => rw [eb] at q'; exact q'.elim
    | no => rw [eb] at q'; exact q'.elim
end
end MP
end
section
set_option maxRecDepth 100000
set_option maxHeartbeats 8000000
/-! MP: a law, of its table. -/
namespace MP
open PySem PySem.Spec PyProof.Rows L2
inductive Con where
  | int (x : Str) (i : Int)
  | str (x : Str) (z : Tx)
  | tup (x : Str) (zs : List Tx)
def Con.name : Con → Str
  | .int x _ => x
  | .str x _ => x
  | .tup x _ => x
def Con.val : Con → D
  | .int _ i => .int i
  | .str _ z => .str z
  | .tup _ zs => .tup (zs.map .str)
def Con.fa : Con → He.Fa
  | .int x i => .int x i
  | .str x z => .str x (strOf z)
  | .tup x _ => .glo x
def Con.good : Con → Bool
  | .int _ _ => true
  | .str _ z => z.all fun c => decide (c < 0x110000)
  | .tup _ zs => decide (zs.length ≠ 2) && zs.all fun z => z.all fun c => decide (c < 0x110000)
def Con.tups : Con → Option (Str × List He.Dv)
  | .tup x zs => some (x, zs.map fun z => .str (strOf z))
  | _ => none
def conOf : List Con → Str → Option D
  | [], _ => none
  | c :: cs, x => if x = c.name then some c.val else conOf cs x
theorem conOf_mem : ∀ {cs : List Con} {x : Str} {d : D}, conOf cs x = some d → ∃ c ∈ cs, x = c.name ∧ d = c.val
  | [], _, _, h => by cases h
  | c :: cs, x, d, h => by
    unfold conOf at h
    split at h
    · rename_i e
      cases h
      exact ⟨c, List.mem_cons_self, e, rfl⟩
    · obtain ⟨c', h1, h2⟩ := conOf_mem h
      exact ⟨c', List.mem_cons_of_mem _ h1, h2⟩
def faTab (tab : List Ent) (cs : List Con) : List He.Fa := tab.map (fun e => .glo e.x) ++ (bltNames.map .free ++ cs.map Con.fa)
def fnTab (tab : List Ent) (st : Nat → Stmt) : List He.DefD := tab.map fun e => ⟨(e.x, none), e.x, e.x, defArgs (st e.i), defBody (st e.i), defScope (st e.i), [], []⟩
/-- what the end leans on: tuples of the module too -/
abbrev Tps := List (Str × List He.Dv) × List Nat
def excB (es : List Nat) (K : PySem.W.Frag) : Bool := es.all fun x => (He.Fa.glo (clsName x)).ok K && (x == 2 || (He.Fa.exc (clsName x)).ok K) && excCB K (He.ga K (clsName x)) &&
  decide (PySem.W.kitOne K (.ref (He.ga K (clsName x))) (.type "ValueError") = some true) &&
  es.all fun y => (He.Fa.exm (clsName x) (clsName y) (isCls x y)).ok K && decide (PySem.W.kitOne K (.ref (He.ga K (clsName x))) (.ref (He.ga K (clsName y))) = some (isCls x y))
def tupsB (ts : Tps) (K : PySem.W.Frag) : Bool := (ts.1.all fun t => He.tupB K t.1 t.2) && excB ts.2 K
abbrev AlC : Type := Bool × He.AlD
def SaysC (fa : List He.Fa) (fn : List He.DefD) (ts : Tps) (K : PySem.W.Frag) : Prop := (tupsB ts K, He.obsD fa fn K) = (true, He.valD fn)
def obsCG (n : Nat) (fa : List He.Fa) (fn : List He.DefD) (ts : Tps) (g : Addr → Option Obj) : AlC := (tupsB ts (He.frG g (He.asD g n)), He.obsD fa fn (He.frG g (He.asD g n)))
def hookC (n : Nat) (fa : List He.Fa) (fn : List He.DefD) (ts : Tps) : PySem.W.Hook where
  α := AlC
  obs := fun s => obsCG n fa fn ts s.heap.get?
  val := fun _ => (true, He.valD fn)
  says := fun _ h => ∃ K : PySem.W.Frag, K.In h ∧ SaysC fa fn ts K
  of := fun _ _ e => ⟨_, He.frG_in, e⟩
  keeps := fun _ _ _ ⟨K, hK, c⟩ k => ⟨K, PySem.W.Frag.In.keeps hK k, c⟩
theorem obsCG_eq {n : Nat} {fa : List He.Fa} {fn : List He.DefD} {ts : Tps} {g : Addr → Option Obj} {s : Shared} (h : ∀ a, g a = s.heap.get? a) : obsCG n fa fn ts g = (hookC n fa fn ts).obs s := by
  have e : g = s.heap.get? := funext h
  rw [e] <;> rfl
theorem SaysC.toD {fa : List He.Fa} {fn : List He.DefD} {ts : Tps} {K : PySem.W.Frag} (c : SaysC fa fn ts K) : He.SaysD fa fn K := congrArg Prod.snd c
theorem SaysC.tup {fa : List He.Fa} {fn : List He.DefD} {ts : Tps} {K : PySem.W.Frag} (c : SaysC fa fn ts K) {t : Str × List He.Dv} (h : t ∈ ts.1) : He.tupB K t.1 t.2 = true := List.all_eq_true.mp (Bool.and_eq_true_iff.mp (congrArg Prod.fst c)).1 t h
theorem SaysC.exc {fa : List He.Fa} {fn : List He.DefD} {ts : Tps} {K : PySem.W.Frag} (c : SaysC fa fn ts K) : excB ts.2 K = true := (Bool.and_eq_true_iff.mp (congrArg Prod.fst c)).2
theorem tupB_obj {K : PySem.W.Frag} {x : Str} {vs : List He.Dv} (h : He.tupB K x vs = true) : ∃ (o : Obj) (its : Array Value) (n : Nat), K.lookup (He.ga K x) = some o ∧ o.cls = .type "tuple" ∧ o.data = .seq its n ∧ its.size ≤ sizeLine ∧ Vals (vs.map (He.Dv.v K)) its.toList := by
  rcases He.tupB_ok h (fun _ => none) with h | h
  · rcases h with h | ⟨o, h⟩ <;> cases h
  · exact h
def tupsOf (cs : List Con) (es : List Nat) : Tps := (cs.filterMap Con.tups, es)
theorem reps_strs {K : PySem.W.Frag} {ex : Addr → Prop} {H : Hp} {ρ : List Addr} : ∀ (zs : List Tx), (∀ z ∈ zs, txOk z) → Reps K ex H ρ (zs.map D.str) ((zs.map fun z => He.Dv.str (strOf z)).map (He.Dv.v K))
  | [], _ => rfl
  | z :: zs, h => ⟨_, _, rfl, ⟨rfl, h z List.mem_cons_self⟩, reps_strs zs fun y hy => h y (List.mem_cons_of_mem _ hy)⟩
/-- how the arguments of a def lie -/
def BindOk (e : Ent) (st : Stmt) : Prop := ∀ (kV doc pm : Value) (an : Option Addr) (cdv ct : Value) (us : List Value), us.length = e.ps.length → bindArgs (PySem.W.fnOf e.x e.x (defArgs st) (defBody st) (defScope st) .none kV doc pm an cdv ct) ⟨us, []⟩ = pure (e.ps.zip us)
def AllB (st : Nat → Stmt) : List Ent → Prop
  | [] => True
  | e :: r => BindOk e (st e.i) ∧ AllB st r
theorem AllB.mem {st : Nat → Stmt} : ∀ {tab : List Ent}, AllB st tab → ∀ e : Ent, e ∈ tab → BindOk e (st e.i)
  | [], _, e, he => by cases he
  | a :: r, h, e, he => (List.mem_cons.mp he).elim (fun q => by rw [q]; exact h.1) (fun q => AllB.mem h.2 e q)
section
variable {K : PySem.W.Frag} {mg : Str → Option Value} {h : Heap} {tab : List Ent} {st : Nat → Stmt} {cs : List Con}
theorem says_fact (c : He.SaysD (faTab tab cs) (fnTab tab st) K) {f : He.Fa} (hf : f ∈ faTab tab cs) : f.ok K = true := by
  obtain ⟨i, hi⟩ := List.getElem?_of_mem hf
  exact c.fact i hi
theorem exc_tab {es : List Nat} (KX : K.In h) (G : h.Ns mainGlobals mg) (c : excB es K = true) : ExcTab K mg (exA mg es) es := by
  unfold excB at c
  simp only [List.all_eq_true, Bool.and_eq_true, Bool.or_eq_true, decide_eq_true_eq, beq_iff_eq] at c
  have gl : ∀ x ∈ es, mg (clsName x) = some (.ref (He.ga K (clsName x))) := fun x hx => He.glo_ok KX G (c x hx).1.1.1.1
  have ga : ∀ x ∈ es, ∀ C, mg (clsName x) = some (.ref C) → C = He.ga K (clsName x) := fun x hx C h => by
    rw [gl x hx] at h
    injection h with h
    injection h with h
    exact h.symm
  refine ⟨fun x hx => ⟨_, gl x hx⟩, fun x hx h2 C hC => ?_, fun x hx C hC => ?_, fun x hx y hy C D hC hD => ?_, fun x hx C hC => ?_, fun x hx C hC H => ⟨rfl, rfl, hx, C, hC, rfl⟩, fun e cls dd H ⟨_, h2, h3, h4⟩ => ⟨h2, h3, h4⟩⟩
  · rw [ga x hx C hC]
    exact He.exc_ok ((c x hx).1.1.1.2.resolve_left h2)
  · rw [ga x hx C hC]
    exact excCB_ok (c x hx).1.1.2
  · rw [ga x hx C hC, ga y hy D hD]
    exact ⟨He.exm_ok ((c x hx).2 y hy).1, ((c x hx).2 y hy).2⟩
  · rw [ga x hx C hC]
    exact (c x hx).1.2
theorem tab_ok {es : List Nat} (KX : K.In h) (G : h.Ns mainGlobals mg) (c' : SaysC (faTab tab cs) (fnTab tab st) (tupsOf cs es) K) (hb : ∀ e : Ent, e ∈ tab → BindOk e (st e.i)) (hc : ∀ e : Ent, e ∈ tab → entB tab (conOf cs) es (st e.i) e = true) (hg : cs.all Con.good = true) : TabOk K mg tab st (conOf cs) es where
  exc := exc_tab KX G c'.exc
  def_ := fun f e he => by
    have c := c'.toD
    obtain ⟨j, hj⟩ := List.getElem?_of_mem (tabG_mem he)
    obtain ⟨fd, F⟩ := c.def_ j (d := ⟨(e.x, none), e.x, e.x, defArgs (st e.i), defBody (st e.i), defScope (st e.i), [], []⟩) (by unfold fnTab; rw [List.getElem?_map, hj]; rfl)
    exact ⟨_, fd, F, He.glo_ok KX G (says_fact c (List.mem_append.mpr (.inl (List.mem_map.mpr ⟨e, tabG_mem he, rfl⟩)))), FunD.bindsN F (hb e (tabG_mem he))⟩
  blt := fun x hx => He.free_ok KX G (says_fact c'.toD (List.mem_append.mpr (.inr (List.mem_append.mpr (.inl (List.mem_map.mpr ⟨x, hx, rfl⟩))))))
  glo := fun x d hx => by
    have c := c'.toD
    obtain ⟨k, hk, rfl, rfl⟩ := conOf_mem hx
    have hf := says_fact c (f := k.fa) (List.mem_append.mpr (.inr (List.mem_append.mpr (.inr (List.mem_map.mpr ⟨k, hk, rfl⟩)))))
    have hgk := List.all_eq_true.mp hg k hk
    cases k with
    | int x i =>
      obtain ⟨t, ht⟩ := He.int_ok KX G hf
      exact ⟨.int i, _, ht, ⟨t, rfl⟩, fun _ _ _ => rfl⟩
    | str x z =>
      obtain ⟨t, ht⟩ := He.str_ok KX G hf
      refine ⟨.str (strOf z), _, ht, ⟨t, rfl⟩, fun _ _ _ => ⟨rfl, fun c hc => ?_⟩⟩
      exact of_decide_eq_true (List.all_eq_true.mp (show z.all (fun c => decide (c < 0x110000)) = true from hgk) c hc)
    | tup x zs =>
      have hg2 : (decide (zs.length ≠ 2) && zs.all fun z => z.all fun c => decide (c < 0x110000)) = true := hgk
      obtain ⟨hl, hz⟩ := Bool.and_eq_true_iff.mp hg2
      obtain ⟨o, its, n, q1, q2, q3, q4, q5⟩ := tupB_obj (c'.tup (t := (x, zs.map fun z => .str (strOf z))) (List.mem_filterMap.mpr ⟨_, hk, rfl⟩))
      refine ⟨.ref (He.ga K x), _, He.glo_ok KX G hf, rfl, fun ex H ρ => ⟨_, _, rfl, .inr ⟨?_, o, its, n, q1, q2, q3, q4, q5⟩, reps_strs zs fun z hz' c hc => ?_⟩⟩
      · simpa using of_decide_eq_true hl
      · exact of_decide_eq_true (List.all_eq_true.mp (List.all_eq_true.mp hz z hz') c hc)
  chk := hc
end
/-- a law's promise, of its table -/
theorem law_tab {l : PySem.W.OpenLaw} {q : Program} {loose : List Str} {XP : (Str → Option Value) → Heap → Prop} {d : DefRec} {tab : List Ent} {st : Nat → Stmt} {cs : List Con} {es : List Nat} {L n : Nat} {e : Ent} {x : Str}
    (hn : l.most = some 63) (hdf : d.params.defaults = []) (hr : Room n callerA) (he : tabG tab L = some e) (hx : e.x = d.name) (hps : e.ps = [x])
    (hb : ∀ e : Ent, e ∈ tab → BindOk e (st e.i)) (hc : ∀ e : Ent, e ∈ tab → entB tab (conOf cs) es (st e.i) e = true) (hg : cs.all Con.good = true)
    (law : ∀ ns : List Int, ns.length ≤ 63 → ∃ s, callF (tabF tab) n L [.scr ns] [] = .ok (.bl true) s) :
    PySem.W.WalkO q loose XP (hookC 4 (faTab tab cs) (fnTab tab st) (tupsOf cs es)).says l.row.toRowW d [] (fun f vs => PySem.call f vs) := by
  refine Att.attach_call hn hdf fun w s₀ s₁ mg mb fa o pm cd doc a vs ns G Y ho hd hcd hmg hobj hints hlen hgn => ?_
  obtain ⟨K, KX, c⟩ := Y
  have T := tab_ok KX G.T.g c hb hc hg
  obtain ⟨a', fd, F, hm, _⟩ := T.def_ L e he
  rw [hx, hmg] at hm
  cases hm
  have hbd : ∀ (s : Shared) (u : Value), BindsTo s fd ⟨[u], []⟩ [(x, u)] := fun s u => by
    have := FunD.bindsA (ps := e.ps) F (hb e (tabG_mem he)) s [u] (by rw [hps]; rfl)
    rw [hps] at this
    exact this
  have hsame : ∀ base : Heap, K.In base → base.Ns mainGlobals mg → FnOk l.prog w K mg base (L2.CX l.prog w) n fa fd [x] (spC K (exA mg es) (callF (tabF tab) n) L 1) := fun base hK hB => by
    have FO := fn_all (P := l.prog) (w := w) (base := base) T n L e he fa fd F
    rw [hps] at FO
    exact FO
  refine law_call KX G.T.g G.T.b G.T.builtins G.T.nolimit hgn hobj hints (Nat.le_trans hlen (by decide)) hr hsame hbd (fun H hO hS => ?_) fun H z s' hz => ?_
  · obtain ⟨st', es⟩ := law ns hlen
    refine ⟨rfl, fun _ => False, [], [], [.scr ns], Mem.nil H _ (fun _ z => z.elim), ⟨.ref a, [], rfl, ⟨a, rfl, ?_⟩, rfl⟩, ?_⟩
    · rcases hS with hS | hS
      · exact .inl ⟨hS, by simp, fun z => z⟩
      · exact .inr hS
    · rw [es]
      exact fun v H' ρ' _ _ r => r
  · obtain ⟨_, _, _, _, _, _, _, _, _, _, _, _, z⟩ := hz
    exact z
end MP
end
section
set_option maxRecDepth 100000
set_option maxHeartbeats 8000000
/-! MP: the interpreter by equations. -/
namespace MP
/-- a branch of an expression -/
def brR (x : D) (a b : RE) : RE := match x with
  | .bl true => a
  | .bl false => b
  | _ => .no
def brS (x : D) (a b : RS) : RS := match x with
  | .bl true => a
  | .bl false => b
  | _ => .no
@[simp] theorem brR_bl (b : Bool) (x y : RE) : brR (.bl b) x y = if b = true then x else y := by cases b <;> rfl
@[simp] theorem brS_bl (b : Bool) (x y : RS) : brS (.bl b) x y = if b = true then x else y := by cases b <;> rfl
def notR (x : D) (st : Store) : RE := match x with
  | .bl b => .ok (.bl (!b)) st
  | _ => .no
@[simp] theorem notR_bl (b : Bool) (st : Store) : notR (.bl b) st = .ok (.bl (!b)) st := (rfl)
def RS.seq (x : RS) (f : DS → Store → RS) : RS := match x with
  | .nx ds st => f ds st
  | x => x
@[simp] theorem seq_nx (ds : DS) (st : Store) (f : DS → Store → RS) : (RS.nx ds st).seq f = f ds st := (rfl)
@[simp] theorem seq_rt (d : D) (st : Store) (f : DS → Store → RS) : (RS.rt d st).seq f = .rt d st := (rfl)
@[simp] theorem seq_bk (ds : DS) (st : Store) (f : DS → Store → RS) : (RS.bk ds st).seq f = .bk ds st := (rfl)
@[simp] theorem seq_ct (ds : DS) (st : Store) (f : DS → Store → RS) : (RS.ct ds st).seq f = .ct ds st := (rfl)
@[simp] theorem seq_ite {c : Prop} [Decidable c] (x y : RS) (f : DS → Store → RS) : (if c then x else y).seq f = if c then x.seq f else y.seq f := by split <;> rfl
@[simp] theorem bind_ite {α β : Type} {c : Prop} [Decidable c] (x y : R α) (f : α → Store → R β) : (if c then x else y).bind f = if c then x.bind f else y.bind f := by split <;> rfl
@[simp] theorem bindS_ite {α : Type} {c : Prop} [Decidable c] (x y : R α) (ds : DS) (f : α → Store → RS) : (if c then x else y).bindS ds f = if c then x.bindS ds f else y.bindS ds f := by split <;> rfl
def RS.fin (x : RS) : RE := match x with
  | .rt d st => .ok d st
  | .nx _ st => .ok .non st
  | .exc e _ st => .exc e st
  | _ => .no
@[simp] theorem fin_rt (d : D) (st : Store) : (RS.rt d st).fin = .ok d st := (rfl)
@[simp] theorem fin_nx (ds : DS) (st : Store) : (RS.nx ds st).fin = .ok .non st := (rfl)
@[simp] theorem fin_ite {c : Prop} [Decidable c] (x y : RS) : (if c then x else y).fin = if c then x.fin else y.fin := by split <;> rfl
section
variable (cl : Cl) (ds : DS) (st : Store)
def slot (ds : DS) (i : Nat) (st : Store) : RE := match ds[i]? with
  | some (some d) => .ok d st
  | _ => .no
@[simp] theorem slot_zero (d : D) (ds : DS) (st : Store) : slot (some d :: ds) 0 st = .ok d st := (rfl)
@[simp] theorem slot_succ (o : Option D) (ds : DS) (i : Nat) (st : Store) : slot (o :: ds) (i + 1) st = slot ds i st := (rfl)
@[simp] theorem evE_var' (i : Nat) : evE cl (.var i) ds st = slot ds i st := by rw [evE]; rfl
@[simp] theorem evE_k (d : D) : evE cl (.k d) ds st = .ok d st := by rw [evE]
@[simp] theorem evE_glob (x : PySem.Str) (d : D) : evE cl (.glob x d) ds st = .ok d st := by rw [evE]
@[simp] theorem evE_pr0 (p : P) : evE cl (.pr p []) ds st = primF p [] st := by simp only [evE, evL, R.bind_ok]
@[simp] theorem evE_pr1 (p : P) (a : E) : evE cl (.pr p [a]) ds st = (evE cl a ds st).bind fun x st1 => primF p [x] st1 := by
  rw [evE, bnd1]
@[simp] theorem evE_pr2 (p : P) (a b : E) : evE cl (.pr p [a, b]) ds st = (evE cl a ds st).bind fun x st1 => (evE cl b ds st1).bind fun y st2 => primF p [x, y] st2 := by
  rw [evE, bnd2]
@[simp] theorem evE_prL (p : P) (a b c : E) (es : List E) : evE cl (.pr p (a :: b :: c :: es)) ds st = (evL cl (a :: b :: c :: es) ds st).bind fun xs st' => primF p xs st' := by
  rw [evE]
@[simp] theorem evL_nil : evL cl [] ds st = .ok [] st := by rw [evL]
@[simp] theorem evL_cons (e : E) (es : List E) : evL cl (e :: es) ds st = (evE cl e ds st).bind fun x st1 => (evL cl es ds st1).bind fun xs st2 => .ok (x :: xs) st2 := by rw [evL]
@[simp] theorem evE_mth (p : P) (o : E) (es : List E) : evE cl (.mth p o es) ds st = (evE cl o ds st).bind fun x st1 => if okRecv p x st1 = true then (evL cl es ds st1).bind fun ys st2 => primF p (x :: ys) st2 else .no := by rw [evE]
@[simp] theorem evE_and (a b : E) : evE cl (.and a b) ds st = (evE cl a ds st).bind fun x st1 => brR x (evE cl b ds st1) (.ok (.bl false) st1) := by rw [evE]; rfl
@[simp] theorem evE_or (a b : E) : evE cl (.or a b) ds st = (evE cl a ds st).bind fun x st1 => brR x (.ok (.bl true) st1) (evE cl b ds st1) := by rw [evE]; rfl
@[simp] theorem evE_not (a : E) : evE cl (.not a) ds st = (evE cl a ds st).bind fun x st1 => notR x st1 := by rw [evE]; rfl
@[simp] theorem evE_ife (c a b : E) : evE cl (.ife c a b) ds st = (evE cl c ds st).bind fun x st1 => brR x (evE cl a ds st1) (evE cl b ds st1) := by rw [evE]; rfl
@[simp] theorem evE_chain (o o' : Op) (a b c : E) : evE cl (.chain o o' a b c) ds st = (evE cl a ds st).bind fun x st1 => (evE cl b ds st1).bind fun y st2 => (opF o x y st2).bind fun z st3 => brR z ((evE cl c ds st3).bind fun w st4 => opF o' y w st4) (.ok (.bl false) st3) := by rw [evE]; rfl
@[simp] theorem evE_call (f : Nat) (raw : Bool) (es : List E) : evE cl (.call f raw es) ds st = (evL cl es ds st).bind fun xs st' => pcall cl f raw xs st' := by rw [evE]
@[simp] theorem evE_callM (f : Nat) (es : List E) : evE cl (.callM f es) ds st = (evL cl es ds st).bind fun xs st' => cl f xs st' := by rw [evE]
@[simp] theorem evE_comp (m : Bool) (v : Nat) (elt : E) (k : SK) (src : List E) (cond : E) : evE cl (.comp m v elt k src cond) ds st = (evL cl src ds st).bind fun xs st' => compF m (evE cl elt) (evE cl cond) v k xs ds st' := by rw [evE]
@[simp] theorem evE_slc (m hl hh : Bool) (a lo hi : E) : evE cl (.slc m hl hh a lo hi) ds st = (evE cl a ds st).bind fun x st1 => (partR hl (evE cl lo ds st1) st1).bind fun l st2 => (partR hh (evE cl hi ds st2) st2).bind fun h st3 => slcF m x l h st3 := by rw [evE]
@[simp] theorem evS_set (i : Nat) (e : E) : evS cl (.set i e) ds st = (evE cl e ds st).bindS ds fun d st' => .nx (ds.set i (some d)) st' := by rw [evS]
@[simp] theorem evS_expr (e : E) : evS cl (.expr e) ds st = (evE cl e ds st).bindS ds fun _ st' => .nx ds st' := by rw [evS]
@[simp] theorem evS_ret (e : E) : evS cl (.ret e) ds st = (evE cl e ds st).bindS ds fun d st' => .rt d st' := by rw [evS]
@[simp] theorem evS_ifs (c : E) (a b : List S) : evS cl (.ifs c a b) ds st = (evE cl c ds st).bindS ds fun x st' => brS x (evB cl a ds st') (evB cl b ds st') := by rw [evS]; rfl
@[simp] theorem evS_whl (c : E) (b : List S) : evS cl (.whl c b) ds st = whlB (evE cl c) (evB cl b) whlFuel ds st := by rw [evS]
def forR (cl : Cl) (b : List S) (v : Nat) (k : SK) (ds : DS) (xs : List D) (st' : Store) : RS := match srcF k xs st' with
  | some (none, items) => filtS k (forB (evB cl b) v items ds st')
  | some (some n, items) => match lock n st' with
    | some st1 => unlockS n (forB (evB cl b) v items ds st1)
    | none => .no
  | none => .no
@[simp] theorem evS_for (v : Nat) (k : SK) (src : List E) (b : List S) : evS cl (.for v k src b) ds st = (evL cl src ds st).bindS ds fun xs st' => forR cl b v k ds xs st' := by rw [evS]; rfl
@[simp] theorem evS_brk : evS cl .brk ds st = .bk ds st := by rw [evS]
@[simp] theorem evS_cnt : evS cl .cnt ds st = .ct ds st := by rw [evS]
@[simp] theorem evS_pass : evS cl .pass ds st = .nx ds st := by rw [evS]
def setR (o i v : D) (ds : DS) (st : Store) : RS := match setixF o i v st with
  | some st4 => .nx ds st4
  | none => .no
@[simp] theorem evS_setix (o i v : E) : evS cl (.setix o i v) ds st = (evE cl v ds st).bindS ds fun x st1 => (evE cl o ds st1).bindS ds fun y st2 => (evE cl i ds st2).bindS ds fun z st3 => setR y z x ds st3 := by rw [evS]; rfl
@[simp] theorem evB_nil : evB cl [] ds st = .nx ds st := by rw [evB]
@[simp] theorem evB_cons (s : S) (r : List S) : evB cl (s :: r) ds st = (evS cl s ds st).seq (evB cl r) := by rw [evB]; rfl
end
/-! ### exceptions -/
@[simp] theorem seq_exc (e : Ex) (ds : DS) (st : Store) (f : DS → Store → RS) : (RS.exc e ds st).seq f = .exc e ds st := (rfl)
@[simp] theorem fin_exc (e : Ex) (ds : DS) (st : Store) : (RS.exc e ds st).fin = .exc e st := (rfl)
def triR (cl : Cl) (hs : List S) (x : RS) : RS := match x with
  | .exc e ds st => evH cl hs e ds st
  | x => x
@[simp] theorem triR_nx (cl : Cl) (hs : List S) (ds : DS) (st : Store) : triR cl hs (.nx ds st) = .nx ds st := (rfl)
@[simp] theorem triR_rt (cl : Cl) (hs : List S) (d : D) (st : Store) : triR cl hs (.rt d st) = .rt d st := (rfl)
@[simp] theorem triR_exc (cl : Cl) (hs : List S) (e : Ex) (ds : DS) (st : Store) : triR cl hs (.exc e ds st) = evH cl hs e ds st := (rfl)
@[simp] theorem triR_ite {c : Prop} [Decidable c] (cl : Cl) (hs : List S) (x y : RS) : triR cl hs (if c then x else y) = if c then triR cl hs x else triR cl hs y := by split <;> rfl
@[simp] theorem evS_tri (cl : Cl) (ds : DS) (st : Store) (b hs : List S) : evS cl (.tri b hs) ds st = triR cl hs (evB cl b ds st) := by rw [evS]; rfl
def noX (x : RS) : RS := match x with
  | .exc _ _ _ => .no
  | x => x
@[simp] theorem noX_nx (ds : DS) (st : Store) : noX (.nx ds st) = .nx ds st := (rfl)
@[simp] theorem noX_rt (d : D) (st : Store) : noX (.rt d st) = .rt d st := (rfl)
@[simp] theorem evH_nil (cl : Cl) (e : Ex) (ds : DS) (st : Store) : evH cl [] e ds st = .exc e ds st := by rw [evH]
@[simp] theorem evH_n (cl : Cl) (c : Nat) (b r : List S) (e : Ex) (ds : DS) (st : Store) : evH cl (.hd c none b :: r) e ds st = if isCls e.cls c = true then noX (evB cl b ds st) else evH cl r e ds st := by rw [evH]; rfl
@[simp] theorem evH_s (cl : Cl) (c i : Nat) (b r : List S) (e : Ex) (ds : DS) (st : Store) : evH cl (.hd c (some i) b :: r) e ds st = if isCls e.cls c = true then (if i < ds.length then unb i (evB (clE cl e) b (ds.set i none) st) else .no) else evH cl r e ds st := by rw [evH]
@[simp] theorem unb_nx (i : Nat) (ds : DS) (st : Store) : unb i (.nx ds st) = .nx (ds.set i none) st := (rfl)
@[simp] theorem unb_rt (i : Nat) (d : D) (st : Store) : unb i (.rt d st) = .rt d st := (rfl)
@[simp] theorem unb_ite {c : Prop} [Decidable c] (i : Nat) (x y : RS) : unb i (if c then x else y) = if c then unb i x else unb i y := by split <;> rfl
@[simp] theorem isCls_eq (x y : Nat) : isCls x y = (decide (y = 9) || decide (y = 0) || decide (x = y)) := by
  unfold isCls
  by_cases h1 : y = 9 <;> by_cases h2 : y = 0 <;> by_cases h3 : x = y <;> simp [h1, h2, h3]
@[simp] theorem evE_exis (cl : Cl) (e : Ex) (c : Nat) (ds : DS) (st : Store) (h : c < 10) : evE (clE cl e) (.exis c) ds st = .ok (.bl (isCls e.cls c)) st := by
  simp only [evE, clE]
  rw [if_neg (by omega), if_pos (by omega), Nat.add_sub_cancel_left]
@[simp] theorem evS_raise (cl : Cl) (ds : DS) (st : Store) (c : Nat) (z : Tx) : evS cl (.raise c (.k (.str z)) (.k .non)) ds st = .exc ⟨c, none⟩ ds st := by simp only [evS, evE, R.bindS]
theorem call_eq {T : Nat → Option Fn} {f : Nat} {fn : Fn} (h : T f = some fn) (n : Nat) (args : List D) (st : Store) (hl : args.length = fn.np) :
    callF T (n + 1) f args st = (evB (callF T n) fn.body (args.map some ++ List.replicate (fn.ns - fn.np) none) st).fin := by
  unfold callF
  rw [h]
  simp only [hl, if_true]
  cases evB (callF T n) fn.body (args.map some ++ List.replicate (fn.ns - fn.np) none) st <;> rfl
/-! ### primitives -/
section
variable (st : Store)
@[simp] theorem pF1 (p : P) (a : D) (h : (match p with | .tup => false | .lst _ => false | .dnew => false | _ => true) = true) : primF p [a] st = prim1F p a st := by cases p <;> first | rfl | simp at h
@[simp] theorem pF2 (p : P) (a b : D) (h : (match p with | .tup => false | .lst _ => false | .dnew => false | _ => true) = true) : primF p [a, b] st = prim2F p a b st := by cases p <;> first | rfl | simp at h
@[simp] theorem pF_tup (ds : List D) (h : ds.length ≤ 1000) : primF .tup ds st = .ok (.tup ds) st := by simp only [primF, h, if_true]
@[simp] theorem pF_lst (m : Bool) (ds : List D) (h : ds.length ≤ 1000) : primF (.lst m) ds st = mkL m ds st := by simp only [primF, h, if_true]
@[simp] theorem pF_dnew : primF .dnew [] st = mkD true [] st := (rfl)
@[simp] theorem mkL_f (xs : List D) : mkL false xs st = .ok (.lst xs) st := (rfl)
@[simp] theorem mkL_t (xs : List D) : mkL true xs st = .ok (.ref st.length) (st ++ [.lst xs]) := (rfl)
@[simp] theorem p2_op (o : Op) (a b : D) : prim2F (.op o) a b st = opF o a b st := (rfl)
@[simp] theorem op_add (m : Bool) (i j : Int) : opF (.add m) (.int i) (.int j) st = .ok (.int (i + j)) st := (rfl)
@[simp] theorem op_sub (i j : Int) : opF .sub (.int i) (.int j) st = .ok (.int (i - j)) st := (rfl)
@[simp] theorem op_mul (i j : Int) (h : j.natAbs < 2 ^ 64 ∨ i.natAbs < 2 ^ 64) : opF .mul (.int i) (.int j) st = .ok (.int (i * j)) st := by
  unfold opF
  simp only
  split
  · rfl
  · split
    · rfl
    · rw [if_pos (h.resolve_left (by assumption))]
theorem op_mulB (i j : Int) (hi : i.natAbs < 2 ^ 1000) (hj : j.natAbs < 2 ^ 1000) : opF .mul (.int i) (.int j) st = .ok (.int (i * j)) st := by
  unfold opF
  simp only
  rw [if_pos]
  have h1 : i.natAbs.log2 ≤ 1000 := by
    by_cases h : i.natAbs = 0
    · rw [h]; decide
    · exact Nat.le_of_lt ((Nat.log2_lt h).mpr hi)
  have h2 : j.natAbs.log2 ≤ 1000 := by
    by_cases h : j.natAbs = 0
    · rw [h]; decide
    · exact Nat.le_of_lt ((Nat.log2_lt h).mpr hj)
  omega
theorem op_fdivN (i j : Int) (h : j ≠ 0) (hj : j.natAbs < 2 ^ 1000) : opF .fdiv (.int i) (.int j) st = .ok (.int (i.fdiv j)) st := by
  have h2 : j.natAbs.log2 ≤ 1000 := by
    by_cases h : j.natAbs = 0
    · rw [h]; decide
    · exact Nat.le_of_lt ((Nat.log2_lt h).mpr hj)
  simp only [opF, h, show j.natAbs.log2 < 9000 by omega, ne_eq, not_false_eq_true, and_self, if_true]
@[simp] theorem p_int1_bl (b : Bool) : prim1F .int1 (.bl b) st = .ok (.int (if b = true then 1 else 0)) st := (rfl)
@[simp] theorem p_int1_int (i : Int) : prim1F .int1 (.int i) st = .ok (.int i) st := (rfl)
@[simp] theorem op_mod (i j : Int) (h : 0 < j) : opF .mod (.int i) (.int j) st = .ok (.int (i % j)) st := by simp only [opF, h, if_true]
@[simp] theorem op_fdiv (i j : Int) (h : 0 < j) (h2 : j < 2 ^ 64) : opF .fdiv (.int i) (.int j) st = .ok (.int (i / j)) st := by
  have h3 : j.natAbs < 2 ^ 64 := by omega
  have h4 := (Nat.log2_lt (by omega)).mpr h3
  simp only [opF, show j ≠ 0 by omega, show j.natAbs.log2 < 9000 by omega, ne_eq, not_false_eq_true, and_self, if_true]
  rw [Int.fdiv_eq_ediv_of_nonneg i (by omega)]
@[simp] theorem op_pow (i j : Int) (h : 0 ≤ j) (h2 : j ≤ 1000000) (h3 : i.natAbs < 2 ^ 64) : opF .pow (.int i) (.int j) st = .ok (.int (i ^ j.toNat)) st := by simp only [opF, h, h2, h3, and_self, if_true]
@[simp] theorem op_ltp (p q : Pl) : opF .lt (plD p) (plD q) st = .ok (.bl (plLt p q)) st := (rfl)
@[simp] theorem op_lt (i j : Int) : opF .lt (.int i) (.int j) st = .ok (.bl (decide (i < j))) st := (rfl)
@[simp] theorem op_le (i j : Int) : opF .le (.int i) (.int j) st = .ok (.bl (decide (i ≤ j))) st := (rfl)
@[simp] theorem op_gt (i j : Int) : opF .gt (.int i) (.int j) st = .ok (.bl (decide (j < i))) st := (rfl)
@[simp] theorem op_ge (i j : Int) : opF .ge (.int i) (.int j) st = .ok (.bl (decide (j ≤ i))) st := (rfl)
@[simp] theorem op_eq (a b : D) : opF .eq a b st = ofO st ((eqVal st a b).map .bl) := (rfl)
@[simp] theorem op_ne (a b : D) : opF .ne a b st = ofO st ((eqVal st a b).map fun k => .bl (!k)) := (rfl)
@[simp] theorem op_in (a b : D) : opF .isin a b st = ofO st ((inVal st a b).map .bl) := (rfl)
@[simp] theorem op_ni (a b : D) : opF .notin a b st = ofO st ((inVal st a b).map fun k => .bl (!k)) := (rfl)
@[simp] theorem eqv_int (i j : Int) : eqVal st (.int i) (.int j) = some (decide (i = j)) := (rfl)
@[simp] theorem eqv_non : eqVal st .non .non = some true := (rfl)
@[simp] theorem eqv_bl (i j : Bool) : eqVal st (.bl i) (.bl j) = some (i == j) := (rfl)
@[simp] theorem eqv_str (s t : Tx) : eqVal st (.str s) (.str t) = some (s == t) := (rfl)
@[simp] theorem eqv_non_int (i : Int) : eqVal st .non (.int i) = some false := (rfl)
@[simp] theorem eqv_int_non (i : Int) : eqVal st (.int i) .non = some false := (rfl)
@[simp] theorem eqv_pl (a b c d : Int) : eqVal st (.tup [.int a, .int b]) (.tup [.int c, .int d]) = some (decide (a = c) && decide (b = d)) := by
  have : eqD (.tup [.int a, .int b]) (.tup [.int c, .int d]) = (decide (a = c) && decide (b = d)) := by
    simp [eqD, eqDs]
    rfl
  simp [eqVal, scalar, rsv, noRef, noRefs, cmpD, cmpDs, dep, deps, this]
@[simp] theorem scalar_i (i : Int) : scalar (.int i) = true := (rfl)
@[simp] theorem scalar_s (i : Tx) : scalar (.str i) = true := (rfl)
@[simp] theorem scalar_b (i : Bool) : scalar (.bl i) = true := (rfl)
@[simp] theorem scalar_n : scalar .non = true := (rfl)
@[simp] theorem eqD_ss (s t : Tx) : eqD (.str s) (.str t) = (s == t) := (rfl)
@[simp] theorem eqD_si (s : Tx) (i : Int) : eqD (.str s) (.int i) = false := (rfl)
@[simp] theorem eqD_is (s : Tx) (i : Int) : eqD (.int i) (.str s) = false := (rfl)
@[simp] theorem eqD_sn (s : Tx) : eqD (.str s) .non = false := (rfl)
@[simp] theorem eqD_sb (s : Tx) (b : Bool) : eqD (.str s) (.bl b) = false := (rfl)
@[simp] theorem eqD_st (s : Tx) (xs : List D) : eqD (.str s) (.tup xs) = false := (rfl)
@[simp] theorem eqD_ii (i j : Int) : eqD (.int i) (.int j) = (i == j) := (rfl)
@[simp] theorem eqD_in (i : Int) : eqD (.int i) .non = false := (rfl)
@[simp] theorem eqD_nn : eqD .non .non = true := (rfl)
@[simp] theorem eqD_nt (xs : List D) : eqD .non (.tup xs) = false := (rfl)
@[simp] theorem eqD_tn (xs : List D) : eqD (.tup xs) .non = false := (rfl)
theorem in_tup (a : D) (xs : List D) (h : (scalar a && xs.all scalar) = true) : inVal st a (.tup xs) = some (xs.any fun y => eqD y a) := by
  unfold inVal
  simp only [dctOf, seqOf, h, if_true]
theorem in_lst (a : D) (xs : List D) (h : (scalar a && xs.all scalar) = true) : inVal st a (.lst xs) = some (xs.any fun y => eqD y a) := by
  unfold inVal
  simp only [dctOf, seqOf, lstOf, h, if_true]
@[simp] theorem p_neg (i : Int) : prim1F .neg (.int i) st = .ok (.int (-i)) st := (rfl)
@[simp] theorem p_isn_non : prim1F .isn .non st = .ok (.bl true) st := (rfl)
@[simp] theorem p_isn_int (i : Int) : prim1F .isn (.int i) st = .ok (.bl false) st := (rfl)
@[simp] theorem p_isn_tup (xs : List D) : prim1F .isn (.tup xs) st = .ok (.bl false) st := (rfl)
@[simp] theorem p_isn_str (xs : Tx) : prim1F .isn (.str xs) st = .ok (.bl false) st := (rfl)
@[simp] theorem p_isn_bl (b : Bool) : prim1F .isn (.bl b) st = .ok (.bl false) st := (rfl)
@[simp] theorem p_isn_lst (xs : List D) : prim1F .isn (.lst xs) st = .ok (.bl false) st := (rfl)
@[simp] theorem p_notn_non : prim1F .notn .non st = .ok (.bl false) st := (rfl)
@[simp] theorem p_notn_int (i : Int) : prim1F .notn (.int i) st = .ok (.bl true) st := (rfl)
@[simp] theorem p_notn_tup (xs : List D) : prim1F .notn (.tup xs) st = .ok (.bl true) st := (rfl)
@[simp] theorem p_notn_str (xs : Tx) : prim1F .notn (.str xs) st = .ok (.bl true) st := (rfl)
@[simp] theorem p_notn_bl (b : Bool) : prim1F .notn (.bl b) st = .ok (.bl true) st := (rfl)
@[simp] theorem p_notn_lst (xs : List D) : prim1F .notn (.lst xs) st = .ok (.bl true) st := (rfl)
@[simp] theorem p_len_scr (ns : List Int) : prim1F .len (.scr ns) st = .ok (.int ns.length) st := by simp [prim1F, dctOf, seqOf, lstOf]
@[simp] theorem p_len_lst (ns : List D) : prim1F .len (.lst ns) st = .ok (.int ns.length) st := by cases ns <;> rfl
@[simp] theorem p_len_tup (ns : List D) : prim1F .len (.tup ns) st = .ok (.int ns.length) st := by cases ns <;> rfl
@[simp] theorem p_max2 (i j : Int) : prim2F .max2 (.int i) (.int j) st = .ok (.int (max i j)) st := by
  simp only [prim2F]
  congr 2
  omega
@[simp] theorem p_min2 (i j : Int) : prim2F .min2 (.int i) (.int j) st = .ok (.int (min i j)) st := by
  simp only [prim2F]
  congr 2
  omega
@[simp] theorem p_abs (i : Int) : prim1F .abs (.int i) st = .ok (.int (if i < 0 then -i else i)) st := (rfl)
theorem atL_nat {α : Type} (xs : List α) (i : Int) (h0 : 0 ≤ i) (h : i < xs.length) : atL xs i = xs[i.toNat]? := by
  have e : L2.ixN xs.length i = some i.toNat := by
    unfold L2.ixN
    rw [if_pos h0, if_pos h]
  simp only [atL, e, Option.bind_some]
@[simp] theorem p_ix_scr (ns : List Int) (i : Int) (h0 : 0 ≤ i) (h : i < ns.length) : prim2F .ix (.scr ns) (.int i) st = .ok (.int (ns.getD i.toNat 0)) st := by
  have : (ns.map D.int)[i.toNat]? = some (.int (ns.getD i.toNat 0)) := by
    rw [List.getElem?_map, List.getD_eq_getElem?_getD, List.getElem?_eq_getElem (by omega)]
    rfl
  simp [prim2F, dctOf, seqOf, lstOf, atL_nat (ns.map D.int) i h0 (by simpa using h), this]
@[simp] theorem p_ix_pl0 (a b : D) : prim2F .ix (.tup [a, b]) (.int 0) st = .ok a st := (rfl)
@[simp] theorem p_ix_pl1 (a b : D) : prim2F .ix (.tup [a, b]) (.int 1) st = .ok b st := (rfl)
theorem p_ix_str (s : Tx) (i : Int) (h0 : 0 ≤ i) (h : i < s.length) (hl : s.length ≤ lim) : prim2F .ix (.str s) (.int i) st = ofO st (s[i.toNat]?.map oneS) := by
  simp only [prim2F, hl, if_true, atL_nat s i h0 h]
theorem p_ix_lst (xs : List D) (i : Int) (h0 : 0 ≤ i) (h : i < xs.length) : prim2F .ix (.lst xs) (.int i) st = ofO st xs[i.toNat]? := by simp [prim2F, dctOf, seqOf, lstOf, atL_nat xs i h0 h]
theorem p_ix_tup (xs : List D) (i : Int) (h0 : 0 ≤ i) (h : i < xs.length) : prim2F .ix (.tup xs) (.int i) st = ofO st xs[i.toNat]? := by simp [prim2F, dctOf, seqOf, lstOf, atL_nat xs i h0 h]
@[simp] theorem p_all (xs : List D) : prim1F .all (.lst xs) st = ofO st ((blsOf xs).map fun bs => .bl (bs.all id)) := (rfl)
@[simp] theorem bls_nil : blsOf [] = some [] := (rfl)
@[simp] theorem bls_cons (b : Bool) (xs : List D) : blsOf (.bl b :: xs) = (blsOf xs).map (b :: ·) := (rfl)
@[simp] theorem p_ix_l0 (a : D) (xs : List D) : prim2F .ix (.lst (a :: xs)) (.int 0) st = .ok a st := by simp [prim2F, dctOf, seqOf, lstOf, atL_nat (a :: xs) 0 (by omega) (by simp <;> omega)]
@[simp] theorem p_ix_l1 (a b : D) (xs : List D) : prim2F .ix (.lst (a :: b :: xs)) (.int 1) st = .ok b st := by simp [prim2F, dctOf, seqOf, lstOf, atL_nat (a :: b :: xs) 1 (by omega) (by simp <;> omega)]
@[simp] theorem p_isi_int (i : Int) (t : Ty) : prim1F (.isi t) (.int i) st = .ok (.bl (decide (t = .int))) st := by cases t <;> rfl
@[simp] theorem p_isi_tup (xs : List D) (t : Ty) : prim1F (.isi t) (.tup xs) st = .ok (.bl (decide (t = .tuple))) st := by cases t <;> rfl
@[simp] theorem p_isi_lst (xs : List D) (t : Ty) : prim1F (.isi t) (.lst xs) st = .ok (.bl (decide (t = .list))) st := by cases t <;> rfl
@[simp] theorem p_isi_str (xs : Tx) (t : Ty) : prim1F (.isi t) (.str xs) st = .ok (.bl (decide (t = .str))) st := by cases t <;> rfl
@[simp] theorem p_isi_bl (b : Bool) (t : Ty) : prim1F (.isi t) (.bl b) st = .ok (.bl (decide (t = .bool) || decide (t = .int))) st := by cases t <;> rfl
@[simp] theorem p_isi_non (t : Ty) : prim1F (.isi t) .non st = .ok (.bl false) st := by cases t <;> rfl
end
/-! ### calls -/
theorem rsvs_nr {st : Store} : ∀ {xs : List D}, noRefs xs = true → rsvs st xs = some xs
  | [], _ => rfl
  | x :: xs, h => by
    simp only [noRefs, Bool.and_eq_true] at h
    simp only [rsvs, rsv, h.1, if_true, rsvs_nr h.2]
theorem pcall_nr {cl : Cl} {f : Nat} {args : List D} {st S : Store} {d : D} (h1 : noRefs args = true) (h2 : cl f args [] = .ok d S) (h3 : noRef d = true) : pcall cl f false args st = .ok d st := by
  unfold pcall
  rw [rsvs_nr h1]
  simp only [h2]
  simp [rsv, h3, h1]
theorem pcall_rsv {cl : Cl} {f : Nat} {args : List D} {st S : Store} {d d' : D} (h1 : noRefs args = true) (h2 : cl f args [] = .ok d S) (h3 : rsv S d = some d') : pcall cl f false args st = .ok d' st := by
  unfold pcall
  rw [rsvs_nr h1]
  simp only [h2]
  simp [h3, h1]
end MP
end
section
set_option maxRecDepth 100000
set_option maxHeartbeats 8000000
/-! MP: loops by invariants, data that stands still. -/
namespace MP
/-- a for loop by an invariant: every turn goes on -/
theorem forB_ind {body : DS → Store → RS} {v : Nat} {items : List D} {ds : DS} {st : Store} (I : Nat → DS → Store → Prop) (h0 : I 0 ds st)
    (hs : ∀ i d ds st, items[i]? = some d → I i ds st → ∃ ds' st', (body (ds.set v (some d)) st = .nx ds' st' ∨ body (ds.set v (some d)) st = .ct ds' st') ∧ I (i + 1) ds' st') :
    ∃ ds' st', forB body v items ds st = .nx ds' st' ∧ I items.length ds' st' := by
  induction items generalizing ds st I with
  | nil => exact ⟨ds, st, rfl, h0⟩
  | cons d r ih =>
    obtain ⟨ds1, st1, h1, h2⟩ := hs 0 d ds st rfl h0
    obtain ⟨ds2, st2, h3, h4⟩ := ih (I := fun i => I (i + 1)) h2 fun i e ds st he hi => hs (i + 1) e ds st (by simpa using he) hi
    refine ⟨ds2, st2, ?_, h4⟩
    rw [forB]
    rcases h1 with h1 | h1 <;> rw [h1] <;> exact h3
/-- a while loop by a measure -/
theorem whlB_ind {c : DS → Store → RE} {body : DS → Store → RS} (I : Nat → DS → Store → Prop) (Q : DS → Store → Prop)
    (hs : ∀ m ds st, I m ds st → (∃ st1, c ds st = .ok (.bl false) st1 ∧ Q ds st1) ∨ ∃ st1 ds2 st2 m', c ds st = .ok (.bl true) st1 ∧ (body ds st1 = .nx ds2 st2 ∨ body ds st1 = .ct ds2 st2) ∧ m' < m ∧ I m' ds2 st2) :
    ∀ (m f : Nat) (ds : DS) (st : Store), m < f → I m ds st → ∃ ds' st', whlB c body f ds st = .nx ds' st' ∧ Q ds' st' := by
  intro m
  induction m using Nat.strongRecOn with
  | _ m ih =>
    intro f ds st hf hI
    obtain ⟨f', rfl⟩ : ∃ f', f = f' + 1 := ⟨f - 1, by omega⟩
    rw [whlB]
    rcases hs m ds st hI with ⟨st1, h1, h2⟩ | ⟨st1, ds2, st2, m', h1, h2, h3, h4⟩
    · rw [h1]
      exact ⟨ds, st1, rfl, h2⟩
    · obtain ⟨ds3, st3, h5, h6⟩ := ih m' h3 f' ds2 st2 (by omega) h4
      refine ⟨ds3, st3, ?_, h6⟩
      rw [h1]
      rcases h2 with h2 | h2 <;> simp only [R.bindS_ok, h2] <;> exact h5
/-- a comprehension whose parts keep the store -/
theorem compB_map {elt cond : DS → Store → RE} {v : Nat} {ds : DS} {st : Store} (g : D → D) (p : D → Bool) : ∀ (items acc : List D), acc.length + items.length ≤ lim →
    (∀ d ∈ items, cond (ds.set v (some d)) st = .ok (.bl (p d)) st) → (∀ d ∈ items, p d = true → elt (ds.set v (some d)) st = .ok (g d) st) →
    compB elt cond v items acc ds st = some (acc ++ (items.filter p).map g, st)
  | [], acc, _, _, _ => by simp [compB]
  | d :: r, acc, hl, hc, he => by
    have ih := fun acc' h => compB_map (elt := elt) (cond := cond) (v := v) (ds := ds) (st := st) g p r acc' h (fun d hd => hc d (List.mem_cons_of_mem _ hd)) (fun d hd => he d (List.mem_cons_of_mem _ hd))
    rw [compB, hc d List.mem_cons_self]
    simp only [List.length_cons] at hl
    cases hp : p d with
    | true =>
      simp only
      rw [he d List.mem_cons_self hp]
      simp only [show acc.length < lim by omega, if_true]
      rw [ih (acc ++ [g d]) (by rw [List.length_append, List.length_singleton]; omega)]
      simp [hp]
    | false =>
      simp only
      rw [ih acc (by omega)]
      simp [hp]
mutual
theorem shift_nr (k : Nat) : ∀ (d : D), noRef d = true → shift k d = d
  | .tup xs, h => by rw [shift, shifts_nr k xs (by simpa [noRef] using h)]
  | .lst xs, h => by rw [shift, shifts_nr k xs (by simpa [noRef] using h)]
  | .dct es, h => by rw [shift, shiftE_nr k es (by simpa [noRef] using h)]
  | .ref _, h => by simp [noRef] at h
  | .non, _ => rfl
  | .bl _, _ => rfl
  | .int _, _ => rfl
  | .str _, _ => rfl
  | .scr _, _ => rfl
theorem shifts_nr (k : Nat) : ∀ (xs : List D), noRefs xs = true → shifts k xs = xs
  | [], _ => rfl
  | x :: xs, h => by
    simp only [noRefs, Bool.and_eq_true] at h
    rw [shifts, shift_nr k x h.1, shifts_nr k xs h.2]
theorem shiftE_nr (k : Nat) : ∀ (xs : List (Pl × D)), noRefE xs = true → shiftE k xs = xs
  | [], _ => rfl
  | (p, x) :: xs, h => by
    simp only [noRefE, Bool.and_eq_true] at h
    rw [shiftE, shift_nr k x h.1, shiftE_nr k xs h.2]
end
mutual
theorem mapRef_nr (g : Nat → Option D) : ∀ (d : D), noRef d = true → mapRef g d = some d
  | .tup xs, h => by rw [mapRef, mapRefs_nr g xs (by simpa [noRef] using h)]; rfl
  | .lst xs, h => by rw [mapRef, mapRefs_nr g xs (by simpa [noRef] using h)]; rfl
  | .dct es, h => by rw [mapRef, mapRefE_nr g es (by simpa [noRef] using h)]; rfl
  | .ref _, h => by simp [noRef] at h
  | .non, _ => by rw [mapRef]
  | .bl _, _ => by rw [mapRef]
  | .int _, _ => by rw [mapRef]
  | .str _, _ => by rw [mapRef]
  | .scr _, _ => by rw [mapRef]
theorem mapRefs_nr (g : Nat → Option D) : ∀ (xs : List D), noRefs xs = true → mapRefs g xs = some xs
  | [], _ => by rw [mapRefs]
  | x :: xs, h => by
    simp only [noRefs, Bool.and_eq_true] at h
    rw [mapRefs, mapRef_nr g x h.1, mapRefs_nr g xs h.2]
theorem mapRefE_nr (g : Nat → Option D) : ∀ (xs : List (Pl × D)), noRefE xs = true → mapRefE g xs = some xs
  | [], _ => by rw [mapRefE]
  | (p, x) :: xs, h => by
    simp only [noRefE, Bool.and_eq_true] at h
    rw [mapRefE, mapRef_nr g x h.1, mapRefE_nr g xs h.2]
end
theorem rsv_nr {st : Store} {d : D} (h : noRef d = true) : rsv st d = some d := by simp [rsv, h]
/-- a cell of frozen items, read -/
theorem rsv_cell {st : Store} {n : Nat} {xs : List D} (h : st[n]? = some (.lst xs)) (hx : noRefs xs = true) : rsv st (.ref n) = some (.lst xs) := by
  simp only [rsv, noRef, Bool.false_eq_true, if_false, rsvN, mapRef, h]
  rw [mapRefs_nr _ xs hx]
  rfl
theorem rsv_cellD {st : Store} {n : Nat} {xs : List (Pl × D)} (h : st[n]? = some (.dct xs)) (hx : noRefE xs = true) : rsv st (.ref n) = some (.dct xs) := by
  simp only [rsv, noRef, Bool.false_eq_true, if_false, rsvN, mapRef, h]
  rw [mapRefE_nr _ xs hx]
  rfl
mutual
theorem eqD_refl : ∀ (d : D), cmpD d = true → eqD d d = true
  | .tup xs, h => by rw [eqD]; exact eqDs_refl xs (by simpa [cmpD] using h)
  | .lst xs, h => by rw [eqD]; exact eqDs_refl xs (by simpa [cmpD] using h)
  | .dct _, h => by simp [cmpD] at h
  | .ref _, h => by simp [cmpD] at h
  | .scr _, h => by simp [cmpD] at h
  | .non, _ => by rw [eqD]
  | .bl b, _ => by simp [eqD]
  | .int i, _ => by simp [eqD]
  | .str s, _ => by simp [eqD]
theorem eqDs_refl : ∀ (xs : List D), cmpDs xs = true → eqDs xs xs = true
  | [], _ => by rw [eqDs]
  | x :: xs, h => by
    simp only [cmpDs, Bool.and_eq_true] at h
    rw [eqDs, eqD_refl x h.1, eqDs_refl xs h.2]
    rfl
end
/-- lists of places -/
def plsD (ps : List Pl) : List D := ps.map plD
theorem noRefs_pls : ∀ (ps : List Pl), noRefs (plsD ps) = true
  | [] => rfl
  | p :: ps => by simp [plsD, plD, noRefs, noRef]; exact noRefs_pls ps
theorem cmpDs_pls : ∀ (ps : List Pl), cmpDs (plsD ps) = true
  | [] => rfl
  | p :: ps => by simp [plsD, plD, cmpDs, cmpD]; exact cmpDs_pls ps
theorem deps_pls : ∀ (ps : List Pl), deps (plsD ps) ≤ 1
  | [] => by simp [plsD, deps]
  | p :: ps => by
    have := deps_pls ps
    simp only [plsD, List.map_cons, deps, plD, dep] at this ⊢
    omega
theorem noRefs_ints : ∀ (ps : List Int), noRefs (ps.map D.int) = true
  | [] => rfl
  | p :: ps => by simp [noRefs, noRef, noRefs_ints ps]
theorem cmpDs_ints : ∀ (ps : List Int), cmpDs (ps.map D.int) = true
  | [] => rfl
  | p :: ps => by simp [cmpDs, cmpD, cmpDs_ints ps]
theorem deps_ints : ∀ (ps : List Int), deps (ps.map D.int) = 0
  | [] => by simp [deps]
  | p :: ps => by simp [deps, dep, deps_ints ps]
theorem noRefs_strs : ∀ (ps : List Tx), noRefs (ps.map D.str) = true
  | [] => rfl
  | p :: ps => by simp [noRefs, noRef, noRefs_strs ps]
/-- a call that gives a new list of its own -/
theorem pcall_raw {cl : Cl} {f : Nat} {args : List D} {st : Store} {xs : List D} (h1 : noRefs args = true) (h2 : cl f args [] = .ok (.ref 0) [.lst xs]) (h3 : noRefs xs = true) :
    pcall cl f true args st = .ok (.ref st.length) (st ++ [.lst xs]) := by
  unfold pcall
  rw [rsvs_nr h1]
  simp only [h2, h1, Bool.true_or, if_true, shift, Nat.add_zero, List.map_cons, List.map_nil, shiftC, shifts_nr _ xs h3]
/-- .. that is read at once -/
theorem pcall_cell {cl : Cl} {f : Nat} {args : List D} {st : Store} {xs : List D} (h1 : noRefs args = true) (h2 : cl f args [] = .ok (.ref 0) [.lst xs]) (h3 : noRefs xs = true) :
    pcall cl f false args st = .ok (.lst xs) st := pcall_rsv h1 h2 (rsv_cell rfl h3)
/-- whole numbers from a to ahead of b -/
def rangeI (a b : Int) : List Int := (List.range (b - a).toNat).map fun (i : Nat) => a + i
theorem rangeD_eq (a b : Int) : rangeD a b = (rangeI a b).map D.int := by simp [rangeD, rangeI, Function.comp_def]
theorem mem_rangeI {a b x : Int} : x ∈ rangeI a b ↔ a ≤ x ∧ x < b := by
  simp only [rangeI, List.mem_map, List.mem_range]
  constructor
  · rintro ⟨i, h, rfl⟩
    omega
  · rintro ⟨h1, h2⟩
    exact ⟨(x - a).toNat, by omega, by omega⟩
theorem rangeI_length (a b : Int) : (rangeI a b).length = (b - a).toNat := by simp [rangeI]
theorem rangeI_pairwise (a b : Int) : (rangeI a b).Pairwise (· < ·) := by
  rw [rangeI, List.pairwise_map]
  exact List.Pairwise.imp (by intro x y h; omega) List.pairwise_lt_range
theorem p_append {st : Store} {n : Nat} {xs : List D} (b : D) (h : st[n]? = some (.lst xs)) (hl : xs.length < lim) : prim2F .append (.ref n) b st = .ok .non (st.set n (.lst (xs ++ [b]))) := by
  simp only [prim2F, h, hl, if_true]
@[simp] theorem p_append0 (xs : List D) (b : D) (st : Store) (hl : xs.length < lim) : prim2F .append (.ref 0) b (.lst xs :: st) = .ok .non (.lst (xs ++ [b]) :: st) := p_append b rfl hl
@[simp] theorem p_append1 (c : Cell) (xs : List D) (b : D) (st : Store) (hl : xs.length < lim) : prim2F .append (.ref 1) b (c :: .lst xs :: st) = .ok .non (c :: .lst (xs ++ [b]) :: st) := p_append b rfl hl
@[simp] theorem p_append2 (c c' : Cell) (xs : List D) (b : D) (st : Store) (hl : xs.length < lim) : prim2F .append (.ref 2) b (c :: c' :: .lst xs :: st) = .ok .non (c :: c' :: .lst (xs ++ [b]) :: st) := p_append b rfl hl
@[simp] theorem rcv_append (n : Nat) (st : Store) (h : (lstOf st (.ref n)).isSome = true) : okRecv .append (.ref n) st = true := h
@[simp] theorem rcv0 (xs : List D) (st : Store) : okRecv .append (.ref 0) (.lst xs :: st) = true := (rfl)
@[simp] theorem rcv1 (c : Cell) (xs : List D) (st : Store) : okRecv .append (.ref 1) (c :: .lst xs :: st) = true := (rfl)
@[simp] theorem rcv2 (c c' : Cell) (xs : List D) (st : Store) : okRecv .append (.ref 2) (c :: c' :: .lst xs :: st) = true := (rfl)
@[simp] theorem lstOf0 (xs : List D) (st : Store) : lstOf (.lst xs :: st) (.ref 0) = some xs := (rfl)
@[simp] theorem lstOf1 (c : Cell) (xs : List D) (st : Store) : lstOf (c :: .lst xs :: st) (.ref 1) = some xs := (rfl)
@[simp] theorem lstOf2 (c c' : Cell) (xs : List D) (st : Store) : lstOf (c :: c' :: .lst xs :: st) (.ref 2) = some xs := (rfl)
theorem forR_rng2 (cl : Cl) (b : List S) (v : Nat) (ds : DS) (x y : Int) (st : Store) (h : -4611686018427387904 ≤ x ∧ x < 4611686018427387904 ∧ -4611686018427387904 ≤ y ∧ y < 4611686018427387904) : forR cl b v .rng2 ds [.int x, .int y] st = forB (evB cl b) v ((rangeI x y).map .int) ds st := by
  have e : srcF .rng2 [.int x, .int y] st = some (none, rangeD x y) := if_pos (by omega)
  unfold forR
  rw [e]
  simp only [rangeD_eq, filtS]
theorem forR_rng1 (cl : Cl) (b : List S) (v : Nat) (ds : DS) (x : Int) (st : Store) (h : -4611686018427387904 ≤ x ∧ x < 4611686018427387904) : forR cl b v .rng1 ds [.int x] st = forB (evB cl b) v ((rangeI 0 x).map .int) ds st := by
  have e : srcF .rng1 [.int x] st = some (none, rangeD 0 x) := if_pos (by omega)
  unfold forR
  rw [e]
  simp only [rangeD_eq, filtS]
@[simp] theorem forR_lst (cl : Cl) (b : List S) (v : Nat) (ds : DS) (xs : List D) (st : Store) : forR cl b v .it ds [.lst xs] st = forB (evB cl b) v xs ds st := (rfl)
@[simp] theorem forR_tup (cl : Cl) (b : List S) (v : Nat) (ds : DS) (xs : List D) (st : Store) : forR cl b v .it ds [.tup xs] st = forB (evB cl b) v xs ds st := (rfl)
@[simp] theorem forR_scr (cl : Cl) (b : List S) (v : Nat) (ds : DS) (xs : List Int) (st : Store) : forR cl b v .it ds [.scr xs] st = forB (evB cl b) v (xs.map .int) ds st := (rfl)
theorem p_len_cell {st : Store} {n : Nat} {xs : List D} (h : st[n]? = some (.lst xs)) : prim1F .len (.ref n) st = .ok (.int xs.length) st := by simp [prim1F, dctOf, seqOf, lstOf, h]
theorem p_isi_cell {st : Store} {n : Nat} {xs : List D} (t : Ty) (h : st[n]? = some (.lst xs)) : prim1F (.isi t) (.ref n) st = .ok (.bl (decide (t = .list))) st := by cases t <;> simp [prim1F, isTy, tyOf, h]
theorem p_list_cell {st : Store} {n : Nat} {xs : List D} (m : Bool) (h : st[n]? = some (.lst xs)) : prim1F (.list m) (.ref n) st = mkL m xs st := by simp [prim1F, dctOf, seqOf, lstOf, h]
theorem p_ix_cell {st : Store} {n : Nat} {xs : List D} {d : D} (i : Int) (h : st[n]? = some (.lst xs)) (h0 : 0 ≤ i) (hd : xs[i.toNat]? = some d) : prim2F .ix (.ref n) (.int i) st = .ok d st := by
  have hl := (List.getElem?_eq_some_iff.mp hd).1
  simp [prim2F, dctOf, seqOf, lstOf, h, atL_nat xs i h0 (by omega), hd]
theorem eqv_same {st : Store} {a b d : D} (ha : rsv st a = some d) (hb : rsv st b = some d) (hc : cmpD d = true) (hd : dep d ≤ 64) : eqVal st a b = some true := by
  unfold eqVal
  split
  · rename_i hs
    have na : noRef a = true := by cases a <;> simp [scalar] at hs <;> rfl
    have nb : noRef b = true := by cases b <;> simp [scalar] at hs <;> rfl
    rw [rsv_nr na] at ha
    rw [rsv_nr nb] at hb
    cases ha
    cases hb
    rw [eqD_refl _ hc]
  · rw [ha, hb]
    simp [hc, hd, eqD_refl _ hc]
theorem eqv_pls {st : Store} {a b : D} {ps : List Pl} (ha : rsv st a = some (.lst (plsD ps))) (hb : rsv st b = some (.lst (plsD ps))) : eqVal st a b = some true :=
  eqv_same ha hb (by simp [cmpD, cmpDs_pls]) (by have := deps_pls ps; simp only [dep]; omega)
/-- over a cell, every turn goes on and leaves the store -/
theorem forR_cell {cl : Cl} {b : List S} {v : Nat} {ds : DS} {n : Nat} {st : Store} {xs : List D} (h : st[n]? = some (.lst xs)) (I : Nat → DS → Prop) (h0 : I 0 ds)
    (hs : ∀ i d ds, xs[i]? = some d → I i ds → ∃ ds', (evB cl b (ds.set v (some d)) (st.set n (.lckL xs)) = .nx ds' (st.set n (.lckL xs)) ∨ evB cl b (ds.set v (some d)) (st.set n (.lckL xs)) = .ct ds' (st.set n (.lckL xs))) ∧ I (i + 1) ds') :
    ∃ ds', forR cl b v .itv ds [.ref n] st = .nx ds' st ∧ I xs.length ds' := by
  have hl := (List.getElem?_eq_some_iff.mp h).1
  obtain ⟨ds', st', h1, h2, h3⟩ := forB_ind (body := evB cl b) (v := v) (items := xs) (ds := ds) (st := st.set n (.lckL xs)) (fun i ds s => s = st.set n (.lckL xs) ∧ I i ds) ⟨rfl, h0⟩ fun i d ds s hd ⟨hs1, hI⟩ => by
    subst hs1
    obtain ⟨ds', h1, h2⟩ := hs i d ds hd hI
    exact ⟨ds', _, h1, rfl, h2⟩
  refine ⟨ds', ?_, h3⟩
  unfold forR srcF
  simp only [h, lock]
  rw [h1, h2]
  unfold unlockS unlock
  simp only [List.getElem?_set_self hl, List.set_set]
  have : st.set n (.lst xs) = st := by
    obtain ⟨_, e⟩ := List.getElem?_eq_some_iff.mp h
    rw [← e, List.set_getElem_self]
  rw [this]
theorem eqD_pl (a b : Pl) : eqD (plD a) (plD b) = decide (a = b) := by
  have : eqD (plD a) (plD b) = (decide (a.1 = b.1) && decide (a.2 = b.2)) := by
    simp [plD, eqD, eqDs]
    rfl
  rw [this]
  by_cases h : a = b
  · subst h; simp
  · have : ¬ (a.1 = b.1 ∧ a.2 = b.2) := fun q => h (Prod.ext q.1 q.2)
    simp only [h, decide_false]
    by_cases h1 : a.1 = b.1
    · have h2 : ¬ a.2 = b.2 := fun q => this ⟨h1, q⟩
      simp [h2]
    · simp [h1]
theorem eqv_plD (st : Store) (a b : Pl) : eqVal st (plD a) (plD b) = some (decide (a = b)) := by
  have h := eqD_pl a b
  have n : ∀ p : Pl, rsv st (plD p) = some (plD p) := fun p => rsv_nr rfl
  have c : ∀ p : Pl, cmpD (plD p) = true := fun p => rfl
  have d : ∀ p : Pl, dep (plD p) = 1 := fun p => rfl
  unfold eqVal
  rw [if_neg (by simp [plD, scalar]), n a, n b]
  simp only [c, d, h]
  rfl
theorem any_pl (p : Pl) : ∀ ps : List Pl, ((plsD ps).any fun z => eqD z (plD p)) = decide (p ∈ ps)
  | [] => by simp [plsD]
  | q :: ps => by
    have ih := any_pl p ps
    simp only [plsD, List.map_cons, List.any_cons] at ih ⊢
    rw [ih, eqD_pl]
    by_cases h : q = p
    · subst h; simp
    · have h' : ¬ p = q := fun z => h z.symm
      simp [h, h']
theorem in_pls {st : Store} {n : Nat} {ps : List Pl} (p : Pl) (h : st[n]? = some (.lst (plsD ps))) : inVal st (plD p) (.ref n) = some (decide (p ∈ ps)) := by
  have hx : rsvs st (plsD ps) = some (plsD ps) := rsvs_nr (noRefs_pls ps)
  have hp : rsv st (plD p) = some (plD p) := rsv_nr rfl
  have hd := deps_pls ps
  unfold inVal
  simp only [dctOf, h, seqOf, lstOf]
  rw [if_neg (by simp [plD, scalar])]
  rw [hp, hx]
  simp only [cmpDs_pls, show cmpD (plD p) = true from rfl, show dep (plD p) ≤ 64 from (show 1 ≤ 64 by omega), show deps (plsD ps) ≤ 63 by omega, decide_true, Bool.and_self, if_true, any_pl]
theorem eqv_nil {st : Store} {n : Nat} {ps : List Pl} (h : st[n]? = some (.lst (plsD ps))) : eqVal st (.ref n) (.lst []) = some ps.isEmpty := by
  have hd := deps_pls ps
  unfold eqVal
  rw [if_neg (by simp [scalar]), rsv_cell h (noRefs_pls ps), rsv_nr (show noRef (.lst []) = true from rfl)]
  simp only [cmpD, cmpDs_pls, cmpDs, dep, deps, show deps (plsD ps) + 1 ≤ 64 by omega, decide_true, Bool.and_self]
  cases ps with
  | nil => rfl
  | cons p ps => rfl
theorem eqv_nilL {st : Store} (ps : List Pl) : eqVal st (.lst (plsD ps)) (.lst []) = some ps.isEmpty := by
  have hd := deps_pls ps
  unfold eqVal
  rw [if_neg (by simp [scalar]), rsv_nr (show noRef (.lst (plsD ps)) = true by simp [noRef, noRefs_pls]), rsv_nr (show noRef (.lst []) = true from rfl)]
  simp only [cmpD, cmpDs_pls, cmpDs, dep, deps, show deps (plsD ps) + 1 ≤ 64 by omega, decide_true, Bool.and_self]
  cases ps with
  | nil => rfl
  | cons p ps => rfl
theorem flatRs_pls : ∀ ps : List Pl, flatRs (plsD ps) = true
  | [] => rfl
  | p :: ps => by simp [plsD, plD, flatRs, flatR]; exact flatRs_pls ps
theorem pcall_rawR {cl : Cl} {f : Nat} {args args' : List D} {st : Store} {xs : List D} (h1 : rsvs st args = some args') (h2 : cl f args' [] = .ok (.ref 0) [.lst xs]) (h3 : noRefs xs = true) (h4 : flatRs xs = true) :
    pcall cl f true args st = .ok (.ref st.length) (st ++ [.lst xs]) := by
  unfold pcall
  rw [h1]
  simp only [h2, if_true]
  rw [if_pos (by simp [flatR, flatC, h4])]
  simp only [shift, Nat.add_zero, List.map_cons, List.map_nil, shiftC, shifts_nr _ xs h3]
theorem pcall_flat {cl : Cl} {f : Nat} {args args' : List D} {st S : Store} {d : D} (h1 : rsvs st args = some args') (h2 : cl f args' [] = .ok d S) (h3 : noRef d = true) (h4 : flat d = true) : pcall cl f false args st = .ok d st := by
  unfold pcall
  rw [h1]
  simp [h2, rsv, h3, h4]
theorem rsvs_one {st : Store} {n : Nat} {ps : List Pl} (h : st[n]? = some (.lst (plsD ps))) : rsvs st [.ref n] = some [.lst (plsD ps)] := by
  simp only [rsvs, rsv_cell h (noRefs_pls ps)]
theorem plsOf_pls : ∀ ps : List Pl, plsOf (plsD ps) = some ps
  | [] => rfl
  | p :: ps => by
    have := plsOf_pls ps
    simp only [plsD] at this
    simp [plsD, plsOf, plD, plOf, this]
theorem p_sorted_pls (m : Bool) (ps : List Pl) (st : Store) : prim1F (.sorted m) (.lst (plsD ps)) st = mkL m (plsD (sortP ps)) st := by
  simp only [prim1F, dctOf, lstOf, plsOf_pls]
  rfl
theorem p_ix_last {st : Store} {n : Nat} {ps : List Pl} (q : Pl) (h : st[n]? = some (.lst (plsD (ps ++ [q])))) : prim2F .ix (.ref n) (.int (-1)) st = .ok (plD q) st := by
  have e : atL (plsD (ps ++ [q])) (-1) = some (plD q) := by
    have hl : (plsD (ps ++ [q])).length = ps.length + 1 := by simp [plsD]
    unfold atL L2.ixN
    rw [hl, if_neg (by omega), if_pos (by omega)]
    have : (-1 + ((ps.length + 1 : Nat) : Int)).toNat = ps.length := by omega
    rw [Option.bind_some, this, plsD, List.map_append, List.getElem?_append_right (by simp), List.length_map, Nat.sub_self]
    rfl
  simp [prim2F, dctOf, seqOf, lstOf, h, e]
theorem p_pop_cell {st : Store} {n : Nat} {xs : List D} {d : D} (h : st[n]? = some (.lst (xs ++ [d]))) : prim1F .pop (.ref n) st = .ok d (st.set n (.lst xs)) := by
  simp [prim1F, h]
end MP
end
section
set_option maxRecDepth 100000
set_option maxHeartbeats 8000000
/-! MP: functions by number in any table; loops as folds. -/
namespace MP
class At (T : Nat → Option Fn) (i : Nat) (f : outParam Fn) : Prop where
  eq : T i = some f
theorem call_at {T : Nat → Option Fn} {f : Nat} {fn : Fn} [h : At T f fn] {N : Nat} {args : List D} {st : Store} (hN : 1 ≤ N) (hl : args.length = fn.np) :
    callF T N f args st = (evB (callF T (N - 1)) fn.body (args.map some ++ List.replicate (fn.ns - fn.np) none) st).fin := by
  obtain ⟨n, rfl⟩ : ∃ n, N = n + 1 := ⟨N - 1, by omega⟩
  exact call_eq h.eq n args st hl
/-- an answer, frozen -/
def frz2 (nr : Bool) (o : Option D) (st : Store) : RE := match o with
  | some d => if (nr || flat d) = true then .ok d st else .no
  | none => .no
def frz (nr : Bool) (x : RE) (st : Store) : RE := match x with
  | .ok d S => frz2 nr (rsv S d) st
  | .exc e _ => .exc e st
  | .no => .no
@[simp] theorem frz_ok (nr : Bool) (d : D) (S st : Store) : frz nr (.ok d S) st = frz2 nr (rsv S d) st := (rfl)
@[simp] theorem frz_exc (nr : Bool) (e : Ex) (S st : Store) : frz nr (.exc e S) st = .exc e st := (rfl)
@[simp] theorem frz_ite {c : Prop} [Decidable c] (nr : Bool) (x y : RE) (st : Store) : frz nr (if c then x else y) st = if c then frz nr x st else frz nr y st := by split <;> rfl
@[simp] theorem frz2_ok {nr : Bool} {d : D} (h : (nr || flat d) = true) (st : Store) : frz2 nr (some d) st = .ok d st := by simp only [frz2, h, if_true]
@[simp] theorem frz2_t {d : D} (st : Store) : frz2 true (some d) st = .ok d st := (rfl)
def pcA (o : Option (List D)) (nr : Bool) (cl : Cl) (f : Nat) (st : Store) : RE := match o with
  | some a => frz nr (cl f a []) st
  | none => .no
@[simp] theorem pcA_some (a : List D) (nr : Bool) (cl : Cl) (f : Nat) (st : Store) : pcA (some a) nr cl f st = frz nr (cl f a []) st := (rfl)
@[simp] theorem pcall_f (cl : Cl) (f : Nat) (args : List D) (st : Store) : pcall cl f false args st = pcA (rsvs st args) (noRefs args) cl f st := by
  unfold pcall pcA frz frz2
  cases rsvs st args with
  | none => rfl
  | some a =>
    simp only
    cases cl f a [] with
    | ok d S =>
      simp only [Bool.false_eq_true, if_false] <;> cases rsv S d <;> rfl
    | exc e S => rfl
    | no => rfl
/-- a call that brings its cells over -/
def raw2 (nr : Bool) (x : RE) (st : Store) : RE := match x with
  | .ok d S => if (nr || (flatR d && S.all flatC)) = true then .ok (shift st.length d) (st ++ S.map (shiftC st.length)) else .no
  | .exc e _ => .exc e st
  | .no => .no
def pcR (o : Option (List D)) (nr : Bool) (cl : Cl) (f : Nat) (st : Store) : RE := match o with
  | some a => raw2 nr (cl f a []) st
  | none => .no
@[simp] theorem pcR_some (a : List D) (nr : Bool) (cl : Cl) (f : Nat) (st : Store) : pcR (some a) nr cl f st = raw2 nr (cl f a []) st := (rfl)
@[simp] theorem pcall_r (cl : Cl) (f : Nat) (args : List D) (st : Store) : pcall cl f true args st = pcR (rsvs st args) (noRefs args) cl f st := by
  unfold pcall pcR raw2
  cases rsvs st args with
  | none => rfl
  | some a =>
    simp only
    cases cl f a [] with
    | ok d S => rfl
    | exc e S => rfl
    | no => rfl
@[simp] theorem raw2_l {nr : Bool} {xs : List D} {st : Store} (h : noRefs xs = true) (h2 : (nr || flatRs xs) = true) : raw2 nr (.ok (.ref 0) [.lst xs]) st = .ok (.ref st.length) (st ++ [.lst xs]) := by
  unfold raw2
  simp only [flatR, List.all_cons, List.all_nil, flatC, Bool.and_true, Bool.true_and, h2, if_true, shift, Nat.add_zero, List.map_cons, List.map_nil, shiftC, shifts_nr _ xs h]
@[simp] theorem raw2_d {nr : Bool} {xs : List (Pl × D)} {st : Store} (h : noRefE xs = true) (h2 : (nr || flatRE xs) = true) : raw2 nr (.ok (.ref 0) [.dct xs]) st = .ok (.ref st.length) (st ++ [.dct xs]) := by
  unfold raw2
  simp only [flatR, List.all_cons, List.all_nil, flatC, Bool.and_true, Bool.true_and, h2, if_true, shift, Nat.add_zero, List.map_cons, List.map_nil, shiftC, shiftE_nr _ xs h]
/-! ### reading -/
@[simp] theorem rsvs_nil (st : Store) : rsvs st [] = some [] := (rfl)
def cons2 (o : Option D) (r : Option (List D)) : Option (List D) := match o, r with
  | some x, some xs => some (x :: xs)
  | _, _ => none
@[simp] theorem cons2_some (x : D) (xs : List D) : cons2 (some x) (some xs) = some (x :: xs) := (rfl)
@[simp] theorem rsvs_cons (st : Store) (x : D) (xs : List D) : rsvs st (x :: xs) = cons2 (rsv st x) (rsvs st xs) := by
  rw [rsvs]
  cases rsv st x <;> cases rsvs st xs <;> rfl
@[simp] theorem rsv_n {st : Store} {d : D} (h : noRef d = true) : rsv st d = some d := rsv_nr h
def rsvC : Option Cell → Option D
  | some (.lst xs) => some (.lst xs)
  | some (.lckL xs) => some (.lst xs)
  | some (.dct es) => some (.dct es)
  | some (.lckD es) => some (.dct es)
  | none => none
def nrC : Option Cell → Bool
  | some (.lst xs) => noRefs xs
  | some (.lckL xs) => noRefs xs
  | some (.dct es) => noRefE es
  | some (.lckD es) => noRefE es
  | none => false
@[simp] theorem rsvC_l (xs : List D) : rsvC (some (.lst xs)) = some (.lst xs) := (rfl)
@[simp] theorem rsvC_ll (xs : List D) : rsvC (some (.lckL xs)) = some (.lst xs) := (rfl)
@[simp] theorem rsvC_d (xs : List (Pl × D)) : rsvC (some (.dct xs)) = some (.dct xs) := (rfl)
@[simp] theorem rsvC_ld (xs : List (Pl × D)) : rsvC (some (.lckD xs)) = some (.dct xs) := (rfl)
@[simp] theorem nrC_l (xs : List D) : nrC (some (.lst xs)) = noRefs xs := (rfl)
@[simp] theorem nrC_ll (xs : List D) : nrC (some (.lckL xs)) = noRefs xs := (rfl)
@[simp] theorem nrC_d (xs : List (Pl × D)) : nrC (some (.dct xs)) = noRefE xs := (rfl)
@[simp] theorem nrC_ld (xs : List (Pl × D)) : nrC (some (.lckD xs)) = noRefE xs := (rfl)
def gN (st : Store) (k : Nat) : Nat → Option D := fun n => match st[n]? with
    | some (.lst xs) => (mapRefs (fun m => rsvN st k (.ref m)) xs).map .lst
    | some (.lckL xs) => (mapRefs (fun m => rsvN st k (.ref m)) xs).map .lst
    | some (.dct es) => (mapRefE (fun m => rsvN st k (.ref m)) es).map .dct
    | some (.lckD es) => (mapRefE (fun m => rsvN st k (.ref m)) es).map .dct
    | none => none
theorem rsvN_succ (st : Store) (k : Nat) (d : D) : rsvN st (k + 1) d = mapRef (gN st k) d := by rw [rsvN]; rfl
theorem rsv_gN (st : Store) (d : D) (h : ¬ noRef d = true) : rsv st d = mapRef (gN st 39) d := by rw [rsv, if_neg h, rsvN_succ]
@[simp] theorem rsv_r {st : Store} {n : Nat} (h : nrC st[n]? = true) : rsv st (.ref n) = rsvC st[n]? := by
  rw [rsv_gN st _ (by simp [noRef]), mapRef]
  revert h
  unfold gN
  cases st[n]? with
  | none => simp [nrC]
  | some c => cases c with
    | lst xs => intro h; simp only [rsvC]; rw [mapRefs_nr _ xs (by simpa using h)]; rfl
    | lckL xs => intro h; simp only [rsvC]; rw [mapRefs_nr _ xs (by simpa using h)]; rfl
    | dct xs => intro h; simp only [rsvC]; rw [mapRefE_nr _ xs (by simpa using h)]; rfl
    | lckD xs => intro h; simp only [rsvC]; rw [mapRefE_nr _ xs (by simpa using h)]; rfl
theorem mapRefs_rsvs (st : Store) : ∀ (xs : List D), mapRefs (gN st 39) xs = rsvs st xs
  | [] => by rw [mapRefs]; rfl
  | x :: xs => by
    rw [mapRefs, rsvs, mapRefs_rsvs st xs]
    by_cases h : noRef x = true
    · rw [mapRef_nr _ x h, rsv_nr h]
    · rw [rsv_gN st x h]
@[simp] theorem rsv_tup (st : Store) (xs : List D) : rsv st (.tup xs) = (rsvs st xs).map .tup := by
  by_cases h : noRefs xs = true
  · rw [rsv_nr (by simpa [noRef] using h), rsvs_nr h]; rfl
  · rw [rsv_gN st _ (by simpa [noRef] using h), mapRef, mapRefs_rsvs]
@[simp] theorem nr_int (i : Int) : noRef (.int i) = true := (rfl)
@[simp] theorem nr_bl (i : Bool) : noRef (.bl i) = true := (rfl)
@[simp] theorem nr_str (i : Tx) : noRef (.str i) = true := (rfl)
@[simp] theorem nr_non : noRef .non = true := (rfl)
@[simp] theorem nr_scr (ns : List Int) : noRef (.scr ns) = true := (rfl)
@[simp] theorem nr_tup (xs : List D) : noRef (.tup xs) = noRefs xs := by rw [noRef]
@[simp] theorem nr_lst (xs : List D) : noRef (.lst xs) = noRefs xs := by rw [noRef]
@[simp] theorem nr_dct (xs : List (Pl × D)) : noRef (.dct xs) = noRefE xs := by rw [noRef]
@[simp] theorem nr_ref (n : Nat) : noRef (.ref n) = false := (rfl)
@[simp] theorem nrs_nil : noRefs [] = true := (rfl)
@[simp] theorem nrs_cons (x : D) (xs : List D) : noRefs (x :: xs) = (noRef x && noRefs xs) := by rw [noRefs]
@[simp] theorem nrs_app : ∀ (xs ys : List D), noRefs (xs ++ ys) = (noRefs xs && noRefs ys)
  | [], ys => by simp
  | x :: xs, ys => by simp [nrs_app xs ys, Bool.and_assoc]
@[simp] theorem nrE_nil : noRefE [] = true := (rfl)
@[simp] theorem nrE_cons (p : Pl) (x : D) (xs : List (Pl × D)) : noRefE ((p, x) :: xs) = (noRef x && noRefE xs) := by rw [noRefE]
@[simp] theorem fl_int (i : Int) : flat (.int i) = true := (rfl)
@[simp] theorem fl_bl (i : Bool) : flat (.bl i) = true := (rfl)
@[simp] theorem fl_str (i : Tx) : flat (.str i) = true := (rfl)
@[simp] theorem fl_non : flat .non = true := (rfl)
@[simp] theorem fl_tup (xs : List D) : flat (.tup xs) = flats xs := by rw [flat]
@[simp] theorem fls_nil : flats [] = true := (rfl)
@[simp] theorem fls_cons (x : D) (xs : List D) : flats (x :: xs) = (flat x && flats xs) := by rw [flats]
@[simp] theorem fR_int (i : Int) : flatR (.int i) = true := (rfl)
@[simp] theorem fR_bl (i : Bool) : flatR (.bl i) = true := (rfl)
@[simp] theorem fR_str (i : Tx) : flatR (.str i) = true := (rfl)
@[simp] theorem fR_non : flatR .non = true := (rfl)
@[simp] theorem fR_ref (n : Nat) : flatR (.ref n) = true := (rfl)
@[simp] theorem fR_tup (xs : List D) : flatR (.tup xs) = flatRs xs := by rw [flatR]
@[simp] theorem fRs_nil : flatRs [] = true := (rfl)
@[simp] theorem fRs_cons (x : D) (xs : List D) : flatRs (x :: xs) = (flatR x && flatRs xs) := by rw [flatRs]
/-! ### values of a kind -/
class Enc (α : Type) where
  enc : α → D
  nr : ∀ a, noRef (enc a) = true
open Enc
theorem nrs_map {α : Type} {f : α → D} (h : ∀ a, noRef (f a) = true) : ∀ (xs : List α), noRefs (xs.map f) = true
  | [] => rfl
  | x :: xs => by simp [h, nrs_map h xs]
@[simp] theorem nrs_ints (xs : List Int) : noRefs (xs.map D.int) = true := nrs_map (fun _ => rfl) xs
@[simp] theorem nrs_pl (xs : List Pl) : noRefs (xs.map plD) = true := nrs_map (fun _ => rfl) xs
@[simp] theorem nr_pl (p : Pl) : noRef (plD p) = true := (rfl)
@[simp] theorem fl_pl (p : Pl) : flat (plD p) = true := (rfl)
@[simp] theorem fR_pl (p : Pl) : flatR (plD p) = true := (rfl)
/-! ### cells -/
section
variable (st : Store) (n : Nat)
def lstC : Option Cell → Option (List D)
  | some (.lst xs) => some xs
  | some (.lckL xs) => some xs
  | _ => none
def dctC : Option Cell → Option (List (Pl × D))
  | some (.dct xs) => some xs
  | some (.lckD xs) => some xs
  | _ => none
@[simp] theorem lstC_l (xs : List D) : lstC (some (.lst xs)) = some xs := (rfl)
@[simp] theorem lstC_k (xs : List D) : lstC (some (.lckL xs)) = some xs := (rfl)
@[simp] theorem lstC_d (xs : List (Pl × D)) : lstC (some (.dct xs)) = none := (rfl)
@[simp] theorem lstC_e (xs : List (Pl × D)) : lstC (some (.lckD xs)) = none := (rfl)
@[simp] theorem dctC_l (xs : List D) : dctC (some (.lst xs)) = none := (rfl)
@[simp] theorem dctC_k (xs : List D) : dctC (some (.lckL xs)) = none := (rfl)
@[simp] theorem dctC_d (xs : List (Pl × D)) : dctC (some (.dct xs)) = some xs := (rfl)
@[simp] theorem dctC_e (xs : List (Pl × D)) : dctC (some (.lckD xs)) = some xs := (rfl)
@[simp] theorem lstOf_ref : lstOf st (.ref n) = lstC st[n]? := by
  cases h : st[n]? with
  | none => simp [lstOf, lstC, h]
  | some c => cases c <;> simp [lstOf, lstC, h]
@[simp] theorem lstOf_lst (xs : List D) : lstOf st (.lst xs) = some xs := (rfl)
@[simp] theorem lstOf_scr (xs : List Int) : lstOf st (.scr xs) = some (xs.map .int) := (rfl)
@[simp] theorem lstOf_tup (xs : List D) : lstOf st (.tup xs) = none := (rfl)
@[simp] theorem seqOf_ref : seqOf st (.ref n) = lstC st[n]? := by
  have := lstOf_ref st n
  unfold seqOf
  exact this
@[simp] theorem seqOf_lst (xs : List D) : seqOf st (.lst xs) = some xs := (rfl)
@[simp] theorem seqOf_tup (xs : List D) : seqOf st (.tup xs) = some xs := (rfl)
@[simp] theorem dctOf_ref : dctOf st (.ref n) = dctC st[n]? := by
  cases h : st[n]? with
  | none => simp [dctOf, dctC, h]
  | some c => cases c <;> simp [dctOf, dctC, h]
@[simp] theorem dctOf_lst (xs : List D) : dctOf st (.lst xs) = none := (rfl)
@[simp] theorem dctOf_tup (xs : List D) : dctOf st (.tup xs) = none := (rfl)
@[simp] theorem dctOf_scr (xs : List Int) : dctOf st (.scr xs) = none := (rfl)
@[simp] theorem dctOf_dct (xs : List (Pl × D)) : dctOf st (.dct xs) = some xs := (rfl)
@[simp] theorem or_append (x : D) : okRecv .append x st = (lstOf st x).isSome := (rfl)
@[simp] theorem or_pop (x : D) : okRecv .pop x st = (lstOf st x).isSome := (rfl)
@[simp] theorem or_insert (x : D) : okRecv .insert x st = (lstOf st x).isSome := (rfl)
@[simp] theorem or_clear (x : D) : okRecv .clear x st = (lstOf st x).isSome := (rfl)
@[simp] theorem or_dget (x : D) : okRecv .dget x st = (dctOf st x).isSome := (rfl)
@[simp] theorem or_join (x : Tx) : okRecv .join (.str x) st = true := (rfl)
def apC (o : Option Cell) (n : Nat) (b : D) (st : Store) : RE := match o with
  | some (.lst xs) => if xs.length < lim then .ok .non (st.set n (.lst (xs ++ [b]))) else .no
  | _ => .no
@[simp] theorem p_append_ref (b : D) : prim2F .append (.ref n) b st = apC st[n]? n b st := (rfl)
@[simp] theorem apC_l (n : Nat) {xs : List D} (b : D) (st : Store) (h : xs.length < lim) : apC (some (.lst xs)) n b st = .ok .non (st.set n (.lst (xs ++ [b]))) := by simp only [apC, h, if_true]
def popC (o : Option Cell) (n : Nat) (st : Store) : RE := match o with
  | some (.lst xs) => match xs[xs.length - 1]? with
    | some y => .ok y (st.set n (.lst xs.dropLast))
    | none => .no
  | _ => .no
@[simp] theorem p_pop_ref : prim1F .pop (.ref n) st = popC st[n]? n st := (rfl)
@[simp] theorem popC_l (n : Nat) (xs : List D) (y : D) (st : Store) : popC (some (.lst (xs ++ [y]))) n st = .ok y (st.set n (.lst xs)) := by simp [popC]
def clrC (o : Option Cell) (n : Nat) (st : Store) : RE := match o with
  | some (.lst xs) => .ok .non (st.set n (.lst []))
  | _ => .no
@[simp] theorem p_clear_ref : prim1F .clear (.ref n) st = clrC st[n]? n st := (rfl)
@[simp] theorem clrC_l (n : Nat) (xs : List D) (st : Store) : clrC (some (.lst xs)) n st = .ok .non (st.set n (.lst [])) := (rfl)
def insC (o : Option Cell) (n : Nat) (i : Int) (c : D) (st : Store) : RE := match o with
  | some (.lst xs) => if xs.length < lim ∧ 0 ≤ i ∧ i < 2 ^ 63 then .ok .non (st.set n (.lst (xs.take i.toNat ++ [c] ++ xs.drop i.toNat))) else .no
  | _ => .no
@[simp] theorem p_insert_ref (i : Int) (c : D) : prim3F .insert (.ref n) (.int i) c st = insC st[n]? n i c st := (rfl)
@[simp] theorem pF3 (p : P) (a b c : D) (h : (match p with | .tup => false | .lst _ => false | .dnew => false | _ => true) = true) : primF p [a, b, c] st = prim3F p a b c st := by cases p <;> first | rfl | simp at h
@[simp] theorem insC_l (n : Nat) {xs : List D} (i : Int) (b : D) (st : Store) (h : xs.length < lim) (h0 : 0 ≤ i) (h1 : i < 9223372036854775808) : insC (some (.lst xs)) n i b st = .ok .non (st.set n (.lst (xs.take i.toNat ++ [b] ++ xs.drop i.toNat))) := by
  have : xs.length < lim ∧ 0 ≤ i ∧ i < 2 ^ 63 := ⟨h, h0, by omega⟩
  simp only [insC, this, if_true, and_self]
/-- the length of what has one -/
def lenQ (d : Option (List (Pl × D))) (s : Option (List D)) (st : Store) : RE := match d with
  | some es => .ok (.int es.length) st
  | none => match s with
    | some xs => .ok (.int xs.length) st
    | none => .no
@[simp] theorem p_len_ref : prim1F .len (.ref n) st = lenQ (dctC st[n]?) (lstC st[n]?) st := by
  have h1 := dctOf_ref st n
  have h2 := seqOf_ref st n
  simp only [prim1F, h1, h2] <;> rfl
@[simp] theorem p_len_dct (es : List (Pl × D)) : prim1F .len (.dct es) st = .ok (.int es.length) st := (rfl)
@[simp] theorem lenQ_s (es : List (Pl × D)) (s : Option (List D)) : lenQ (some es) s st = .ok (.int es.length) st := (rfl)
@[simp] theorem lenQ_n (xs : List D) : lenQ none (some xs) st = .ok (.int xs.length) st := (rfl)
@[simp] theorem p_len_str (s : Tx) (h : s.length ≤ lim) : prim1F .len (.str s) st = .ok (.int s.length) st := by simp only [prim1F, h, if_true]
/-- an item -/
def ixL (s : Option (List D)) (b : D) (st : Store) : RE := match s, b with
  | some xs, .int j => ofO st (atL xs j)
  | _, _ => .no
def ixD (es : List (Pl × D)) (b : D) (st : Store) : RE := match plOf b with
  | some k => ofO st (dget es k)
  | none => .no
def ixQ (d : Option (List (Pl × D))) (s : Option (List D)) (b : D) (st : Store) : RE := match d with
  | some es => ixD es b st
  | none => ixL s b st
@[simp] theorem p_ix_ref (b : D) : prim2F .ix (.ref n) b st = ixQ (dctC st[n]?) (lstC st[n]?) b st := by
  have h1 := dctOf_ref st n
  have h2 := seqOf_ref st n
  simp only [prim2F, h1, h2] <;> rfl
@[simp] theorem p_ix_dct (es : List (Pl × D)) (b : D) : prim2F .ix (.dct es) b st = ixD es b st := (rfl)
@[simp] theorem ixQ_s (es : List (Pl × D)) (s : Option (List D)) (b : D) : ixQ (some es) s b st = ixD es b st := (rfl)
@[simp] theorem ixQ_n (s : Option (List D)) (b : D) : ixQ none s b st = ixL s b st := (rfl)
@[simp] theorem ixL_i (xs : List D) (j : Int) : ixL (some xs) (.int j) st = ofO st (atL xs j) := (rfl)
@[simp] theorem plOf_pl (p : Pl) : plOf (plD p) = some p := (rfl)
@[simp] theorem plOf_tup (a b : Int) : plOf (.tup [.int a, .int b]) = some (a, b) := (rfl)
@[simp] theorem ixD_pl (es : List (Pl × D)) (p : Pl) : ixD es (plD p) st = ofO st (dget es p) := (rfl)
@[simp] theorem ixD_tup (es : List (Pl × D)) (a b : Int) : ixD es (.tup [.int a, .int b]) st = ofO st (dget es (a, b)) := (rfl)
@[simp] theorem atL_0 {α : Type} (x : α) (xs : List α) : atL (x :: xs) 0 = some x := by rw [atL_nat (x :: xs) 0 (by omega) (by simp <;> omega)]; rfl
@[simp] theorem atL_1 {α : Type} (x y : α) (xs : List α) : atL (x :: y :: xs) 1 = some y := by rw [atL_nat (x :: y :: xs) 1 (by omega) (by simp <;> omega)]; rfl
@[simp] theorem atL_2 {α : Type} (x y z : α) (xs : List α) : atL (x :: y :: z :: xs) 2 = some z := by rw [atL_nat (x :: y :: z :: xs) 2 (by omega) (by simp <;> omega)]; rfl
@[simp] theorem atL_3 {α : Type} (x y z u : α) (xs : List α) : atL (x :: y :: z :: u :: xs) 3 = some u := by rw [atL_nat (x :: y :: z :: u :: xs) 3 (by omega) (by simp <;> omega)]; rfl
theorem atL_get {α : Type} (xs : List α) (i : Nat) (x : α) (h : xs[i]? = some x) : atL xs (i : Int) = some x := by
  have := (List.getElem?_eq_some_iff.mp h).1
  rw [atL_nat xs i (by omega) (by omega)]
  simpa using h
@[simp] theorem atL_last {α : Type} (xs : List α) (x : α) : atL (xs ++ [x]) (-1) = some x := by
  unfold atL L2.ixN
  rw [if_neg (by omega), if_pos (by simp <;> omega)]
  rw [Option.bind_some, show (-1 + ((xs ++ [x]).length : Int)).toNat = xs.length by simp <;> omega]
  simp
@[simp] theorem p_ix_tupA (xs : List D) (j : Int) : prim2F .ix (.tup xs) (.int j) st = ofO st (atL xs j) := (rfl)
@[simp] theorem p_ix_lstA (xs : List D) (j : Int) : prim2F .ix (.lst xs) (.int j) st = ofO st (atL xs j) := (rfl)
@[simp] theorem p_ix_pld0 (p : Pl) : prim2F .ix (plD p) (.int 0) st = .ok (.int p.1) st := (rfl)
@[simp] theorem p_ix_pld1 (p : Pl) : prim2F .ix (plD p) (.int 1) st = .ok (.int p.2) st := (rfl)
/-- list(), sorted(), sum(), max() of a cell -/
def lstQ (m : Bool) (d : Option (List (Pl × D))) (s : Option (List D)) (st : Store) : RE := match d with
  | some es => mkL m (es.map fun e => plD e.1) st
  | none => match s with
    | some xs => mkL m xs st
    | none => .no
@[simp] theorem p_list_ref (m : Bool) : prim1F (.list m) (.ref n) st = lstQ m (dctC st[n]?) (lstC st[n]?) st := by
  have h1 := dctOf_ref st n
  have h2 := seqOf_ref st n
  simp only [prim1F, h1, h2] <;> rfl
@[simp] theorem p_list_lst (m : Bool) (xs : List D) : prim1F (.list m) (.lst xs) st = mkL m xs st := (rfl)
@[simp] theorem p_list_tup (m : Bool) (xs : List D) : prim1F (.list m) (.tup xs) st = mkL m xs st := (rfl)
@[simp] theorem p_list_dct (m : Bool) (es : List (Pl × D)) : prim1F (.list m) (.dct es) st = mkL m (es.map fun e => plD e.1) st := (rfl)
@[simp] theorem lstQ_s (m : Bool) (es : List (Pl × D)) (s : Option (List D)) : lstQ m (some es) s st = mkL m (es.map fun e => plD e.1) st := (rfl)
@[simp] theorem lstQ_n (m : Bool) (xs : List D) : lstQ m none (some xs) st = mkL m xs st := (rfl)
def isiC (t : Ty) : Option Cell → Bool
  | some (.lst _) => decide (t = .list)
  | some (.lckL _) => decide (t = .list)
  | some (.dct _) => decide (t = .dict)
  | some (.lckD _) => decide (t = .dict)
  | none => false
@[simp] theorem isiC_l (t : Ty) (xs : List D) : isiC t (some (.lst xs)) = decide (t = .list) := (rfl)
@[simp] theorem isiC_k (t : Ty) (xs : List D) : isiC t (some (.lckL xs)) = decide (t = .list) := (rfl)
@[simp] theorem isiC_d (t : Ty) (xs : List (Pl × D)) : isiC t (some (.dct xs)) = decide (t = .dict) := (rfl)
@[simp] theorem isiC_e (t : Ty) (xs : List (Pl × D)) : isiC t (some (.lckD xs)) = decide (t = .dict) := (rfl)
@[simp] theorem p_isi_ref (t : Ty) (h : n < st.length) : prim1F (.isi t) (.ref n) st = .ok (.bl (isiC t st[n]?)) st := by
  rw [List.getElem?_eq_getElem h]
  simp only [prim1F, isTy, tyOf, List.getElem?_eq_getElem h] <;> cases st[n] <;> cases t <;> rfl
@[simp] theorem p_isi_pl (p : Pl) (t : Ty) : prim1F (.isi t) (plD p) st = .ok (.bl (decide (t = .tuple))) st := by cases t <;> rfl
@[simp] theorem p_isi_dct (p : List (Pl × D)) (t : Ty) : prim1F (.isi t) (.dct p) st = .ok (.bl (decide (t = .dict))) st := by cases t <;> rfl
@[simp] theorem p_sum_lst (xs : List Int) : prim1F .sum (.lst (xs.map .int)) st = .ok (.int xs.sum) st := by
  have : intsOf (xs.map .int) = some xs := by
    induction xs with
    | nil => rfl
    | cons x r ih => simp [intsOf, ih]
  simp [prim1F, lstOf, this]
def sumQ (s : Option (List D)) (st : Store) : RE := match s with
  | some xs => ofO st ((intsOf xs).map fun is => .int is.sum)
  | none => .no
@[simp] theorem sumQ_i (xs : List Int) : sumQ (some (xs.map .int)) st = .ok (.int xs.sum) st := by
  rw [show sumQ (some (xs.map .int)) st = prim1F .sum (.lst (xs.map .int)) st from rfl, p_sum_lst]
@[simp] theorem p_sum_ref : prim1F .sum (.ref n) st = sumQ (lstC st[n]?) st := by
  have h1 := lstOf_ref st n
  simp only [prim1F, h1] <;> rfl
@[simp] theorem p_dget_ref (b : D) : prim2F .dget (.ref n) b st = (match dctC st[n]?, plOf b with
  | some es, some k => .ok ((dget es k).getD .non) st
  | _, _ => .no) := by
  have h1 := dctOf_ref st n
  simp only [prim2F, h1] <;> rfl
@[simp] theorem p_dget_dct (es : List (Pl × D)) (p : Pl) : prim2F .dget (.dct es) (plD p) st = .ok ((dget es p).getD .non) st := (rfl)
@[simp] theorem p_dget_dct2 (es : List (Pl × D)) (a b : Int) : prim2F .dget (.dct es) (.tup [.int a, .int b]) st = .ok ((dget es (a, b)).getD .non) st := (rfl)
/-- joined lists -/
@[simp] theorem op_add_lst (m : Bool) (xs ys : List D) (h : xs.length + ys.length ≤ lim) : opF (.add m) (.lst xs) (.lst ys) st = mkL m (xs ++ ys) st := by simp only [opF, lstOf, h, if_true]
@[simp] theorem op_add_str (m : Bool) (xs ys : Tx) (h : xs.length + ys.length ≤ lim) : opF (.add m) (.str xs) (.str ys) st = .ok (.str (xs ++ ys)) st := by simp only [opF, h, if_true]
def addQ (m : Bool) (a b : Option (List D)) (st : Store) : RE := match a, b with
  | some xs, some ys => if xs.length + ys.length ≤ lim then mkL m (xs ++ ys) st else .no
  | _, _ => .no
@[simp] theorem addQ_s (m : Bool) (xs ys : List D) (h : xs.length + ys.length ≤ lim) : addQ m (some xs) (some ys) st = mkL m (xs ++ ys) st := by simp only [addQ, h, if_true]
@[simp] theorem op_add_rl (m : Bool) (ys : List D) : opF (.add m) (.ref n) (.lst ys) st = addQ m (lstC st[n]?) (some ys) st := by
  have h1 := lstOf_ref st n
  simp only [opF, h1, lstOf_lst, addQ] <;> cases lstC st[n]? <;> rfl
@[simp] theorem op_add_lr (m : Bool) (ys : List D) : opF (.add m) (.lst ys) (.ref n) st = addQ m (some ys) (lstC st[n]?) st := by
  have h1 := lstOf_ref st n
  simp only [opF, h1, lstOf_lst, addQ] <;> cases lstC st[n]? <;> rfl
/-- slices -/
@[simp] theorem partR_t (i : Int) (st st' : Store) : partR true (.ok (.int i) st) st' = .ok (.int i) st := (rfl)
@[simp] theorem partR_f (r : RE) (st' : Store) : partR false r st' = .ok .non st' := (rfl)
end
/-! ### loops -/
@[simp] theorem filtS_nx (k : SK) (ds : DS) (st : Store) : filtS k (.nx ds st) = .nx ds st := by cases k <;> rfl
@[simp] theorem filtS_rt (k : SK) (ds : D) (st : Store) : filtS k (.rt ds st) = .rt ds st := by cases k <;> rfl
@[simp] theorem forR_itv_lst (cl : Cl) (b : List S) (v : Nat) (ds : DS) (xs : List D) (st : Store) : forR cl b v .itv ds [.lst xs] st = filtS .itv (forB (evB cl b) v xs ds st) := (rfl)
@[simp] theorem forR_itv_dct (cl : Cl) (b : List S) (v : Nat) (ds : DS) (xs : List (Pl × D)) (st : Store) : forR cl b v .itv ds [.dct xs] st = filtS .itv (forB (evB cl b) v (xs.map fun e => plD e.1) ds st) := (rfl)
@[simp] theorem forR_str (cl : Cl) (b : List S) (v : Nat) (ds : DS) (xs : Tx) (st : Store) : forR cl b v .it ds [.str xs] st = filtS .it (forB (evB cl b) v (xs.map oneS) ds st) := (rfl)
def itvC (cl : Cl) (b : List S) (v : Nat) (ds : DS) (n : Nat) (st : Store) : Option Cell → RS
  | some (.lst xs) => unlockS n (forB (evB cl b) v xs ds (st.set n (.lckL xs)))
  | some (.dct es) => unlockS n (forB (evB cl b) v (es.map fun e => plD e.1) ds (st.set n (.lckD es)))
  | some (.lckL xs) => filtS .itv (forB (evB cl b) v xs ds st)
  | some (.lckD es) => filtS .itv (forB (evB cl b) v (es.map fun e => plD e.1) ds st)
  | none => .no
@[simp] theorem itvC_l (cl : Cl) (b : List S) (v : Nat) (ds : DS) (n : Nat) (st : Store) (xs : List D) : itvC cl b v ds n st (some (.lst xs)) = unlockS n (forB (evB cl b) v xs ds (st.set n (.lckL xs))) := (rfl)
@[simp] theorem itvC_d (cl : Cl) (b : List S) (v : Nat) (ds : DS) (n : Nat) (st : Store) (es : List (Pl × D)) : itvC cl b v ds n st (some (.dct es)) = unlockS n (forB (evB cl b) v (es.map fun e => plD e.1) ds (st.set n (.lckD es))) := (rfl)
@[simp] theorem forR_itv_ref (cl : Cl) (b : List S) (v : Nat) (ds : DS) (n : Nat) (st : Store) : forR cl b v .itv ds [.ref n] st = itvC cl b v ds n st st[n]? := by
  cases h : st[n]? with
  | none => simp only [forR, srcF, h] <;> rfl
  | some c => cases c <;> simp only [forR, srcF, h, lock] <;> rfl
def ulkC (n : Nat) (st : Store) (k : Store → RS) : Option Cell → RS
  | some (.lckL xs) => k (st.set n (.lst xs))
  | some (.lckD xs) => k (st.set n (.dct xs))
  | _ => .no
@[simp] theorem ulkC_l (n : Nat) (st : Store) (k : Store → RS) (xs : List D) : ulkC n st k (some (.lckL xs)) = k (st.set n (.lst xs)) := (rfl)
@[simp] theorem ulkC_d (n : Nat) (st : Store) (k : Store → RS) (xs : List (Pl × D)) : ulkC n st k (some (.lckD xs)) = k (st.set n (.dct xs)) := (rfl)
@[simp] theorem unlockS_nx (n : Nat) (ds : DS) (st : Store) : unlockS n (.nx ds st) = ulkC n st (RS.nx ds) st[n]? := by
  cases h : st[n]? with
  | none => simp only [unlockS, unlock, h] <;> rfl
  | some c => cases c <;> simp only [unlockS, unlock, h] <;> rfl
@[simp] theorem unlockS_rt (n : Nat) (d : D) (st : Store) : unlockS n (.rt d st) = ulkC n st (RS.rt d) st[n]? := by
  cases h : st[n]? with
  | none => simp only [unlockS, unlock, h] <;> rfl
  | some c => cases c <;> simp only [unlockS, unlock, h] <;> rfl
def RS.cont : RS → RS
  | .ct ds st => .nx ds st
  | x => x
@[simp] theorem cont_nx (ds : DS) (st : Store) : (RS.nx ds st).cont = .nx ds st := (rfl)
@[simp] theorem cont_ct (ds : DS) (st : Store) : (RS.ct ds st).cont = .nx ds st := (rfl)
@[simp] theorem cont_rt (d : D) (st : Store) : (RS.rt d st).cont = .rt d st := (rfl)
@[simp] theorem cont_ite {c : Prop} [Decidable c] (x y : RS) : (if c then x else y).cont = if c then x.cont else y.cont := by split <;> rfl
theorem forB_cons (body : DS → Store → RS) (v : Nat) (d : D) (r : List D) (ds : DS) (st : Store) : forB body v (d :: r) ds st = match (body (ds.set v (some d)) st).cont with
    | .nx ds' st' => forB body v r ds' st'
    | .bk ds' st' => .nx ds' st'
    | x => x := by
  rw [forB]
  cases body (ds.set v (some d)) st <;> rfl
/-- the last thing in the loop's name -/
def lastS {α : Type} (enc : α → D) : List α → Option D → Option D
  | [], y => y
  | x :: xs, _ => lastS enc xs (some (enc x))
/-- a loop as a fold -/
theorem forB_fold {α γ : Type} {body : DS → Store → RS} {v : Nat} (enc : α → D) (F : Option D → γ → DS) (G : γ → Store) (step : γ → α → γ) (I : List α → γ → Prop)
    (xs : List α) (g : γ) (y : Option D) (hI : I [] g)
    (hs : ∀ (done : List α) (x : α) (rest : List α) (y : Option D) (g : γ), done ++ x :: rest = xs → I done g → (body ((F y g).set v (some (enc x))) (G g)).cont = .nx (F (some (enc x)) (step g x)) (G (step g x)) ∧ I (done ++ [x]) (step g x)) :
    forB body v (xs.map enc) (F y g) (G g) = .nx (F (lastS enc xs y) (xs.foldl step g)) (G (xs.foldl step g)) ∧ I xs (xs.foldl step g) := by
  have key : ∀ (rest done : List α) (y : Option D) (g : γ), done ++ rest = xs → I done g → forB body v (rest.map enc) (F y g) (G g) = .nx (F (lastS enc rest y) (rest.foldl step g)) (G (rest.foldl step g)) ∧ I xs (rest.foldl step g) := by
    intro rest
    induction rest with
    | nil => intro done y g e h; exact ⟨rfl, by rw [List.append_nil] at e; rw [← e]; exact h⟩
    | cons x r ih =>
      intro done y g e h
      obtain ⟨h1, h2⟩ := hs done x r y g e h
      have := ih (done ++ [x]) (some (enc x)) (step g x) (by rw [← e]; simp) h2
      rw [List.map_cons, forB_cons, h1]
      exact this
  exact key xs [] y g rfl hI
/-- .. of which the state alone counts -/
theorem forB_fold0 {α γ : Type} {body : DS → Store → RS} {v : Nat} (enc : α → D) (F : Option D → γ → DS) (G : γ → Store) (step : γ → α → γ) (xs : List α) (g : γ) (y : Option D)
    (hs : ∀ (x : α) (y : Option D) (g : γ), x ∈ xs → (body ((F y g).set v (some (enc x))) (G g)).cont = .nx (F (some (enc x)) (step g x)) (G (step g x))) :
    forB body v (xs.map enc) (F y g) (G g) = .nx (F (lastS enc xs y) (xs.foldl step g)) (G (xs.foldl step g)) :=
  (forB_fold enc F G step (fun _ _ => True) xs g y trivial fun done x rest y g e _ => ⟨hs x y g (by rw [← e]; simp), trivial⟩).1
/-- a loop that changes nothing but its name -/
theorem forB_idle {α : Type} {body : DS → Store → RS} {v : Nat} (enc : α → D) (F : Option D → DS) (st : Store) (xs : List α) (y : Option D)
    (hs : ∀ (x : α) (y : Option D), x ∈ xs → (body ((F y).set v (some (enc x))) st).cont = .nx (F (some (enc x))) st) :
    forB body v (xs.map enc) (F y) st = .nx (F (lastS enc xs y)) st :=
  forB_fold0 enc (fun y (_ : Unit) => F y) (fun _ => st) (fun g _ => g) xs () y fun x y _ hx => hs x y hx
/-- a loop that looks for something and leaves with it -/
theorem forB_find {α : Type} {body : DS → Store → RS} {v : Nat} (enc : α → D) (F : Option D → DS) (st : Store) (r : α → Option D)
    (xs : List α) (y : Option D)
    (hs : ∀ (x : α) (y : Option D), x ∈ xs → (body ((F y).set v (some (enc x))) st).cont = match r x with | some d => .rt d st | none => .nx (F (some (enc x))) st) :
    forB body v (xs.map enc) (F y) st = match xs.findSome? r with | some d => .rt d st | none => .nx (F (lastS enc xs y)) st := by
  induction xs generalizing y with
  | nil => rfl
  | cons x xs ih =>
    have h := hs x y List.mem_cons_self
    rw [List.map_cons, forB_cons, h, List.findSome?_cons]
    cases hr : r x with
    | some d => rfl
    | none => exact ih (some (enc x)) fun z y hz => hs z y (List.mem_cons_of_mem _ hz)
/-- a fold that may leave -/
def foldE {α γ : Type} (step : γ → α → γ ⊕ D) : List α → γ → γ ⊕ (D × γ)
  | [], g => .inl g
  | x :: xs, g => match step g x with
    | .inl g' => foldE step xs g'
    | .inr d => .inr (d, g)
theorem forB_foldE {α γ : Type} {body : DS → Store → RS} {v : Nat} (enc : α → D) (F : Option D → γ → DS) (G : γ → Store) (step : γ → α → γ ⊕ D) (I : List α → γ → Prop)
    (xs : List α) (g : γ) (y : Option D) (hI : I [] g)
    (hs : ∀ (done : List α) (x : α) (rest : List α) (y : Option D) (g : γ), done ++ x :: rest = xs → I done g → match step g x with
      | .inl g' => (body ((F y g).set v (some (enc x))) (G g)).cont = .nx (F (some (enc x)) g') (G g') ∧ I (done ++ [x]) g'
      | .inr d => (body ((F y g).set v (some (enc x))) (G g)).cont = .rt d (G g)) :
    match foldE step xs g with
      | .inl g' => forB body v (xs.map enc) (F y g) (G g) = .nx (F (lastS enc xs y) g') (G g') ∧ I xs g'
      | .inr (d, g') => forB body v (xs.map enc) (F y g) (G g) = .rt d (G g') := by
  have key : ∀ (rest done : List α) (y : Option D) (g : γ), done ++ rest = xs → I done g → match foldE step rest g with
      | .inl g' => forB body v (rest.map enc) (F y g) (G g) = .nx (F (lastS enc rest y) g') (G g') ∧ I xs g'
      | .inr (d, g') => forB body v (rest.map enc) (F y g) (G g) = .rt d (G g') := by
    intro rest
    induction rest with
    | nil => intro done y g e h; exact ⟨rfl, by rw [List.append_nil] at e; rw [← e]; exact h⟩
    | cons x r ih =>
      intro done y g e h
      have h := hs done x r y g e h
      rw [List.map_cons, forB_cons, foldE]
      cases hr : step g x with
      | inl g' =>
        rw [hr] at h
        simp only at h ⊢
        rw [h.1]
        exact ih (done ++ [x]) (some (enc x)) g' (by rw [← e]; simp) h.2
      | inr d =>
        rw [hr] at h
        simp only at h ⊢
        rw [h]
  exact key xs [] y g rfl hI
/-- while, by a measure -/
theorem whlB_fold {γ : Type} {c : DS → Store → RE} {body : DS → Store → RS} (F : γ → DS) (G : γ → Store) (I : γ → Prop) (p : γ → Bool) (step : γ → γ) (μ : γ → Nat) (f : Nat) (g : γ) (hI : I g) (hμ : μ g < f)
    (hs : ∀ g, I g → c (F g) (G g) = .ok (.bl (p g)) (G g) ∧ (p g = true → (body (F g) (G g)).cont = .nx (F (step g)) (G (step g)) ∧ I (step g) ∧ μ (step g) < μ g)) :
    ∃ g', whlB c body f (F g) (G g) = .nx (F g') (G g') ∧ I g' ∧ p g' = false := by
  induction f generalizing g with
  | zero => omega
  | succ f ih =>
    obtain ⟨h1, h2⟩ := hs g hI
    rw [whlB, h1]
    cases hp : p g with
    | false => exact ⟨g, rfl, hI, hp⟩
    | true =>
      obtain ⟨h3, h4, h5⟩ := h2 hp
      obtain ⟨g', h6, h7, h8⟩ := ih (step g) h4 (by omega)
      refine ⟨g', ?_, h7, h8⟩
      rw [MP.R.bindS_ok]
      simp only
      revert h3
      cases body (F g) (G g) <;> intro h3 <;> simp only [RS.cont] at h3 <;> cases h3
      · exact h6
      · exact h6
/-- comprehensions -/
theorem compF_map {α β : Type} {elt cond : DS → Store → RE} {v : Nat} {ds : DS} {st : Store} {m : Bool} (enc : α → D) (encR : β → D) (f : α → β) (p : α → Bool) (xs : List α) (hl : xs.length ≤ lim)
    (hc : ∀ x ∈ xs, cond (ds.set v (some (enc x))) st = .ok (.bl (p x)) st) (he : ∀ x ∈ xs, p x = true → elt (ds.set v (some (enc x))) st = .ok (encR (f x)) st) :
    compF m elt cond v .it [.lst (xs.map enc)] ds st = mkL m (((xs.filter p).map f).map encR) st := by
  have key : ∀ (xs : List α) (acc : List D), acc.length + xs.length ≤ lim → (∀ x ∈ xs, cond (ds.set v (some (enc x))) st = .ok (.bl (p x)) st) → (∀ x ∈ xs, p x = true → elt (ds.set v (some (enc x))) st = .ok (encR (f x)) st) →
      compB elt cond v (xs.map enc) acc ds st = some (acc ++ ((xs.filter p).map f).map encR, st) := by
    intro xs
    induction xs with
    | nil => intro acc _ _ _; simp [compB]
    | cons x r ih =>
      intro acc hl hc he
      simp only [List.length_cons] at hl
      rw [List.map_cons, compB, hc x List.mem_cons_self]
      cases hp : p x with
      | true =>
        simp only
        rw [he x List.mem_cons_self hp]
        simp only [show acc.length < lim by omega, if_true]
        rw [ih (acc ++ [encR (f x)]) (by rw [List.length_append, List.length_singleton]; omega) (fun z hz => hc z (List.mem_cons_of_mem _ hz)) (fun z hz => he z (List.mem_cons_of_mem _ hz))]
        simp [hp]
      | false =>
        simp only
        rw [ih acc (by omega) (fun z hz => hc z (List.mem_cons_of_mem _ hz)) (fun z hz => he z (List.mem_cons_of_mem _ hz))]
        simp [hp]
  unfold compF
  simp only [srcF]
  rw [key xs [] (by simpa using hl) hc he]
  simp
/-- .. without a test -/
theorem compF_all {α β : Type} {elt : DS → Store → RE} {cl : Cl} {v : Nat} {ds : DS} {st : Store} {m : Bool} (enc : α → D) (encR : β → D) (f : α → β) (xs : List α) (hl : xs.length ≤ lim)
    (he : ∀ x ∈ xs, elt (ds.set v (some (enc x))) st = .ok (encR (f x)) st) :
    compF m elt (evE cl (.k (.bl true))) v .it [.lst (xs.map enc)] ds st = mkL m ((xs.map f).map encR) st := by
  rw [compF_map enc encR f (fun _ => true) xs hl (fun x _ => by simp) (fun x hx _ => he x hx), List.filter_eq_self.mpr (fun _ _ => rfl)]
theorem compF_ref (m : Bool) (elt cond : DS → Store → RE) (v : Nat) (ds : DS) (n : Nat) (st : Store) (xs : List D) (h : st[n]? = some (.lst xs)) (ys : List D) (hc : compF m elt cond v .it [.lst xs] ds (st.set n (.lckL xs)) = mkL m ys (st.set n (.lckL xs))) : True := trivial
@[simp] theorem compF_tup (m : Bool) (elt cond : DS → Store → RE) (v : Nat) (ds : DS) (st : Store) (xs : List D) : compF m elt cond v .it [.tup xs] ds st = compF m elt cond v .it [.lst xs] ds st := (rfl)
@[simp] theorem compF_itv (m : Bool) (elt cond : DS → Store → RE) (v : Nat) (ds : DS) (st : Store) (xs : List D) : compF m elt cond v .itv [.lst xs] ds st = compF m elt cond v .it [.lst xs] ds st := (rfl)
theorem compF_rng1 (m : Bool) (elt cond : DS → Store → RE) (v : Nat) (ds : DS) (st : Store) (x : Int) (h : -4611686018427387904 ≤ x ∧ x < 4611686018427387904) : compF m elt cond v .rng1 [.int x] ds st = compF m elt cond v .it [.lst ((rangeI 0 x).map .int)] ds st := by
  have e : srcF .rng1 [.int x] st = some (none, rangeD 0 x) := if_pos (by omega)
  unfold compF
  rw [e]
  simp only [rangeD_eq, srcF]
theorem compF_rng2 (m : Bool) (elt cond : DS → Store → RE) (v : Nat) (ds : DS) (st : Store) (x y : Int) (h : -4611686018427387904 ≤ x ∧ x < 4611686018427387904 ∧ -4611686018427387904 ≤ y ∧ y < 4611686018427387904) : compF m elt cond v .rng2 [.int x, .int y] ds st = compF m elt cond v .it [.lst ((rangeI x y).map .int)] ds st := by
  have e : srcF .rng2 [.int x, .int y] st = some (none, rangeD x y) := if_pos (by omega)
  unfold compF
  rw [e]
  simp only [rangeD_eq, srcF]
/-- a loop, of which some state is known -/
theorem forB_rel {α γ : Type} {body : DS → Store → RS} {v : Nat} (enc : α → D) (F : Option D → γ → DS) (G : γ → Store) (I : List α → γ → Prop)
    (xs : List α) (g : γ) (y : Option D) (hI : I [] g)
    (hs : ∀ (done : List α) (x : α) (rest : List α) (y : Option D) (g : γ), done ++ x :: rest = xs → I done g → ∃ g', (body ((F y g).set v (some (enc x))) (G g)).cont = .nx (F (some (enc x)) g') (G g') ∧ I (done ++ [x]) g') :
    ∃ g', forB body v (xs.map enc) (F y g) (G g) = .nx (F (lastS enc xs y) g') (G g') ∧ I xs g' := by
  have key : ∀ (rest done : List α) (y : Option D) (g : γ), done ++ rest = xs → I done g → ∃ g', forB body v (rest.map enc) (F y g) (G g) = .nx (F (lastS enc rest y) g') (G g') ∧ I xs g' := by
    intro rest
    induction rest with
    | nil => intro done y g e h; exact ⟨g, rfl, by rw [List.append_nil] at e; rw [← e]; exact h⟩
    | cons x r ih =>
      intro done y g e h
      obtain ⟨g1, h1, h2⟩ := hs done x r y g e h
      obtain ⟨g2, h3, h4⟩ := ih (done ++ [x]) (some (enc x)) g1 (by rw [← e]; simp) h2
      refine ⟨g2, ?_, h4⟩
      rw [List.map_cons, forB_cons, h1]
      exact h3
  exact key xs [] y g rfl hI
/-! ### a store's end -/
@[simp] theorem st_at0 (j : Store) (c : Cell) : (j ++ [c])[j.length]? = some c := by simp
@[simp] theorem st_at1 (j : Store) (c d : Cell) : (j ++ [c, d])[j.length + 1]? = some d := by simp
@[simp] theorem st_at10 (j : Store) (c d : Cell) : (j ++ [c, d])[j.length]? = some c := by simp
@[simp] theorem st_set0 (j : Store) (c d : Cell) : (j ++ [c]).set j.length d = j ++ [d] := by simp
theorem set_end1 : ∀ (j : List Cell) (c d e : Cell), (j ++ [c, d]).set (j.length + 1) e = j ++ [c, e]
  | [], _, _, _ => rfl
  | a :: j, c, d, e => congrArg (a :: ·) (set_end1 j c d e)
theorem set_end10 : ∀ (j : List Cell) (c d e : Cell), (j ++ [c, d]).set j.length e = j ++ [e, d]
  | [], _, _, _ => rfl
  | a :: j, c, d, e => congrArg (a :: ·) (set_end10 j c d e)
@[simp] theorem st_set1 (j : Store) (c d e : Cell) : (j ++ [c, d]).set (j.length + 1) e = j ++ [c, e] := set_end1 j c d e
@[simp] theorem st_set10 (j : Store) (c d e : Cell) : (j ++ [c, d]).set j.length e = j ++ [e, d] := set_end10 j c d e
/-! ### slices -/
def slcQ (m : Bool) (l h : Option (Option Int)) (s : Option (List D)) (st : Store) : RE := match l, h, s with
  | some l, some h, some xs => mkL m (cutL xs l h) st
  | _, _, _ => .no
@[simp] theorem slcQ_s (m : Bool) (l h : Option Int) (xs : List D) (st : Store) : slcQ m (some l) (some h) (some xs) st = mkL m (cutL xs l h) st := rfl
@[simp] theorem partOf_n : partOf .non = some none := rfl
@[simp] theorem partOf_i (i : Int) : partOf (.int i) = some (some i) := rfl
@[simp] theorem slcF_ref (m : Bool) (n : Nat) (lo hi : D) (st : Store) : slcF m (.ref n) lo hi st = slcQ m (partOf lo) (partOf hi) (lstC st[n]?) st := by
  have h1 := lstOf_ref st n
  unfold slcF slcQ
  cases partOf lo <;> cases partOf hi <;> simp only [h1] <;> cases lstC st[n]? <;> rfl
@[simp] theorem slcF_lst (m : Bool) (xs : List D) (lo hi : D) (st : Store) : slcF m (.lst xs) lo hi st = slcQ m (partOf lo) (partOf hi) (some xs) st := by
  unfold slcF slcQ
  cases partOf lo <;> cases partOf hi <;> rfl
theorem sIx_at {n : Nat} {d : Nat} {i : Int} (h0 : 0 ≤ i) (h1 : i ≤ n) : HT.sIx n d (some i) = i.toNat := by
  unfold HT.sIx
  simp only
  first | omega | (split <;> omega)
theorem cutL_from {α : Type} (xs : List α) (i : Int) (h0 : 0 ≤ i) (h1 : i ≤ xs.length) : cutL xs (some i) none = xs.drop i.toNat := by
  unfold cutL
  rw [sIx_at h0 h1]
  have : HT.sIx xs.length xs.length none = xs.length := rfl
  rw [this]
  apply List.take_of_length_le
  rw [List.length_drop]; omega
theorem cutL_to {α : Type} (xs : List α) (i : Int) (h0 : 0 ≤ i) (h1 : i ≤ xs.length) : cutL xs none (some i) = xs.take i.toNat := by
  unfold cutL
  rw [sIx_at h0 h1]
  have : HT.sIx xs.length 0 none = 0 := rfl
  rw [this]
  simp
theorem cutL_in {α : Type} (xs : List α) (i j : Int) (h0 : 0 ≤ i) (h1 : i ≤ xs.length) (h2 : 0 ≤ j) (h3 : j ≤ xs.length) : cutL xs (some i) (some j) = (xs.drop i.toNat).take (j.toNat - i.toNat) := by
  unfold cutL
  rw [sIx_at h0 h1, sIx_at h2 h3]
/-! ### the greatest -/
theorem intsOf_map (xs : List Int) : intsOf (xs.map .int) = some xs := by
  induction xs with
  | nil => rfl
  | cons x r ih => simp [intsOf, ih]
def maxI (xs : List Int) : Int := (mxL xs).getD 0
theorem foldl_max : ∀ (xs : List Int) (a : Int), a ≤ xs.foldl (fun a b => if b > a then b else a) a ∧ (∀ x ∈ xs, x ≤ xs.foldl (fun a b => if b > a then b else a) a) ∧ (xs.foldl (fun a b => if b > a then b else a) a = a ∨ xs.foldl (fun a b => if b > a then b else a) a ∈ xs)
  | [], a => by simp
  | b :: xs, a => by
    simp only [List.foldl_cons]
    obtain ⟨h1, h2, h3⟩ := foldl_max xs (if b > a then b else a)
    generalize xs.foldl (fun a b => if b > a then b else a) (if b > a then b else a) = m at *
    refine ⟨by split at h1 <;> omega, fun x hx => ?_, ?_⟩
    · rcases List.mem_cons.mp hx with rfl | hx
      · split at h1 <;> omega
      · exact h2 x hx
    · rcases h3 with h3 | h3
      · split at h3
        · exact .inr (by rw [h3]; simp)
        · exact .inl h3
      · exact .inr (List.mem_cons_of_mem _ h3)
theorem maxI_ge {xs : List Int} {x : Int} (h : x ∈ xs) : x ≤ maxI xs := by
  cases xs with
  | nil => simp at h
  | cons a xs =>
    simp only [maxI, mxL, Option.getD_some]
    obtain ⟨h1, h2, _⟩ := foldl_max xs a
    rcases List.mem_cons.mp h with rfl | h
    · exact h1
    · exact h2 x h
theorem maxI_mem {xs : List Int} (h : xs ≠ []) : maxI xs ∈ xs := by
  cases xs with
  | nil => simp at h
  | cons a xs =>
    simp only [maxI, mxL, Option.getD_some]
    obtain ⟨_, _, h⟩ := foldl_max xs a
    rcases h with h | h
    · rw [h]; simp
    · exact List.mem_cons_of_mem _ h
theorem p_maxL_lst (xs : List Int) (h : xs ≠ []) (st : Store) : prim1F .maxL (.lst (xs.map .int)) st = .ok (.int (maxI xs)) st := by
  simp only [prim1F, lstOf, intsOf_map]
  cases xs with
  | nil => simp at h
  | cons a xs => rfl
theorem p_maxD_lst (xs : List Int) (st : Store) : prim1F .maxD (.lst (xs.map .int)) st = .ok (.int (maxI xs)) st := by
  simp only [prim1F, lstOf, intsOf_map]
  cases xs with
  | nil => rfl
  | cons a xs => rfl
/-! ### short loops -/
def RS.lp (x : RS) (k : DS → Store → RS) : RS := match x with
  | .nx ds st => k ds st
  | .ct ds st => k ds st
  | .bk ds st => .nx ds st
  | x => x
@[simp] theorem lp_nx (ds : DS) (st : Store) (k : DS → Store → RS) : (RS.nx ds st).lp k = k ds st := (rfl)
@[simp] theorem lp_ct (ds : DS) (st : Store) (k : DS → Store → RS) : (RS.ct ds st).lp k = k ds st := (rfl)
@[simp] theorem lp_bk (ds : DS) (st : Store) (k : DS → Store → RS) : (RS.bk ds st).lp k = .nx ds st := (rfl)
@[simp] theorem lp_rt (d : D) (st : Store) (k : DS → Store → RS) : (RS.rt d st).lp k = .rt d st := (rfl)
@[simp] theorem lp_ite {c : Prop} [Decidable c] (x y : RS) (k : DS → Store → RS) : (if c then x else y).lp k = if c then x.lp k else y.lp k := by split <;> rfl
theorem forB_c (body : DS → Store → RS) (v : Nat) (d : D) (r : List D) (ds : DS) (st : Store) : forB body v (d :: r) ds st = (body (ds.set v (some d)) st).lp (forB body v r) := by
  rw [forB]
  cases body (ds.set v (some d)) st <;> rfl
@[simp] theorem forB_nil (body : DS → Store → RS) (v : Nat) (ds : DS) (st : Store) : forB body v [] ds st = .nx ds st := (rfl)
def okThen (x : RE) (f : D → Store → R (List D)) : R (List D) := match x with
  | .ok y st => f y st
  | _ => .no
@[simp] theorem okThen_ok (y : D) (st : Store) (f : D → Store → R (List D)) : okThen (.ok y st) f = f y st := (rfl)
def compL (elt : DS → Store → RE) (v : Nat) (ds : DS) : List D → Store → R (List D)
  | [], st => .ok [] st
  | d :: r, st => okThen (elt (ds.set v (some d)) st) fun y st1 => (compL elt v ds r st1).bind fun ys st2 => .ok (y :: ys) st2
@[simp] theorem compL_nil (elt : DS → Store → RE) (v : Nat) (ds : DS) (st : Store) : compL elt v ds [] st = .ok [] st := (rfl)
@[simp] theorem compL_cons (elt : DS → Store → RE) (v : Nat) (ds : DS) (d : D) (r : List D) (st : Store) : compL elt v ds (d :: r) st = okThen (elt (ds.set v (some d)) st) fun y st1 => (compL elt v ds r st1).bind fun ys st2 => .ok (y :: ys) st2 := (rfl)
theorem compB_L (elt : DS → Store → RE) (cl : Cl) (v : Nat) (ds : DS) : ∀ (xs acc : List D) (st : Store), acc.length + xs.length ≤ lim →
    compB elt (evE cl (.k (.bl true))) v xs acc ds st = match compL elt v ds xs st with | .ok ys st' => some (acc ++ ys, st') | _ => none
  | [], acc, st, _ => by simp [compB]
  | d :: r, acc, st, h => by
    simp only [List.length_cons] at h
    rw [compB, evE_k, compL_cons]
    simp only
    cases elt (ds.set v (some d)) st with
    | ok y st1 =>
      simp only [show acc.length < lim by omega, if_true, okThen_ok]
      rw [compB_L elt cl v ds r (acc ++ [y]) st1 (by rw [List.length_append, List.length_singleton]; omega)]
      cases compL elt v ds r st1 <;> simp
    | exc e s => rfl
    | no => rfl
/-- a comprehension over a short list, item by item -/
theorem compF_u (m : Bool) (elt : DS → Store → RE) (cl : Cl) (v : Nat) (xs : List D) (ds : DS) (st : Store) (h : xs.length ≤ 1000) :
    compF m elt (evE cl (.k (.bl true))) v .it [.lst xs] ds st = match compL elt v ds xs st with | .ok ys st' => mkL m ys st' | _ => .no := by
  unfold compF
  simp only [srcF]
  rw [compB_L elt cl v ds xs [] st (by simp only [lim, List.length_nil]; omega)]
  cases compL elt v ds xs st <;> simp
@[simp] theorem blsOf_map (bs : List Bool) : blsOf (bs.map .bl) = some bs := by
  induction bs with
  | nil => rfl
  | cons x r ih => simp [blsOf, ih]
@[simp] theorem p_all_map (bs : List Bool) (st : Store) : prim1F .all (.lst (bs.map .bl)) st = .ok (.bl (bs.all id)) st := by
  simp [prim1F, lstOf, blsOf_map]
@[simp] theorem slcF_tup1 (m : Bool) (x y : D) (r : List D) (st : Store) : slcF m (.tup (x :: y :: r)) (.int 1) .non st = .ok (.tup (y :: r)) st := by
  have e1 : HT.sIx (x :: y :: r).length 0 (some 1) = 1 := by rw [sIx_at (by omega) (by simp <;> omega)]; rfl
  have e2 : HT.sIx (x :: y :: r).length (x :: y :: r).length none = (x :: y :: r).length := rfl
  unfold slcF
  simp only [partOf, e1, e2]
  rw [if_neg (by omega), cutL, e1, e2]
  simp
/-! ### == -/
theorem eqv_refl {st : Store} {d : D} (h : noRef d = true) (hc : cmpD d = true) (hd : dep d ≤ 64) : eqVal st d d = some true := eqv_same (rsv_nr h) (rsv_nr h) hc hd
@[simp] theorem cmp_pl (p : Pl) : cmpD (plD p) = true := (rfl)
@[simp] theorem cmp_int (i : Int) : cmpD (.int i) = true := (rfl)
@[simp] theorem cmp_bl (i : Bool) : cmpD (.bl i) = true := (rfl)
@[simp] theorem cmp_str (i : Tx) : cmpD (.str i) = true := (rfl)
@[simp] theorem cmp_non : cmpD .non = true := (rfl)
@[simp] theorem cmp_tup (xs : List D) : cmpD (.tup xs) = cmpDs xs := by rw [cmpD]
@[simp] theorem cmp_lst (xs : List D) : cmpD (.lst xs) = cmpDs xs := by rw [cmpD]
@[simp] theorem cmps_nil : cmpDs [] = true := (rfl)
@[simp] theorem cmps_cons (x : D) (xs : List D) : cmpDs (x :: xs) = (cmpD x && cmpDs xs) := by rw [cmpDs]
@[simp] theorem dep_pl (p : Pl) : dep (plD p) = 1 := (rfl)
@[simp] theorem dep_int (i : Int) : dep (.int i) = 0 := (rfl)
@[simp] theorem dep_bl (i : Bool) : dep (.bl i) = 0 := (rfl)
@[simp] theorem dep_str (i : Tx) : dep (.str i) = 0 := (rfl)
@[simp] theorem dep_non : dep .non = 0 := (rfl)
@[simp] theorem dep_tup (xs : List D) : dep (.tup xs) = deps xs + 1 := by rw [dep]
@[simp] theorem dep_lst (xs : List D) : dep (.lst xs) = deps xs + 1 := by rw [dep]
@[simp] theorem deps_nil : deps [] = 0 := (rfl)
@[simp] theorem deps_cons (x : D) (xs : List D) : deps (x :: xs) = max (dep x) (deps xs) := by rw [deps]
theorem at_rng {α : Type} (xs : List α) {x : Int} (h : x ∈ rangeI 0 xs.length) : ∃ a, a ∈ xs ∧ xs[x.toNat]? = some a ∧ atL xs x = some a := by
  rw [mem_rangeI] at h
  have hx : x.toNat < xs.length := by omega
  refine ⟨xs[x.toNat], List.getElem_mem hx, List.getElem?_eq_getElem hx, ?_⟩
  rw [atL_nat xs x h.1 h.2, List.getElem?_eq_getElem hx]
/-! ### dicts changed -/
def isDC : Option Cell → Bool
  | some (.dct _) => true
  | _ => false
@[simp] theorem isDC_d (es : List (Pl × D)) : isDC (some (.dct es)) = true := (rfl)
@[simp] theorem isDC_l (es : List D) : isDC (some (.lst es)) = false := (rfl)
@[simp] theorem or_dclr (n : Nat) (st : Store) : okRecv .dclr (.ref n) st = isDC st[n]? := by
  simp only [okRecv]
  cases st[n]? with
  | none => rfl
  | some c => cases c <;> rfl
@[simp] theorem or_dpop (n : Nat) (st : Store) : okRecv .dpop (.ref n) st = isDC st[n]? := by
  simp only [okRecv]
  cases st[n]? with
  | none => rfl
  | some c => cases c <;> rfl
@[simp] theorem or_dpop1 (n : Nat) (st : Store) : okRecv .dpop1 (.ref n) st = isDC st[n]? := by
  simp only [okRecv]
  cases st[n]? with
  | none => rfl
  | some c => cases c <;> rfl
@[simp] theorem or_rev (x : D) (st : Store) : okRecv .rev x st = (lstOf st x).isSome := (rfl)
@[simp] theorem or_index (x : D) (st : Store) : okRecv .index x st = (lstOf st x).isSome := (rfl)
@[simp] theorem or_sidx (x : Tx) (st : Store) : okRecv .sidx (.str x) st = true := (rfl)
def dclrC (o : Option Cell) (n : Nat) (st : Store) : RE := match o with
  | some (.dct es) => .ok .non (st.set n (.dct []))
  | _ => .no
@[simp] theorem p_dclr_ref (n : Nat) (st : Store) : prim1F .dclr (.ref n) st = dclrC st[n]? n st := (rfl)
@[simp] theorem dclrC_d (n : Nat) (es : List (Pl × D)) (st : Store) : dclrC (some (.dct es)) n st = .ok .non (st.set n (.dct [])) := (rfl)
def revC (o : Option Cell) (n : Nat) (st : Store) : RE := match o with
  | some (.lst xs) => .ok .non (st.set n (.lst xs.reverse))
  | _ => .no
@[simp] theorem p_rev_ref (n : Nat) (st : Store) : prim1F .rev (.ref n) st = revC st[n]? n st := (rfl)
@[simp] theorem revC_l (n : Nat) (xs : List D) (st : Store) : revC (some (.lst xs)) n st = .ok .non (st.set n (.lst xs.reverse)) := (rfl)
def dpopC (o : Option Cell) (n : Nat) (k : Pl) (c : Option D) (st : Store) : RE := match o with
  | some (.dct es) => match dget es k, c with
    | some v, _ => .ok v (st.set n (.dct (ddrop es k)))
    | none, some c => .ok c st
    | none, none => .no
  | _ => .no
theorem p_dpop1_pl (n : Nat) (k : Pl) (st : Store) : prim2F .dpop1 (.ref n) (plD k) st = dpopC st[n]? n k none st := by
  have e : plOf (plD k) = some k := rfl
  unfold prim2F dpopC
  simp only [e]
  cases h : st[n]? with
  | none => rfl
  | some c =>
    cases c with
    | dct es => simp only; cases dget es k <;> rfl
    | _ => rfl
theorem p_dpop_pl (n : Nat) (k : Pl) (c : D) (st : Store) : prim3F .dpop (.ref n) (plD k) c st = dpopC st[n]? n k (some c) st := by
  have e : plOf (plD k) = some k := rfl
  unfold prim3F dpopC
  simp only [e]
  cases h : st[n]? with
  | none => rfl
  | some x =>
    cases x with
    | dct es => simp only; cases dget es k <;> rfl
    | _ => rfl
theorem dpopC_some {n : Nat} {es : List (Pl × D)} {k : Pl} {v : D} {c : Option D} {st : Store} (h : dget es k = some v) : dpopC (some (.dct es)) n k c st = .ok v (st.set n (.dct (ddrop es k))) := by
  unfold dpopC
  simp only [h]
theorem dpopC_none {n : Nat} {es : List (Pl × D)} {k : Pl} {c : D} {st : Store} (h : dget es k = none) : dpopC (some (.dct es)) n k (some c) st = .ok c st := by
  unfold dpopC
  simp only [h]
theorem pairsOf_map {α : Type} (k : α → Pl) (v : α → D) : ∀ xs : List α, pairsOf (xs.map fun x => .tup [plD (k x), v x]) = some (xs.map fun x => (k x, v x))
  | [] => rfl
  | x :: xs => by
    have e : plOf (plD (k x)) = some (k x) := rfl
    rw [List.map_cons, pairsOf, e, pairsOf_map k v xs]
    rfl
theorem p_dictL {α : Type} (m : Bool) (k : α → Pl) (v : α → D) (xs : List α) (st : Store) : prim1F (.dictL m) (.lst (xs.map fun x => .tup [plD (k x), v x])) st = mkD m ((xs.map fun x => (k x, v x)).foldl (fun g e => dput g e.1 e.2) []) st := by
  simp only [prim1F, lstOf_lst, pairsOf_map]
@[simp] theorem p_index_pls (ps : List Pl) (p : Pl) (st : Store) (h : p ∈ ps) : prim2F .index (.lst (ps.map plD)) (plD p) st = .ok (.int (ps.idxOf p : Nat)) st := by
  have e : plOf (plD p) = some p := rfl
  have e2 : plsOf (ps.map plD) = some ps := plsOf_pls ps
  simp only [prim2F, lstOf_lst, e, e2, h, if_true]
theorem p_nset_lst (ps : List Pl) (st : Store) (h : ps.length < 64) (h2 : ps.Nodup) : prim1F .nset (.lst (ps.map plD)) st = .ok (.int (ps.length : Nat)) st := by
  have e : plsOf (ps.map plD) = some ps := plsOf_pls ps
  simp only [prim1F, lstOf, e, h, h2, and_self, if_true]
theorem lim_ok {a : Nat} (h : a ≤ 16777216) : a ≤ lim := h
end MP
end
section
set_option maxRecDepth 100000
set_option maxHeartbeats 4000000
namespace FL
open MP
/-- trees and areas -/
inductive Tr where
  | num (n : Int) | ref (p : Pl) (f : Bool × Bool) | gone
  | minus (a : Tr) | two (s : Tx) (a b : Tr) | pick (a b c : Tr) | over (w : Tx) (ps : List Tr)
  | area (p : Pl) (f : Bool × Bool) (q : Pl) (g : Bool × Bool)
  deriving Inhabited
def blD (f : Bool × Bool) : D := .tup [.bl f.1, .bl f.2]
def refD (p : Pl) (f : Bool × Bool) : D := .tup [.str [114, 101, 102], plD p, blD f]
mutual
def trD : Tr → D
  | .num n => .tup [.str [110, 117, 109], .int n]
  | .ref p f => refD p f
  | .gone => .tup [.str [103, 111, 110, 101]]
  | .minus a => .tup [.str [109, 105, 110, 117, 115], trD a]
  | .two s a b => .tup [.str [116, 119, 111], .str s, trD a, trD b]
  | .pick a b c => .tup [.str [112, 105, 99, 107], trD a, trD b, trD c]
  | .over w ps => .tup [.str [111, 118, 101, 114], .str w, .lst (trDs ps)]
  | .area p f q g => .tup [.str [97, 114, 101, 97], refD p f, refD q g]
def trDs : List Tr → List D
  | [] => []
  | t :: ts => trD t :: trDs ts
end
@[simp] theorem trDs_map : ∀ (ts : List Tr), trDs ts = ts.map trD
  | [] => rfl
  | t :: ts => by rw [trDs, trDs_map ts]; rfl
@[simp] theorem nr_bls (f : Bool × Bool) : noRef (blD f) = true := (rfl)
@[simp] theorem nr_refD (p : Pl) (f : Bool × Bool) : noRef (refD p f) = true := (rfl)
@[simp] theorem fl_bls (f : Bool × Bool) : flat (blD f) = true := (rfl)
@[simp] theorem fl_refD (p : Pl) (f : Bool × Bool) : flat (refD p f) = true := (rfl)
@[simp] theorem trD_num (n : Int) : trD (.num n) = .tup [.str [110, 117, 109], .int n] := by rw [trD]
@[simp] theorem trD_ref (p : Pl) (f : Bool × Bool) : trD (.ref p f) = .tup [.str [114, 101, 102], plD p, blD f] := by rw [trD]; rfl
@[simp] theorem trD_gone : trD .gone = .tup [.str [103, 111, 110, 101]] := by rw [trD]
@[simp] theorem trD_minus (a : Tr) : trD (.minus a) = .tup [.str [109, 105, 110, 117, 115], trD a] := by rw [trD]
@[simp] theorem trD_two (s : Tx) (a b : Tr) : trD (.two s a b) = .tup [.str [116, 119, 111], .str s, trD a, trD b] := by rw [trD]
@[simp] theorem trD_pick (a b c : Tr) : trD (.pick a b c) = .tup [.str [112, 105, 99, 107], trD a, trD b, trD c] := by rw [trD]
@[simp] theorem trD_over (w : Tx) (ps : List Tr) : trD (.over w ps) = .tup [.str [111, 118, 101, 114], .str w, .lst (ps.map trD)] := by rw [trD, trDs_map]
@[simp] theorem trD_area (p : Pl) (f : Bool × Bool) (q : Pl) (g : Bool × Bool) : trD (.area p f q g) = .tup [.str [97, 114, 101, 97], .tup [.str [114, 101, 102], plD p, blD f], .tup [.str [114, 101, 102], plD q, blD g]] := by rw [trD]; rfl
@[simp] theorem cmp_blD (f : Bool × Bool) : cmpD (blD f) = true := (rfl)
@[simp] theorem dep_blD (f : Bool × Bool) : dep (blD f) = 1 := (rfl)
/-- the parts -/
def Tr.kids : Tr → List Tr
  | .minus a => [a]
  | .two _ a b => [a, b]
  | .pick a b c => [a, b, c]
  | .over _ ps => ps
  | _ => []
@[simp] theorem kids_num (n : Int) : (Tr.num n).kids = [] := (rfl)
@[simp] theorem kids_ref (p : Pl) (f : Bool × Bool) : (Tr.ref p f).kids = [] := (rfl)
@[simp] theorem kids_gone : Tr.gone.kids = [] := (rfl)
@[simp] theorem kids_minus (a : Tr) : (Tr.minus a).kids = [a] := (rfl)
@[simp] theorem kids_two (s : Tx) (a b : Tr) : (Tr.two s a b).kids = [a, b] := (rfl)
@[simp] theorem kids_pick (a b c : Tr) : (Tr.pick a b c).kids = [a, b, c] := (rfl)
@[simp] theorem kids_over (w : Tx) (ps : List Tr) : (Tr.over w ps).kids = ps := (rfl)
@[simp] theorem kids_area (p : Pl) (f : Bool × Bool) (q : Pl) (g : Bool × Bool) : (Tr.area p f q g).kids = [] := (rfl)
/-- trees by their parts -/
theorem Tr.ind {P : Tr → Prop} (h : ∀ t : Tr, (∀ k ∈ t.kids, P k) → P t) : ∀ t, P t := by
  have key : ∀ t : Tr, P t := fun t => Tr.rec (motive_1 := P) (motive_2 := fun ts => ∀ k ∈ ts, P k)
    (fun n => h _ (by simp)) (fun p f => h _ (by simp)) (h _ (by simp)) (fun a ha => h _ (by simpa using ha)) (fun s a b ha hb => h _ (by simpa using ⟨ha, hb⟩))
    (fun a b c ha hb hc => h _ (by simpa using ⟨ha, hb, hc⟩)) (fun w ps hp => h _ (by simpa using hp)) (fun p f q g => h _ (by simp))
    (by simp) (fun t ts ht hts => by simpa using ⟨ht, hts⟩) t
  exact key
mutual
def Tr.dep : Tr → Nat
  | .minus a => a.dep + 1
  | .two _ a b => max a.dep b.dep + 1
  | .pick a b c => max a.dep (max b.dep c.dep) + 1
  | .over _ ps => Tr.deps ps + 1
  | _ => 1
def Tr.deps : List Tr → Nat
  | [] => 0
  | t :: ts => max t.dep (Tr.deps ts)
end
theorem dep_eq (t : Tr) : t.dep = Tr.deps t.kids + 1 := by cases t <;> simp [Tr.dep, Tr.deps]
theorem dep_mem : ∀ {ts : List Tr} {t : Tr}, t ∈ ts → t.dep ≤ Tr.deps ts
  | t :: ts, u, h => by
    rw [Tr.deps]
    rcases List.mem_cons.mp h with rfl | h
    · omega
    · have := dep_mem h; omega
theorem deps_le {n : Nat} : ∀ {ts : List Tr}, (∀ t ∈ ts, t.dep ≤ n) → Tr.deps ts ≤ n
  | [], _ => by rw [Tr.deps]; omega
  | t :: ts, h => by
    rw [Tr.deps]
    have := h t List.mem_cons_self
    have := deps_le fun u hu => h u (List.mem_cons_of_mem _ hu)
    omega
mutual
def Tr.nodes : Tr → Nat
  | .minus a => a.nodes + 1
  | .two _ a b => a.nodes + b.nodes + 1
  | .pick a b c => a.nodes + b.nodes + c.nodes + 1
  | .over _ ps => Tr.nodess ps + 1
  | _ => 1
def Tr.nodess : List Tr → Nat
  | [] => 0
  | t :: ts => t.nodes + Tr.nodess ts
end
theorem nodes_eq (t : Tr) : t.nodes = Tr.nodess t.kids + 1 := by cases t <;> simp [Tr.nodes, Tr.nodess] <;> omega
theorem nodes_mem : ∀ {ts : List Tr} {t : Tr}, t ∈ ts → t.nodes ≤ Tr.nodess ts
  | t :: ts, u, h => by
    rw [Tr.nodess]
    rcases List.mem_cons.mp h with rfl | h
    · omega
    · have := nodes_mem h; omega
mutual
def Tr.leaves : Tr → Nat
  | .minus a => a.leaves
  | .two _ a b => a.leaves + b.leaves
  | .pick a b c => a.leaves + b.leaves + c.leaves
  | .over _ ps => if ps = [] then 1 else Tr.leavess ps
  | _ => 1
def Tr.leavess : List Tr → Nat
  | [] => 0
  | t :: ts => t.leaves + Tr.leavess ts
end
theorem leaves_eq (t : Tr) : t.leaves = if t.kids = [] then 1 else Tr.leavess t.kids := by cases t <;> simp [Tr.leaves, Tr.leavess] <;> omega
theorem leaves_pos : ∀ t : Tr, 1 ≤ t.leaves := Tr.ind fun t ih => by
  rw [leaves_eq]
  split
  · omega
  · rename_i h
    cases hk : t.kids with
    | nil => exact absurd hk h
    | cons k ks =>
      have := ih k (by rw [hk]; simp)
      rw [Tr.leavess]; omega
theorem nodess_le (d : Nat) : ∀ (ts : List Tr), (∀ t ∈ ts, t.nodes ≤ t.leaves * t.dep ∧ t.dep ≤ d) → Tr.nodess ts ≤ Tr.leavess ts * d
  | [], _ => by simp [Tr.nodess]
  | t :: ts, h => by
    have h1 := nodess_le d ts fun u hu => h u (List.mem_cons_of_mem _ hu)
    obtain ⟨h2, h3⟩ := h t List.mem_cons_self
    have h4 : t.leaves * t.dep ≤ t.leaves * d := Nat.mul_le_mul_left _ h3
    rw [Tr.nodess, Tr.leavess, Nat.add_mul]
    omega
theorem nodes_le : ∀ t : Tr, t.nodes ≤ t.leaves * t.dep := Tr.ind fun t ih => by
  have h := nodess_le (Tr.deps t.kids) t.kids fun k hk => ⟨ih k hk, dep_mem hk⟩
  rw [nodes_eq, leaves_eq, dep_eq]
  split
  · rename_i hk
    rw [hk] at h ⊢
    simp [Tr.nodess, Tr.deps]
  · rename_i hk
    have h1 : 1 ≤ Tr.leavess t.kids := by
      cases hk2 : t.kids with
      | nil => exact absurd hk2 hk
      | cons k ks => have := leaves_pos k; rw [Tr.leavess]; omega
    rw [Nat.mul_add]
    omega
theorem len_nodes : ∀ (ts : List Tr), ts.length ≤ Tr.nodess ts
  | [] => by simp
  | t :: ts => by
    have := len_nodes ts
    have := nodes_eq t
    rw [Tr.nodess, List.length_cons]; omega
/-- not too deep, no long list -/
def Sm : Nat → Tr → Prop
  | 0, _ => False
  | d + 1, t => t.kids.length ≤ 1000 ∧ ∀ k ∈ t.kids, Sm d k
theorem sm_of : ∀ (d : Nat) (t : Tr), t.dep ≤ d → t.nodes ≤ 1000 → Sm d t
  | 0, t, h, _ => by have := dep_eq t; omega
  | d + 1, t, h, hn => by
    have e := dep_eq t
    have e2 := nodes_eq t
    have e3 := len_nodes t.kids
    exact ⟨by omega, fun k hk => sm_of d k (by have := dep_mem hk; omega) (by have := nodes_mem hk; omega)⟩
theorem Sm.mono : ∀ {d e : Nat} {t : Tr}, Sm d t → d ≤ e → Sm e t
  | d + 1, 0, t, h, l => by omega
  | d + 1, e + 1, t, h, l => ⟨h.1, fun k hk => Sm.mono (h.2 k hk) (by omega)⟩
/-! ### trees as data -/
theorem nr_tr : ∀ (t : Tr), noRef (trD t) = true := Tr.ind fun t ih => by
  cases t with
  | num n => rfl
  | ref p f => rfl
  | gone => rfl
  | minus a => simp at ih; simp [ih]
  | two s a b => simp at ih; simp [ih]
  | pick a b c => simp at ih; simp [ih]
  | over w ps =>
    simp only [kids_over] at ih
    have : noRefs (ps.map trD) = true := by
      clear w
      induction ps with
      | nil => rfl
      | cons k ks ih2 => simp [ih k (by simp), ih2 fun j hj => ih j (by simp [hj])]
    simp [this]
  | area p f q g => rfl
@[simp] theorem nr_trD (t : Tr) : noRef (trD t) = true := nr_tr t
@[simp] theorem nrs_trs (ts : List Tr) : noRefs (ts.map trD) = true := nrs_map nr_tr ts
theorem cmpDs_map {α : Type} {f : α → D} : ∀ (xs : List α), (∀ x ∈ xs, cmpD (f x) = true) → cmpDs (xs.map f) = true
  | [], _ => rfl
  | x :: xs, h => by simp [cmpDs, h x (by simp), cmpDs_map xs fun y hy => h y (by simp [hy])]
theorem deps_map {α : Type} {f : α → D} {n : Nat} : ∀ (xs : List α), (∀ x ∈ xs, dep (f x) ≤ n) → deps (xs.map f) ≤ n
  | [], _ => by simp [deps]
  | x :: xs, h => by
    have := h x (by simp)
    have := deps_map xs fun y hy => h y (by simp [hy])
    simp only [List.map_cons, deps]
    omega
theorem cmp_tr : ∀ (t : Tr), cmpD (trD t) = true := Tr.ind fun t ih => by
  cases t with
  | num n => rfl
  | ref p f => rfl
  | gone => rfl
  | minus a => simp at ih; simp [cmpD, cmpDs, ih]
  | two s a b => simp at ih; simp [cmpD, cmpDs, ih]
  | pick a b c => simp at ih; simp [cmpD, cmpDs, ih]
  | over w ps =>
    have := cmpDs_map ps ih
    simp [cmpD, cmpDs, this]
  | area p f q g => rfl
theorem dep_tr : ∀ (t : Tr), dep (trD t) ≤ 2 * t.dep + 1 := Tr.ind fun t ih => by
  cases t with
  | num n => simp [dep, deps]
  | ref p f => simp [dep, deps, plD, blD, Tr.dep]
  | gone => simp [dep, deps]
  | minus a => simp at ih; simp only [trD_minus, dep, deps, Tr.dep]; omega
  | two s a b => simp at ih; simp only [trD_two, dep, deps, Tr.dep]; omega
  | pick a b c => simp at ih; simp only [trD_pick, dep, deps, Tr.dep]; omega
  | over w ps =>
    have := deps_map (f := trD) (n := 2 * Tr.deps ps + 1) ps fun k hk => by
      have h1 := ih k hk
      have h2 := dep_mem hk
      omega
    simp only [trD_over, dep, deps, Tr.dep]
    omega
  | area p f q g => simp [dep, deps, plD, blD, Tr.dep]
theorem eqv_tr (st : Store) (t : Tr) (h : t.dep ≤ 30) : eqVal st (trD t) (trD t) = some true :=
  eqv_same (rsv_nr (nr_tr t)) (rsv_nr (nr_tr t)) (cmp_tr t) (by have := dep_tr t; omega)
/-! ### what is drawn -/
def okW (w : Tx) : Prop := w = [83, 85, 77] ∨ w = [67, 79, 85, 78, 84] ∨ w = [77, 65, 88]
def okS (s : Tx) : Prop := s = [43] ∨ s = [45] ∨ s = [42] ∨ s = [47] ∨ s = [60] ∨ s = [61]
def inP (R C : Int) (p : Pl) : Prop := 0 ≤ p.1 ∧ p.1 < R ∧ 0 ≤ p.2 ∧ p.2 < C
def okA (R C : Int) : Tr → Prop
  | .area p _ q _ => inP R C p ∧ inP R C q ∧ p.1 ≤ q.1 ∧ p.2 ≤ q.2
  | _ => False
def okH (R C : Int) : Tr → Prop
  | .num n => 0 ≤ n ∧ n < 1000000000000
  | .ref p _ => inP R C p
  | .two s _ _ => okS s
  | .over w ps => okW w ∧ 1 ≤ ps.length ∧ ps.length ≤ 8
  | .area _ _ _ _ => False
  | _ => True
mutual
/-- a tree of places of R rows, C columns -/
def Tr.Ok (R C : Int) : Tr → Prop
  | .num n => 0 ≤ n ∧ n < 1000000000000
  | .ref p _ => inP R C p
  | .gone => True
  | .minus a => a.Ok R C
  | .two s a b => okS s ∧ a.Ok R C ∧ b.Ok R C
  | .pick a b c => a.Ok R C ∧ b.Ok R C ∧ c.Ok R C
  | .over w ps => (okW w ∧ 1 ≤ ps.length ∧ ps.length ≤ 8) ∧ Tr.Oks R C ps
  | .area _ _ _ _ => False
def Tr.Oks (R C : Int) : List Tr → Prop
  | [] => True
  | t :: ts => (okA R C t ∨ t.Ok R C) ∧ Tr.Oks R C ts
end
theorem oks_iff {R C : Int} : ∀ {ts : List Tr}, Tr.Oks R C ts ↔ ∀ t ∈ ts, okA R C t ∨ t.Ok R C
  | [] => by simp [Tr.Oks]
  | t :: ts => by simp [Tr.Oks, oks_iff (ts := ts)]
theorem ok_over {R C : Int} {w : Tx} {ps : List Tr} : (Tr.over w ps).Ok R C ↔ (okW w ∧ 1 ≤ ps.length ∧ ps.length ≤ 8) ∧ ∀ t ∈ ps, okA R C t ∨ t.Ok R C := by rw [Tr.Ok, oks_iff]
/-- as the laws draw it -/
structure Tree (R C : Int) (t : Tr) : Prop where
  ok : t.Ok R C
  dep : t.dep ≤ 12
  lvs : t.leaves ≤ 60
theorem Tree.nodes {R C : Int} {t : Tr} (h : Tree R C t) : t.nodes ≤ 720 := by
  have h1 := nodes_le t
  have h2 := h.dep
  have h3 := h.lvs
  have : t.leaves * t.dep ≤ 60 * 12 := Nat.mul_le_mul h3 h2
  omega
theorem Tree.sm {R C : Int} {t : Tr} (h : Tree R C t) : Sm 12 t := sm_of 12 t h.dep (by have := h.nodes; omega)
@[simp] theorem p_notn_tr (t : Tr) (st : Store) : prim1F .notn (trD t) st = .ok (.bl true) st := by cases t <;> simp
@[simp] theorem p_isn_tr (t : Tr) (st : Store) : prim1F .isn (trD t) st = .ok (.bl false) st := by cases t <;> simp
@[simp] theorem p_isi_tr (t : Tr) (y : Ty) (st : Store) : prim1F (.isi y) (trD t) st = .ok (.bl (decide (y = .tuple))) st := by cases t <;> simp
@[simp] theorem p_notn_pl (p : Pl) (st : Store) : prim1F .notn (plD p) st = .ok (.bl true) st := (rfl)
@[simp] theorem p_isn_pl (p : Pl) (st : Store) : prim1F .isn (plD p) st = .ok (.bl false) st := (rfl)

end FL
end
section
set_option maxRecDepth 100000
set_option maxHeartbeats 4000000
namespace FL
open MP
def wordT (i : Int) : Tx := if i % 3 = 0 then [83, 85, 77] else if i % 3 = 1 then [67, 79, 85, 78, 84] else [77, 65, 88]
theorem wordT_ok (i : Int) : okW (wordT i) := by
  unfold wordT okW
  by_cases h : i % 3 = 0
  · simp [h]
  · by_cases h2 : i % 3 = 1 <;> simp [h, h2]
theorem word_ix (i : Int) : atL [D.str [83, 85, 77], D.str [67, 79, 85, 78, 84], D.str [77, 65, 88]] (i % 3) = some (.str (wordT i)) := by
  have h : i % 3 = 0 ∨ i % 3 = 1 ∨ i % 3 = 2 := by omega
  unfold wordT
  rcases h with h | h | h <;> rw [h] <;> simp
def signT (i : Int) : Tx := if i % 6 = 0 then [43] else if i % 6 = 1 then [45] else if i % 6 = 2 then [42] else if i % 6 = 3 then [47] else if i % 6 = 4 then [60] else [61]
theorem signT_ok (i : Int) : okS (signT i) := by
  have h : i % 6 = 0 ∨ i % 6 = 1 ∨ i % 6 = 2 ∨ i % 6 = 3 ∨ i % 6 = 4 ∨ i % 6 = 5 := by omega
  unfold signT okS
  rcases h with h | h | h | h | h | h <;> simp [h]
theorem sign_ix (i : Int) (st : Store) : prim2F .ix (.str [43, 45, 42, 47, 60, 61]) (.int (i % 6)) st = .ok (.str (signT i)) st := by
  have h : i % 6 = 0 ∨ i % 6 = 1 ∨ i % 6 = 2 ∨ i % 6 = 3 ∨ i % 6 = 4 ∨ i % 6 = 5 := by omega
  unfold signT
  rcases h with h | h | h | h | h | h <;> rw [h] <;> rfl

end FL
end
section
set_option maxRecDepth 100000
set_option maxHeartbeats 4000000
namespace FL
open MP
/-- what is shown: nothing, a number, a trouble -/
inductive Vl where
  | n | i (x : Int) | s (t : Tx)
  deriving DecidableEq, Inhabited
def vlD : Vl → D
  | .n => .non
  | .i x => .int x
  | .s t => .str t
@[simp] theorem vlD_n : vlD .n = .non := (rfl)
@[simp] theorem vlD_i (x : Int) : vlD (.i x) = .int x := (rfl)
@[simp] theorem vlD_s (t : Tx) : vlD (.s t) = .str t := (rfl)
@[simp] theorem nr_vl (v : Vl) : noRef (vlD v) = true := by cases v <;> rfl
@[simp] theorem fl_vl (v : Vl) : flat (vlD v) = true := by cases v <;> rfl
@[simp] theorem fR_vl (v : Vl) : flatR (vlD v) = true := by cases v <;> rfl
@[simp] theorem cmp_vl (v : Vl) : cmpD (vlD v) = true := by cases v <;> rfl
@[simp] theorem dep_vl (v : Vl) : dep (vlD v) = 0 := by cases v <;> rfl
@[simp] theorem nrs_vl (vs : List Vl) : noRefs (vs.map vlD) = true := nrs_map (by simp) vs
def okT (t : Tx) : Prop := t = [103, 111, 110, 101] ∨ t = [110, 111, 117, 103, 104, 116] ∨ t = [103, 114, 101, 97, 116] ∨ t = [114, 105, 110, 103]
def small (i : Int) : Prop := -1000000000000000000000000000000 ≤ i ∧ i ≤ 1000000000000000000000000000000
/-- a value; a number or a trouble -/
def Vl.Ok : Vl → Prop
  | .n => True
  | .i x => small x
  | .s t => okT t
def Vl.Ok2 : Vl → Prop
  | .n => False
  | .i x => small x
  | .s t => okT t
theorem Vl.Ok2.ok {v : Vl} (h : v.Ok2) : v.Ok := by cases v <;> first | exact h | trivial
def bigV (x : Int) : Vl := if 1000000000000000000000000000000 < x ∨ x < -1000000000000000000000000000000 then .s [103, 114, 101, 97, 116] else .i x
theorem bigV_ok (x : Int) : (bigV x).Ok2 := by
  unfold bigV
  split
  · exact .inr (.inr (.inl rfl))
  · exact ⟨by omega, by omega⟩
def divV (a b : Int) : Vl := if b = 0 then .s [110, 111, 117, 103, 104, 116] else .i (a.fdiv b)
theorem fdiv_abs (a b : Int) (ha : small a) : small (a.fdiv b) := by
  unfold small at *
  have h2 := Int.natAbs_fdiv_le_natAbs a b
  omega
theorem divV_ok (a b : Int) (ha : small a) : (divV a b).Ok2 := by
  unfold divV
  split
  · exact .inr (.inl rfl)
  · exact fdiv_abs a b ha
def arith (s : Tx) (a b : Int) : Vl :=
  if s = [43] then bigV (a + b) else if s = [45] then bigV (a - b) else if s = [42] then bigV (a * b) else if s = [47] then divV a b else if s = [60] then .i (if a < b then 1 else 0) else .i (if a = b then 1 else 0)
def putV (s : Tx) : Vl → Vl → Vl
  | .s t, _ => .s t
  | _, .s t => .s t
  | .i a, .i b => arith s a b
  | _, _ => .n
theorem arith_ok (s : Tx) (a b : Int) (ha : small a) : (arith s a b).Ok2 := by
  unfold arith
  repeat' split
  all_goals first | exact bigV_ok _ | exact divV_ok a b ha | (unfold Vl.Ok2 small; split <;> omega) | skip
  all_goals (show small _; unfold small; omega)
theorem putV_ok (s : Tx) (v w : Vl) (hv : v.Ok2) (hw : w.Ok2) : (putV s v w).Ok2 := by
  cases v with
  | n => exact hv.elim
  | s t => exact hv
  | i a => cases w with
    | n => exact hw.elim
    | s t => exact hw
    | i b => exact arith_ok s a b hv
def firstS : List Vl → Option Tx
  | [] => none
  | .s t :: _ => some t
  | _ :: r => firstS r
def nums : List Vl → List Int
  | [] => []
  | .i x :: r => x :: nums r
  | _ :: r => nums r
theorem nums_len : ∀ vs : List Vl, (nums vs).length ≤ vs.length
  | [] => by simp [nums]
  | v :: r => by have := nums_len r; cases v <;> simp [nums] <;> omega
theorem nums_small : ∀ {vs : List Vl}, (∀ v ∈ vs, v.Ok) → ∀ x ∈ nums vs, small x
  | [], _, x, h => by simp [nums] at h
  | v :: r, hv, x, h => by
    have ih := nums_small fun w hw => hv w (List.mem_cons_of_mem _ hw)
    cases v with
    | i y =>
      rcases List.mem_cons.mp h with rfl | h
      · exact hv (.i x) (by simp)
      · exact ih x h
    | _ => exact ih x h
theorem firstS_ok : ∀ {vs : List Vl} {t : Tx}, (∀ v ∈ vs, v.Ok) → firstS vs = some t → okT t
  | [], t, _, h => by simp [firstS] at h
  | v :: r, t, hv, h => by
    cases v with
    | s u => simp only [firstS, Option.some.injEq] at h; subst h; exact hv (.s u) (by simp)
    | _ => exact firstS_ok (fun w hw => hv w (List.mem_cons_of_mem _ hw)) h
def gatherV (w : Tx) (vs : List Vl) : Vl := match firstS vs with
  | some t => .s t
  | none => if w = [83, 85, 77] then bigV (nums vs).sum else if w = [67, 79, 85, 78, 84] then .i (nums vs).length else .i (maxI (nums vs))
theorem gatherV_ok (w : Tx) (vs : List Vl) (h : ∀ v ∈ vs, v.Ok) (hl : vs.length ≤ 1000000000) : (gatherV w vs).Ok2 := by
  unfold gatherV
  have := nums_len vs
  cases hf : firstS vs with
  | some t => exact firstS_ok h hf
  | none =>
    simp only
    split
    · exact bigV_ok _
    · split
      · exact ⟨by omega, by omega⟩
      · by_cases hn : nums vs = []
        · rw [hn]; exact ⟨by decide, by decide⟩
        · exact nums_small h _ (maxI_mem hn)
/-- // by sizes -/
theorem fdiv_sizes (a b : Int) (hb : b ≠ 0) : a.fdiv b = (if (decide (a < 0) != decide (b < 0)) && ((if a < 0 then -a else a) / (if b < 0 then -b else b) * (if b < 0 then -b else b) != (if a < 0 then -a else a)) then 0 - (if a < 0 then -a else a) / (if b < 0 then -b else b) - 1
    else (if a < 0 then -a else a) / (if b < 0 then -b else b) * (1 - 2 * (if (decide (a < 0) != decide (b < 0)) = true then 1 else 0))) := by
  have key : ∀ c d : Int, 0 < d → (c < 0 → c / d = if (-c) / d * d != -c then 0 - (-c) / d - 1 else -((-c) / d)) := fun c d hd hc => by
    have h1 := Int.mul_ediv_add_emod (-c) d
    have h2 := Int.emod_nonneg (-c) (show d ≠ 0 by omega)
    have h3 := Int.emod_lt_of_pos (-c) hd
    generalize (-c) / d = q at *
    generalize (-c) % d = r at *
    by_cases hr : r = 0
    · have : q * d = -c := by rw [Int.mul_comm]; omega
      rw [if_neg (by simp [this])]
      refine ((Int.ediv_emod_unique hd (r := 0)).mpr ⟨?_, by omega, by omega⟩).1
      rw [Int.mul_neg, Int.mul_comm d q]
      omega
    · have : q * d ≠ -c := by rw [Int.mul_comm]; omega
      rw [if_pos (by simp [this])]
      refine ((Int.ediv_emod_unique hd (r := d - r)).mpr ⟨?_, by omega, by omega⟩).1
      have e : d * (0 - q - 1) = -(d * q) - d := by rw [Int.mul_sub, Int.mul_sub, Int.mul_zero, Int.mul_one]; omega
      rw [e]
      omega
  by_cases hn : b < 0
  · have e : a.fdiv b = (-a) / (-b) := by
      rw [← Int.neg_fdiv_neg, Int.fdiv_eq_ediv_of_nonneg _ (by omega)]
    rw [e]
    by_cases ha : a < 0
    · simp [ha, hn]
    · by_cases h0 : a = 0
      · subst h0
        simp [hn]
      · have := key (-a) (-b) (by omega) (by omega)
        rw [this]
        simp only [Int.neg_neg]
        simp only [ha, hn, if_true, if_false, decide_true, decide_false, bne, Bool.false_beq, Bool.not_false, Bool.not_true, Bool.true_and, beq_self_eq_true]
        split <;> simp_all <;> omega
  · have e : a.fdiv b = a / b := Int.fdiv_eq_ediv_of_nonneg _ (by omega)
    rw [e]
    by_cases ha : a < 0
    · rw [key a b (by omega) ha]
      simp only [ha, hn, if_true, if_false, decide_true, decide_false, bne, Bool.true_and]
      split <;> simp_all <;> omega
    · simp [ha, hn]

end FL
end
section
set_option maxRecDepth 100000
set_option maxHeartbeats 4000000
namespace FL
open MP
/-- dicts of a kind of values -/
def tget {α : Type} (es : List (Pl × α)) (k : Pl) : Option α := (es.find? fun e => decide (e.1 = k)).map (·.2)
def tput {α : Type} (es : List (Pl × α)) (k : Pl) (d : α) : List (Pl × α) :=
  if (es.any fun e => decide (e.1 = k)) = true then es.map (fun e => if e.1 = k then (e.1, d) else e) else es ++ [(k, d)]
def encE {α : Type} (f : α → D) (es : List (Pl × α)) : List (Pl × D) := es.map fun e => (e.1, f e.2)
theorem dget_enc {α : Type} (f : α → D) (es : List (Pl × α)) (k : Pl) : dget (encE f es) k = (tget es k).map f := by
  unfold dget tget encE
  rw [List.find?_map, Option.map_map, show ((fun e : Pl × D => decide (e.1 = k)) ∘ fun e : Pl × α => (e.1, f e.2)) = fun e => decide (e.1 = k) from rfl]
  cases List.find? (fun e => decide (e.1 = k)) es with
  | none => rfl
  | some e => rfl
theorem dput_enc {α : Type} (f : α → D) (es : List (Pl × α)) (k : Pl) (d : α) : dput (encE f es) k (f d) = encE f (tput es k d) := by
  unfold dput tput encE
  rw [List.any_map]
  have e : ((fun e : Pl × D => decide (e.1 = k)) ∘ fun e : Pl × α => (e.1, f e.2)) = fun e => decide (e.1 = k) := rfl
  rw [e]
  split
  · rw [List.map_map, List.map_map]
    apply List.map_congr_left
    intro a _
    simp only [Function.comp]
    split <;> rfl
  · simp
@[simp] theorem enc_len {α : Type} (f : α → D) (es : List (Pl × α)) : (encE f es).length = es.length := by simp [encE]
theorem nrE_enc {α : Type} {f : α → D} (h : ∀ a, noRef (f a) = true) : ∀ (es : List (Pl × α)), noRefE (encE f es) = true
  | [] => rfl
  | e :: es => by
    have := nrE_enc h es
    simp only [encE] at this
    simp [encE, h, this]
@[simp] theorem enc_nil {α : Type} (f : α → D) : encE f ([] : List (Pl × α)) = [] := (rfl)
theorem tput_len {α : Type} (es : List (Pl × α)) (k : Pl) (d : α) : (tput es k d).length ≤ es.length + 1 := by
  unfold tput; split <;> simp
theorem tput_mem {α : Type} {es : List (Pl × α)} {k : Pl} {d : α} {e : Pl × α} (h : e ∈ tput es k d) : e ∈ es ∨ e = (k, d) := by
  unfold tput at h
  split at h
  · obtain ⟨a, ha, rfl⟩ := List.mem_map.mp h
    split
    · rename_i q; exact .inr (by rw [q])
    · exact .inl ha
  · rcases List.mem_append.mp h with h | h
    · exact .inl h
    · exact .inr (List.mem_singleton.mp h)
theorem tget_mem {α : Type} {es : List (Pl × α)} {k : Pl} {d : α} (h : tget es k = some d) : (k, d) ∈ es := by
  unfold tget at h
  obtain ⟨e, h1, h2⟩ := Option.map_eq_some_iff.mp h
  have := List.find?_some h1
  have h3 := List.mem_of_find?_eq_some h1
  simp only [decide_eq_true_eq] at this
  subst h2
  rw [← this]
  exact h3
/-! ### stores into cells -/
def setC (o : Option Cell) (n : Nat) (i v : D) (ds : DS) (st : Store) : RS := match o with
  | some (.lst xs) => match i with
    | .int j => match L2.ixN xs.length j with
      | some m => .nx ds (st.set n (.lst (xs.set m v)))
      | none => .no
    | _ => .no
  | some (.dct es) => match plOf i with
    | some k => if es.length < lim then .nx ds (st.set n (.dct (dput es k v))) else .no
    | none => .no
  | _ => .no
@[simp] theorem setR_ref (n : Nat) (i v : D) (ds : DS) (st : Store) : setR (.ref n) i v ds st = setC st[n]? n i v ds st := by
  cases h : st[n]? with
  | none => simp only [setR, setixF, h] <;> rfl
  | some c => cases c with
    | lst xs =>
      simp only [setR, setixF, h, setC]
      cases i <;> simp only
      rename_i j
      cases L2.ixN xs.length j <;> rfl
    | dct es =>
      simp only [setR, setixF, h, setC]
      cases plOf i with
      | none => rfl
      | some k => by_cases hl : es.length < lim <;> simp only [hl, if_true, if_false]
    | lckL xs => simp only [setR, setixF, h, setC]
    | lckD xs => simp only [setR, setixF, h, setC]
@[simp] theorem setC_d (n : Nat) (es : List (Pl × D)) (p : Pl) (v : D) (ds : DS) (st : Store) (h : es.length < lim) : setC (some (.dct es)) n (plD p) v ds st = .nx ds (st.set n (.dct (dput es p v))) := by simp only [setC, plOf_pl, h, if_true]
@[simp] theorem setC_d2 (n : Nat) (es : List (Pl × D)) (a b : Int) (v : D) (ds : DS) (st : Store) (h : es.length < lim) : setC (some (.dct es)) n (.tup [.int a, .int b]) v ds st = .nx ds (st.set n (.dct (dput es (a, b) v))) := by simp only [setC, plOf_tup, h, if_true]
@[simp] theorem mkD_t (es : List (Pl × D)) (st : Store) : mkD true es st = .ok (.ref st.length) (st ++ [.dct es]) := (rfl)
@[simp] theorem mkD_f (es : List (Pl × D)) (st : Store) : mkD false es st = .ok (.dct es) st := (rfl)
theorem ixN_at {n : Nat} {j : Int} (h0 : 0 ≤ j) (h1 : j < n) : L2.ixN n j = some j.toNat := by
  unfold L2.ixN
  rw [if_pos h0, if_pos h1]
theorem setC_l (n : Nat) (xs : List D) (j : Int) (v : D) (ds : DS) (st : Store) (h0 : 0 ≤ j) (h1 : j < xs.length) : setC (some (.lst xs)) n (.int j) v ds st = .nx ds (st.set n (.lst (xs.set j.toNat v))) := by
  simp only [setC, ixN_at h0 h1]
def keyN {α : Type} (es : List (Pl × α)) : Prop := (es.map (·.1)).Nodup
theorem tget_none {α : Type} {es : List (Pl × α)} {k : Pl} (h : k ∉ es.map (·.1)) : tget es k = none := by
  unfold tget
  rw [Option.map_eq_none_iff, List.find?_eq_none]
  intro e he
  simp only [decide_eq_true_eq]
  intro e2
  exact h (List.mem_map.mpr ⟨e, he, e2⟩)
theorem tget_some {α : Type} {es : List (Pl × α)} {k : Pl} (h : k ∈ es.map (·.1)) : ∃ v, tget es k = some v := by
  obtain ⟨e, he, e2⟩ := List.mem_map.mp h
  cases hg : es.find? (fun e => decide (e.1 = k)) with
  | none => have := List.find?_eq_none.mp hg e he; simp [e2] at this
  | some f => exact ⟨f.2, by unfold tget; rw [hg]; rfl⟩
theorem tget_nil {α : Type} (k : Pl) : tget ([] : List (Pl × α)) k = none := rfl
theorem tget_cons {α : Type} (e : Pl × α) (es : List (Pl × α)) (k : Pl) : tget (e :: es) k = if e.1 = k then some e.2 else tget es k := by
  unfold tget
  rw [List.find?_cons]
  by_cases h : e.1 = k <;> simp [h]
theorem tget_of_mem {α : Type} : ∀ {es : List (Pl × α)} {e : Pl × α}, keyN es → e ∈ es → tget es e.1 = some e.2
  | x :: es, e, h, he => by
    unfold keyN at h
    rw [List.map_cons, List.nodup_cons] at h
    rw [tget_cons]
    rcases List.mem_cons.mp he with rfl | he
    · simp
    · rw [if_neg (fun e2 => h.1 (by rw [e2]; exact List.mem_map.mpr ⟨e, he, rfl⟩))]
      exact tget_of_mem h.2 he
theorem any_key {α : Type} (es : List (Pl × α)) (k : Pl) : (es.any fun e => decide (e.1 = k)) = decide (k ∈ es.map (·.1)) := by
  induction es with
  | nil => simp
  | cons e es ih =>
    rw [List.any_cons, ih, List.map_cons]
    by_cases h : e.1 = k
    · simp [h]
    · have : ¬ k = e.1 := fun h2 => h h2.symm
      simp [h, this]
theorem tput_keys {α : Type} (es : List (Pl × α)) (k : Pl) (d : α) : (tput es k d).map (·.1) = if k ∈ es.map (·.1) then es.map (·.1) else es.map (·.1) ++ [k] := by
  unfold tput
  rw [any_key]
  by_cases h : k ∈ es.map (·.1)
  · rw [if_pos (by simpa using h), if_pos h, List.map_map]
    apply List.map_congr_left
    intro e _
    simp only [Function.comp]
    split <;> rfl
  · rw [if_neg (by simpa using h), if_neg h]; simp
theorem tput_keyN {α : Type} {es : List (Pl × α)} (h : keyN es) (k : Pl) (d : α) : keyN (tput es k d) := by
  unfold keyN at *
  rw [tput_keys]
  split
  · exact h
  · rename_i h2
    rw [List.nodup_append]
    exact ⟨h, by simp, by intro a ha b hb; simp at hb; subst hb; intro e; exact h2 (by rw [← e]; exact ha)⟩
theorem tput_key_mem {α : Type} {es : List (Pl × α)} {k : Pl} {d : α} {q : Pl} : q ∈ (tput es k d).map (·.1) ↔ q ∈ es.map (·.1) ∨ q = k := by
  rw [tput_keys]
  split
  · rename_i h
    constructor
    · exact .inl
    · rintro (h2 | rfl)
      · exact h2
      · exact h
  · simp
theorem tget_put {α : Type} (es : List (Pl × α)) (k : Pl) (d : α) (q : Pl) : tget (tput es k d) q = if q = k then some d else tget es q := by
  unfold tput
  rw [any_key]
  by_cases h : k ∈ es.map (·.1)
  · rw [if_pos (by simpa using h)]
    induction es with
    | nil => simp at h
    | cons e es ih =>
      rw [List.map_cons, tget_cons, tget_cons]
      by_cases hek : e.1 = k
      · simp only [hek, if_true]
        by_cases hq : q = k
        · simp [hq]
        · have h1 : ¬ k = q := fun h2 => hq h2.symm
          rw [if_neg h1, if_neg hq, if_neg h1]
          by_cases hm : k ∈ es.map (·.1)
          · rw [ih hm, if_neg hq]
          · congr 1
            conv => rhs; rw [← List.map_id es]
            apply List.map_congr_left
            intro a ha
            rw [if_neg (fun h2 => hm (List.mem_map.mpr ⟨a, ha, h2⟩))]
            rfl
      · rw [if_neg hek]
        have hm : k ∈ es.map (·.1) := by
          rcases List.mem_cons.mp (by simpa using h : k ∈ (e :: es).map (·.1)) with h2 | h2
          · exact absurd h2.symm hek
          · exact h2
        rw [ih hm]
        by_cases heq : e.1 = q
        · have : q ≠ k := fun h2 => hek (by rw [heq, h2])
          simp [heq, this]
        · rw [if_neg heq, if_neg heq]
  · rw [if_neg (by simpa using h)]
    induction es with
    | nil => simp [tget_cons, tget_nil, eq_comm]
    | cons e es ih =>
      rw [List.cons_append, tget_cons, tget_cons]
      have hm : k ∉ es.map (·.1) := fun h2 => h (by rw [List.map_cons]; exact List.mem_cons_of_mem _ h2)
      rw [ih hm]
      by_cases heq : e.1 = q
      · have : q ≠ k := fun h2 => h (by rw [List.map_cons, heq, h2]; simp)
        simp [heq, this]
      · rw [if_neg heq, if_neg heq]
theorem eqE_self {α : Type} {f : α → D} {es : List (Pl × α)} (h : keyN es) (hc : ∀ a, cmpD (f a) = true) (hd : ∀ a, dep (f a) ≤ 60) (hq : ∀ a, eqD (f a) (f a) = true) : eqE (encE f es) (encE f es) = true := by
  unfold eqE
  simp only [Bool.and_eq_true, decide_eq_true_eq, true_and, List.all_eq_true]
  intro x hx
  obtain ⟨e, he, rfl⟩ := List.mem_map.mp hx
  rw [dget_enc, tget_of_mem h he]
  simp [hc, hd, hq]
theorem p_dict_enc {α : Type} (m : Bool) (f : α → D) (es : List (Pl × α)) (st : Store) (h : ∀ e ∈ es, smallK e.1 = true) (hl : es.length ≤ lim) : prim1F (.dict m) (.dct (encE f es)) st = mkD m (encE f es) st := by
  have h1 : ((encE f es).all fun e => smallK e.1) = true := by
    rw [List.all_eq_true]
    intro x hx
    obtain ⟨e, he, rfl⟩ := List.mem_map.mp hx
    exact h e he
  simp only [prim1F, dctOf]
  rw [if_pos (by simp [h1, hl])]
theorem eqv_dctC {α : Type} {f : α → D} {st : Store} {n : Nat} {es : List (Pl × α)} (hs : st[n]? = some (.dct (encE f es))) (h : keyN es) (hnr : ∀ a, noRef (f a) = true) (hc : ∀ a, cmpD (f a) = true) (hd : ∀ a, dep (f a) ≤ 60) (hq : ∀ a, eqD (f a) (f a) = true) :
    eqVal st (.ref n) (.dct (encE f es)) = some true := by
  have h1 : rsv st (.ref n) = some (.dct (encE f es)) := rsv_cellD hs (nrE_enc hnr es)
  unfold eqVal
  rw [if_neg (by simp [scalar]), h1, rsv_nr (show noRef (.dct (encE f es)) = true by simp [noRef, nrE_enc hnr es])]
  simp only [cmpD, Bool.false_and, if_false, eqX, eqE_self h hc hd hq, if_true]
  rfl
theorem tput_len_mem {α : Type} {es : List (Pl × α)} {k : Pl} (h : k ∈ es.map (·.1)) (d : α) : (tput es k d).length = es.length := by
  have := congrArg List.length (tput_keys es k d)
  rw [if_pos h, List.length_map, List.length_map] at this
  exact this
theorem evB_append (cl : Cl) (b : List S) : ∀ (a : List S) (ds : DS) (st : Store), evB cl (a ++ b) ds st = (evB cl a ds st).seq (evB cl b)
  | [], ds, st => by rw [List.nil_append, evB_nil, seq_nx]
  | s :: a, ds, st => by
    rw [List.cons_append, evB_cons, evB_cons]
    cases evS cl s ds st with
    | nx ds' st' => rw [seq_nx, seq_nx]; exact evB_append cl b a ds' st'
    | _ => rfl

end FL
end
section
set_option maxRecDepth 100000
set_option maxHeartbeats 4000000
namespace FL
open MP
def lookV (es : List (Pl × Vl)) (p : Pl) : Vl := (tget es p).getD .n
theorem look_get (es : List (Pl × Vl)) (p : Pl) : (dget (encE vlD es) p).getD .non = vlD (lookV es p) := by
  rw [dget_enc]
  unfold lookV
  cases tget es p <;> rfl
def okE (es : List (Pl × Vl)) : Prop := ∀ e ∈ es, e.2.Ok
theorem lookV_ok {es : List (Pl × Vl)} (h : okE es) (p : Pl) : (lookV es p).Ok := by
  unfold lookV
  cases hg : tget es p with
  | none => trivial
  | some v => exact h _ (tget_mem hg)
@[simp] theorem nrE_look (es : List (Pl × Vl)) : noRefE (encE vlD es) = true := nrE_enc (by simp) es

end FL
end
section
set_option maxRecDepth 100000
set_option maxHeartbeats 4000000
namespace FL
open MP
def betw (p q : Pl) : List Pl := (rangeI p.1 (q.1 + 1)).flatMap fun r => (rangeI p.2 (q.2 + 1)).map fun c => (r, c)
theorem mem_betw {p q x : Pl} : x ∈ betw p q ↔ (p.1 ≤ x.1 ∧ x.1 ≤ q.1) ∧ p.2 ≤ x.2 ∧ x.2 ≤ q.2 := by
  unfold betw
  simp only [List.mem_flatMap, List.mem_map, mem_rangeI]
  constructor
  · rintro ⟨r, ⟨h1, h2⟩, c, ⟨h3, h4⟩, rfl⟩
    exact ⟨⟨h1, by simp only; omega⟩, h3, by simp only; omega⟩
  · rintro ⟨⟨h1, h2⟩, h3, h4⟩
    exact ⟨x.1, ⟨h1, by omega⟩, x.2, ⟨h3, by omega⟩, rfl⟩
theorem flatMap_len {α β : Type} (f : α → List β) (k : Nat) : ∀ (xs : List α), (∀ x ∈ xs, (f x).length = k) → (xs.flatMap f).length = xs.length * k
  | [], _ => by simp
  | x :: xs, h => by
    rw [List.flatMap_cons, List.length_append, h x (by simp), flatMap_len f k xs fun y hy => h y (by simp [hy]), List.length_cons, Nat.add_mul]
    omega
theorem betw_len (p q : Pl) : (betw p q).length = (q.1 + 1 - p.1).toNat * (q.2 + 1 - p.2).toNat := by
  unfold betw
  rw [flatMap_len _ (q.2 + 1 - p.2).toNat _ (fun r _ => by rw [List.length_map, rangeI_length]), rangeI_length]
theorem betw_in {R C : Int} {p q x : Pl} (hp : inP R C p) (hq : inP R C q) (h : x ∈ betw p q) : inP R C x := by
  rw [mem_betw] at h
  obtain ⟨a1, a2, a3, a4⟩ := hp
  obtain ⟨b1, b2, b3, b4⟩ := hq
  exact ⟨by omega, by omega, by omega, by omega⟩
theorem betw_small {p q : Pl} (hp : inP 99 26 p) (hq : inP 99 26 q) : (betw p q).length ≤ 2574 := by
  rw [betw_len]
  obtain ⟨a1, a2, a3, a4⟩ := hp
  obtain ⟨b1, b2, b3, b4⟩ := hq
  have h1 : (q.1 + 1 - p.1).toNat ≤ 99 := by omega
  have h2 : (q.2 + 1 - p.2).toNat ≤ 26 := by omega
  exact Nat.mul_le_mul h1 h2
theorem inP.mono {R C R' C' : Int} {p : Pl} (h : inP R C p) (h1 : R ≤ R') (h2 : C ≤ C') : inP R' C' p := by
  obtain ⟨a1, a2, a3, a4⟩ := h
  exact ⟨a1, by omega, a3, by omega⟩
theorem foldl_app {α β : Type} (f : α → β) : ∀ (xs : List α) (g : List β), xs.foldl (fun g x => g ++ [f x]) g = g ++ xs.map f
  | [], g => by simp
  | x :: xs, g => by rw [List.foldl_cons, foldl_app f xs]; simp
theorem foldl_apps {α β : Type} (f : α → List β) : ∀ (xs : List α) (g : List β), xs.foldl (fun g x => g ++ f x) g = g ++ xs.flatMap f
  | [], g => by simp
  | x :: xs, g => by rw [List.foldl_cons, foldl_apps f xs]; simp
def okB (p q : Pl) : Prop := -1000000000000 ≤ p.1 ∧ p.1 ≤ 1000000000000 ∧ -1000000000000 ≤ p.2 ∧ p.2 ≤ 1000000000000 ∧ -1000000000000 ≤ q.1 ∧ q.1 ≤ 1000000000000 ∧ -1000000000000 ≤ q.2 ∧ q.2 ≤ 1000000000000 ∧ (q.1 + 1 - p.1).toNat * (q.2 + 1 - p.2).toNat ≤ 1000000
theorem okB_in {p q : Pl} (hp : inP 99 26 p) (hq : inP 99 26 q) : okB p q := by
  have h := betw_small hp hq
  rw [betw_len] at h
  obtain ⟨a1, a2, a3, a4⟩ := hp
  obtain ⟨b1, b2, b3, b4⟩ := hq
  exact ⟨by omega, by omega, by omega, by omega, by omega, by omega, by omega, by omega, by omega⟩

end FL
end
section
set_option maxRecDepth 100000
set_option maxHeartbeats 4000000
namespace FL
open MP
def pickV (a b c : Vl) : Vl := match a with
  | .s t => .s t
  | v => if v = .i 0 then c else b
def zeroN (v : Vl) : Vl := match v with
  | .n => .i 0
  | v => v
def seenV (L : Pl → Vl) (t : Tr) (v : Vl) : List Vl := match t with
  | .area p _ q _ => (betw p q).map L
  | .ref p _ => [L p]
  | _ => [v]
mutual
/-- what a tree comes to -/
def Tr.val (L : Pl → Vl) : Tr → Vl
  | .num n => .i n
  | .ref p _ => zeroN (L p)
  | .gone => .s [103, 111, 110, 101]
  | .minus a => putV [45] (.i 0) (a.val L)
  | .two s a b => putV s (a.val L) (b.val L)
  | .pick a b c => pickV (a.val L) (b.val L) (c.val L)
  | .over w ps => gatherV w (Tr.vals L ps)
  | .area _ _ _ _ => .n
def Tr.vals (L : Pl → Vl) : List Tr → List Vl
  | [] => []
  | t :: ts => seenV L t (t.val L) ++ Tr.vals L ts
end
theorem vals_mem {L : Pl → Vl} : ∀ {ts : List Tr} {v : Vl}, v ∈ Tr.vals L ts → ∃ t ∈ ts, v ∈ seenV L t (t.val L)
  | t :: ts, v, h => by
    rw [Tr.vals, List.mem_append] at h
    rcases h with h | h
    · exact ⟨t, by simp, h⟩
    · obtain ⟨u, hu, h⟩ := vals_mem h
      exact ⟨u, by simp [hu], h⟩
theorem seen_len {L : Pl → Vl} {R C : Int} (hR : R ≤ 99) (hC : C ≤ 26) {t : Tr} (v : Vl) (h : okA R C t ∨ t.Ok R C) : (seenV L t v).length ≤ 2574 := by
  rcases h with h | h
  · cases t with
    | area p f q g =>
      obtain ⟨h1, h2, _⟩ := h
      simp only [seenV, List.length_map]
      exact betw_small (h1.mono hR hC) (h2.mono hR hC)
    | _ => exact h.elim
  · cases t with
    | area p f q g => exact h.elim
    | _ => simp [seenV]
theorem vals_len {L : Pl → Vl} {R C : Int} (hR : R ≤ 99) (hC : C ≤ 26) : ∀ (ts : List Tr), (∀ t ∈ ts, okA R C t ∨ t.Ok R C) → (Tr.vals L ts).length ≤ ts.length * 2574
  | [], _ => by simp [Tr.vals]
  | t :: ts, h => by
    have h1 := vals_len (L := L) hR hC ts fun u hu => h u (by simp [hu])
    have h2 := seen_len (L := L) hR hC (t.val L) (h t (by simp))
    rw [Tr.vals, List.length_append, List.length_cons, Nat.add_mul]
    omega
theorem pickV_ok {a b c : Vl} (ha : a.Ok2) (hb : b.Ok2) (hc : c.Ok2) : (pickV a b c).Ok2 := by
  cases a with
  | n => exact ha.elim
  | s t => exact ha
  | i x => simp only [pickV]; split <;> assumption
theorem zeroN_ok {v : Vl} (h : v.Ok) : (zeroN v).Ok2 := by
  cases v with
  | n => exact ⟨by decide, by decide⟩
  | _ => exact h
theorem val_ok {L : Pl → Vl} {R C : Int} (hR : R ≤ 99) (hC : C ≤ 26) (hL : ∀ p, (L p).Ok) : ∀ t : Tr, t.Ok R C → (t.val L).Ok2 := Tr.ind fun t ih => fun h => by
  cases t with
  | num n => obtain ⟨h1, h2⟩ := h; exact ⟨by omega, by omega⟩
  | ref p f => exact zeroN_ok (hL p)
  | gone => exact .inl rfl
  | minus a => exact putV_ok _ _ _ ⟨by decide, by decide⟩ (ih a (by simp) h)
  | two s a b => exact putV_ok _ _ _ (ih a (by simp) h.2.1) (ih b (by simp) h.2.2)
  | pick a b c => exact pickV_ok (ih a (by simp) h.1) (ih b (by simp) h.2.1) (ih c (by simp) h.2.2)
  | over w ps =>
    rw [ok_over] at h
    have hl := vals_len (L := L) hR hC ps h.2
    refine gatherV_ok w _ (fun v hv => ?_) (by
      have : ps.length * 2574 ≤ 8 * 2574 := Nat.mul_le_mul_right _ h.1.2.2
      omega)
    obtain ⟨u, hu, hv⟩ := vals_mem hv
    have h1 := h.2 u hu
    cases u with
    | area p f q g => simp only [seenV, List.mem_map] at hv; obtain ⟨x, _, rfl⟩ := hv; exact hL x
    | ref p f => simp only [seenV, List.mem_singleton] at hv; rw [hv]; exact hL p
    | _ =>
      simp only [seenV, List.mem_singleton] at hv
      rw [hv]
      rcases h1 with h1 | h1
      · exact h1.elim
      · exact (ih _ (by simpa using hu) h1).ok
  | area p f q g => exact h.elim

end FL
end
section
set_option maxRecDepth 100000
set_option maxHeartbeats 4000000
namespace FL
open MP
def dstep (acc : List Pl) (p : Pl) : List Pl := if acc.getLast? = some p then acc else acc ++ [p]
def ded (acc ps : List Pl) : List Pl := ps.foldl dstep acc
def inOrd (ps : List Pl) : List Pl := ded [] (sortP ps)
def lexLt (p q : Pl) : Prop := p.1 < q.1 ∨ (p.1 = q.1 ∧ p.2 < q.2)
theorem ded_cons (acc : List Pl) (p : Pl) (ps : List Pl) : ded acc (p :: ps) = ded (dstep acc p) ps := rfl
theorem ded_mem : ∀ (ps acc : List Pl) (x : Pl), x ∈ ded acc ps ↔ x ∈ acc ∨ x ∈ ps
  | [], acc, x => by simp [ded]
  | p :: ps, acc, x => by
    rw [ded_cons, ded_mem ps]
    unfold dstep
    split
    · rename_i hp
      have := List.mem_of_getLast? hp
      constructor
      · rintro (h | h)
        · exact .inl h
        · exact .inr (List.mem_cons_of_mem _ h)
      · rintro (h | h)
        · exact .inl h
        · rcases List.mem_cons.mp h with rfl | h
          · exact .inl this
          · exact .inr h
    · simp [or_assoc]
theorem ded_sorted : ∀ (ps acc : List Pl), acc.Pairwise lexLt → ps.Pairwise (fun a b => plLe a b = true) → (∀ a ∈ acc, ∀ p ∈ ps, plLe a p = true) → (ded acc ps).Pairwise lexLt
  | [], acc, h1, _, _ => h1
  | p :: ps, acc, h1, h2, h3 => by
    rw [ded_cons]
    have h2' := List.pairwise_cons.mp h2
    unfold dstep
    split
    · exact ded_sorted ps acc h1 h2'.2 fun a ha q hq => h3 a ha q (List.mem_cons_of_mem _ hq)
    · rename_i hp
      refine ded_sorted ps (acc ++ [p]) ?_ h2'.2 fun a ha q hq => ?_
      · rw [List.pairwise_append]
        refine ⟨h1, List.pairwise_singleton _ _, fun a ha b hb => ?_⟩
        rw [List.mem_singleton.mp hb]
        have hle := h3 a ha p List.mem_cons_self
        rcases List.eq_nil_or_concat acc with rfl | ⟨l, q, rfl⟩
        · simp at ha
        · rw [List.concat_eq_append] at *
          have hqp : q ≠ p := fun e => hp (by simp [e])
          have hle2 := h3 q (by simp) p List.mem_cons_self
          unfold plLe at hle hle2
          simp only [Bool.or_eq_true, Bool.and_eq_true, decide_eq_true_eq] at hle hle2
          have hqlt : lexLt q p := by
            unfold lexLt
            rcases hle2 with h | ⟨e1, e2⟩
            · exact .inl h
            · refine .inr ⟨e1, ?_⟩
              have : q.2 ≠ p.2 := fun e => hqp (Prod.ext e1 e)
              omega
          rcases List.mem_append.mp ha with ha | ha
          · have hal := (List.pairwise_append.mp h1).2.2 a ha q (List.mem_singleton.mpr rfl)
            unfold lexLt at *
            omega
          · rw [List.mem_singleton.mp ha]
            exact hqlt
      · rcases List.mem_append.mp ha with ha | ha
        · exact h3 a ha q (List.mem_cons_of_mem _ hq)
        · rw [List.mem_singleton.mp ha]
          exact h2'.1 q hq
theorem dstep_len (acc : List Pl) (p : Pl) : (dstep acc p).length ≤ acc.length + 1 := by unfold dstep; split <;> simp
theorem ded_len : ∀ (ps acc : List Pl), (ded acc ps).length ≤ acc.length + ps.length
  | [], acc => by simp [ded]
  | p :: ps, acc => by
    have h1 := ded_len ps (dstep acc p)
    have h2 := dstep_len acc p
    rw [ded_cons, List.length_cons]
    omega
theorem mem_inOrd {ps : List Pl} {x : Pl} : x ∈ inOrd ps ↔ x ∈ ps := by rw [inOrd, ded_mem, (sortP_perm ps).mem_iff]; simp
theorem inOrd_sorted (ps : List Pl) : (inOrd ps).Pairwise lexLt := ded_sorted _ _ List.Pairwise.nil (sortP_sorted ps) (fun a ha => by simp at ha)
theorem lex_irrefl (p : Pl) : ¬ lexLt p p := by unfold lexLt; omega
theorem lex_trans {p q r : Pl} (h : lexLt p q) (h2 : lexLt q r) : lexLt p r := by unfold lexLt at *; omega
/-- lists in order of the same places -/
theorem lex_ext : ∀ {xs ys : List Pl}, xs.Pairwise lexLt → ys.Pairwise lexLt → (∀ x, x ∈ xs ↔ x ∈ ys) → xs = ys
  | [], [], _, _, _ => rfl
  | [], y :: ys, _, _, h => by have := (h y).mpr (by simp); simp at this
  | x :: xs, [], _, _, h => by have := (h x).mp (by simp); simp at this
  | x :: xs, y :: ys, h1, h2, h => by
    have a := List.pairwise_cons.mp h1
    have b := List.pairwise_cons.mp h2
    have e : x = y := by
      rcases List.mem_cons.mp ((h x).mp (by simp)) with e | m
      · exact e
      · rcases List.mem_cons.mp ((h y).mpr (by simp)) with e | m2
        · exact e.symm
        · exact absurd (lex_trans (a.1 y m2) (b.1 x m)) (lex_irrefl x)
    subst e
    rw [lex_ext a.2 b.2 fun z => by
      constructor
      · intro m
        rcases List.mem_cons.mp ((h z).mp (List.mem_cons_of_mem _ m)) with e | m2
        · subst e; exact absurd (a.1 z m) (lex_irrefl z)
        · exact m2
      · intro m
        rcases List.mem_cons.mp ((h z).mpr (List.mem_cons_of_mem _ m)) with e | m2
        · subst e; exact absurd (b.1 z m) (lex_irrefl z)
        · exact m2]
theorem lex_nodup {xs : List Pl} (h : xs.Pairwise lexLt) : xs.Nodup := h.imp fun {a b} hab e => by subst e; exact lex_irrefl a hab
theorem betw_sorted (p q : Pl) : (betw p q).Pairwise lexLt := by
  unfold betw
  rw [List.flatMap_def, List.pairwise_flatten]
  refine ⟨fun l hl => ?_, ?_⟩
  · obtain ⟨r, _, rfl⟩ := List.mem_map.mp hl
    rw [List.pairwise_map]
    exact (rangeI_pairwise _ _).imp fun {a b} hab => .inr ⟨rfl, hab⟩
  · rw [List.pairwise_map]
    refine (rangeI_pairwise _ _).imp fun {a b} hab => ?_
    intro x hx y hy
    obtain ⟨_, _, rfl⟩ := List.mem_map.mp hx
    obtain ⟨_, _, rfl⟩ := List.mem_map.mp hy
    exact .inl hab
theorem rise_len : ∀ (xs : List Int) (a b : Int), xs.Pairwise (· < ·) → (∀ x ∈ xs, a ≤ x ∧ x < b) → xs.length ≤ (b - a).toNat
  | [], _, _, _, _ => by simp
  | x :: xs, a, b, h, hx => by
    have h1 := List.pairwise_cons.mp h
    have h2 := hx x (by simp)
    have := rise_len xs (x + 1) b h1.2 fun y hy => ⟨by have := h1.1 y hy; omega, (hx y (by simp [hy])).2⟩
    rw [List.length_cons]
    omega
theorem lex_len {xs : List Pl} (h : xs.Pairwise lexLt) (hx : ∀ x ∈ xs, inP 99 26 x) : xs.length ≤ 2574 := by
  have h1 : (xs.map fun p => p.1 * 26 + p.2).Pairwise (· < ·) := by
    rw [List.pairwise_map]
    refine (List.Pairwise.and_mem.mp h).imp fun {a b} hab => ?_
    obtain ⟨ha, hb, hab⟩ := hab
    obtain ⟨a1, a2, a3, a4⟩ := hx a ha
    obtain ⟨b1, b2, b3, b4⟩ := hx b hb
    unfold lexLt at hab
    omega
  have := rise_len _ 0 2574 h1 fun y hy => by
    obtain ⟨p, hp, rfl⟩ := List.mem_map.mp hy
    obtain ⟨a1, a2, a3, a4⟩ := hx p hp
    omega
  simpa using this

end FL
end
section
set_option maxRecDepth 100000
set_option maxHeartbeats 4000000
namespace FL
open MP
def atNumber (p : Pl) (ax n : Int) : Pl := if ax = 0 then (n, p.2) else (p.1, n)
def plAt (p : Pl) (ax : Int) : Int := if ax = 0 then p.1 else p.2
def comePl (p : Pl) (ax at_ many : Int) : Pl := if plAt p ax < at_ then p else atNumber p ax (plAt p ax + many)
theorem ix_ax (p : Pl) (ax : Int) (hax : ax = 0 ∨ ax = 1) (st : Store) : prim2F .ix (plD p) (.int ax) st = .ok (.int (plAt p ax)) st := by
  rcases hax with rfl | rfl <;> rfl
mutual
def Tr.mapP (f : Pl → Pl) : Tr → Tr
  | .num n => .num n
  | .ref p b => .ref (f p) b
  | .gone => .gone
  | .minus a => .minus (a.mapP f)
  | .two s a b => .two s (a.mapP f) (b.mapP f)
  | .pick a b c => .pick (a.mapP f) (b.mapP f) (c.mapP f)
  | .over w ps => .over w (Tr.mapPs f ps)
  | .area p b q c => .area (f p) b (f q) c
def Tr.mapPs (f : Pl → Pl) : List Tr → List Tr
  | [] => []
  | t :: ts => t.mapP f :: Tr.mapPs f ts
end
@[simp] theorem mapPs_map (f : Pl → Pl) : ∀ (ts : List Tr), Tr.mapPs f ts = ts.map (Tr.mapP f)
  | [] => rfl
  | t :: ts => by rw [Tr.mapPs, mapPs_map f ts]; rfl
@[simp] theorem mapP_num (f : Pl → Pl) (n : Int) : (Tr.num n).mapP f = .num n := by rw [Tr.mapP]
@[simp] theorem mapP_ref (f : Pl → Pl) (p : Pl) (b : Bool × Bool) : (Tr.ref p b).mapP f = .ref (f p) b := by rw [Tr.mapP]
@[simp] theorem mapP_gone (f : Pl → Pl) : Tr.gone.mapP f = .gone := by rw [Tr.mapP]
@[simp] theorem mapP_minus (f : Pl → Pl) (a : Tr) : (Tr.minus a).mapP f = .minus (a.mapP f) := by rw [Tr.mapP]
@[simp] theorem mapP_two (f : Pl → Pl) (s : Tx) (a b : Tr) : (Tr.two s a b).mapP f = .two s (a.mapP f) (b.mapP f) := by rw [Tr.mapP]
@[simp] theorem mapP_pick (f : Pl → Pl) (a b c : Tr) : (Tr.pick a b c).mapP f = .pick (a.mapP f) (b.mapP f) (c.mapP f) := by rw [Tr.mapP]
@[simp] theorem mapP_over (f : Pl → Pl) (w : Tx) (ps : List Tr) : (Tr.over w ps).mapP f = .over w (ps.map (Tr.mapP f)) := by rw [Tr.mapP, mapPs_map]
@[simp] theorem mapP_area (f : Pl → Pl) (p q : Pl) (b c : Bool × Bool) : (Tr.area p b q c).mapP f = .area (f p) b (f q) c := by rw [Tr.mapP]
theorem kids_mapP (f : Pl → Pl) (t : Tr) : (t.mapP f).kids = t.kids.map (Tr.mapP f) := by cases t <;> simp
theorem sm_mapP (f : Pl → Pl) : ∀ (d : Nat) (t : Tr), Sm d t → Sm d (t.mapP f)
  | 0, _, h => h
  | d + 1, t, h => by
    refine ⟨by rw [kids_mapP]; simpa using h.1, fun k hk => ?_⟩
    rw [kids_mapP] at hk
    obtain ⟨j, hj, rfl⟩ := List.mem_map.mp hk
    exact sm_mapP f d j (h.2 j hj)
theorem dep_mapP (f : Pl → Pl) : ∀ t : Tr, (t.mapP f).dep = t.dep := Tr.ind fun t ih => by
  rw [dep_eq, dep_eq t, kids_mapP]
  congr 1
  generalize t.kids = ks at *
  induction ks with
  | nil => rfl
  | cons k ks ih2 => simp only [List.map_cons, Tr.deps]; rw [ih k (by simp), ih2 fun j hj => ih j (by simp [hj])]
theorem nodess_congr (g : Tr → Tr) : ∀ (ks : List Tr), (∀ k ∈ ks, (g k).nodes = k.nodes) → Tr.nodess (ks.map g) = Tr.nodess ks
  | [], _ => rfl
  | k :: ks, h => by simp only [List.map_cons, Tr.nodess]; rw [h k (by simp), nodess_congr g ks fun j hj => h j (by simp [hj])]
theorem nodes_mapP (f : Pl → Pl) : ∀ t : Tr, (t.mapP f).nodes = t.nodes := Tr.ind fun t ih => by
  rw [nodes_eq, nodes_eq t, kids_mapP, nodess_congr _ _ ih]
def Tr.withKids : Tr → List Tr → Tr
  | .minus _, a :: _ => .minus a
  | .two s _ _, a :: b :: _ => .two s a b
  | .pick _ _ _, a :: b :: c :: _ => .pick a b c
  | .over w _, ps => .over w ps
  | t, _ => t
def Tr.inner : Tr → Bool
  | .minus _ => true
  | .two _ _ _ => true
  | .pick _ _ _ => true
  | .over _ _ => true
  | _ => false
theorem mapP_with (f : Pl → Pl) (t : Tr) (h : t.inner = true) : t.withKids (t.kids.map (Tr.mapP f)) = t.mapP f := by
  cases t <;> simp [Tr.inner] at h <;> simp [Tr.withKids]
/-! ### what stands in a tree, item by item -/
inductive It where
  | minus | two (s : Tx) | pick | over (w : Tx) (n : Nat) | leaf (t : Tr)
def itD : It → D
  | .minus => .tup [.str [109, 105, 110, 117, 115]]
  | .two s => .tup [.str [116, 119, 111], .str s]
  | .pick => .tup [.str [112, 105, 99, 107]]
  | .over w n => .tup [.str [111, 118, 101, 114], .str w, .int n]
  | .leaf t => trD t
def Tr.hd : Tr → It
  | .minus _ => .minus
  | .two s _ _ => .two s
  | .pick _ _ _ => .pick
  | .over w ps => .over w ps.length
  | t => .leaf t
mutual
def Tr.items : Tr → List It
  | .minus a => .minus :: a.items
  | .two s a b => .two s :: (a.items ++ b.items)
  | .pick a b c => .pick :: (a.items ++ (b.items ++ c.items))
  | .over w ps => .over w ps.length :: Tr.itemss ps
  | .num n => [.leaf (.num n)]
  | .ref p f => [.leaf (.ref p f)]
  | .gone => [.leaf .gone]
  | .area p f q g => [.leaf (.area p f q g)]
def Tr.itemss : List Tr → List It
  | [] => []
  | t :: ts => t.items ++ Tr.itemss ts
end
theorem items_eq (t : Tr) : t.items = t.hd :: Tr.itemss t.kids := by cases t <;> simp [Tr.items, Tr.itemss, Tr.hd]
theorem itemss_flat : ∀ (ts : List Tr), Tr.itemss ts = ts.flatMap Tr.items
  | [] => rfl
  | t :: ts => by rw [Tr.itemss, itemss_flat ts]; rfl
theorem itemss_len : ∀ (ts : List Tr), (∀ t ∈ ts, t.items.length = t.nodes) → (Tr.itemss ts).length = Tr.nodess ts
  | [], _ => rfl
  | t :: ts, h => by rw [Tr.itemss, Tr.nodess, List.length_append, h t (by simp), itemss_len ts fun u hu => h u (by simp [hu])]
theorem items_len : ∀ t : Tr, t.items.length = t.nodes := Tr.ind fun t ih => by
  rw [items_eq, nodes_eq, List.length_cons, itemss_len _ ih]
@[simp] theorem nr_it (i : It) : noRef (itD i) = true := by cases i <;> simp [itD]
@[simp] theorem nrs_its (is : List It) : noRefs (is.map itD) = true := nrs_map (by simp) is
def It.mapP (f : Pl → Pl) : It → It
  | .leaf t => .leaf (t.mapP f)
  | i => i
theorem itemss_map (f : Pl → Pl) : ∀ (ts : List Tr), (∀ t ∈ ts, (t.mapP f).items = t.items.map (It.mapP f)) → Tr.itemss (ts.map (Tr.mapP f)) = (Tr.itemss ts).map (It.mapP f)
  | [], _ => rfl
  | t :: ts, h => by rw [List.map_cons, Tr.itemss, Tr.itemss, List.map_append, h t (by simp), itemss_map f ts fun u hu => h u (by simp [hu])]
theorem items_map (f : Pl → Pl) : ∀ t : Tr, (t.mapP f).items = t.items.map (It.mapP f) := Tr.ind fun t ih => by
  rw [items_eq, items_eq t, kids_mapP, itemss_map f _ ih]
  cases t <;> simp [Tr.hd, It.mapP]
/-- the leaves of a tree are leaves -/
def It.flat : It → Prop
  | .leaf t => t.inner = false
  | _ => True
theorem itemss_mem : ∀ {ts : List Tr} {i : It}, i ∈ Tr.itemss ts → ∃ t ∈ ts, i ∈ t.items
  | t :: ts, i, h => by
    rw [Tr.itemss, List.mem_append] at h
    rcases h with h | h
    · exact ⟨t, by simp, h⟩
    · obtain ⟨u, hu, h⟩ := itemss_mem h
      exact ⟨u, by simp [hu], h⟩
theorem items_flat : ∀ t : Tr, ∀ i ∈ t.items, i.flat := Tr.ind fun t ih => fun i hi => by
  rw [items_eq] at hi
  rcases List.mem_cons.mp hi with rfl | hi
  · cases t <;> simp [Tr.hd, It.flat, Tr.inner]
  · obtain ⟨u, hu, h⟩ := itemss_mem hi
    exact ih u hu i h

end FL
end
section
set_option maxRecDepth 100000
set_option maxHeartbeats 4000000
namespace FL
open MP
def goPl (p : Pl) (ax at_ many : Int) : Option Pl := if plAt p ax < at_ then some p else if plAt p ax < at_ + many then none else some (atNumber p ax (plAt p ax - many))
def plO : Option Pl → D
  | some p => plD p
  | none => .non
@[simp] theorem plO_s (p : Pl) : plO (some p) = plD p := (rfl)
@[simp] theorem plO_n : plO none = .non := (rfl)
@[simp] theorem nr_plO (o : Option Pl) : noRef (plO o) = true := by cases o <;> rfl
@[simp] theorem fl_plO (o : Option Pl) : flat (plO o) = true := by cases o <;> rfl
def goEnd (p : Pl) (ax at_ many n : Int) : Pl := (goPl p ax at_ many).getD (atNumber p ax n)
def goArea (p : Pl) (f : Bool × Bool) (q : Pl) (g : Bool × Bool) (ax at_ many : Int) : Tr :=
  if plAt (goEnd q ax at_ many (at_ - 1)) ax < plAt (goEnd p ax at_ many at_) ax then .gone else .area (goEnd p ax at_ many at_) f (goEnd q ax at_ many (at_ - 1)) g
def goRef (p : Pl) (f : Bool × Bool) (ax at_ many : Int) : Tr := match goPl p ax at_ many with
  | some q => .ref q f
  | none => .gone
mutual
/-- a tree, leaf by leaf -/
def Tr.mapL (h : Tr → Tr) : Tr → Tr
  | .minus a => .minus (a.mapL h)
  | .two s a b => .two s (a.mapL h) (b.mapL h)
  | .pick a b c => .pick (a.mapL h) (b.mapL h) (c.mapL h)
  | .over w ps => .over w (Tr.mapLs h ps)
  | .num n => h (.num n)
  | .ref p f => h (.ref p f)
  | .gone => h .gone
  | .area p f q g => h (.area p f q g)
def Tr.mapLs (h : Tr → Tr) : List Tr → List Tr
  | [] => []
  | t :: ts => t.mapL h :: Tr.mapLs h ts
end
@[simp] theorem mapLs_map (h : Tr → Tr) : ∀ (ts : List Tr), Tr.mapLs h ts = ts.map (Tr.mapL h)
  | [] => rfl
  | t :: ts => by rw [Tr.mapLs, mapLs_map h ts]; rfl
@[simp] theorem mapL_num (h : Tr → Tr) (n : Int) : (Tr.num n).mapL h = h (.num n) := by rw [Tr.mapL]
@[simp] theorem mapL_ref (h : Tr → Tr) (p : Pl) (b : Bool × Bool) : (Tr.ref p b).mapL h = h (.ref p b) := by rw [Tr.mapL]
@[simp] theorem mapL_gone (h : Tr → Tr) : Tr.gone.mapL h = h .gone := by rw [Tr.mapL]
@[simp] theorem mapL_minus (h : Tr → Tr) (a : Tr) : (Tr.minus a).mapL h = .minus (a.mapL h) := by rw [Tr.mapL]
@[simp] theorem mapL_two (h : Tr → Tr) (s : Tx) (a b : Tr) : (Tr.two s a b).mapL h = .two s (a.mapL h) (b.mapL h) := by rw [Tr.mapL]
@[simp] theorem mapL_pick (h : Tr → Tr) (a b c : Tr) : (Tr.pick a b c).mapL h = .pick (a.mapL h) (b.mapL h) (c.mapL h) := by rw [Tr.mapL]
@[simp] theorem mapL_over (h : Tr → Tr) (w : Tx) (ps : List Tr) : (Tr.over w ps).mapL h = .over w (ps.map (Tr.mapL h)) := by rw [Tr.mapL, mapLs_map]
@[simp] theorem mapL_area (h : Tr → Tr) (p q : Pl) (b c : Bool × Bool) : (Tr.area p b q c).mapL h = h (.area p b q c) := by rw [Tr.mapL]
theorem mapL_with (h : Tr → Tr) (t : Tr) (hi : t.inner = true) : t.withKids (t.kids.map (Tr.mapL h)) = t.mapL h := by
  cases t <;> simp [Tr.inner] at hi <;> simp [Tr.withKids]
theorem mapL_leaf (h : Tr → Tr) (t : Tr) (hi : t.inner = false) : t.mapL h = h t := by cases t <;> simp [Tr.inner] at hi <;> simp
/-- leaves go to leaves -/
def Lfy (h : Tr → Tr) : Prop := ∀ t : Tr, t.inner = false → (h t).inner = false
theorem kids_leaf {t : Tr} (h : t.inner = false) : t.kids = [] := by cases t <;> simp [Tr.inner] at h <;> rfl
theorem kids_mapL {h : Tr → Tr} (hh : Lfy h) (t : Tr) : (t.mapL h).kids = t.kids.map (Tr.mapL h) := by
  cases hi : t.inner with
  | false => rw [mapL_leaf h t hi, kids_leaf (hh t hi), kids_leaf hi]; rfl
  | true => cases t <;> simp [Tr.inner] at hi <;> simp
theorem sm_mapL {h : Tr → Tr} (hh : Lfy h) : ∀ (d : Nat) (t : Tr), Sm d t → Sm d (t.mapL h)
  | 0, _, q => q
  | d + 1, t, q => by
    refine ⟨by rw [kids_mapL hh]; simpa using q.1, fun k hk => ?_⟩
    rw [kids_mapL hh] at hk
    obtain ⟨j, hj, rfl⟩ := List.mem_map.mp hk
    exact sm_mapL hh d j (q.2 j hj)
theorem deps_congr (g : Tr → Tr) : ∀ (ks : List Tr), (∀ k ∈ ks, (g k).dep = k.dep) → Tr.deps (ks.map g) = Tr.deps ks
  | [], _ => rfl
  | k :: ks, h => by simp only [List.map_cons, Tr.deps]; rw [h k (by simp), deps_congr g ks fun j hj => h j (by simp [hj])]
theorem dep_mapL {h : Tr → Tr} (hh : Lfy h) : ∀ t : Tr, (t.mapL h).dep = t.dep := Tr.ind fun t ih => by
  rw [dep_eq, dep_eq t, kids_mapL hh, deps_congr _ _ ih]
theorem nodes_mapL {h : Tr → Tr} (hh : Lfy h) : ∀ t : Tr, (t.mapL h).nodes = t.nodes := Tr.ind fun t ih => by
  rw [nodes_eq, nodes_eq t, kids_mapL hh, nodess_congr _ _ ih]
def It.mapL (h : Tr → Tr) : It → It
  | .leaf t => .leaf (h t)
  | i => i
theorem itemss_mapL {h : Tr → Tr} : ∀ (ts : List Tr), (∀ t ∈ ts, (t.mapL h).items = t.items.map (It.mapL h)) → Tr.itemss (ts.map (Tr.mapL h)) = (Tr.itemss ts).map (It.mapL h)
  | [], _ => rfl
  | t :: ts, q => by rw [List.map_cons, Tr.itemss, Tr.itemss, List.map_append, q t (by simp), itemss_mapL ts fun u hu => q u (by simp [hu])]
theorem items_leaf {t : Tr} (h : t.inner = false) : t.items = [.leaf t] := by cases t <;> simp [Tr.inner] at h <;> simp [Tr.items]
theorem items_mapL {h : Tr → Tr} (hh : Lfy h) : ∀ t : Tr, (t.mapL h).items = t.items.map (It.mapL h) := Tr.ind fun t ih => by
  cases hi : t.inner with
  | false => rw [mapL_leaf h t hi, items_leaf (hh t hi), items_leaf hi]; rfl
  | true =>
    rw [items_eq, items_eq t, kids_mapL hh, itemss_mapL _ ih]
    cases t <;> simp [Tr.inner] at hi <;> simp [Tr.hd, It.mapL]
theorem itemss_all {ts : List Tr} {i : It} {t : Tr} (h : t ∈ ts) (hi : i ∈ t.items) : i ∈ Tr.itemss ts := by
  rw [itemss_flat]
  exact List.mem_flatMap.mpr ⟨t, h, hi⟩
/-- the leaves of a drawn tree are drawn -/
theorem items_ok {R C : Int} : ∀ t : Tr, (t.Ok R C ∨ okA R C t) → ∀ u, It.leaf u ∈ t.items → (u.Ok R C ∨ okA R C u) ∧ u.inner = false := Tr.ind fun t ih => fun ho u hu => by
  cases hi : t.inner with
  | false =>
    rw [items_leaf hi] at hu
    simp only [List.mem_singleton, It.leaf.injEq] at hu
    subst hu
    exact ⟨ho, hi⟩
  | true =>
    have ho' : t.Ok R C := by
      rcases ho with h | h
      · exact h
      · cases t <;> simp [okA] at h; simp [Tr.inner] at hi
    rw [items_eq] at hu
    rcases List.mem_cons.mp hu with h | h
    · cases t <;> simp [Tr.inner] at hi <;> simp [Tr.hd] at h
    · obtain ⟨k, hk, h⟩ := itemss_mem h
      refine ih k hk ?_ u h
      cases t with
      | minus a => simp at hk; subst hk; exact .inl ho'
      | two s a b =>
        simp at hk
        rcases hk with rfl | rfl
        · exact .inl ho'.2.1
        · exact .inl ho'.2.2
      | pick a b c =>
        simp at hk
        rcases hk with rfl | rfl | rfl
        · exact .inl ho'.1
        · exact .inl ho'.2.1
        · exact .inl ho'.2.2
      | over w ps => exact ((ok_over.mp ho').2 k (by simpa using hk)).symm
      | _ => simp at hk
def goL (ax at_ many : Int) : Tr → Tr
  | .ref p f => goRef p f ax at_ many
  | .area p f q g => goArea p f q g ax at_ many
  | t => t
theorem goRef_leaf (p : Pl) (f : Bool × Bool) (ax at_ many : Int) : (goRef p f ax at_ many).inner = false := by
  unfold goRef
  cases goPl p ax at_ many <;> rfl
theorem goArea_leaf (p : Pl) (f : Bool × Bool) (q : Pl) (g : Bool × Bool) (ax at_ many : Int) : (goArea p f q g ax at_ many).inner = false := by
  unfold goArea
  by_cases h : plAt (goEnd q ax at_ many (at_ - 1)) ax < plAt (goEnd p ax at_ many at_) ax
  · rw [if_pos h]; rfl
  · rw [if_neg h]; rfl
theorem goL_lfy (ax at_ many : Int) : Lfy (goL ax at_ many) := fun t h => by
  cases t with
  | ref p f => exact goRef_leaf p f ax at_ many
  | area p f q g => exact goArea_leaf p f q g ax at_ many
  | num n => rfl
  | gone => rfl
  | _ => simp [Tr.inner] at h

end FL
end
section
set_option maxRecDepth 100000
set_option maxHeartbeats 4000000
namespace FL
open MP
/-- the places that an item means -/
def itM : It → List Pl
  | .leaf (.ref p _) => [p]
  | .leaf (.area p _ q _) => betw p q
  | _ => []
mutual
/-- what a tree means, in order -/
def Tr.mpl : Tr → List Pl
  | .ref p _ => [p]
  | .area p _ q _ => betw p q
  | .minus a => inOrd a.mpl
  | .two _ a b => inOrd (a.mpl ++ b.mpl)
  | .pick a b c => inOrd (a.mpl ++ (b.mpl ++ c.mpl))
  | .over _ ps => inOrd (Tr.mpls ps)
  | .num _ => []
  | .gone => []
def Tr.mpls : List Tr → List Pl
  | [] => []
  | t :: ts => t.mpl ++ Tr.mpls ts
end
theorem mpls_flat : ∀ ts : List Tr, Tr.mpls ts = ts.flatMap Tr.mpl
  | [] => by simp [Tr.mpls]
  | t :: ts => by rw [Tr.mpls, mpls_flat ts]; rfl
theorem inOrd_nil : inOrd [] = [] := by unfold inOrd sortP; simp [ded]
theorem mpl_inner {t : Tr} (h : ∀ p f, t ≠ .ref p f) (h2 : ∀ p f q g, t ≠ .area p f q g) : t.mpl = inOrd (Tr.mpls t.kids) := by
  cases t with
  | ref p f => exact absurd rfl (h p f)
  | area p f q g => exact absurd rfl (h2 p f q g)
  | _ => simp [Tr.mpl, Tr.mpls, inOrd_nil]
theorem mpl_sorted (t : Tr) : t.mpl.Pairwise lexLt := by
  cases t with
  | ref p f => simp [Tr.mpl]
  | area p f q g => rw [Tr.mpl]; exact betw_sorted p q
  | num n => simp [Tr.mpl]
  | gone => simp [Tr.mpl]
  | _ => rw [Tr.mpl]; exact inOrd_sorted _
theorem mem_mpl : ∀ (t : Tr) (x : Pl), x ∈ t.mpl ↔ ∃ i ∈ t.items, x ∈ itM i := Tr.ind fun t ih => fun x => by
  cases t with
  | ref p f => simp [Tr.mpl, Tr.items, itM]
  | area p f q g => simp [Tr.mpl, Tr.items, itM]
  | num n => simp [Tr.mpl, Tr.items, itM]
  | gone => simp [Tr.mpl, Tr.items, itM]
  | minus a => have h1 := ih a (by simp) x; simp [Tr.mpl, Tr.items, itM, mem_inOrd, h1]
  | two s a b =>
    have h1 := ih a (by simp) x
    have h2 := ih b (by simp) x
    simp only [Tr.mpl, Tr.items, mem_inOrd, List.mem_append, h1, h2, List.mem_cons]
    constructor
    · rintro (⟨i, hi, hx⟩ | ⟨i, hi, hx⟩)
      · exact ⟨i, .inr (.inl hi), hx⟩
      · exact ⟨i, .inr (.inr hi), hx⟩
    · rintro ⟨i, rfl | hi | hi, hx⟩
      · simp [itM] at hx
      · exact .inl ⟨i, hi, hx⟩
      · exact .inr ⟨i, hi, hx⟩
  | pick a b c =>
    have h1 := ih a (by simp) x
    have h2 := ih b (by simp) x
    have h3 := ih c (by simp) x
    simp only [Tr.mpl, Tr.items, mem_inOrd, List.mem_append, h1, h2, h3, List.mem_cons]
    constructor
    · rintro (⟨i, hi, hx⟩ | ⟨i, hi, hx⟩ | ⟨i, hi, hx⟩)
      · exact ⟨i, .inr (.inl hi), hx⟩
      · exact ⟨i, .inr (.inr (.inl hi)), hx⟩
      · exact ⟨i, .inr (.inr (.inr hi)), hx⟩
    · rintro ⟨i, rfl | hi | hi | hi, hx⟩
      · simp [itM] at hx
      · exact .inl ⟨i, hi, hx⟩
      · exact .inr (.inl ⟨i, hi, hx⟩)
      · exact .inr (.inr ⟨i, hi, hx⟩)
  | over w ps =>
    simp only [Tr.mpl, Tr.items, mem_inOrd, mpls_flat, List.mem_flatMap, List.mem_cons]
    constructor
    · rintro ⟨k, hk, hx⟩
      obtain ⟨i, hi, h⟩ := (ih k (by simpa using hk) x).mp hx
      exact ⟨i, .inr (itemss_all hk hi), h⟩
    · rintro ⟨i, rfl | hi, hx⟩
      · simp [itM] at hx
      · obtain ⟨k, hk, h⟩ := itemss_mem hi
        exact ⟨k, hk, (ih k (by simpa using hk) x).mpr ⟨i, h, hx⟩⟩
/-- all its places stand in 99 rows and 26 columns -/
def InA (t : Tr) : Prop := ∀ u, It.leaf u ∈ t.items → match u with
  | .ref p _ => inP 99 26 p
  | .area p _ q _ => inP 99 26 p ∧ inP 99 26 q
  | _ => True
theorem InA.kid {t k : Tr} (h : InA t) (hk : k ∈ t.kids) : InA k := fun u hu => h u (by rw [items_eq]; exact List.mem_cons_of_mem _ (itemss_all hk hu))
theorem InA.mem {t : Tr} (h : InA t) {x : Pl} (hx : x ∈ t.mpl) : inP 99 26 x := by
  obtain ⟨i, hi, hx⟩ := (mem_mpl t x).mp hx
  cases i with
  | leaf u =>
    have := h u hi
    cases u with
    | ref p f => simp only [itM, List.mem_singleton] at hx; rw [hx]; exact this
    | area p f q g => simp only [itM] at hx; exact betw_in this.1 this.2 hx
    | _ => simp [itM] at hx
  | _ => simp [itM] at hx
theorem InA.len {t : Tr} (h : InA t) : t.mpl.length ≤ 2574 := lex_len (mpl_sorted t) fun x hx => h.mem hx
theorem Tr.Ok.inA {R C : Int} (hR : R ≤ 99) (hC : C ≤ 26) {t : Tr} (h : t.Ok R C ∨ okA R C t) : InA t := fun u hu => by
  obtain ⟨h1, h2⟩ := items_ok t h u hu
  cases u with
  | ref p f =>
    rcases h1 with h1 | h1
    · exact inP.mono h1 hR hC
    · exact h1.elim
  | area p f q g =>
    rcases h1 with h1 | h1
    · exact h1.elim
    · exact ⟨h1.1.mono hR hC, h1.2.1.mono hR hC⟩
  | _ => trivial

end FL
end
section
set_option maxRecDepth 100000
set_option maxHeartbeats 4000000
namespace FL
open MP
theorem mapP_comp (f g : Pl → Pl) : ∀ t : Tr, (t.mapP f).mapP g = t.mapP fun p => g (f p) := Tr.ind fun t ih => by
  cases t with
  | over w ps =>
    simp only [mapP_over, List.map_map]
    congr 1
    exact List.map_congr_left fun k hk => ih k (by simpa using hk)
  | _ => simp at ih <;> simp [ih]
theorem mapP_L (f : Pl → Pl) : ∀ t : Tr, t.mapP f = t.mapL (Tr.mapP f) := Tr.ind fun t ih => by
  cases t with
  | over w ps =>
    simp only [mapP_over, mapL_over]
    congr 1
    exact List.map_congr_left fun k hk => ih k (by simpa using hk)
  | _ => simp at ih <;> simp [ih]
theorem mapL_congr {g h : Tr → Tr} : ∀ t : Tr, (∀ u, It.leaf u ∈ t.items → g u = h u) → t.mapL g = t.mapL h := Tr.ind fun t ih => fun q => by
  cases hi : t.inner with
  | false => rw [mapL_leaf g t hi, mapL_leaf h t hi]; exact q t (by rw [items_leaf hi]; simp)
  | true =>
    have e : ∀ k ∈ t.kids, k.mapL g = k.mapL h := fun k hk => ih k hk fun u hu => q u (by rw [items_eq]; exact List.mem_cons_of_mem _ (itemss_all hk hu))
    rw [← mapL_with g t hi, ← mapL_with h t hi, List.map_congr_left e]
theorem mapL_comp {g h : Tr → Tr} (hg : Lfy g) : ∀ t : Tr, (t.mapL g).mapL h = t.mapL fun u => h (g u) := Tr.ind fun t ih => by
  cases hi : t.inner with
  | false => rw [mapL_leaf g t hi, mapL_leaf h _ (hg t hi), mapL_leaf _ t hi]
  | true =>
    cases t with
    | over w ps =>
      simp only [mapL_over, List.map_map]
      congr 1
      exact List.map_congr_left fun k hk => ih k (by simpa using hk)
    | minus a => simp at ih; simp [ih]
    | two s a b => simp at ih; simp [ih]
    | pick a b c => simp at ih; simp [ih]
    | _ => simp [Tr.inner] at hi
theorem mapL_id : ∀ t : Tr, t.mapL (fun u => u) = t := Tr.ind fun t ih => by
  cases hi : t.inner with
  | false => rw [mapL_leaf _ t hi]
  | true =>
    cases t with
    | over w ps =>
      simp only [mapL_over]
      congr 1
      have := List.map_congr_left (g := id) fun k hk => ih k (by simpa using hk)
      rw [List.map_id] at this
      exact this
    | minus a => simp at ih; simp [ih]
    | two s a b => simp at ih; simp [ih]
    | pick a b c => simp at ih; simp [ih]
    | _ => simp [Tr.inner] at hi
theorem mapP_lfy (f : Pl → Pl) : Lfy (Tr.mapP f) := fun t h => by cases t <;> simp [Tr.inner] at h <;> simp [Tr.inner]
/-! ### there and back -/
theorem plAt_an (p : Pl) (ax n : Int) : plAt (atNumber p ax n) ax = n := by unfold plAt atNumber; split <;> rfl
theorem an_an (p : Pl) (ax n m : Int) : atNumber (atNumber p ax n) ax m = atNumber p ax m := by unfold atNumber; split <;> rfl
theorem an_self (p : Pl) (ax n : Int) (h : plAt p ax = n) : atNumber p ax n = p := by
  subst h
  unfold atNumber plAt
  split <;> rfl
theorem come_come (p : Pl) (ax at_ a b : Int) (ha : 0 ≤ a) : comePl (comePl p ax at_ a) ax at_ b = comePl p ax at_ (a + b) := by
  by_cases h : plAt p ax < at_
  · simp [comePl, h]
  · simp only [comePl, h, if_false, plAt_an]
    rw [if_neg (by omega), an_an, Int.add_assoc]
theorem go_come (p : Pl) (ax at_ m : Int) (hm : 0 ≤ m) : goPl (comePl p ax at_ m) ax at_ m = some p := by
  by_cases h : plAt p ax < at_
  · simp [comePl, goPl, h]
  · simp only [comePl, goPl, h, if_false, plAt_an]
    rw [if_neg (by omega), if_neg (by omega), an_an, an_self _ _ _ (by omega)]
theorem go_go (p : Pl) (ax at_ a b : Int) (ha : 0 ≤ a) (hb : 0 ≤ b) : (goPl p ax at_ a).bind (fun q => goPl q ax at_ b) = goPl p ax at_ (a + b) := by
  unfold goPl
  by_cases h : plAt p ax < at_
  · simp [h]
  · by_cases h2 : plAt p ax < at_ + a
    · simp [h, h2, show plAt p ax < at_ + (a + b) by omega]
    · simp only [h, h2, if_false, Option.bind_some, plAt_an]
      rw [if_neg (by omega)]
      by_cases h3 : plAt p ax - a < at_ + b
      · rw [if_pos h3, if_pos (by omega)]
      · rw [if_neg h3, if_neg (by omega), an_an]
        congr 2
        omega
theorem goEnd_eq (p : Pl) (ax at_ m n : Int) : goEnd p ax at_ m n = if plAt p ax < at_ then p else if plAt p ax < at_ + m then atNumber p ax n else atNumber p ax (plAt p ax - m) := by
  unfold goEnd goPl
  by_cases h : plAt p ax < at_
  · simp [h]
  · by_cases h2 : plAt p ax < at_ + m <;> simp [h, h2]
theorem goArea_goArea (p : Pl) (f : Bool × Bool) (q : Pl) (g : Bool × Bool) (ax at_ a b : Int) (ha : 0 ≤ a) (hb : 1 ≤ b) (h : plAt p ax ≤ plAt q ax) :
    goL ax at_ b (goArea p f q g ax at_ a) = goArea p f q g ax at_ (a + b) := by
  have e1 : ∀ n, n = at_ → goEnd (goEnd p ax at_ a n) ax at_ b n = goEnd p ax at_ (a + b) n := fun n hn => by
    subst hn
    rw [goEnd_eq, goEnd_eq p, goEnd_eq p]
    by_cases h1 : plAt p ax < n
    · simp [h1]
    · by_cases h2 : plAt p ax < n + a
      · rw [if_neg h1, if_pos h2, if_neg h1, if_pos (show plAt p ax < n + (a + b) by omega), plAt_an, if_neg (by omega), if_pos (by omega), an_an]
      · rw [if_neg h1, if_neg h2, if_neg h1, plAt_an, if_neg (by omega)]
        by_cases h3 : plAt p ax - a < n + b
        · rw [if_pos h3, if_pos (by omega), an_an]
        · rw [if_neg h3, if_neg (by omega), an_an]
          congr 1
          omega
  have e2 : ∀ n, n = at_ - 1 → goEnd (goEnd q ax at_ a n) ax at_ b n = goEnd q ax at_ (a + b) n := fun n hn => by
    rw [goEnd_eq, goEnd_eq q, goEnd_eq q]
    by_cases h1 : plAt q ax < at_
    · simp [h1]
    · by_cases h2 : plAt q ax < at_ + a
      · rw [if_neg h1, if_pos h2, if_neg h1, if_pos (show plAt q ax < at_ + (a + b) by omega), plAt_an, if_pos (by omega)]
      · rw [if_neg h1, if_neg h2, if_neg h1, plAt_an, if_neg (by omega)]
        by_cases h3 : plAt q ax - a < at_ + b
        · rw [if_pos h3, if_pos (by omega), an_an]
        · rw [if_neg h3, if_neg (by omega), an_an]
          congr 1
          omega
  have v1 : ∀ m, plAt (goEnd p ax at_ m at_) ax = if plAt p ax < at_ then plAt p ax else if plAt p ax < at_ + m then at_ else plAt p ax - m := fun m => by
    rw [goEnd_eq]
    split
    · rfl
    · split <;> rw [plAt_an]
  have v2 : ∀ m, plAt (goEnd q ax at_ m (at_ - 1)) ax = if plAt q ax < at_ then plAt q ax else if plAt q ax < at_ + m then at_ - 1 else plAt q ax - m := fun m => by
    rw [goEnd_eq]
    split
    · rfl
    · split <;> rw [plAt_an]
  by_cases hc : plAt (goEnd q ax at_ a (at_ - 1)) ax < plAt (goEnd p ax at_ a at_) ax
  · have : plAt (goEnd q ax at_ (a + b) (at_ - 1)) ax < plAt (goEnd p ax at_ (a + b) at_) ax := by
      rw [v1, v2] at hc ⊢
      repeat' split at hc
      all_goals (repeat' split)
      all_goals omega
    unfold goArea
    rw [if_pos hc, if_pos this]
    rfl
  · unfold goArea
    rw [if_neg hc]
    simp only [goL, goArea, e1 _ rfl, e2 _ rfl]
theorem goRef_goRef (p : Pl) (f : Bool × Bool) (ax at_ a b : Int) (ha : 0 ≤ a) (hb : 0 ≤ b) : goL ax at_ b (goRef p f ax at_ a) = goRef p f ax at_ (a + b) := by
  have h := go_go p ax at_ a b ha hb
  unfold goRef
  cases e : goPl p ax at_ a with
  | none => rw [e] at h; simp only [Option.bind_none] at h; rw [← h]; rfl
  | some q => rw [e] at h; simp only [Option.bind_some] at h; simp only [goL, goRef]; rw [h]
theorem okA_le {R C : Int} {p q : Pl} {f g : Bool × Bool} (ax : Int) (h : okA R C (.area p f q g)) : plAt p ax ≤ plAt q ax := by
  obtain ⟨_, _, h1, h2⟩ := h
  unfold plAt
  split <;> assumption
theorem goL_goL {R C : Int} (ax at_ a b : Int) (ha : 0 ≤ a) (hb : 1 ≤ b) (t : Tr) (ht : t.Ok R C) : (t.mapL (goL ax at_ a)).mapL (goL ax at_ b) = t.mapL (goL ax at_ (a + b)) := by
  rw [mapL_comp (goL_lfy ax at_ a)]
  refine mapL_congr t fun u hu => ?_
  obtain ⟨ho, hi⟩ := items_ok t (.inl ht) u hu
  cases u with
  | ref p f => exact goRef_goRef p f ax at_ a b ha (by omega)
  | area p f q g => exact goArea_goArea p f q g ax at_ a b ha hb (okA_le ax (ho.resolve_left (fun h => h.elim)))
  | num n => rfl
  | gone => rfl
  | _ => simp [Tr.inner] at hi
theorem goL_come {R C : Int} (ax at_ m : Int) (hm : 0 ≤ m) (t : Tr) (ht : t.Ok R C) : (t.mapP fun p => comePl p ax at_ m).mapL (goL ax at_ m) = t := by
  rw [mapP_L, mapL_comp (mapP_lfy _)]
  refine Eq.trans (mapL_congr t fun u hu => ?_) (mapL_id t)
  obtain ⟨ho, hi⟩ := items_ok t (.inl ht) u hu
  cases u with
  | ref p f => simp only [mapP_ref, goL, goRef, go_come p ax at_ m hm]
  | area p f q g =>
    have h1 := go_come p ax at_ m hm
    have h2 := go_come q ax at_ m hm
    have h3 := okA_le ax (ho.resolve_left (fun h => h.elim))
    simp only [mapP_area, goL, goArea, goEnd, h1, h2, Option.getD_some]
    rw [if_neg (by omega)]
  | num n => simp [goL]
  | gone => simp [goL]
  | _ => simp [Tr.inner] at hi

end FL
end
section
set_option maxRecDepth 100000
set_option maxHeartbeats 4000000
namespace FL
open MP
@[simp] theorem p_lrng (m : Bool) (i j : Int) (st : Store) (h : (-4611686018427387904 ≤ i ∧ i < 4611686018427387904) ∧ (-4611686018427387904 ≤ j ∧ j < 4611686018427387904) ∧ j - i ≤ 16777216) : prim2F (.lrng m) (.int i) (.int j) st = mkL m ((rangeI i j).map .int) st := by
  have : ((-(2 ^ 62) ≤ i ∧ i < 2 ^ 62) ∧ (-(2 ^ 62) ≤ j ∧ j < 2 ^ 62)) ∧ (j - i).toNat ≤ lim := ⟨⟨⟨by omega, by omega⟩, by omega, by omega⟩, by simp only [lim]; omega⟩
  simp only [prim2F, this, if_true, and_self, rangeD_eq]
theorem eqDs_ints : ∀ (xs ys : List Int), eqDs (xs.map .int) (ys.map .int) = decide (xs = ys)
  | [], [] => by simp [eqDs]
  | [], _ :: _ => by simp [eqDs]
  | _ :: _, [] => by simp [eqDs]
  | x :: xs, y :: ys => by
    have := eqDs_ints xs ys
    by_cases h1 : x = y <;> by_cases h2 : xs = ys <;> simp_all [eqDs, eqD_ii]
theorem eqv_intsC {st : Store} {n : Nat} {xs : List Int} (h : st[n]? = some (.lst (xs.map .int))) (ys : List Int) : eqVal st (.ref n) (.lst (ys.map .int)) = some (decide (xs = ys)) := by
  have h1 := cmpDs_ints xs
  have h2 := cmpDs_ints ys
  have h3 := deps_ints xs
  have h4 := deps_ints ys
  unfold eqVal
  rw [if_neg (by simp [scalar]), rsv_cell h (by simp), rsv_nr (show noRef (.lst (ys.map .int)) = true by simp)]
  simp only [cmp_lst, h1, h2, dep_lst, h3, h4]
  simp [eqD, eqDs_ints]
theorem eqv_ints (st : Store) (xs ys : List Int) : eqVal st (.lst (xs.map .int)) (.lst (ys.map .int)) = some (decide (xs = ys)) := by
  have h1 := cmpDs_ints xs
  have h2 := cmpDs_ints ys
  have h3 := deps_ints xs
  have h4 := deps_ints ys
  unfold eqVal
  rw [if_neg (by simp [scalar]), rsv_nr (show noRef (.lst (xs.map .int)) = true by simp), rsv_nr (show noRef (.lst (ys.map .int)) = true by simp)]
  simp only [cmp_lst, h1, h2, dep_lst, h3, h4]
  simp [eqD, eqDs_ints]
/-- rising lists of the same numbers -/
theorem rising_ext : ∀ {xs ys : List Int}, xs.Pairwise (· < ·) → ys.Pairwise (· < ·) → (∀ x, x ∈ xs ↔ x ∈ ys) → xs = ys
  | [], [], _, _, _ => rfl
  | [], y :: ys, _, _, h => by have := (h y).mpr (by simp); simp at this
  | x :: xs, [], _, _, h => by have := (h x).mp (by simp); simp at this
  | x :: xs, y :: ys, h1, h2, h => by
    have a := List.pairwise_cons.mp h1
    have b := List.pairwise_cons.mp h2
    have e : x = y := by
      rcases List.mem_cons.mp ((h x).mp (by simp)) with e | m
      · exact e
      · rcases List.mem_cons.mp ((h y).mpr (by simp)) with e | m2
        · exact e.symm
        · have := a.1 y m2; have := b.1 x m; omega
    subst e
    rw [rising_ext a.2 b.2 fun z => by
      constructor
      · intro m
        rcases List.mem_cons.mp ((h z).mp (List.mem_cons_of_mem _ m)) with e | m2
        · subst e; have := a.1 z m; omega
        · exact m2
      · intro m
        rcases List.mem_cons.mp ((h z).mpr (List.mem_cons_of_mem _ m)) with e | m2
        · subst e; have := b.1 z m; omega
        · exact m2]

end FL
end
section
set_option maxRecDepth 100000
set_option maxHeartbeats 4000000
namespace FL
open MP
/-- what is left of a span of numbers -/
def leftN (ax at_ many : Int) (n : Int) : Option Int := (goPl (n, n) ax at_ many).map fun q => plAt q ax
theorem leftN_eq (ax at_ many n : Int) : leftN ax at_ many n = if n < at_ then some n else if n < at_ + many then none else some (n - many) := by
  have hp : plAt (n, n) ax = n := by unfold plAt; split <;> rfl
  unfold leftN goPl
  rw [hp]
  by_cases h1 : n < at_
  · simp [h1, hp]
  · by_cases h2 : n < at_ + many <;> simp [h1, h2, plAt_an]
def leftL (ax at_ many a b : Int) : List Int := (rangeI a (b + 1)).filterMap (leftN ax at_ many)
theorem leftL_rise (ax at_ many a b : Int) (hm : 0 ≤ many) : (leftL ax at_ many a b).Pairwise (· < ·) := by
  refine List.Pairwise.filterMap (leftN ax at_ many) (R := (· < ·)) (fun x y h u hu v hv => ?_) (rangeI_pairwise a (b + 1))
  rw [leftN_eq] at hu hv
  repeat' split at hu
  all_goals (repeat' split at hv)
  all_goals simp only [Option.some.injEq, reduceCtorEq] at hu hv
  all_goals omega
theorem mem_leftL {ax at_ many a b x : Int} : x ∈ leftL ax at_ many a b ↔ ∃ n, a ≤ n ∧ n ≤ b ∧ leftN ax at_ many n = some x := by
  unfold leftL
  rw [List.mem_filterMap]
  constructor
  · rintro ⟨n, h1, h2⟩; rw [mem_rangeI] at h1; exact ⟨n, h1.1, by omega, h2⟩
  · rintro ⟨n, h1, h2, h3⟩; exact ⟨n, mem_rangeI.mpr ⟨h1, by omega⟩, h3⟩
theorem ends_at (p : Pl) (ax at_ many n : Int) : plAt (goEnd p ax at_ many n) ax = if plAt p ax < at_ then plAt p ax else if plAt p ax < at_ + many then n else plAt p ax - many := by
  rw [goEnd_eq]
  split
  · rfl
  · split <;> rw [plAt_an]
theorem leftL_eq (p q : Pl) (ax at_ many : Int) (hm : 1 ≤ many) (h : plAt p ax ≤ plAt q ax) :
    leftL ax at_ many (plAt p ax) (plAt q ax) = rangeI (plAt (goEnd p ax at_ many at_) ax) (plAt (goEnd q ax at_ many (at_ - 1)) ax + 1) := by
  refine rising_ext (leftL_rise ax at_ many _ _ (by omega)) (rangeI_pairwise _ _) fun x => ?_
  rw [mem_leftL, mem_rangeI, ends_at, ends_at]
  simp only [leftN_eq]
  generalize plAt p ax = a at *
  generalize plAt q ax = b at *
  constructor
  · rintro ⟨n, h1, h2, h3⟩
    repeat' split at h3
    all_goals simp only [Option.some.injEq, reduceCtorEq] at h3
    all_goals (repeat' split)
    all_goals omega
  · rintro ⟨h1, h2⟩
    by_cases hx : x < at_
    · refine ⟨x, ?_, ?_, by rw [if_pos hx]⟩
      all_goals (repeat' split at h1)
      all_goals (repeat' split at h2)
      all_goals omega
    · refine ⟨x + many, ?_, ?_, by rw [if_neg (by omega), if_neg (by omega)]; congr 1; omega⟩
      all_goals (repeat' split at h1)
      all_goals (repeat' split at h2)
      all_goals omega
theorem end_other (p : Pl) (ax at_ many n : Int) (hax : ax = 0 ∨ ax = 1) : plAt (goEnd p ax at_ many n) (1 - ax) = plAt p (1 - ax) := by
  have : ∀ m, plAt (atNumber p ax m) (1 - ax) = plAt p (1 - ax) := fun m => by rcases hax with rfl | rfl <;> rfl
  rw [goEnd_eq]
  split
  · rfl
  · split <;> rw [this]
theorem went_iff (p q : Pl) (ax at_ many : Int) (hm : 1 ≤ many) (h : plAt p ax ≤ plAt q ax) :
    leftL ax at_ many (plAt p ax) (plAt q ax) = [] ↔ plAt (goEnd q ax at_ many (at_ - 1)) ax < plAt (goEnd p ax at_ many at_) ax := by
  rw [leftL_eq p q ax at_ many hm h]
  constructor
  · intro e
    have := congrArg List.length e
    rw [rangeI_length] at this
    simp at this
    omega
  · intro e
    rw [← List.length_eq_zero_iff, rangeI_length]
    omega
theorem leftL_len (ax at_ many a b : Int) : (leftL ax at_ many a b).length ≤ (b + 1 - a).toNat := by
  unfold leftL
  refine Nat.le_trans (List.length_filterMap_le _ _) ?_
  rw [rangeI_length]; omega

end FL
end
section
set_option maxRecDepth 100000
set_option maxHeartbeats 4000000
namespace FL
open MP
theorem mem_betwA {p q x : Pl} (ax : Int) (hax : ax = 0 ∨ ax = 1) : x ∈ betw p q ↔ (plAt p ax ≤ plAt x ax ∧ plAt x ax ≤ plAt q ax) ∧ plAt p (1 - ax) ≤ plAt x (1 - ax) ∧ plAt x (1 - ax) ≤ plAt q (1 - ax) := by
  rw [mem_betw]
  rcases hax with rfl | rfl
  · exact Iff.rfl
  · show _ ↔ (p.2 ≤ x.2 ∧ x.2 ≤ q.2) ∧ p.1 ≤ x.1 ∧ x.1 ≤ q.1
    exact And.comm
theorem pl_ext {x y : Pl} (ax : Int) (hax : ax = 0 ∨ ax = 1) (h : plAt x ax = plAt y ax) (h2 : plAt x (1 - ax) = plAt y (1 - ax)) : x = y := by
  rcases hax with rfl | rfl
  · exact Prod.ext h h2
  · exact Prod.ext h2 h
theorem at_an (p : Pl) (ax n : Int) (hax : ax = 0 ∨ ax = 1) : plAt (atNumber p ax n) ax = n ∧ plAt (atNumber p ax n) (1 - ax) = plAt p (1 - ax) := by
  rcases hax with rfl | rfl <;> exact ⟨rfl, rfl⟩
theorem goPl_iff (y x : Pl) (ax at_ many : Int) (hax : ax = 0 ∨ ax = 1) : goPl y ax at_ many = some x ↔ leftN ax at_ many (plAt y ax) = some (plAt x ax) ∧ plAt x (1 - ax) = plAt y (1 - ax) := by
  rw [leftN_eq]
  unfold goPl
  obtain ⟨h1, h2⟩ := at_an y ax (plAt y ax - many) hax
  split
  · simp only [Option.some.injEq]
    constructor
    · rintro rfl; exact ⟨rfl, rfl⟩
    · rintro ⟨a, b⟩; exact pl_ext ax hax a b.symm
  · split
    · simp
    · simp only [Option.some.injEq]
      constructor
      · rintro rfl; exact ⟨h1.symm, h2⟩
      · rintro ⟨a, b⟩
        exact pl_ext ax hax (by rw [h1, a]) (by rw [h2, b])
theorem itM_go (i : It) (ax at_ many : Int) (hax : ax = 0 ∨ ax = 1) (hm : 1 ≤ many) (ho : ∀ p f q g, i = .leaf (.area p f q g) → p.1 ≤ q.1 ∧ p.2 ≤ q.2) (x : Pl) :
    x ∈ itM (It.mapL (goL ax at_ many) i) ↔ ∃ y ∈ itM i, goPl y ax at_ many = some x := by
  cases i with
  | leaf u =>
    cases u with
    | ref p f =>
      simp only [It.mapL, goL, goRef, itM, List.mem_singleton, exists_eq_left]
      cases goPl p ax at_ many with
      | none => simp
      | some q => simp [eq_comm]
    | area p f q g =>
      obtain ⟨h1, h2⟩ := ho p f q g rfl
      have hle : plAt p ax ≤ plAt q ax := by rcases hax with rfl | rfl <;> assumption
      have key : (∃ y ∈ betw p q, goPl y ax at_ many = some x) ↔ plAt x ax ∈ leftL ax at_ many (plAt p ax) (plAt q ax) ∧ plAt p (1 - ax) ≤ plAt x (1 - ax) ∧ plAt x (1 - ax) ≤ plAt q (1 - ax) := by
        rw [mem_leftL]
        constructor
        · rintro ⟨y, hy, hg⟩
          rw [mem_betwA ax hax] at hy
          rw [goPl_iff y x ax at_ many hax] at hg
          exact ⟨⟨plAt y ax, hy.1.1, hy.1.2, hg.1⟩, by rw [hg.2]; exact hy.2⟩
        · rintro ⟨⟨n, ha, hb, hn⟩, hc⟩
          obtain ⟨e1, e2⟩ := at_an x ax n hax
          refine ⟨atNumber x ax n, ?_, ?_⟩
          · rw [mem_betwA ax hax, e1, e2]; exact ⟨⟨ha, hb⟩, hc⟩
          · rw [goPl_iff _ x ax at_ many hax, e1, e2]; exact ⟨hn, rfl⟩
      show x ∈ itM (.leaf (goArea p f q g ax at_ many)) ↔ ∃ y ∈ betw p q, goPl y ax at_ many = some x
      rw [key]
      unfold goArea
      have hw := went_iff p q ax at_ many hm hle
      split
      · rename_i h
        rw [hw.mpr h]
        simp [itM]
      · rename_i h
        simp only [itM]
        rw [mem_betwA ax hax, end_other p ax at_ many at_ hax, end_other q ax at_ many (at_ - 1) hax, leftL_eq p q ax at_ many hm hle, mem_rangeI]
        constructor
        · rintro ⟨⟨a, b⟩, c⟩; exact ⟨⟨a, by omega⟩, c⟩
        · rintro ⟨⟨a, b⟩, c⟩; exact ⟨⟨a, by omega⟩, c⟩
    | _ => simp [It.mapL, goL, itM]
  | _ => simp [It.mapL, itM]
theorem go_lex {p q p' q' : Pl} {ax at_ many : Int} (hax : ax = 0 ∨ ax = 1) (hm : 0 ≤ many) (h : lexLt p q) (h1 : goPl p ax at_ many = some p') (h2 : goPl q ax at_ many = some q') : lexLt p' q' := by
  rw [goPl_iff _ _ ax at_ many hax, leftN_eq] at h1 h2
  obtain ⟨a1, a2⟩ := h1
  obtain ⟨b1, b2⟩ := h2
  unfold lexLt at *
  rcases hax with rfl | rfl
  · simp only [plAt, show (1 : Int) - 0 = 1 from rfl, if_true, show ¬ (1 : Int) = 0 by decide, if_false] at *
    repeat' split at a1
    all_goals (repeat' split at b1)
    all_goals simp only [Option.some.injEq, reduceCtorEq] at a1 b1
    all_goals omega
  · simp only [plAt, show (1 : Int) - 1 = 0 from rfl, if_true, show ¬ (1 : Int) = 0 by decide, if_false] at *
    repeat' split at a1
    all_goals (repeat' split at b1)
    all_goals simp only [Option.some.injEq, reduceCtorEq] at a1 b1
    all_goals omega
/-- behind a going the tree means just what is left of what it meant -/
theorem meant_go (t : Tr) (ax at_ many : Int) (hax : ax = 0 ∨ ax = 1) (hm : 1 ≤ many) (ho : ∀ p f q g, It.leaf (.area p f q g) ∈ t.items → p.1 ≤ q.1 ∧ p.2 ≤ q.2) :
    (t.mapL (goL ax at_ many)).mpl = t.mpl.filterMap fun p => goPl p ax at_ many := by
  refine lex_ext (mpl_sorted _) (List.Pairwise.filterMap (fun p => goPl p ax at_ many) (R := lexLt) (fun a b hab u hu v hv => go_lex (at_ := at_) hax (show 0 ≤ many by omega) hab hu hv) (mpl_sorted t)) fun x => ?_
  rw [mem_mpl, items_mapL (goL_lfy ax at_ many), List.mem_filterMap]
  constructor
  · rintro ⟨i, hi, hx⟩
    obtain ⟨j, hj, rfl⟩ := List.mem_map.mp hi
    obtain ⟨y, hy, hg⟩ := (itM_go j ax at_ many hax hm (fun p f q g e => ho p f q g (by rw [← e]; exact hj)) x).mp hx
    exact ⟨y, (mem_mpl t y).mpr ⟨j, hj, hy⟩, hg⟩
  · rintro ⟨y, hy, hg⟩
    obtain ⟨j, hj, hy⟩ := (mem_mpl t y).mp hy
    exact ⟨_, List.mem_map.mpr ⟨j, hj, rfl⟩, (itM_go j ax at_ many hax hm (fun p f q g e => ho p f q g (by rw [← e]; exact hj)) x).mpr ⟨y, hy, hg⟩⟩
/-! ### coming -/
theorem come_at (p : Pl) (ax at_ many : Int) (hax : ax = 0 ∨ ax = 1) : plAt (comePl p ax at_ many) ax = (if plAt p ax < at_ then plAt p ax else plAt p ax + many) ∧ plAt (comePl p ax at_ many) (1 - ax) = plAt p (1 - ax) := by
  unfold comePl
  obtain ⟨h1, h2⟩ := at_an p ax (plAt p ax + many) hax
  split
  · exact ⟨rfl, rfl⟩
  · exact ⟨h1, h2⟩
theorem come_lex {p q : Pl} {ax at_ many : Int} (hax : ax = 0 ∨ ax = 1) (hm : 0 ≤ many) (h : lexLt p q) : lexLt (comePl p ax at_ many) (comePl q ax at_ many) := by
  obtain ⟨a1, a2⟩ := come_at p ax at_ many hax
  obtain ⟨b1, b2⟩ := come_at q ax at_ many hax
  unfold lexLt at *
  rcases hax with rfl | rfl
  · simp only [plAt, show (1 : Int) - 0 = 1 from rfl, if_true, show ¬ (1 : Int) = 0 by decide, if_false] at *
    rw [a1, a2, b1, b2]
    repeat' split
    all_goals omega
  · simp only [plAt, show (1 : Int) - 1 = 0 from rfl, if_true, show ¬ (1 : Int) = 0 by decide, if_false] at *
    rw [a1, a2, b1, b2]
    repeat' split
    all_goals omega
theorem come_inM (i : It) (ax at_ many : Int) (hax : ax = 0 ∨ ax = 1) (hm : 0 ≤ many) {y : Pl} (hy : y ∈ itM i) : comePl y ax at_ many ∈ itM (It.mapP (fun p => comePl p ax at_ many) i) := by
  cases i with
  | leaf u =>
    cases u with
    | ref p f => simp only [itM, List.mem_singleton] at hy; subst hy; simp [It.mapP, itM]
    | area p f q g =>
      simp only [itM] at hy
      simp only [It.mapP, mapP_area, itM]
      rw [mem_betwA ax hax] at hy ⊢
      obtain ⟨a1, a2⟩ := come_at y ax at_ many hax
      obtain ⟨b1, b2⟩ := come_at p ax at_ many hax
      obtain ⟨c1, c2⟩ := come_at q ax at_ many hax
      rw [a1, a2, b1, b2, c1, c2]
      refine ⟨?_, hy.2⟩
      repeat' split
      all_goals omega
    | _ => simp [itM] at hy
  | _ => simp [itM] at hy
/-- a fresh place: among those that came, between two old ones -/
theorem come_fresh (i : It) (ax at_ many : Int) (hax : ax = 0 ∨ ax = 1) (hm : 1 ≤ many) (ho : ∀ p f q g, i = .leaf (.area p f q g) → p.1 ≤ q.1 ∧ p.2 ≤ q.2) {x : Pl}
    (hx : x ∈ itM (It.mapP (fun p => comePl p ax at_ many) i)) (hf : ∀ y ∈ itM i, comePl y ax at_ many ≠ x) :
    (at_ ≤ plAt x ax ∧ plAt x ax < at_ + many) ∧ (∃ y ∈ itM i, plAt (comePl y ax at_ many) (1 - ax) = plAt x (1 - ax) ∧ plAt (comePl y ax at_ many) ax ≤ plAt x ax) ∧ ∃ y ∈ itM i, plAt (comePl y ax at_ many) (1 - ax) = plAt x (1 - ax) ∧ plAt x ax ≤ plAt (comePl y ax at_ many) ax := by
  cases i with
  | leaf u =>
    cases u with
    | ref p f =>
      simp only [It.mapP, mapP_ref, itM, List.mem_singleton] at hx
      exact absurd hx.symm (hf p (by simp [itM]))
    | area p f q g =>
      simp only [It.mapP, mapP_area, itM] at hx
      obtain ⟨h1, h2⟩ := ho p f q g rfl
      have hle : plAt p ax ≤ plAt q ax := by rcases hax with rfl | rfl <;> assumption
      rw [mem_betwA ax hax] at hx
      obtain ⟨b1, b2⟩ := come_at p ax at_ many hax
      obtain ⟨c1, c2⟩ := come_at q ax at_ many hax
      rw [b1, b2, c1, c2] at hx
      obtain ⟨⟨x1, x2⟩, x3⟩ := hx
      have mk : ∀ n, plAt p ax ≤ n → n ≤ plAt q ax → atNumber x ax n ∈ itM (.leaf (.area p f q g)) := fun n ha hb => by
        obtain ⟨e1, e2⟩ := at_an x ax n hax
        simp only [itM]
        rw [mem_betwA ax hax, e1, e2]
        exact ⟨⟨ha, hb⟩, x3⟩
      have cm : ∀ n, plAt (comePl (atNumber x ax n) ax at_ many) ax = (if n < at_ then n else n + many) ∧ plAt (comePl (atNumber x ax n) ax at_ many) (1 - ax) = plAt x (1 - ax) := fun n => by
        obtain ⟨e1, e2⟩ := at_an x ax n hax
        obtain ⟨d1, d2⟩ := come_at (atNumber x ax n) ax at_ many hax
        rw [d1, d2, e1, e2]
        exact ⟨rfl, rfl⟩
      have no : ∀ n, plAt p ax ≤ n → n ≤ plAt q ax → (if n < at_ then n else n + many) ≠ plAt x ax := fun n ha hb e => by
        obtain ⟨d1, d2⟩ := cm n
        exact hf _ (mk n ha hb) (pl_ext ax hax (by rw [d1, e]) d2)
      refine ⟨⟨?_, ?_⟩, ⟨_, mk (plAt p ax) (by omega) hle, (cm _).2, ?_⟩, ⟨_, mk (plAt q ax) hle (by omega), (cm _).2, ?_⟩⟩
      · refine Int.not_lt.mp fun hlt => ?_
        refine no (plAt x ax) ?_ ?_ (by rw [if_pos hlt])
        · split at x1 <;> omega
        · split at x2 <;> omega
      · refine Int.not_le.mp fun hge => ?_
        refine no (plAt x ax - many) ?_ ?_ (by rw [if_neg (by omega)]; omega)
        · split at x1 <;> omega
        · split at x2 <;> omega
      · rw [(cm _).1]; exact x1
      · rw [(cm _).1]; exact x2
    | _ => simp [It.mapP, itM] at hx
  | _ => simp [It.mapP, itM] at hx
theorem filter_len {α : Type} (p : α → Bool) : ∀ xs : List α, (xs.filter p).length + (xs.filter fun x => !p x).length = xs.length
  | [] => rfl
  | x :: xs => by
    have := filter_len p xs
    cases h : p x <;> simp [h] <;> omega
def minI (xs : List Int) : Int := (mnL xs).getD 0
theorem foldl_min (xs : List Int) (a : Int) : xs.foldl (fun a b => if b < a then b else a) a ≤ a ∧ ∀ x ∈ xs, xs.foldl (fun a b => if b < a then b else a) a ≤ x := by
  induction xs generalizing a with
  | nil => simp
  | cons b xs ih =>
    obtain ⟨h1, h2⟩ := ih (if b < a then b else a)
    simp only [List.foldl_cons]
    refine ⟨?_, fun x hx => ?_⟩
    · refine Int.le_trans h1 ?_; split <;> omega
    · rcases List.mem_cons.mp hx with rfl | hx
      · refine Int.le_trans h1 ?_; split <;> omega
      · exact h2 x hx
theorem minI_le {xs : List Int} {x : Int} (h : x ∈ xs) : minI xs ≤ x := by
  cases xs with
  | nil => simp at h
  | cons a xs =>
    simp only [minI, mnL, Option.getD_some]
    obtain ⟨h1, h2⟩ := foldl_min xs a
    rcases List.mem_cons.mp h with rfl | h
    · exact h1
    · exact h2 x h
theorem p_minL_lst (xs : List Int) (h : xs ≠ []) (st : Store) : prim1F .minL (.lst (xs.map .int)) st = .ok (.int (minI xs)) st := by
  simp only [prim1F, lstOf, intsOf_map]
  cases xs with
  | nil => simp at h
  | cons a xs => rfl
theorem in_plsL (st : Store) (p : Pl) (ps : List Pl) : inVal st (plD p) (.lst (ps.map plD)) = some (decide (p ∈ ps)) := by
  have hx : rsvs st (ps.map plD) = some (ps.map plD) := rsvs_nr (noRefs_pls ps)
  have hp : rsv st (plD p) = some (plD p) := rsv_nr rfl
  have hd := deps_pls ps
  have hc := cmpDs_pls ps
  have ha := any_pl p ps
  simp only [plsD] at hd hc ha
  unfold inVal
  simp only [dctOf, seqOf, lstOf]
  rw [if_neg (by simp [plD, scalar])]
  rw [hp, hx]
  simp only [hc, show cmpD (plD p) = true from rfl, show dep (plD p) ≤ 64 from (show 1 ≤ 64 by omega), show deps (ps.map plD) ≤ 63 by omega, decide_true, Bool.and_self, if_true, ha]
theorem eqv_plsL (st : Store) (ps : List Pl) : eqVal st (.lst (ps.map plD)) (.lst (ps.map plD)) = some true := by
  have hd := deps_pls ps
  have hc := cmpDs_pls ps
  simp only [plsD] at hd hc
  exact eqv_refl (by simp [noRefs_pls ps, show noRefs (ps.map plD) = true from noRefs_pls ps]) (by simp [hc]) (by simp only [dep_lst]; omega)

end FL
end
section
set_option maxRecDepth 100000
set_option maxHeartbeats 4000000
namespace FL
open MP
/-- the places that an item means -/
def itPl : It → List Pl
  | .leaf (.ref p _) => [p]
  | .leaf (.area p _ q _) => betw p q
  | _ => []
def putAll (g : List (Pl × Unit)) (ps : List Pl) : List (Pl × Unit) := ps.foldl (fun g p => tput g p ()) g
def meantK (t : Tr) : List (Pl × Unit) := t.items.foldl (fun g i => putAll g (itPl i)) []
def tt : Unit → D := fun _ => .bl true
theorem putAll_key : ∀ (ps : List Pl) (g : List (Pl × Unit)) (q : Pl), q ∈ (putAll g ps).map (·.1) ↔ q ∈ g.map (·.1) ∨ q ∈ ps
  | [], g, q => by simp [putAll]
  | p :: ps, g, q => by
    show q ∈ (putAll (tput g p ()) ps).map (·.1) ↔ _
    rw [putAll_key ps, tput_key_mem, List.mem_cons, or_assoc]
theorem putAll_N : ∀ (ps : List Pl) (g : List (Pl × Unit)), keyN g → keyN (putAll g ps)
  | [], g, h => h
  | p :: ps, g, h => by
    show keyN (putAll (tput g p ()) ps)
    exact putAll_N ps _ (tput_keyN h _ _)
theorem putAll_len : ∀ (ps : List Pl) (g : List (Pl × Unit)), (putAll g ps).length ≤ g.length + ps.length
  | [], g => by simp [putAll]
  | p :: ps, g => by
    have h := putAll_len ps (tput g p ())
    have h2 := tput_len g p ()
    show (putAll (tput g p ()) ps).length ≤ _
    rw [List.length_cons]
    omega
theorem meant_fold_key : ∀ (is : List It) (g : List (Pl × Unit)) (q : Pl), q ∈ (is.foldl (fun g i => putAll g (itPl i)) g).map (·.1) ↔ q ∈ g.map (·.1) ∨ ∃ i ∈ is, q ∈ itPl i
  | [], g, q => by simp
  | i :: is, g, q => by
    rw [List.foldl_cons, meant_fold_key is, putAll_key]
    simp only [List.mem_cons, exists_eq_or_imp, or_assoc]
theorem meant_fold_N : ∀ (is : List It) (g : List (Pl × Unit)), keyN g → keyN (is.foldl (fun g i => putAll g (itPl i)) g)
  | [], g, h => h
  | i :: is, g, h => meant_fold_N is _ (putAll_N _ _ h)
theorem mem_meantK {t : Tr} {q : Pl} : q ∈ (meantK t).map (·.1) ↔ ∃ i ∈ t.items, q ∈ itPl i := by
  unfold meantK
  rw [meant_fold_key]
  simp
theorem meantK_N (t : Tr) : keyN (meantK t) := meant_fold_N _ _ (by simp [keyN])
/-- what a tree comes to hangs on what it means alone -/
theorem val_congr {L L' : Pl → Vl} : ∀ t : Tr, (∀ i ∈ t.items, ∀ q ∈ itPl i, L q = L' q) → seenV L t (t.val L) = seenV L' t (t.val L') ∧ t.val L = t.val L' := Tr.ind fun t ih => fun h => by
  have hk : ∀ k ∈ t.kids, seenV L k (k.val L) = seenV L' k (k.val L') ∧ k.val L = k.val L' := fun k hk => ih k hk fun i hi => h i (by rw [items_eq]; exact List.mem_cons_of_mem _ (itemss_all hk hi))
  cases t with
  | num n => exact ⟨rfl, rfl⟩
  | gone => exact ⟨rfl, rfl⟩
  | ref p f =>
    have : L p = L' p := h (.leaf (.ref p f)) (by simp [Tr.items]) p (by simp [itPl])
    simp [seenV, Tr.val, this]
  | area p f q g =>
    refine ⟨?_, rfl⟩
    simp only [seenV]
    exact List.map_congr_left fun x hx => h (.leaf (.area p f q g)) (by simp [Tr.items]) x (by simpa [itPl] using hx)
  | minus a =>
    have := (hk a (by simp)).2
    simp [seenV, Tr.val, this]
  | two s a b =>
    have h1 := (hk a (by simp)).2
    have h2 := (hk b (by simp)).2
    simp [seenV, Tr.val, h1, h2]
  | pick a b c =>
    have h1 := (hk a (by simp)).2
    have h2 := (hk b (by simp)).2
    have h3 := (hk c (by simp)).2
    simp [seenV, Tr.val, h1, h2, h3]
  | over w ps =>
    have e : ∀ ts : List Tr, (∀ k ∈ ts, seenV L k (k.val L) = seenV L' k (k.val L')) → Tr.vals L ts = Tr.vals L' ts := by
      intro ts
      induction ts with
      | nil => intro _; rfl
      | cons k ks ih => intro h; rw [Tr.vals, Tr.vals, h k (by simp), ih fun u hu => h u (by simp [hu])]
    have := e ps fun k hk' => (hk k (by simpa using hk')).1
    simp [seenV, Tr.val, this]
theorem itPl_len {R C : Int} (hR : R ≤ 99) (hC : C ≤ 26) {t : Tr} (ho : t.Ok R C) {i : It} (hi : i ∈ t.items) : (itPl i).length ≤ 2574 := by
  cases i with
  | leaf u =>
    obtain ⟨hok, _⟩ := items_ok t (.inl ho) u hi
    cases u with
    | area p f q g =>
      have hk' : okA R C (.area p f q g) := by
        rcases hok with h | h
        · exact h.elim
        · exact h
      obtain ⟨h1, h2, _⟩ := hk'
      exact betw_small (h1.mono hR hC) (h2.mono hR hC)
    | _ => simp [itPl]
  | _ => simp [itPl]
theorem meant_fold_len : ∀ (is : List It) (g : List (Pl × Unit)), (∀ i ∈ is, (itPl i).length ≤ 2574) → (is.foldl (fun g i => putAll g (itPl i)) g).length ≤ g.length + is.length * 2574
  | [], g, _ => by simp
  | i :: is, g, h => by
    have h1 := meant_fold_len is (putAll g (itPl i)) fun j hj => h j (by simp [hj])
    have h2 := putAll_len (itPl i) g
    have h3 := h i (by simp)
    rw [List.foldl_cons, List.length_cons, Nat.add_mul]
    omega
theorem meantK_len (t : Tr) (R C : Int) (hR : R ≤ 99) (hC : C ≤ 26) (ho : t.Ok R C) (hn : t.nodes ≤ 1000) : (meantK t).length ≤ 2600000 := by
  have h := meant_fold_len t.items [] fun i hi => itPl_len hR hC ho hi
  rw [items_len] at h
  have : t.nodes * 2574 ≤ 1000 * 2574 := Nat.mul_le_mul_right _ hn
  unfold meantK
  simp only [List.length_nil] at h
  omega
@[simp] theorem nrE_tt (es : List (Pl × Unit)) : noRefE (encE tt es) = true := nrE_enc (by intro a; rfl) es

end FL
end
section
set_option maxRecDepth 100000
set_option maxHeartbeats 4000000
namespace FL
open MP
/-- dicts of lists of places -/
abbrev DL := List (Pl × List Pl)
def plsL (ps : List Pl) : D := .lst (ps.map plD)
def tt1 : Unit → D := fun _ => .bl true
def stD (s : List Pl) : List (Pl × Unit) := s.map fun p => (p, ())
@[simp] theorem stD_keys (s : List Pl) : (stD s).map (·.1) = s := by simp [stD, List.map_map, Function.comp_def]
@[simp] theorem nr_plsL (ps : List Pl) : noRef (plsL ps) = true := by simp [plsL, noRef, show noRefs (ps.map plD) = true from noRefs_pls ps]
@[simp] theorem nrE_plsL (ln : DL) : noRefE (encE plsL ln) = true := nrE_enc nr_plsL ln
@[simp] theorem nrE_tt1 (s : List (Pl × Unit)) : noRefE (encE tt1 s) = true := nrE_enc (by intro a; rfl) s
theorem in_enc {α : Type} (f : α → D) (es : List (Pl × α)) (p : Pl) (st : Store) : inVal st (plD p) (.dct (encE f es)) = some (decide (p ∈ es.map (·.1))) := by
  have e : (dget (encE f es) p).isSome = decide (p ∈ es.map (·.1)) := by
    rw [dget_enc]
    by_cases h : p ∈ es.map (·.1)
    · obtain ⟨v, hv⟩ := tget_some h
      simp only [hv, h]
      rfl
    · simp only [tget_none h, h]
      rfl
  rw [← e]
  simp [inVal, dctOf]
def waits (ln : DL) (s : List Pl) (p : Pl) : List Pl := ((tget ln p).getD []).filter fun o => decide (o ∈ ln.map (·.1)) && !decide (o ∈ s)
def free (ln : DL) (s : List Pl) (p : Pl) : Bool := !decide (p ∈ s) && (waits ln s p).isEmpty
def least (ln : DL) (ks s : List Pl) : Option Pl := ks.find? (free ln s)
def minP (ps : List Pl) : Pl := match ps with
  | [] => (0, 0)
  | p :: ps => ps.foldl (fun a y => if plLt y a then y else a) p
theorem p_minL_pls (ps : List Pl) (h : ps ≠ []) (st : Store) : prim1F .minL (.lst (ps.map plD)) st = .ok (plD (minP ps)) st := by
  cases ps with
  | nil => exact absurd rfl h
  | cons p ps =>
    have e : plsOf ((p :: ps).map plD) = some (p :: ps) := plsOf_pls (p :: ps)
    have e2 : intsOf ((p :: ps).map plD) = none := rfl
    simp only [prim1F, lstOf, e, e2, Option.bind_none, minP]
@[simp] theorem p_sorted_dct {α : Type} (m : Bool) (f : α → D) (es : List (Pl × α)) (st : Store) : prim1F (.sorted m) (.dct (encE f es)) st = mkL m ((sortP (es.map (·.1))).map plD) st := by
  simp only [prim1F, dctOf, encE, List.map_map]
  rfl
/-- how the order was made -/
structure Out (ln : DL) (ord : List Pl) : Prop where
  step : ∀ (i : Nat) (p : Pl), ord[i]? = some p → least ln (sortP (ln.map (·.1))) (ord.take i) = some p
  fin : least ln (sortP (ln.map (·.1))) ord = none
structure OkD (ln : DL) : Prop where
  key : keyN ln
  len : ln.length ≤ 1000
  lens : ∀ e ∈ ln, e.2.length ≤ 100000
/-- keys that a dict can be copied by -/
def SmK {α : Type} (es : List (Pl × α)) : Prop := ∀ k ∈ es.map (·.1), smallK k = true
theorem SmK.put {α : Type} {es : List (Pl × α)} (h : SmK es) {k : Pl} (hk : smallK k = true) (d : α) : SmK (tput es k d) := fun q hq => by
  rcases tput_key_mem.mp hq with hq | rfl
  · exact h q hq
  · exact hk
def nextsD (ln : DL) (ord : List Pl) : List (Pl × Pl) := ((sortP (ln.map (·.1))).filter fun p => !decide (p ∈ ord)).map fun p => (p, minP (waits ln ord p))
theorem least_mem {ln : DL} {ks s : List Pl} {p : Pl} (h : least ln ks s = some p) : p ∈ ks ∧ p ∉ s ∧ waits ln s p = [] := by
  unfold least at h
  have h1 := List.find?_some h
  have h2 := List.mem_of_find?_eq_some h
  unfold free at h1
  simp only [Bool.and_eq_true, Bool.not_eq_true', decide_eq_false_iff_not, List.isEmpty_iff] at h1
  exact ⟨h2, h1.1, h1.2⟩
theorem least_none {ln : DL} {ks s : List Pl} (h : least ln ks s = none) {p : Pl} (hp : p ∈ ks) (hs : p ∉ s) : waits ln s p ≠ [] := by
  unfold least at h
  have := List.find?_eq_none.mp h p hp
  unfold free at this
  simp only [Bool.and_eq_true, Bool.not_eq_true', decide_eq_false_iff_not, List.isEmpty_iff] at this
  intro e
  exact this ⟨hs, e⟩
theorem keys_mem {ln : DL} {p : Pl} : p ∈ sortP (ln.map (·.1)) ↔ p ∈ ln.map (·.1) := (sortP_perm _).mem_iff
theorem keys_nodup {ln : DL} (h : keyN ln) : (sortP (ln.map (·.1))).Nodup := (sortP_perm _).nodup_iff.mpr h
theorem tget_len {ln : DL} (h : OkD ln) {p : Pl} {ps : List Pl} (hg : tget ln p = some ps) : ps.length ≤ 100000 := h.lens _ (tget_mem hg)
theorem tput_new {α : Type} {es : List (Pl × α)} {k : Pl} (h : k ∉ es.map (·.1)) (d : α) : tput es k d = es ++ [(k, d)] := by
  unfold tput
  rw [any_key, if_neg (by simpa using h)]
theorem nodup_len {α : Type} [DecidableEq α] : ∀ {s k : List α}, s.Nodup → (∀ x ∈ s, x ∈ k) → s.length ≤ k.length
  | [], _, _, _ => by simp
  | x :: s, k, h, hs => by
    rw [List.nodup_cons] at h
    have hx := hs x (by simp)
    have := nodup_len (k := k.erase x) h.2 fun y hy => by
      have hne : y ≠ x := fun e => h.1 (by rw [← e]; exact hy)
      exact (List.mem_erase_of_ne hne).mpr (hs y (by simp [hy]))
    rw [List.length_erase_of_mem hx] at this
    have := List.length_pos_of_mem hx
    rw [List.length_cons]
    omega
theorem in_encC {α : Type} {f : α → D} {es : List (Pl × α)} {st : Store} {n : Nat} (h : st[n]? = some (.dct (encE f es))) (p : Pl) : inVal st (plD p) (.ref n) = some (decide (p ∈ es.map (·.1))) := by
  have := in_enc f es p st
  unfold inVal at this ⊢
  simp only [dctOf, h] at this ⊢
  exact this
theorem p_minL_plsC {ps : List Pl} (hne : ps ≠ []) {st : Store} {n : Nat} (h : st[n]? = some (.lst (ps.map plD))) : prim1F .minL (.ref n) st = .ok (plD (minP ps)) st := by
  have := p_minL_pls ps hne st
  simp only [prim1F, lstOf, h] at this ⊢
  exact this
theorem putT (s : List Pl) (p : Pl) (h : p ∉ s) : dput (encE tt1 (stD s)) p (.bl true) = encE tt1 (stD (s ++ [p])) := by
  have := dput_enc tt1 (stD s) p ()
  rw [tput_new (by rw [stD_keys]; exact h)] at this
  rw [show (D.bl true) = tt1 () from rfl, this]
  simp [stD]
/-- the order is one -/
theorem out_uniq {ln : DL} {a b : List Pl} (ha : Out ln a) (hb : Out ln b) : a = b := by
  have key : ∀ i, a.take i = b.take i := fun i => by
    induction i with
    | zero => rfl
    | succ i ih =>
      rw [List.take_succ, List.take_succ, ih]
      congr 1
      cases h1 : a[i]? with
      | some p =>
        have h2 := ha.step i p h1
        rw [ih] at h2
        cases h3 : b[i]? with
        | some q =>
          have h4 := hb.step i q h3
          rw [h4] at h2
          rw [h2]
        | none =>
          have h5 : b.take i = b := List.take_of_length_le (List.getElem?_eq_none_iff.mp h3)
          rw [h5, hb.fin] at h2
          cases h2
      | none =>
        have h5 : a.take i = a := List.take_of_length_le (List.getElem?_eq_none_iff.mp h1)
        cases h3 : b[i]? with
        | some q =>
          have h4 := hb.step i q h3
          rw [← ih, h5, ha.fin] at h4
          cases h4
        | none => rfl
  have h := key (max a.length b.length)
  rw [List.take_of_length_le (by omega), List.take_of_length_le (by omega)] at h
  exact h

end FL
end
section
set_option maxRecDepth 100000
set_option maxHeartbeats 4000000
namespace FL
open MP
/-! contents of a sheet, and what they show -/
inductive Ct where
  | i (n : Int) | f (t : Tr)
  deriving Inhabited
def ctD : Ct → D
  | .i n => .int n
  | .f t => trD t
@[simp] theorem ctD_i (n : Int) : ctD (.i n) = .int n := (rfl)
@[simp] theorem ctD_f (t : Tr) : ctD (.f t) = trD t := (rfl)
@[simp] theorem nr_ct (c : Ct) : noRef (ctD c) = true := by cases c <;> simp
@[simp] theorem cmp_ct (c : Ct) : cmpD (ctD c) = true := by
  cases c with
  | i n => rfl
  | f t => exact cmp_tr t
@[simp] theorem nrE_ct (C : List (Pl × Ct)) : noRefE (encE ctD C) = true := nrE_enc (by simp) C
def Ct.Ok : Ct → Prop
  | .i n => small n
  | .f t => t.Ok 99 26 ∧ t.dep ≤ 12 ∧ t.nodes ≤ 1000
structure COk (C : List (Pl × Ct)) : Prop where
  key : keyN C
  len : C.length ≤ 1000
  ok : ∀ e ∈ C, e.2.Ok
theorem COk.get {C : List (Pl × Ct)} (h : COk C) {p : Pl} {c : Ct} (hg : tget C p = some c) : c.Ok := h.ok _ (tget_mem hg)
def ringT : Tx := [114, 105, 110, 103]
def leanF (C : List (Pl × Ct)) (p : Pl) : Option (Pl × List Pl) := match tget C p with
  | some (.f t) => some (p, t.mpl)
  | _ => none
def leansF (C : List (Pl × Ct)) : DL := (sortP (C.map (·.1))).filterMap (leanF C)
theorem leanF_fst {C : List (Pl × Ct)} {p : Pl} {e : Pl × List Pl} (h : leanF C p = some e) : e.1 = p ∧ ∃ t, tget C p = some (.f t) ∧ e.2 = t.mpl := by
  unfold leanF at h
  split at h
  · rename_i t ht
    simp only [Option.some.injEq] at h
    subst h
    exact ⟨rfl, t, ht, rfl⟩
  · cases h
theorem fm_nodup {C : List (Pl × Ct)} : ∀ {ps : List Pl}, ps.Nodup → keyN (ps.filterMap (leanF C))
  | [], _ => by simp [keyN]
  | p :: ps, h => by
    rw [List.nodup_cons] at h
    have ih := fm_nodup (C := C) h.2
    rw [List.filterMap_cons]
    cases hp : leanF C p with
    | none => exact ih
    | some e =>
      unfold keyN at *
      simp only [List.map_cons, List.nodup_cons]
      refine ⟨fun hm => ?_, ih⟩
      obtain ⟨f, hf, e2⟩ := List.mem_map.mp hm
      obtain ⟨q, hq, hf⟩ := List.mem_filterMap.mp hf
      rw [(leanF_fst hf).1, (leanF_fst hp).1] at e2
      exact h.1 (by rw [← e2]; exact hq)
theorem ckeys_mem {α : Type} {C : List (Pl × α)} {p : Pl} : p ∈ sortP (C.map (·.1)) ↔ p ∈ C.map (·.1) := (sortP_perm _).mem_iff
theorem ckeys_nodup {α : Type} {C : List (Pl × α)} (h : keyN C) : (sortP (C.map (·.1))).Nodup := (sortP_perm _).nodup_iff.mpr h
theorem plLe_ne {a b : Pl} (h : plLe a b = true) (hn : a ≠ b) : lexLt a b := by
  unfold plLe at h
  unfold lexLt
  simp at h
  have : ¬ (a.1 = b.1 ∧ a.2 = b.2) := fun ⟨h1, h2⟩ => hn (Prod.ext h1 h2)
  omega
theorem ckeys_lex {α : Type} {C : List (Pl × α)} (h : keyN C) : (sortP (C.map (·.1))).Pairwise lexLt := by
  have h1 := sortP_sorted (C.map (·.1))
  have h2 := ckeys_nodup h
  rw [List.nodup_iff_pairwise_ne] at h2
  exact (h1.and h2).imp fun {a b} ⟨x, y⟩ => plLe_ne x y
theorem leansF_key {C : List (Pl × Ct)} (h : keyN C) : keyN (leansF C) := fm_nodup (ckeys_nodup h)
theorem leansF_get {C : List (Pl × Ct)} (h : keyN C) (p : Pl) : tget (leansF C) p = match tget C p with | some (.f t) => some t.mpl | _ => none := by
  cases hp : leanF C p with
  | none =>
    have h1 : p ∉ (leansF C).map (·.1) := fun hm => by
      obtain ⟨e, he, e2⟩ := List.mem_map.mp hm
      obtain ⟨q, hq, he⟩ := List.mem_filterMap.mp he
      have := (leanF_fst he).1
      rw [this] at e2
      rw [e2, hp] at he
      cases he
    rw [tget_none h1]
    unfold leanF at hp
    split at hp
    · cases hp
    · rename_i hn
      cases hg : tget C p with
      | none => rfl
      | some c => cases c with
        | i n => rfl
        | f t => exact absurd hg (hn t)
  | some e =>
    obtain ⟨h1, t, ht, h2⟩ := leanF_fst hp
    have hk : p ∈ sortP (C.map (·.1)) := ckeys_mem.mpr (List.mem_map.mpr ⟨_, tget_mem ht, rfl⟩)
    have hm : e ∈ leansF C := List.mem_filterMap.mpr ⟨p, hk, hp⟩
    have := tget_of_mem (leansF_key h) hm
    rw [h1] at this
    rw [this, ht, h2]
theorem leansF_mem {C : List (Pl × Ct)} (h : keyN C) (p : Pl) : p ∈ (leansF C).map (·.1) ↔ ∃ t, tget C p = some (.f t) := by
  constructor
  · intro hm
    obtain ⟨v, hv⟩ := tget_some hm
    rw [leansF_get h] at hv
    split at hv
    · rename_i t ht; exact ⟨t, ht⟩
    · cases hv
  · rintro ⟨t, ht⟩
    have := leansF_get h p
    rw [ht] at this
    exact List.mem_map.mpr ⟨_, tget_mem this, rfl⟩
theorem leansF_ok {C : List (Pl × Ct)} (h : COk C) : OkD (leansF C) where
  key := leansF_key h.key
  len := by
    have h1 := List.length_filterMap_le (leanF C) (sortP (C.map (·.1)))
    rw [(sortP_perm _).length_eq, List.length_map] at h1
    have := h.len
    unfold leansF
    omega
  lens := fun e he => by
    obtain ⟨q, hq, he⟩ := List.mem_filterMap.mp he
    obtain ⟨_, t, ht, h2⟩ := leanF_fst he
    have h3 : InA t := Tr.Ok.inA (R := 99) (C := 26) (by omega) (by omega) (.inl (h.get ht).1)
    rw [h2]
    have := h3.len
    omega
/-- what is shown ahead of the reckoning -/
def firstC (K : List Pl) (e : Pl × Ct) : Option (Pl × Vl) := match e.2 with
  | .i n => some (e.1, .i n)
  | .f _ => if e.1 ∈ K then some (e.1, .s ringT) else none
def firstF (C : List (Pl × Ct)) (K : List Pl) : List (Pl × Vl) := C.filterMap (firstC K)
theorem firstC_fst {K : List Pl} {e : Pl × Ct} {x : Pl × Vl} (h : firstC K e = some x) : x.1 = e.1 := by
  unfold firstC at h
  split at h
  · cases h; rfl
  · split at h
    · cases h; rfl
    · cases h
theorem firstF_key {C : List (Pl × Ct)} (K : List Pl) (h : keyN C) : keyN (firstF C K) := by
  induction C with
  | nil => simp [firstF, keyN]
  | cons e C ih =>
    unfold keyN at h
    rw [List.map_cons, List.nodup_cons] at h
    have ih := ih h.2
    unfold firstF at *
    rw [List.filterMap_cons]
    cases he : firstC K e with
    | none => exact ih
    | some x =>
      unfold keyN at *
      simp only [List.map_cons, List.nodup_cons]
      refine ⟨fun hm => ?_, ih⟩
      obtain ⟨f, hf, e2⟩ := List.mem_map.mp hm
      obtain ⟨q, hq, hf⟩ := List.mem_filterMap.mp hf
      rw [firstC_fst hf, firstC_fst he] at e2
      exact h.1 (by rw [← e2]; exact List.mem_map.mpr ⟨q, hq, rfl⟩)
theorem firstF_get {C : List (Pl × Ct)} (K : List Pl) (h : keyN C) (p : Pl) : tget (firstF C K) p = match tget C p with | some (.i n) => some (.i n) | some (.f _) => if p ∈ K then some (.s ringT) else none | none => none := by
  induction C with
  | nil => rfl
  | cons e C ih =>
    unfold keyN at h
    rw [List.map_cons, List.nodup_cons] at h
    have ih := ih h.2
    unfold firstF at *
    rw [List.filterMap_cons, tget_cons]
    by_cases he : e.1 = p
    · subst he
      rw [if_pos rfl]
      have hn : tget (C.filterMap (firstC K)) e.1 = none := by
        rw [ih]
        rw [tget_none h.1]
      unfold firstC
      cases hc : e.2 with
      | i n => simp [tget_cons]
      | f t =>
        by_cases hK : e.1 ∈ K
        · simp [tget_cons, hK]
        · simp only [hK, if_false]
          exact hn
    · rw [if_neg he]
      cases hx : firstC K e with
      | none => exact ih
      | some x =>
        simp only [tget_cons, firstC_fst hx, he, if_false]
        exact ih
theorem okT_ring : okT ringT := .inr (.inr (.inr rfl))
theorem firstF_ok {C : List (Pl × Ct)} (K : List Pl) (h : COk C) : okE (firstF C K) := fun x hx => by
  obtain ⟨e, he, hx⟩ := List.mem_filterMap.mp hx
  have := h.ok e he
  unfold firstC at hx
  split at hx
  · rename_i n hn
    cases hx
    rw [hn] at this
    simpa [Ct.Ok, Vl.Ok] using this
  · split at hx
    · cases hx; exact okT_ring
    · cases hx
/-! ### settling -/
def reasonF (A S : List (Pl × Vl)) (os : List Pl) (p : Pl) (ms : List Pl) : Option Pl :=
  if p ∈ os ∨ lookV A p = .s ringT then some p else ms.find? fun q => decide (lookV A q ≠ lookV S q)
abbrev SL := List (Pl × Vl) × List (Pl × Pl)
def stepF (C : List (Pl × Ct)) (A : List (Pl × Vl)) (os : List Pl) (g : SL) (p : Pl) : SL := match tget C p with
  | some (.f t) => match reasonF A g.1 os p t.mpl with
    | none => (tput g.1 p (lookV A p), g.2)
    | some q => (tput g.1 p (t.val (lookV g.1)), g.2 ++ [(p, q)])
  | _ => g
def stuckK (C : List (Pl × Ct)) (ord : List Pl) : List Pl := (nextsD (leansF C) ord).map (·.1)
def settleF (C : List (Pl × Ct)) (A : List (Pl × Vl)) (os ord : List Pl) : SL := ord.foldl (stepF C A os) (firstF C (stuckK C ord), [])
def keptF (sh : List (Pl × Vl)) : List (Pl × Vl) := (sortP (sh.map (·.1))).map fun p => (p, lookV sh p)
theorem stuck_mem {C : List (Pl × Ct)} (h : keyN C) (ord : List Pl) (p : Pl) : p ∈ stuckK C ord ↔ (∃ t, tget C p = some (.f t)) ∧ p ∉ ord := by
  unfold stuckK nextsD
  rw [List.map_map, List.mem_map]
  constructor
  · rintro ⟨q, hq, rfl⟩
    rw [List.mem_filter, keys_mem, leansF_mem h] at hq
    exact ⟨hq.1, by simpa using hq.2⟩
  · rintro ⟨h1, h2⟩
    exact ⟨p, by rw [List.mem_filter, keys_mem, leansF_mem h]; exact ⟨h1, by simpa using h2⟩, rfl⟩
theorem kept_keys (sh : List (Pl × Vl)) : (keptF sh).map (·.1) = sortP (sh.map (·.1)) := by
  unfold keptF
  rw [List.map_map]
  exact List.map_id'' (fun _ => rfl) _
theorem kept_keyN {sh : List (Pl × Vl)} (h : keyN sh) : keyN (keptF sh) := by unfold keyN; rw [kept_keys]; exact ckeys_nodup h
theorem kept_get {sh : List (Pl × Vl)} (h : keyN sh) (p : Pl) : tget (keptF sh) p = tget sh p := by
  by_cases hp : p ∈ sh.map (·.1)
  · obtain ⟨v, hv⟩ := tget_some hp
    have hm : (p, lookV sh p) ∈ keptF sh := List.mem_map.mpr ⟨p, ckeys_mem.mpr hp, rfl⟩
    have := tget_of_mem (kept_keyN h) hm
    simp only at this
    rw [this, hv, lookV, hv]
    rfl
  · rw [tget_none hp, tget_none (by rw [kept_keys, ckeys_mem]; exact hp)]
theorem kept_look {sh : List (Pl × Vl)} (h : keyN sh) (p : Pl) : lookV (keptF sh) p = lookV sh p := by unfold lookV; rw [kept_get h]
theorem kept_ok {sh : List (Pl × Vl)} (h : okE sh) : okE (keptF sh) := fun e he => by
  obtain ⟨p, _, rfl⟩ := List.mem_map.mp he
  exact lookV_ok h p
theorem look_put (g : List (Pl × Vl)) (p : Pl) (v : Vl) (q : Pl) : lookV (tput g p v) q = if q = p then v else lookV g q := by
  unfold lookV
  rw [tget_put]
  split <;> rfl
theorem okE_put {g : List (Pl × Vl)} (h : okE g) (p : Pl) {v : Vl} (hv : v.Ok) : okE (tput g p v) := fun e he => by
  rcases tput_mem he with he | rfl
  · exact h e he
  · exact hv
/-- the state on the way -/
structure SOk (C : List (Pl × Ct)) (done : List Pl) (g : SL) : Prop where
  key : keyN g.1
  ok : okE g.1
  len : g.1.length ≤ C.length + done.length
  log : g.2.length ≤ done.length
theorem step_ok {C : List (Pl × Ct)} (hC : COk C) {A : List (Pl × Vl)} (hA : okE A) (os : List Pl) {done : List Pl} {g : SL} (h : SOk C done g) (p : Pl) : SOk C (done ++ [p]) (stepF C A os g p) := by
  have hd : (done ++ [p]).length = done.length + 1 := by simp
  unfold stepF
  split
  · rename_i t ht
    split
    · have := tput_len g.1 p (lookV A p)
      exact ⟨tput_keyN h.key _ _, okE_put h.ok p (lookV_ok hA p), by have := h.len; simp only; omega, by have := h.log; simp only; omega⟩
    · rename_i q hq
      have := tput_len g.1 p (t.val (lookV g.1))
      exact ⟨tput_keyN h.key _ _, okE_put h.ok p (val_ok (R := 99) (C := 26) (by omega) (by omega) (lookV_ok h.ok) t (hC.get ht).1).ok, by have := h.len; simp only; omega, by have := h.log; simp only [List.length_append, List.length_singleton]; omega⟩
  · exact ⟨h.key, h.ok, by have := h.len; omega, by have := h.log; omega⟩
theorem first_sok {C : List (Pl × Ct)} (hC : COk C) (K : List Pl) : SOk C [] (firstF C K, []) :=
  ⟨firstF_key K hC.key, firstF_ok K hC, by have := List.length_filterMap_le (firstC K) C; simpa [firstF] using this, by simp⟩
theorem fold_sok {C : List (Pl × Ct)} (hC : COk C) {A : List (Pl × Vl)} (hA : okE A) (os : List Pl) : ∀ (rest done : List Pl) (g : SL), SOk C done g → SOk C (done ++ rest) (rest.foldl (stepF C A os) g)
  | [], done, g, h => by simpa using h
  | p :: r, done, g, h => by
    have := fold_sok hC hA os r (done ++ [p]) _ (step_ok hC hA os h p)
    simpa using this
theorem settle_sok {C : List (Pl × Ct)} (hC : COk C) {A : List (Pl × Vl)} (hA : okE A) (os ord : List Pl) : SOk C ord (settleF C A os ord) := by
  have := fold_sok hC hA os ord [] _ (first_sok hC (stuckK C ord))
  rw [List.nil_append] at this
  exact this
theorem eqv_vl (st : Store) (a b : Vl) : eqVal st (vlD a) (vlD b) = some (decide (a = b)) := by
  cases a <;> cases b <;> simp [eqVal, scalar, eqD, Bool.beq_eq_decide_eq]
theorem eqv_vls (st : Store) (a : Vl) (t : Tx) : eqVal st (vlD a) (.str t) = some (decide (a = .s t)) := eqv_vl st a (.s t)
theorem dget_vl (es : List (Pl × Vl)) (p : Pl) : (dget (encE vlD es) p).getD .non = vlD (lookV es p) := look_get es p
theorem findSome_if {α β : Type} (c : α → Bool) (f : α → β) : ∀ xs : List α, xs.findSome? (fun q => if c q = true then some (f q) else none) = (xs.find? c).map f
  | [] => rfl
  | x :: xs => by
    rw [List.findSome?_cons, List.find?_cons]
    cases h : c x with
    | true => simp
    | false => simp only [Bool.false_eq_true, if_false]; exact findSome_if c f xs
def lgD (e : Pl × Pl) : D := .tup [plD e.1, plD e.2]
theorem nrs_lg (l : List (Pl × Pl)) : noRefs (l.map lgD) = true := nrs_map (fun _ => rfl) l
theorem fRs_lg : ∀ (l : List (Pl × Pl)), flatRs (l.map lgD) = true
  | [] => rfl
  | e :: l => by rw [List.map_cons, flatRs, fRs_lg l]; rfl
theorem fRE_vl : ∀ (es : List (Pl × Vl)), flatRE (encE vlD es) = true
  | [] => rfl
  | e :: es => by
    have := fRE_vl es
    simp only [encE] at this
    simp [encE, flatRE, this]
@[simp] theorem nrE_vl (es : List (Pl × Vl)) : noRefE (encE vlD es) = true := nrE_enc (by simp) es

end FL
end
section
set_option maxRecDepth 100000
set_option maxHeartbeats 4000000
namespace FL
open MP
def mixI (c k : Int) : Int := (c * 48271 + k * 69621 + 11) % 1000003
def refC (c : Int) (far : Pl) : Tr := .ref (far.1 + c % 4, far.2 + c / 4 % 4) (decide (c / 16 % 2 = 1), decide (c / 32 % 2 = 1))
def areaC (c : Int) (far : Pl) : Tr := .area (far.1 + c % 4, far.2 + c / 4 % 4) (false, true) (far.1 + max (c % 4) (c / 16 % 4), far.2 + max (c / 4 % 4) (c / 64 % 4)) (false, false)
def partC (T : Int → Tr) (c : Int) (far : Pl) (k : Int) : Tr :=
  if mixI c (k + 5) % 3 = 0 ∨ (1 < k ∧ mixI c (k + 5) % 3 = 1) then refC (mixI c (k + 5) / 3) far
  else if mixI c (k + 5) % 3 = 1 then T (mixI c (k + 5) / 3) else areaC (mixI c (k + 5) / 3) far
def overC (T : Int → Tr) (c : Int) (far : Pl) (d : Int) : Tr := .over (wordT c) ((rangeI 0 (1 + c / 3 % (2 + 2 * d))).map (partC T c far))
def leafC (m : Int) (far : Pl) : Tr := if m % 4 * (m / 4 % 2) = 1 then .num (m % 11) else if m % 4 * (m / 4 % 2) = 3 then .gone else refC m far
def treeC (far : Pl) : Nat → Int → Tr
  | 0, c => leafC (c / 9) far
  | d + 1, c => if c % 9 = 0 then leafC (c / 9) far else if c % 9 < 3 then overC (treeC far d) (c / 9) far (d + 1)
    else if c % 9 = 3 then .minus (treeC far d (mixI c 1))
    else if c % 9 = 4 then .pick (refC (c / 9) far) (treeC far d (mixI c 1)) (treeC far d (mixI c 2))
    else if c % 9 = 5 then .pick (treeC far d (mixI c 1)) (treeC far d (mixI c 2)) (treeC far d (mixI c 3))
    else if c % 9 = 6 then .two [43] (refC (c / 9) far) (.num 1)
    else .two (signT (c / 9)) (treeC far d (mixI c 1)) (treeC far d (mixI c 2))
def farOk (far : Pl) : Prop := 0 ≤ far.1 ∧ far.1 ≤ 95 ∧ 0 ≤ far.2 ∧ far.2 ≤ 22
def bndC : Nat → Nat
  | 0 => 1
  | d + 1 => 8 * bndC d + 1
structure DOk (d : Nat) (t : Tr) : Prop where
  ok : t.Ok 99 26
  dep : t.dep ≤ d + 1
  nodes : t.nodes ≤ bndC d
theorem bndC_pos : ∀ d, 1 ≤ bndC d
  | 0 => by decide
  | d + 1 => by rw [bndC]; omega
theorem refC_ok (c : Int) {far : Pl} (h : farOk far) (d : Nat) : DOk d (refC c far) := by
  obtain ⟨h1, h2, h3, h4⟩ := h
  refine ⟨⟨?_, ?_, ?_, ?_⟩, by simp [refC, Tr.dep], by have := bndC_pos d; simp only [refC, Tr.nodes]; omega⟩ <;> simp only <;> omega
theorem leafC_ok (m : Int) {far : Pl} (h : farOk far) (d : Nat) : DOk d (leafC m far) := by
  unfold leafC
  split
  · exact ⟨⟨by omega, by omega⟩, by simp [Tr.dep], by have := bndC_pos d; simp only [Tr.nodes]; omega⟩
  · split
    · exact ⟨trivial, by simp [Tr.dep], by have := bndC_pos d; simp only [Tr.nodes]; omega⟩
    · exact refC_ok m h d
theorem areaC_ok (c : Int) {far : Pl} (h : farOk far) : okA 99 26 (areaC c far) := by
  obtain ⟨h1, h2, h3, h4⟩ := h
  refine ⟨⟨?_, ?_, ?_, ?_⟩, ⟨?_, ?_, ?_, ?_⟩, ?_, ?_⟩ <;> simp only <;> omega
theorem nodess_bnd {b : Nat} : ∀ ts : List Tr, (∀ t ∈ ts, t.nodes ≤ b) → Tr.nodess ts ≤ ts.length * b
  | [], _ => by simp [Tr.nodess]
  | t :: ts, h => by
    have h1 := nodess_bnd ts fun u hu => h u (by simp [hu])
    have h2 := h t (by simp)
    rw [Tr.nodess, List.length_cons, Nat.add_mul]
    omega
theorem treeC_ok {far : Pl} (h : farOk far) : ∀ (d : Nat) (c : Int), d ≤ 3 → DOk d (treeC far d c)
  | 0, c, _ => by rw [treeC]; exact leafC_ok _ h 0
  | d + 1, c, hd => by
    have ih := fun c => treeC_ok h d c (by omega)
    have hb := bndC_pos d
    have hb1 : bndC (d + 1) = 8 * bndC d + 1 := rfl
    have hr := refC_ok (c / 9) h d
    rw [treeC]
    split
    · exact leafC_ok _ h _
    split
    · unfold overC
      have hlen : ((rangeI 0 (1 + c / 9 / 3 % (2 + 2 * ((d : Int) + 1)))).map (partC (treeC far d) (c / 9) far)).length = (1 + c / 9 / 3 % (2 + 2 * ((d : Int) + 1))).toNat := by rw [List.length_map, rangeI_length]; omega
      have m0 := Int.emod_nonneg (c / 9 / 3) (show (2 + 2 * ((d : Int) + 1)) ≠ 0 by omega)
      have m1 := Int.emod_lt_of_pos (c / 9 / 3) (show 0 < (2 + 2 * ((d : Int) + 1)) by omega)
      have hp : ∀ u ∈ (rangeI 0 (1 + c / 9 / 3 % (2 + 2 * ((d : Int) + 1)))).map (partC (treeC far d) (c / 9) far), (okA 99 26 u ∨ u.Ok 99 26) ∧ u.dep ≤ d + 1 ∧ u.nodes ≤ bndC d := fun u hu => by
        obtain ⟨k, _, rfl⟩ := List.mem_map.mp hu
        unfold partC
        split
        · have := refC_ok (mixI (c / 9) (k + 5) / 3) h d
          exact ⟨.inr this.ok, this.dep, this.nodes⟩
        · split
          · have := ih (mixI (c / 9) (k + 5) / 3)
            exact ⟨.inr this.ok, this.dep, this.nodes⟩
          · exact ⟨.inl (areaC_ok _ h), by simp [areaC, Tr.dep], by simp only [areaC, Tr.nodes]; omega⟩
      refine ⟨ok_over.mpr ⟨⟨wordT_ok _, by omega, by omega⟩, fun u hu => (hp u hu).1⟩, ?_, ?_⟩
      · rw [dep_eq]
        have := deps_le (n := d + 1) fun u hu => (hp u hu).2.1
        simp only [kids_over]
        omega
      · rw [nodes_eq]
        have := nodess_bnd _ fun u hu => (hp u hu).2.2
        simp only [kids_over]
        have h8 : ((rangeI 0 (1 + c / 9 / 3 % (2 + 2 * ((d : Int) + 1)))).map (partC (treeC far d) (c / 9) far)).length * bndC d ≤ 8 * bndC d := Nat.mul_le_mul_right _ (by omega)
        omega
    split
    · have := ih (mixI c 1)
      exact ⟨this.ok, by have := this.dep; simp only [Tr.dep]; omega, by have := this.nodes; simp only [Tr.nodes]; omega⟩
    split
    · have h1 := ih (mixI c 1)
      have h2 := ih (mixI c 2)
      exact ⟨⟨hr.ok, h1.ok, h2.ok⟩, by have := h1.dep; have := h2.dep; have := hr.dep; simp only [Tr.dep]; omega, by have := h1.nodes; have := h2.nodes; have := hr.nodes; simp only [Tr.nodes]; omega⟩
    split
    · have h1 := ih (mixI c 1)
      have h2 := ih (mixI c 2)
      have h3 := ih (mixI c 3)
      exact ⟨⟨h1.ok, h2.ok, h3.ok⟩, by have := h1.dep; have := h2.dep; have := h3.dep; simp only [Tr.dep]; omega, by have := h1.nodes; have := h2.nodes; have := h3.nodes; simp only [Tr.nodes]; omega⟩
    split
    · exact ⟨⟨.inl rfl, hr.ok, by constructor <;> decide⟩, by have := hr.dep; simp only [Tr.dep]; omega, by have := hr.nodes; simp only [Tr.nodes]; omega⟩
    · have h1 := ih (mixI c 1)
      have h2 := ih (mixI c 2)
      exact ⟨⟨signT_ok _, h1.ok, h2.ok⟩, by have := h1.dep; have := h2.dep; simp only [Tr.dep]; omega, by have := h1.nodes; have := h2.nodes; simp only [Tr.nodes]; omega⟩
theorem sign_ixL (i : Int) : atL [D.str [43], D.str [45], D.str [42], D.str [47], D.str [60], D.str [61]] (i % 6) = some (.str (signT i)) := by
  have h : i % 6 = 0 ∨ i % 6 = 1 ∨ i % 6 = 2 ∨ i % 6 = 3 ∨ i % 6 = 4 ∨ i % 6 = 5 := by omega
  unfold signT
  rcases h with h | h | h | h | h | h <;> rw [h] <;> rfl
/-- what a cell's content is drawn to be -/
def contC (c : Int) (far : Pl) : Option Ct :=
  if c % 8 = 0 then none
  else if c % 8 < 4 then some (.i (if c / 72 % 8 / 2 * (c / 576 % 2) = 0 then c / 8 % 9 - 4 else if c / 72 % 8 / 2 * (c / 576 % 2) = 1 then 0 else if c / 72 % 8 / 2 * (c / 576 % 2) = 2 then c ^ 5 else -c ^ 5))
  else some (.f (treeC far (1 + c % 3).toNat (c / 8)))
def ctO : Option Ct → D
  | none => .non
  | some c => ctD c
theorem contC_ok {c : Int} {far : Pl} (h : farOk far) (h0 : 0 ≤ c) (h1 : c < 62501) {x : Ct} (hx : contC c far = some x) : x.Ok := by
  unfold contC at hx
  split at hx
  · cases hx
  split at hx
  · simp only [Option.some.injEq] at hx
    subst hx
    obtain ⟨n, rfl⟩ : ∃ n : Nat, c = (n : Int) := ⟨c.toNat, by omega⟩
    have h5 : n ^ 5 ≤ 62501 ^ 5 := Nat.pow_le_pow_left (by omega) 5
    have h6 : ((n : Int)) ^ 5 = ((n ^ 5 : Nat) : Int) := by rw [Int.natCast_pow]
    rw [h6]
    show small _
    unfold small
    have h8 : (62501 : Nat) ^ 5 < 10 ^ 30 := by decide
    generalize n ^ 5 = z at *
    have h9 : (10 : Nat) ^ 30 = 1000000000000000000000000000000 := by decide
    split
    · omega
    · split
      · omega
      · split <;> omega
  · simp only [Option.some.injEq] at hx
    subst hx
    have := treeC_ok h (1 + c % 3).toNat (c / 8) (by omega)
    refine ⟨this.ok, by have := this.dep; omega, ?_⟩
    have h2 := this.nodes
    have h3 : (1 + c % 3).toNat = 1 ∨ (1 + c % 3).toNat = 2 ∨ (1 + c % 3).toNat = 3 := by omega
    rcases h3 with h3 | h3 | h3 <;> rw [h3] at h2 ⊢ <;> simp only [bndC] at h2 <;> omega
/-- contents on the way: few, well made, at places that a dict can be copied by -/
structure CS (n : Nat) (C : List (Pl × Ct)) : Prop where
  key : keyN C
  len : C.length ≤ n
  ok : ∀ e ∈ C, e.2.Ok
  sm : SmK C
theorem CS.nil : CS 0 [] := ⟨by simp [keyN], by simp, by simp, by simp [SmK]⟩
theorem CS.put {n : Nat} {C : List (Pl × Ct)} (h : CS n C) {p : Pl} {c : Ct} (hp : smallK p = true) (hc : c.Ok) : CS (n + 1) (tput C p c) :=
  ⟨tput_keyN h.key _ _, by have := tput_len C p c; have := h.len; omega, fun e he => by
    rcases tput_mem he with he | rfl
    · exact h.ok e he
    · exact hc, h.sm.put hp c⟩
theorem CS.up {n m : Nat} {C : List (Pl × Ct)} (h : CS n C) (hm : n ≤ m) : CS m C := ⟨h.key, by have := h.len; omega, h.ok, h.sm⟩
theorem CS.cok {n : Nat} {C : List (Pl × Ct)} (h : CS n C) (hn : n ≤ 1000) : COk C := ⟨h.key, by have := h.len; omega, h.ok⟩
def farC (c0 : Int) : Pl := if c0 % 8 / 7 = 0 then (0, 0) else (95, 22)
theorem farC_ok (c0 : Int) : farOk (farC c0) := by unfold farC farOk; split <;> simp
def putC (far : Pl) (C : List (Pl × Ct)) (cell : Int) : List (Pl × Ct) := match contC (cell / 16) far with
  | none => C
  | some c => tput C (far.1 + cell % 4, far.2 + cell / 4 % 4) c
theorem putC_cs {far : Pl} (hf : farOk far) {n : Nat} {C : List (Pl × Ct)} (h : CS n C) {cell : Int} (h0 : 0 ≤ cell) (h1 : cell < 1000003) : CS (n + 1) (putC far C cell) := by
  unfold putC
  split
  · exact h.up (by omega)
  · rename_i c hc
    refine h.put ?_ (contC_ok hf (by omega) (by omega) hc)
    obtain ⟨h1, h2, h3, h4⟩ := hf
    unfold smallK
    simp only [Bool.and_eq_true, decide_eq_true_eq]
    omega
def chainC (C : List (Pl × Ct)) (k : Int) : List (Pl × Ct) := tput C (k, 5) (.f (.two [43] (.ref (k - 1, 5) (false, false)) (.num k)))
theorem chainC_cs {n : Nat} {C : List (Pl × Ct)} (h : CS n C) {k : Int} (h0 : 2 ≤ k) (h1 : k ≤ 92) : CS (n + 1) (chainC C k) := by
  refine h.put ?_ ⟨⟨.inl rfl, ⟨?_, ?_, ?_, ?_⟩, ⟨?_, ?_⟩⟩, by simp [Tr.dep], by simp [Tr.nodes]⟩
  · unfold smallK; simp only [Bool.and_eq_true, decide_eq_true_eq]; omega
  all_goals try simp only
  all_goals omega
def areaN (c1 : Int) : Tr := .over (if c1 / 300 % 2 = 0 then [83, 85, 77] else [67, 79, 85, 78, 84]) [.area (0, 0) (false, false) (c1 % 30, 3 + c1 / 30 % 9) (true, false)]
theorem areaN_ok (c1 : Int) : (Ct.f (areaN c1)).Ok := by
  refine ⟨ok_over.mpr ⟨⟨?_, by simp, by simp⟩, ?_⟩, by simp [areaN, Tr.dep, Tr.deps], by simp [areaN, Tr.nodes, Tr.nodess]⟩
  · split
    · exact .inl rfl
    · exact .inr (.inl rfl)
  · intro t ht
    simp only [List.mem_singleton] at ht
    subst ht
    refine .inl ⟨⟨?_, ?_, ?_, ?_⟩, ⟨?_, ?_, ?_, ?_⟩, ?_, ?_⟩ <;> simp only <;> omega
def baseC (c0 c1 md : Int) : List (Pl × Ct) :=
  if c0 % 8 = 1 then tput ((rangeI 2 (2 + c1 % md)).foldl chainC []) (1, 5) (.i (c1 % 11))
  else if c0 % 8 = 2 then tput [] (60, 20) (.f (areaN c1)) else []
theorem chain_cs (md : Int) (h : 0 ≤ md ∧ md ≤ 90) (c1 : Int) : ∀ (rest done : List Int) (C : List (Pl × Ct)), (∀ k ∈ rest, 2 ≤ k ∧ k ≤ 92) → CS done.length C → CS (done ++ rest).length (rest.foldl chainC C)
  | [], done, C, _, hC => by simpa using hC
  | k :: r, done, C, hk, hC => by
    have := chain_cs md h c1 r (done ++ [k]) (chainC C k) (fun x hx => hk x (by simp [hx])) (by rw [List.length_append]; exact chainC_cs hC (hk k (by simp)).1 (hk k (by simp)).2)
    simpa using this
theorem baseC_cs (c0 c1 md : Int) (h : 1 ≤ md ∧ md ≤ 90) : CS 92 (baseC c0 c1 md) := by
  have m0 := Int.emod_nonneg c1 (show md ≠ 0 by omega)
  have m1 := Int.emod_lt_of_pos c1 (show 0 < md by omega)
  unfold baseC
  split
  · have h1 := chain_cs md (by omega) c1 (rangeI 2 (2 + c1 % md)) [] [] (fun k hk => by have := mem_rangeI.mp hk; omega) CS.nil
    rw [List.nil_append, rangeI_length] at h1
    exact (h1.up (m := 91) (by omega)).put (by decide) ⟨by omega, by omega⟩
  · split
    · exact (CS.nil.put (by decide) (areaN_ok c1)).up (by omega)
    · exact CS.nil.up (by omega)
def contsC (c0 c1 md : Int) (cs : List Int) : List (Pl × Ct) := cs.foldl (putC (farC c0)) (baseC c0 c1 md)
theorem puts_cs {far : Pl} (hf : farOk far) : ∀ (rest : List Int) (n : Nat) (C : List (Pl × Ct)), (∀ k ∈ rest, 0 ≤ k ∧ k < 1000003) → CS n C → CS (n + rest.length) (rest.foldl (putC far) C)
  | [], n, C, _, hC => by simpa using hC
  | k :: r, n, C, hk, hC => by
    have := puts_cs hf r (n + 1) (putC far C k) (fun x hx => hk x (by simp [hx])) (putC_cs hf hC (hk k (by simp)).1 (hk k (by simp)).2)
    rw [List.length_cons, List.foldl_cons]
    rw [show n + (r.length + 1) = n + 1 + r.length by omega]
    exact this
theorem contsC_cs (c0 c1 md : Int) (h : 1 ≤ md ∧ md ≤ 90) (cs : List Int) (hc : ∀ k ∈ cs, 0 ≤ k ∧ k < 1000003) : CS (92 + cs.length) (contsC c0 c1 md cs) := puts_cs (farC_ok c0) cs 92 _ hc (baseC_cs c0 c1 md h)

end FL
end
section
set_option maxRecDepth 100000
set_option maxHeartbeats 4000000
namespace FL
open MP
/-! what is shown holds -/
theorem itM_itPl (i : It) : itM i = itPl i := by
  cases i with
  | leaf u => cases u <;> rfl
  | _ => rfl
theorem val_mpl {L L' : Pl → Vl} (t : Tr) (h : ∀ q ∈ t.mpl, L q = L' q) : t.val L = t.val L' :=
  (val_congr t fun i hi q hq => h q ((mem_mpl t q).mpr ⟨i, hi, by rw [itM_itPl]; exact hq⟩)).2
theorem arith_nr (s : Tx) (a b : Int) : arith s a b ≠ .s ringT := by
  unfold arith bigV divV
  repeat' split
  all_goals simp [ringT]
theorem putV_nr (s : Tx) {v w : Vl} (hv : v ≠ .s ringT) (hw : w ≠ .s ringT) : putV s v w ≠ .s ringT := by
  cases v with
  | n => cases w with
    | s t => exact hw
    | n => simp [putV]
    | i b => simp [putV]
  | s t => cases w <;> exact hv
  | i a => cases w with
    | n => simp [putV]
    | s t => exact hw
    | i b => exact arith_nr s a b
theorem firstS_mem : ∀ {vs : List Vl} {t : Tx}, firstS vs = some t → Vl.s t ∈ vs
  | .s u :: r, t, h => by simp only [firstS, Option.some.injEq] at h; rw [h]; simp
  | .n :: r, t, h => List.mem_cons_of_mem _ (firstS_mem (by simpa [firstS] using h))
  | .i x :: r, t, h => List.mem_cons_of_mem _ (firstS_mem (by simpa [firstS] using h))
theorem gatherV_nr (w : Tx) {vs : List Vl} (h : ∀ v ∈ vs, v ≠ .s ringT) : gatherV w vs ≠ .s ringT := by
  unfold gatherV
  cases hf : firstS vs with
  | some t =>
    have := h _ (firstS_mem hf)
    exact this
  | none =>
    simp only
    unfold bigV
    repeat' split
    all_goals simp [ringT]
theorem zeroN_nr {v : Vl} (h : v ≠ .s ringT) : zeroN v ≠ .s ringT := by
  cases v <;> simp [zeroN] at h ⊢
  exact h
theorem val_nr {L : Pl → Vl} : ∀ t : Tr, (∀ i ∈ t.items, ∀ q ∈ itPl i, L q ≠ .s ringT) → t.val L ≠ .s ringT ∧ ∀ v ∈ seenV L t (t.val L), v ≠ .s ringT := Tr.ind fun t ih => fun h => by
  have hk : ∀ k ∈ t.kids, k.val L ≠ .s ringT ∧ ∀ v ∈ seenV L k (k.val L), v ≠ .s ringT := fun k hk => ih k hk fun i hi => h i (by rw [items_eq]; exact List.mem_cons_of_mem _ (itemss_all hk hi))
  cases t with
  | num n => simp [Tr.val, seenV]
  | gone => simp [Tr.val, seenV, ringT]
  | ref p f =>
    have := h (.leaf (.ref p f)) (by simp [Tr.items]) p (by simp [itPl])
    refine ⟨by rw [Tr.val]; exact zeroN_nr this, fun v hv => ?_⟩
    simp only [seenV, List.mem_singleton] at hv
    rw [hv]; exact this
  | area p f q g =>
    refine ⟨by simp [Tr.val], fun v hv => ?_⟩
    simp only [seenV, List.mem_map] at hv
    obtain ⟨x, hx, rfl⟩ := hv
    exact h (.leaf (.area p f q g)) (by simp [Tr.items]) x (by simpa [itPl] using hx)
  | minus a =>
    have h1 : (Tr.minus a).val L ≠ .s ringT := by rw [Tr.val]; exact putV_nr _ (by simp) (hk a (by simp)).1
    exact ⟨h1, fun v hv => by simp only [seenV, List.mem_singleton] at hv; rw [hv]; exact h1⟩
  | two s a b =>
    have h1 : (Tr.two s a b).val L ≠ .s ringT := by rw [Tr.val]; exact putV_nr _ (hk a (by simp)).1 (hk b (by simp)).1
    exact ⟨h1, fun v hv => by simp only [seenV, List.mem_singleton] at hv; rw [hv]; exact h1⟩
  | pick a b c =>
    have h1 : (Tr.pick a b c).val L ≠ .s ringT := by
      rw [Tr.val]
      have ha := (hk a (by simp)).1
      have hb := (hk b (by simp)).1
      have hc := (hk c (by simp)).1
      cases hx : a.val L with
      | s x => rw [hx] at ha; simpa [pickV] using ha
      | n => simp only [pickV]; split <;> assumption
      | i x => simp only [pickV]; split <;> assumption
    exact ⟨h1, fun v hv => by simp only [seenV, List.mem_singleton] at hv; rw [hv]; exact h1⟩
  | over w ps =>
    have h1 : (Tr.over w ps).val L ≠ .s ringT := by
      rw [Tr.val]
      refine gatherV_nr w fun v hv => ?_
      obtain ⟨t, ht, hv⟩ := vals_mem hv
      exact (hk t (by simpa using ht)).2 v hv
    exact ⟨h1, fun v hv => by simp only [seenV, List.mem_singleton] at hv; rw [hv]; exact h1⟩
theorem val_nrM {L : Pl → Vl} (t : Tr) (h : ∀ q ∈ t.mpl, L q ≠ .s ringT) : t.val L ≠ .s ringT :=
  (val_nr t fun i hi q hq => h q ((mem_mpl t q).mpr ⟨i, hi, by rw [itM_itPl]; exact hq⟩)).1
structure Hold (C : List (Pl × Ct)) (ord : List Pl) (L : Pl → Vl) : Prop where
  num : ∀ p n, tget C p = some (.i n) → L p = .i n
  stuck : ∀ p t, tget C p = some (.f t) → p ∉ ord → L p = .s ringT
  val : ∀ p t, tget C p = some (.f t) → p ∈ ord → L p = t.val L ∧ L p ≠ .s ringT
  non : ∀ p, tget C p = none → L p = .n
/-- .. on the way -/
structure HoldP (C : List (Pl × Ct)) (ord done : List Pl) (L : Pl → Vl) : Prop where
  num : ∀ p n, tget C p = some (.i n) → L p = .i n
  stuck : ∀ p t, tget C p = some (.f t) → p ∉ ord → L p = .s ringT
  val : ∀ p t, tget C p = some (.f t) → p ∈ done → L p = t.val L ∧ L p ≠ .s ringT
  non : ∀ p, tget C p = none → L p = .n
  cl : ∀ p t, tget C p = some (.f t) → p ∈ done → ∀ r ∈ t.mpl, (∃ u, tget C r = some (.f u)) → r ∈ done
theorem first_hold {C : List (Pl × Ct)} (hC : keyN C) (ord : List Pl) : HoldP C ord [] (lookV (firstF C (stuckK C ord))) := by
  have hg := firstF_get (stuckK C ord) hC
  refine ⟨fun p n h => ?_, fun p t h hp => ?_, fun p t h hp => (by cases hp), fun p h => ?_, fun p t h hp => (by cases hp)⟩
  · unfold lookV; rw [hg, h]; rfl
  · unfold lookV; rw [hg, h]
    simp only
    rw [if_pos ((stuck_mem hC ord p).mpr ⟨⟨t, h⟩, hp⟩)]
    rfl
  · unfold lookV; rw [hg, h]; rfl
theorem step_hold {C : List (Pl × Ct)} (hC : COk C) {A : List (Pl × Vl)} {os ord : List Pl} (hgood : ∀ p t, tget C p = some (.f t) → p ∈ ord → p ∉ os → lookV A p ≠ .s ringT → lookV A p = t.val (lookV A)) (ho : Out (leansF C) ord)
    {done rest : List Pl} {p : Pl} (hd : done ++ p :: rest = ord) {g : SL} (h : HoldP C ord done (lookV g.1)) : HoldP C ord (done ++ [p]) (lookV (stepF C A os g p).1) := by
  have hst : least (leansF C) (sortP ((leansF C).map (·.1))) done = some p := by
    have h1 : ord[done.length]? = some p := by rw [← hd, List.getElem?_append_right (Nat.le_refl _)]; simp
    have h2 := ho.step _ _ h1
    rw [← hd, List.take_left] at h2
    exact h2
  obtain ⟨m1, m2, hw⟩ := least_mem hst
  rw [keys_mem, leansF_mem hC.key] at m1
  obtain ⟨t, ht⟩ := m1
  have hp : p ∈ ord := by rw [← hd]; simp
  have hcl : ∀ r ∈ t.mpl, (∃ u, tget C r = some (.f u)) → r ∈ done := fun r hr hu => by
    unfold waits at hw
    have hg := leansF_get hC.key p
    rw [ht] at hg
    simp only at hg
    rw [hg] at hw
    have h1 := List.filter_eq_nil_iff.mp hw r hr
    have h2 := (leansF_mem hC.key r).mpr hu
    simpa [h2] using h1
  have hself : p ∉ t.mpl := fun hm => m2 (hcl p hm ⟨t, ht⟩)
  obtain ⟨v, hv, hs⟩ : ∃ v, v = t.val (lookV g.1) ∧ (stepF C A os g p).1 = tput g.1 p v := by
    unfold stepF
    rw [ht]
    simp only
    cases hq : reasonF A g.1 os p t.mpl with
    | some q => exact ⟨_, rfl, rfl⟩
    | none =>
      unfold reasonF at hq
      split at hq
      · cases hq
      · rename_i hno
        have h1 : p ∉ os := fun h => hno (.inl h)
        have h2 : lookV A p ≠ .s ringT := fun h => hno (.inr h)
        have h3 := hgood p t ht hp h1 h2
        have h4 : ∀ q ∈ t.mpl, lookV A q = lookV g.1 q := fun q hqm => by
          have := List.find?_eq_none.mp hq q hqm
          simpa using this
        exact ⟨lookV A p, by rw [h3]; exact val_mpl t h4, rfl⟩
  rw [hs]
  have hlk : ∀ q, lookV (tput g.1 p v) q = if q = p then v else lookV g.1 q := look_put g.1 p v
  have hne : ∀ q, q ≠ p → lookV (tput g.1 p v) q = lookV g.1 q := fun q hq => by rw [hlk, if_neg hq]
  have hval : t.val (lookV (tput g.1 p v)) = v := by
    have h1 := val_mpl (L := lookV (tput g.1 p v)) (L' := lookV g.1) t fun q hq => hne q fun e => hself (by rw [← e]; exact hq)
    rw [h1, hv]
  refine ⟨fun q n hq => ?_, fun q u hq hqo => ?_, fun q u hq hqd => ?_, fun q hq => ?_, fun q u hq hqd r hr hru => ?_⟩
  · rw [hne q (fun e => by rw [e, ht] at hq; cases hq)]; exact h.num q n hq
  · rw [hne q (fun e => hqo (by rw [e]; exact hp))]; exact h.stuck q u hq hqo
  · rcases List.mem_append.mp hqd with hqd | hqd
    · have hqp : q ≠ p := fun e => m2 (by rw [← e]; exact hqd)
      obtain ⟨h1, h2⟩ := h.val q u hq hqd
      rw [hne q hqp]
      refine ⟨?_, h2⟩
      rw [h1]
      exact (val_mpl u fun r hr => hne r fun e => m2 (h.cl q u hq hqd p (by rw [← e]; exact hr) ⟨t, ht⟩)).symm
    · have e := List.mem_singleton.mp hqd
      subst e
      rw [ht] at hq
      cases hq
      rw [hlk, if_pos rfl, hval]
      refine ⟨rfl, ?_⟩
      rw [hv]
      refine val_nrM t fun r hr => ?_
      cases hc : tget C r with
      | none => rw [h.non r hc]; simp
      | some c => cases c with
        | i n => rw [h.num r n hc]; simp
        | f u => exact (h.val r u hc (hcl r hr ⟨u, hc⟩)).2
  · rw [hne q (fun e => by rw [e, ht] at hq; cases hq)]; exact h.non q hq
  · rcases List.mem_append.mp hqd with hqd | hqd
    · exact List.mem_append_left _ (h.cl q u hq hqd r hr hru)
    · have e := List.mem_singleton.mp hqd
      subst e
      rw [ht] at hq
      cases hq
      exact List.mem_append_left _ (hcl r hr hru)
theorem fold_hold {C : List (Pl × Ct)} (hC : COk C) {A : List (Pl × Vl)} {os ord : List Pl} (hgood : ∀ p t, tget C p = some (.f t) → p ∈ ord → p ∉ os → lookV A p ≠ .s ringT → lookV A p = t.val (lookV A)) (ho : Out (leansF C) ord) :
    ∀ (rest done : List Pl) (g : SL), done ++ rest = ord → HoldP C ord done (lookV g.1) → HoldP C ord ord (lookV (rest.foldl (stepF C A os) g).1)
  | [], done, g, hd, h => by rw [List.append_nil] at hd; rw [← hd] at h ⊢; exact h
  | p :: r, done, g, hd, h => fold_hold hC hgood ho r (done ++ [p]) _ (by rw [← hd]; simp) (step_hold hC hgood ho hd h)
theorem settle_hold {C : List (Pl × Ct)} (hC : COk C) {A : List (Pl × Vl)} {os ord : List Pl} (hgood : ∀ p t, tget C p = some (.f t) → p ∈ ord → p ∉ os → lookV A p ≠ .s ringT → lookV A p = t.val (lookV A)) (ho : Out (leansF C) ord) :
    Hold C ord (lookV (settleF C A os ord).1) := by
  have h := fold_hold hC hgood ho ord [] (firstF C (stuckK C ord), []) rfl (first_hold hC.key ord)
  exact ⟨h.num, h.stuck, h.val, h.non⟩
/-- what is shown has the places of the contents -/
theorem out_sub {C : List (Pl × Ct)} (hC : keyN C) {ord : List Pl} (ho : Out (leansF C) ord) : ∀ p ∈ ord, ∃ t, tget C p = some (.f t) := fun p hp => by
  obtain ⟨i, hi, e⟩ := List.mem_iff_getElem.mp hp
  have := ho.step i p (by rw [List.getElem?_eq_getElem hi, e])
  have := (least_mem this).1
  rw [keys_mem, leansF_mem hC] at this
  exact this
theorem fold_keys {C : List (Pl × Ct)} {A : List (Pl × Vl)} {os : List Pl} (q : Pl) : ∀ (rest : List Pl) (g : SL), (∀ p ∈ rest, ∃ t, tget C p = some (.f t)) → (q ∈ (rest.foldl (stepF C A os) g).1.map (·.1) ↔ q ∈ g.1.map (·.1) ∨ q ∈ rest)
  | [], g, _ => by simp
  | p :: r, g, h => by
    rw [List.foldl_cons, fold_keys q r _ fun x hx => h x (by simp [hx])]
    obtain ⟨t, ht⟩ := h p (by simp)
    have : q ∈ (stepF C A os g p).1.map (·.1) ↔ q ∈ g.1.map (·.1) ∨ q = p := by
      unfold stepF
      rw [ht]
      simp only
      split <;> exact tput_key_mem
    rw [this, List.mem_cons, or_assoc]
theorem settle_keys {C : List (Pl × Ct)} (hC : keyN C) {A : List (Pl × Vl)} {os ord : List Pl} (ho : Out (leansF C) ord) (q : Pl) : q ∈ (settleF C A os ord).1.map (·.1) ↔ q ∈ C.map (·.1) := by
  unfold settleF
  rw [fold_keys q ord _ (out_sub hC ho)]
  simp only
  have hg := firstF_get (stuckK C ord) hC q
  constructor
  · rintro (h | h)
    · obtain ⟨v, hv⟩ := tget_some h
      cases hc : tget C q with
      | none => rw [hg, hc] at hv; cases hv
      | some c => exact List.mem_map.mpr ⟨_, tget_mem hc, rfl⟩
    · obtain ⟨t, ht⟩ := out_sub hC ho q h
      exact List.mem_map.mpr ⟨_, tget_mem ht, rfl⟩
  · intro h
    obtain ⟨c, hc⟩ := tget_some h
    cases c with
    | i n =>
      rw [hc] at hg
      exact .inl (List.mem_map.mpr ⟨_, tget_mem hg, rfl⟩)
    | f t =>
      by_cases hq : q ∈ ord
      · exact .inr hq
      · rw [hc] at hg
        simp only at hg
        rw [if_pos ((stuck_mem hC ord q).mpr ⟨⟨t, hc⟩, hq⟩)] at hg
        exact .inl (List.mem_map.mpr ⟨_, tget_mem hg, rfl⟩)
theorem kept_keysC {C : List (Pl × Ct)} (hC : COk C) {A : List (Pl × Vl)} (hA : okE A) {os ord : List Pl} (ho : Out (leansF C) ord) : (keptF (settleF C A os ord).1).map (·.1) = sortP (C.map (·.1)) := by
  rw [kept_keys]
  exact lex_ext (ckeys_lex (settle_sok hC hA os ord).key) (ckeys_lex hC.key) fun q => by rw [ckeys_mem, ckeys_mem]; exact settle_keys hC.key ho q
/-- two that hold are one -/
theorem hold_uniq {C : List (Pl × Ct)} (hC : keyN C) {ord : List Pl} (ho : Out (leansF C) ord) {L L' : Pl → Vl} (h : Hold C ord L) (h' : Hold C ord L') : ∀ p, L p = L' p := by
  have key : ∀ n, ∀ p ∈ ord.take n, L p = L' p := fun n => by
    induction n with
    | zero => intro p hp; simp at hp
    | succ n ih =>
      intro p hp
      rw [List.take_succ] at hp
      rcases List.mem_append.mp hp with hp | hp
      · exact ih p hp
      · cases hn : ord[n]? with
        | none => rw [hn] at hp; simp at hp
        | some q =>
          rw [hn] at hp
          simp at hp
          subst hp
          obtain ⟨m1, m2, hw⟩ := least_mem (ho.step n p hn)
          have hpo : p ∈ ord := List.mem_of_getElem? hn
          obtain ⟨t, ht⟩ := out_sub hC ho p hpo
          rw [(h.val p t ht hpo).1, (h'.val p t ht hpo).1]
          refine val_mpl t fun r hr => ?_
          cases hc : tget C r with
          | none => rw [h.non r hc, h'.non r hc]
          | some c => cases c with
            | i k => rw [h.num r k hc, h'.num r k hc]
            | f u =>
              refine ih r ?_
              unfold waits at hw
              have hg := leansF_get hC p
              rw [ht] at hg
              simp only at hg
              rw [hg] at hw
              have h1 := List.filter_eq_nil_iff.mp hw r hr
              have h2 := (leansF_mem hC r).mpr ⟨u, hc⟩
              simpa [h2] using h1
  intro p
  cases hc : tget C p with
  | none => rw [h.non p hc, h'.non p hc]
  | some c => cases c with
    | i k => rw [h.num p k hc, h'.num p k hc]
    | f u =>
      by_cases hp : p ∈ ord
      · exact key ord.length p (by rw [List.take_length]; exact hp)
      · rw [h.stuck p u hc hp, h'.stuck p u hc hp]

end FL
end
section
set_option maxRecDepth 100000
set_option maxHeartbeats 4000000
namespace FL
open MP
/-! what == tells of trees -/
theorem eqD_blF (f g : Bool × Bool) (h : eqD (blD f) (blD g) = true) : f = g := by
  obtain ⟨a, b⟩ := f
  obtain ⟨c, d⟩ := g
  simp [blD, eqD, eqDs] at h
  simp [h]
theorem eqD_plF (p q : Pl) (h : eqD (plD p) (plD q) = true) : p = q := by
  rw [eqD_pl] at h
  simpa using h
theorem eqDs_cons (x y : D) (xs ys : List D) : eqDs (x :: xs) (y :: ys) = (eqD x y && eqDs xs ys) := by rw [eqDs]
theorem eqDs_nil : eqDs [] [] = true := by rw [eqDs]
theorem eqD_tup (xs ys : List D) : eqD (.tup xs) (.tup ys) = eqDs xs ys := by rw [eqD]
theorem eqD_lst (xs ys : List D) : eqD (.lst xs) (.lst ys) = eqDs xs ys := by rw [eqD]
theorem eqDs_trs : ∀ (ps qs : List Tr), (∀ p ∈ ps, ∀ q, eqD (trD p) (trD q) = true → p = q) → eqDs (ps.map trD) (qs.map trD) = true → ps = qs
  | [], [], _, _ => rfl
  | [], q :: qs, _, h => by simp [eqDs] at h
  | p :: ps, [], _, h => by simp [eqDs] at h
  | p :: ps, q :: qs, ih, h => by
    simp only [List.map_cons, eqDs_cons, Bool.and_eq_true] at h
    rw [ih p (by simp) q h.1, eqDs_trs ps qs (fun r hr => ih r (by simp [hr])) h.2]
theorem eqD_trI : ∀ a b : Tr, eqD (trD a) (trD b) = true → a = b := Tr.ind fun a ih => fun b h => by
  have key : ∀ (s t : Tx), eqD (.str s) (.str t) = true → s = t := fun s t h => by simpa [eqD] using h
  have keyi : ∀ (s t : Int), eqD (.int s) (.int t) = true → s = t := fun s t h => by simpa [eqD] using h
  cases a with
  | num n => cases b <;> simp [eqD_tup, eqDs_cons, eqDs] at h ⊢ <;> exact h
  | gone => cases b <;> simp [eqD_tup, eqDs_cons, eqDs] at h ⊢
  | ref p f => cases b with
    | ref q g =>
      simp only [trD_ref, eqD_tup, eqDs_cons, Bool.and_eq_true] at h
      rw [eqD_plF p q h.2.1, eqD_blF f g h.2.2.1]
    | _ => simp [eqD_tup, eqDs_cons, eqDs] at h
  | minus x => cases b with
    | minus y =>
      simp only [trD_minus, eqD_tup, eqDs_cons, Bool.and_eq_true] at h
      rw [ih x (by simp) y h.2.1]
    | _ => simp [eqD_tup, eqDs_cons, eqDs] at h
  | two s x y => cases b with
    | two t z w =>
      simp only [trD_two, eqD_tup, eqDs_cons, Bool.and_eq_true] at h
      rw [key s t h.2.1, ih x (by simp) z h.2.2.1, ih y (by simp) w h.2.2.2.1]
    | _ => simp [eqD_tup, eqDs_cons, eqDs] at h
  | pick x y z => cases b with
    | pick u v w =>
      simp only [trD_pick, eqD_tup, eqDs_cons, Bool.and_eq_true] at h
      rw [ih x (by simp) u h.2.1, ih y (by simp) v h.2.2.1, ih z (by simp) w h.2.2.2.1]
    | _ => simp [eqD_tup, eqDs_cons, eqDs] at h
  | over s ps => cases b with
    | over t qs =>
      simp only [trD_over, eqD_tup, eqDs_cons, eqD_lst, Bool.and_eq_true] at h
      rw [key s t h.2.1, eqDs_trs ps qs (fun p hp => ih p (by simpa using hp)) h.2.2.1]
    | _ => simp [eqD_tup, eqDs_cons, eqDs] at h
  | area p f q g => cases b with
    | area p2 f2 q2 g2 =>
      simp only [trD_area, eqD_tup, eqDs_cons, Bool.and_eq_true] at h
      rw [eqD_plF p p2 h.2.1.2.1, eqD_blF f f2 h.2.1.2.2.1, eqD_plF q q2 h.2.2.1.2.1, eqD_blF g g2 h.2.2.1.2.2.1]
    | _ => simp [eqD_tup, eqDs_cons, eqDs] at h
def ctO' : Option Ct → D
  | none => .non
  | some c => ctD c
theorem eqD_ctI (a b : Option Ct) (h : eqD (ctO' a) (ctO' b) = true) : a = b := by
  cases a with
  | none => cases b with
    | none => rfl
    | some c => cases c with
      | i n => simp [ctO', eqD] at h
      | f t => cases t <;> simp [ctO', eqD] at h
  | some c => cases c with
    | i n => cases b with
      | none => simp [ctO', eqD] at h
      | some c => cases c with
        | i m => simp [ctO', eqD] at h; rw [h]
        | f t => cases t <;> simp [ctO', eqD] at h
    | f t => cases b with
      | none => cases t <;> simp [ctO', eqD] at h
      | some c => cases c with
        | i m => cases t <;> simp [ctO', eqD] at h
        | f u => rw [eqD_trI t u h]
theorem eqD_ctT (a : Option Ct) : eqD (ctO' a) (ctO' a) = true := by
  cases a with
  | none => rfl
  | some c => exact eqD_refl _ (cmp_ct c)
theorem eqD_ct (a b : Option Ct) [Decidable (a = b)] : eqD (ctO' a) (ctO' b) = decide (a = b) := by
  by_cases h : a = b
  · subst h; rw [eqD_ctT]; simp
  · rw [decide_eq_false h]
    cases h2 : eqD (ctO' a) (ctO' b) with
    | false => rfl
    | true => exact absurd (eqD_ctI a b h2) h

end FL
end
section
set_option maxRecDepth 100000
set_option maxHeartbeats 4000000
namespace FL
open MP
/-! contents changed -/
def tdrop {α : Type} (es : List (Pl × α)) (k : Pl) : List (Pl × α) := es.filter fun e => decide (e.1 ≠ k)
theorem ddrop_enc {α : Type} (f : α → D) (es : List (Pl × α)) (k : Pl) : ddrop (encE f es) k = encE f (tdrop es k) := by
  unfold ddrop encE tdrop
  rw [List.filter_map]
  rfl
theorem tdrop_key {α : Type} {es : List (Pl × α)} (h : keyN es) (k : Pl) : keyN (tdrop es k) := by
  unfold keyN tdrop at *
  exact h.sublist (List.filter_sublist.map _)
theorem tdrop_none {α : Type} {es : List (Pl × α)} {k : Pl} (h : k ∉ es.map (·.1)) : tdrop es k = es := by
  unfold tdrop
  rw [List.filter_eq_self]
  intro e he
  simp only [ne_eq, decide_eq_true_eq]
  exact fun e2 => h (List.mem_map.mpr ⟨e, he, e2⟩)
theorem tdrop_get {α : Type} (es : List (Pl × α)) (k p : Pl) : tget (tdrop es k) p = if p = k then none else tget es p := by
  induction es with
  | nil => simp [tdrop, tget_nil]
  | cons e es ih =>
    unfold tdrop at *
    rw [List.filter_cons]
    by_cases he : e.1 = k
    · have : decide (e.1 ≠ k) = false := by simp [he]
      rw [this]
      simp only [Bool.false_eq_true, if_false]
      rw [ih, tget_cons]
      by_cases hp : p = k
      · simp [hp]
      · rw [if_neg hp, if_neg hp, if_neg (by rw [he]; exact fun h => hp h.symm)]
    · have : decide (e.1 ≠ k) = true := by simp [he]
      rw [this]
      simp only [if_true]
      rw [tget_cons, tget_cons, ih]
      by_cases hp : p = k
      · subst hp; rw [if_neg he]; simp
      · simp [hp]
theorem tdrop_len {α : Type} (es : List (Pl × α)) (k : Pl) : (tdrop es k).length ≤ es.length := List.length_filter_le _ _
theorem CS.drop {n : Nat} {C : List (Pl × Ct)} (h : CS n C) (k : Pl) : CS n (tdrop C k) :=
  ⟨tdrop_key h.key k, by have := tdrop_len C k; have := h.len; omega, fun e he => h.ok e (List.mem_filter.mp he).1, fun q hq => by
    obtain ⟨e, he, rfl⟩ := List.mem_map.mp hq
    exact h.sm _ (List.mem_map.mpr ⟨e, (List.mem_filter.mp he).1, rfl⟩)⟩
def chgPl (far : Pl) (cell : Int) : Pl := if cell / 16 % 8 = 1 then (1 + cell / 128 % 30, 5) else (far.1 + cell % 4, far.2 + cell / 4 % 4)
def chgOne (far : Pl) (B : List (Pl × Ct)) (cell : Int) : List (Pl × Ct) := match contC (cell / 16) far with
  | none => tdrop B (chgPl far cell)
  | some c => tput B (chgPl far cell) c
abbrev CG := List (Pl × Ct) × List Pl
def chgStep (C : List (Pl × Ct)) (far : Pl) (g : CG) (cell : Int) : CG :=
  (chgOne far g.1 cell, if eqD (ctO' (tget (chgOne far g.1 cell) (chgPl far cell))) (ctO' (tget C (chgPl far cell))) = true then g.2 else g.2 ++ [chgPl far cell])
def changedF (C : List (Pl × Ct)) (far : Pl) (cells : List Int) : CG := cells.foldl (chgStep C far) (C, [])
theorem chgPl_small {far : Pl} (hf : farOk far) {cell : Int} (h0 : 0 ≤ cell) (h1 : cell < 1000003) : smallK (chgPl far cell) = true := by
  obtain ⟨h1, h2, h3, h4⟩ := hf
  unfold smallK chgPl
  split <;> simp only [Bool.and_eq_true, decide_eq_true_eq] <;> omega
theorem chgOne_cs {far : Pl} (hf : farOk far) {n : Nat} {B : List (Pl × Ct)} (h : CS n B) {cell : Int} (h0 : 0 ≤ cell) (h1 : cell < 1000003) : CS (n + 1) (chgOne far B cell) := by
  unfold chgOne
  split
  · exact (h.drop _).up (by omega)
  · rename_i c hc
    exact h.put (chgPl_small hf h0 h1) (contC_ok hf (by omega) (by omega) hc)
theorem chgOne_get (far : Pl) (B : List (Pl × Ct)) (cell : Int) {p : Pl} (hp : p ≠ chgPl far cell) : tget (chgOne far B cell) p = tget B p := by
  unfold chgOne
  split
  · rw [tdrop_get, if_neg hp]
  · rw [tget_put, if_neg hp]
theorem chgStep_others (C : List (Pl × Ct)) (far : Pl) {g : CG} (cell : Int) (h : ∀ p, tget g.1 p ≠ tget C p → p ∈ g.2) : ∀ p, tget (chgStep C far g cell).1 p ≠ tget C p → p ∈ (chgStep C far g cell).2 := fun p hp => by
  unfold chgStep at hp ⊢
  simp only at hp ⊢
  by_cases e : p = chgPl far cell
  · rw [e] at hp ⊢
    rw [if_neg fun h => hp (eqD_ctI _ _ h)]
    simp
  · rw [chgOne_get far g.1 cell e] at hp
    split
    · exact h p hp
    · exact List.mem_append_left _ (h p hp)
structure GOk (n k : Nat) (C : List (Pl × Ct)) (g : CG) : Prop where
  cs : CS (n + k) g.1
  len : g.2.length ≤ k
  oth : ∀ p, tget g.1 p ≠ tget C p → p ∈ g.2
theorem chgStep_ok {far : Pl} (hf : farOk far) {n k : Nat} {C : List (Pl × Ct)} {g : CG} (h : GOk n k C g) {cell : Int} (h0 : 0 ≤ cell) (h1 : cell < 1000003) : GOk n (k + 1) C (chgStep C far g cell) :=
  ⟨chgOne_cs hf h.cs h0 h1, by
    have := h.len
    unfold chgStep
    simp only
    split
    · omega
    · rw [List.length_append, List.length_singleton]; omega, chgStep_others C far cell h.oth⟩
theorem chg_start {n : Nat} {C : List (Pl × Ct)} (h : CS n C) : GOk n 0 C (C, []) := ⟨h, by simp, fun p hp => absurd rfl hp⟩
theorem chg_fold {far : Pl} (hf : farOk far) {n : Nat} {C : List (Pl × Ct)} : ∀ (cells : List Int) (k : Nat) (g : CG), (∀ c ∈ cells, 0 ≤ c ∧ c < 1000003) → GOk n k C g → GOk n (k + cells.length) C (cells.foldl (chgStep C far) g)
  | [], k, g, _, h => by simpa using h
  | c :: r, k, g, hc, h => by
    have := chg_fold hf r (k + 1) _ (fun x hx => hc x (by simp [hx])) (chgStep_ok hf h (hc c (by simp)).1 (hc c (by simp)).2)
    rw [List.length_cons, show k + (r.length + 1) = k + 1 + r.length by omega]
    exact this
theorem changedF_ok {far : Pl} (hf : farOk far) {n : Nat} {C : List (Pl × Ct)} (h : CS n C) (cells : List Int) (hc : ∀ c ∈ cells, 0 ≤ c ∧ c < 1000003) : GOk n cells.length C (changedF C far cells) := by
  have := chg_fold hf (n := n) (C := C) cells 0 (C, []) hc (chg_start h)
  rw [Nat.zero_add] at this
  exact this
theorem dget_ct (es : List (Pl × Ct)) (p : Pl) : (dget (encE ctD es) p).getD .non = ctO' (tget es p) := by
  rw [dget_enc]
  cases tget es p <;> rfl
theorem ct_dep {c : Ct} (h : c.Ok) : dep (ctD c) ≤ 60 := by
  cases c with
  | i n => simp
  | f t =>
    have := dep_tr t
    have := h.2.1
    rw [ctD_f]
    omega
theorem eqv_ct (st : Store) (a b : Option Ct) (ha : ∀ c, a = some c → c.Ok) (hb : ∀ c, b = some c → c.Ok) : eqVal st (ctO' a) (ctO' b) = some (eqD (ctO' a) (ctO' b)) := by
  have hn : ∀ x : Option Ct, noRef (ctO' x) = true := fun x => by cases x <;> simp [ctO']
  have hc : ∀ x : Option Ct, cmpD (ctO' x) = true := fun x => by cases x <;> simp [ctO']
  have hd : ∀ x : Option Ct, (∀ c, x = some c → c.Ok) → dep (ctO' x) ≤ 60 := fun x h => by
    cases x with
    | none => simp [ctO']
    | some c => exact ct_dep (h c rfl)
  have h1 := hd a ha
  have h2 := hd b hb
  unfold eqVal
  split
  · rfl
  · rw [rsv_nr (hn a), rsv_nr (hn b)]
    simp only
    rw [if_pos (by simp [hc]; omega)]
/-- what stands to be told -/
def dueF (C : List (Pl × Ct)) (A S : List (Pl × Vl)) (os ord : List Pl) : List (Pl × Pl) := ord.filterMap fun p => match tget C p with
  | some (.f t) => (reasonF A S os p t.mpl).map fun q => (p, q)
  | _ => none
theorem fold_look {C : List (Pl × Ct)} {A : List (Pl × Vl)} {os : List Pl} {q : Pl} : ∀ (rest : List Pl) (g : SL), q ∉ rest → lookV (rest.foldl (stepF C A os) g).1 q = lookV g.1 q
  | [], g, _ => rfl
  | p :: r, g, h => by
    rw [List.foldl_cons, fold_look r _ fun hm => h (by simp [hm])]
    have hne : q ≠ p := fun e => h (by simp [e])
    unfold stepF
    split
    · split <;> simp only [look_put, if_neg hne]
    · rfl
theorem reason_congr {A S S' : List (Pl × Vl)} {os : List Pl} {p : Pl} {ms : List Pl} (h : ∀ q ∈ ms, lookV S q = lookV S' q) : reasonF A S os p ms = reasonF A S' os p ms := by
  unfold reasonF
  split
  · rfl
  · have : ∀ ms : List Pl, (∀ q ∈ ms, lookV S q = lookV S' q) → (ms.find? fun q => decide (lookV A q ≠ lookV S q)) = ms.find? fun q => decide (lookV A q ≠ lookV S' q) := fun ms => by
      induction ms with
      | nil => intro _; rfl
      | cons m ms ih =>
        intro h
        rw [List.find?_cons, List.find?_cons, h m (by simp), ih fun q hq => h q (by simp [hq])]
    exact this ms h
theorem log_due {C : List (Pl × Ct)} (hC : COk C) {A : List (Pl × Vl)} {os ord : List Pl} (ho : Out (leansF C) ord) (hnd : ord.Nodup) (S : List (Pl × Vl)) (hS : ∀ q, lookV S q = lookV (settleF C A os ord).1 q) : (settleF C A os ord).2 = dueF C A S os ord := by
  have key : ∀ (rest done : List Pl) (g : SL), done ++ rest = ord → g.2 = dueF C A S os done → (∀ q, lookV S q = lookV (rest.foldl (stepF C A os) g).1 q) → (rest.foldl (stepF C A os) g).2 = dueF C A S os ord := by
    intro rest
    induction rest with
    | nil => intro done g hd hg _; rw [List.append_nil] at hd; rw [← hd]; exact hg
    | cons p r ih =>
      intro done g hd hg hfin
      rw [List.foldl_cons]
      refine ih (done ++ [p]) _ (by rw [← hd]; simp) ?_ (by rw [List.foldl_cons] at hfin; exact hfin)
      have hp : p ∈ ord := by rw [← hd]; simp
      obtain ⟨t, ht⟩ := out_sub hC.key ho p hp
      have hst : least (leansF C) (sortP ((leansF C).map (·.1))) done = some p := by
        have h1 : ord[done.length]? = some p := by rw [← hd, List.getElem?_append_right (Nat.le_refl _)]; simp
        have h2 := ho.step _ _ h1
        rw [← hd, List.take_left] at h2
        exact h2
      obtain ⟨_, m2, hw⟩ := least_mem hst
      have hsame : ∀ q ∈ t.mpl, lookV g.1 q = lookV S q := fun q hq => by
        rw [hfin q, fold_look (p :: r) g]
        intro hm
        have hqo : q ∈ ord := by rw [← hd]; exact List.mem_append_right _ hm
        have hqf := (leansF_mem hC.key q).mpr (out_sub hC.key ho q hqo)
        unfold waits at hw
        have hgt := leansF_get hC.key p
        rw [ht] at hgt
        simp only at hgt
        rw [hgt] at hw
        have h1 := List.filter_eq_nil_iff.mp hw q hq
        have h2 : q ∈ done := by simpa [hqf] using h1
        rw [← hd, List.nodup_append] at hnd
        exact hnd.2.2 q h2 q hm rfl
      have hr := reason_congr (A := A) (os := os) (p := p) hsame
      unfold stepF
      rw [ht]
      simp only
      unfold dueF at hg ⊢
      rw [List.filterMap_append, ← hg, List.filterMap_cons, ht]
      simp only
      rw [← hr]
      cases reasonF A g.1 os p t.mpl with
      | none => simp
      | some q => simp
  exact key ord [] (firstF C (stuckK C ord), []) rfl rfl hS

end FL
end
section
set_option maxRecDepth 100000
set_option maxHeartbeats 4000000
namespace FL
open MP
@[simp] theorem set_last {α : Type} (pre : List α) (c c' : α) : (pre ++ [c]).set pre.length c' = pre ++ [c'] := by
  rw [List.set_append_right _ _ (Nat.le_refl _)]
  simp

end FL
end
section
set_option maxRecDepth 100000
set_option maxHeartbeats 4000000
namespace FL
open MP
/-! trees on a pile, their parts in cells -/
abbrev Pt := D × Nat × Tr
def ptD (e : Pt) : D := .tup [e.1, .int e.2.1]
mutual
theorem mapRef_mono {g g' : Nat → Option D} (h : ∀ n x, g n = some x → g' n = some x) : ∀ (d : D) {x : D}, mapRef g d = some x → mapRef g' d = some x
  | .tup xs, x, e => by
    simp only [mapRef, Option.map_eq_some_iff] at e ⊢
    obtain ⟨ys, e1, e2⟩ := e
    exact ⟨ys, mapRefs_mono h xs e1, e2⟩
  | .lst xs, x, e => by
    simp only [mapRef, Option.map_eq_some_iff] at e ⊢
    obtain ⟨ys, e1, e2⟩ := e
    exact ⟨ys, mapRefs_mono h xs e1, e2⟩
  | .dct es, x, e => by
    simp only [mapRef, Option.map_eq_some_iff] at e ⊢
    obtain ⟨ys, e1, e2⟩ := e
    exact ⟨ys, mapRefE_mono h es e1, e2⟩
  | .ref n, x, e => by
    rw [mapRef] at e ⊢
    exact h n x e
  | .non, x, e => by rw [mapRef] at e ⊢; exact e
  | .bl _, x, e => by rw [mapRef] at e ⊢; exact e
  | .int _, x, e => by rw [mapRef] at e ⊢; exact e
  | .str _, x, e => by rw [mapRef] at e ⊢; exact e
  | .scr _, x, e => by rw [mapRef] at e ⊢; exact e
theorem mapRefs_mono {g g' : Nat → Option D} (h : ∀ n x, g n = some x → g' n = some x) : ∀ (ds : List D) {xs : List D}, mapRefs g ds = some xs → mapRefs g' ds = some xs
  | [], xs, e => by rw [mapRefs] at e ⊢; exact e
  | d :: ds, xs, e => by
    rw [mapRefs] at e ⊢
    cases h1 : mapRef g d with
    | none => simp [h1] at e
    | some y =>
      cases h2 : mapRefs g ds with
      | none => simp [h1, h2] at e
      | some ys =>
        rw [mapRef_mono h d h1, mapRefs_mono h ds h2]
        simpa [h1, h2] using e
theorem mapRefE_mono {g g' : Nat → Option D} (h : ∀ n x, g n = some x → g' n = some x) : ∀ (es : List (Pl × D)) {xs : List (Pl × D)}, mapRefE g es = some xs → mapRefE g' es = some xs
  | [], xs, e => by rw [mapRefE] at e ⊢; exact e
  | (p, d) :: ds, xs, e => by
    rw [mapRefE] at e ⊢
    cases h1 : mapRef g d with
    | none => simp [h1] at e
    | some y =>
      cases h2 : mapRefE g ds with
      | none => simp [h1, h2] at e
      | some ys =>
        rw [mapRef_mono h d h1, mapRefE_mono h ds h2]
        simpa [h1, h2] using e
end
theorem mapRefs_map {g : Nat → Option D} {α : Type} (f e : α → D) : ∀ (xs : List α), (∀ x ∈ xs, mapRef g (f x) = some (e x)) → mapRefs g (xs.map f) = some (xs.map e)
  | [], _ => by rw [List.map_nil, mapRefs]; rfl
  | x :: xs, h => by
    rw [List.map_cons, mapRefs, h x (by simp), mapRefs_map f e xs fun y hy => h y (by simp [hy])]
    rfl
theorem rsvN_st {st st' : Store} (h : ∀ (n : Nat) (c : Cell), st[n]? = some c → st'[n]? = some c) : ∀ (k : Nat) (d : D) {x : D}, rsvN st k d = some x → rsvN st' k d = some x
  | 0, d, x, e => by rw [rsvN] at e; cases e
  | k + 1, d, x, e => by
    rw [rsvN] at e ⊢
    refine mapRef_mono (fun n y hy => ?_) d e
    cases hc : st[n]? with
    | none => simp [hc] at hy
    | some c =>
      rw [h n c hc]
      cases c with
      | lst xs =>
        simp only [hc, Option.map_eq_some_iff] at hy ⊢
        obtain ⟨a, b, c⟩ := hy
        exact ⟨a, mapRefs_mono (fun m z hz => rsvN_st h k _ hz) xs b, c⟩
      | lckL xs =>
        simp only [hc, Option.map_eq_some_iff] at hy ⊢
        obtain ⟨a, b, c⟩ := hy
        exact ⟨a, mapRefs_mono (fun m z hz => rsvN_st h k _ hz) xs b, c⟩
      | dct xs =>
        simp only [hc, Option.map_eq_some_iff] at hy ⊢
        obtain ⟨a, b, c⟩ := hy
        exact ⟨a, mapRefE_mono (fun m z hz => rsvN_st h k _ hz) xs b, c⟩
      | lckD xs =>
        simp only [hc, Option.map_eq_some_iff] at hy ⊢
        obtain ⟨a, b, c⟩ := hy
        exact ⟨a, mapRefE_mono (fun m z hz => rsvN_st h k _ hz) xs b, c⟩
theorem rsvN_up {st : Store} : ∀ (k : Nat) (d : D) {x : D}, rsvN st k d = some x → rsvN st (k + 1) d = some x
  | 0, d, x, e => by rw [rsvN] at e; cases e
  | k + 1, d, x, e => by
    rw [rsvN] at e ⊢
    refine mapRef_mono (fun n y hy => ?_) d e
    cases hc : st[n]? with
    | none => simp [hc] at hy
    | some c =>
      cases c with
      | lst xs =>
        simp only [hc, Option.map_eq_some_iff] at hy ⊢
        obtain ⟨a, b, c⟩ := hy
        exact ⟨a, mapRefs_mono (fun m z hz => rsvN_up k _ hz) xs b, c⟩
      | lckL xs =>
        simp only [hc, Option.map_eq_some_iff] at hy ⊢
        obtain ⟨a, b, c⟩ := hy
        exact ⟨a, mapRefs_mono (fun m z hz => rsvN_up k _ hz) xs b, c⟩
      | dct xs =>
        simp only [hc, Option.map_eq_some_iff] at hy ⊢
        obtain ⟨a, b, c⟩ := hy
        exact ⟨a, mapRefE_mono (fun m z hz => rsvN_up k _ hz) xs b, c⟩
      | lckD xs =>
        simp only [hc, Option.map_eq_some_iff] at hy ⊢
        obtain ⟨a, b, c⟩ := hy
        exact ⟨a, mapRefE_mono (fun m z hz => rsvN_up k _ hz) xs b, c⟩
theorem rsvN_le {st : Store} {k j : Nat} (h : k ≤ j) (d : D) {x : D} (e : rsvN st k d = some x) : rsvN st j d = some x := by
  induction h with
  | refl => exact e
  | step _ ih => exact rsvN_up _ d ih
/-- d reads as t, whatever the pile's own cell holds -/
def RT (rest : Store) (k : Nat) (d : D) (t : Tr) : Prop := ∀ c0, rsvN (c0 :: rest) k d = some (trD t)
theorem RT.grow {rest : Store} {k : Nat} {d : D} {t : Tr} (h : RT rest k d t) (more : Store) : RT (rest ++ more) k d t := fun c0 => rsvN_st (fun n c e => by
  rw [← List.cons_append]
  have := (List.getElem?_eq_some_iff.mp e).1
  rw [List.getElem?_append_left this]; exact e) k d (h c0)
theorem RT.le {rest : Store} {k j : Nat} {d : D} {t : Tr} (h : RT rest k d t) (hk : k ≤ j) : RT rest j d t := fun c0 => rsvN_le hk d (h c0)
theorem RT.leaf (rest : Store) (k : Nat) (t : Tr) : RT rest (k + 1) (trD t) t := fun c0 => by rw [rsvN, mapRef_nr _ _ (nr_tr t)]
theorem RT.pos {rest : Store} {k : Nat} {d : D} {t : Tr} (h : RT rest k d t) : 1 ≤ k := by
  cases k with
  | zero => have := h (.lst []); rw [rsvN] at this; cases this
  | succ k => omega
theorem RT.minus {rest : Store} {k : Nat} {d : D} {t : Tr} (h : RT rest k d t) : RT rest k (.tup [.str [109, 105, 110, 117, 115], d]) (.minus t) := fun c0 => by
  have hp := h.pos
  obtain ⟨j, rfl⟩ : ∃ j, k = j + 1 := ⟨k - 1, by omega⟩
  have := h c0
  rw [rsvN] at this ⊢
  simp [mapRef, mapRefs, this]
theorem RT.two {rest : Store} {k : Nat} {d e : D} {t u : Tr} (s : Tx) (h : RT rest k d t) (h2 : RT rest k e u) : RT rest k (.tup [.str [116, 119, 111], .str s, d, e]) (.two s t u) := fun c0 => by
  have hp := h.pos
  obtain ⟨j, rfl⟩ : ∃ j, k = j + 1 := ⟨k - 1, by omega⟩
  have := h c0
  have := h2 c0
  rw [rsvN] at *
  simp [mapRef, mapRefs, *]
theorem RT.pick {rest : Store} {k : Nat} {d e f : D} {t u v : Tr} (h : RT rest k d t) (h2 : RT rest k e u) (h3 : RT rest k f v) : RT rest k (.tup [.str [112, 105, 99, 107], d, e, f]) (.pick t u v) := fun c0 => by
  have hp := h.pos
  obtain ⟨j, rfl⟩ : ∃ j, k = j + 1 := ⟨k - 1, by omega⟩
  have := h c0
  have := h2 c0
  have := h3 c0
  rw [rsvN] at *
  simp [mapRef, mapRefs, *]
theorem RT.over {rest : Store} {k : Nat} (w : Tx) (es : List Pt) (hk : 1 ≤ k) (h : ∀ e ∈ es, RT rest k e.1 e.2.2) : RT (rest ++ [.lst (es.map (·.1))]) (k + 1) (.tup [.str [111, 118, 101, 114], .str w, .ref (rest.length + 1)]) (.over w (es.map (·.2.2))) := fun c0 => by
  obtain ⟨j, rfl⟩ : ∃ j, k = j + 1 := ⟨k - 1, by omega⟩
  have hc : (c0 :: (rest ++ [Cell.lst (es.map (·.1))]))[rest.length + 1]? = some (.lst (es.map (·.1))) := by simp
  have hr : mapRefs (fun m => rsvN (c0 :: (rest ++ [Cell.lst (es.map (·.1))])) (j + 1) (.ref m)) (es.map (·.1)) = some ((es.map fun e => trD e.2.2)) := mapRefs_map _ _ es fun e he => by
    have := ((h e he).grow [Cell.lst (es.map (·.1))]) c0
    rw [rsvN] at this
    have e2 : (fun m => rsvN (c0 :: (rest ++ [Cell.lst (es.map (·.1))])) (j + 1) (.ref m)) = _ := funext fun m => by rw [rsvN, mapRef]
    rw [e2]
    exact this
  rw [rsvN]
  simp only [mapRef, mapRefs, hc, hr]
  simp [List.map_map, Function.comp_def]
structure PtOk (rest : Store) (e : Pt) : Prop where
  rt : RT rest e.2.1 e.1 e.2.2
  ok : e.2.2.Ok 99 26
  dep : e.2.2.dep ≤ e.2.1
theorem PtOk.grow {rest : Store} {e : Pt} (h : PtOk rest e) (more : Store) : PtOk (rest ++ more) e := ⟨h.rt.grow more, h.ok, h.dep⟩
def lv (s : List Pt) : Nat := (s.map fun e => e.2.2.leaves).sum
theorem lv_cons (e : Pt) (s : List Pt) : lv (e :: s) = e.2.2.leaves + lv s := rfl
theorem lv_app (s r : List Pt) : lv (s ++ r) = lv s + lv r := by simp [lv]
theorem lv_leavess : ∀ (es : List Pt), Tr.leavess (es.map (·.2.2)) = lv es
  | [] => by simp [Tr.leavess, lv]
  | e :: es => by rw [List.map_cons, Tr.leavess, lv_leavess es, lv_cons]
def pile (s : List Pt) : Cell := .lst (s.map ptD).reverse
theorem pile_cons (e : Pt) (s : List Pt) : pile (e :: s) = .lst ((s.map ptD).reverse ++ [ptD e]) := by simp [pile]
theorem compF_lst (m : Bool) (elt cond : DS → Store → RE) (v : Nat) (xs : List D) (ds : DS) (st : Store) : compF m elt cond v .it [.lst xs] ds st = match compB elt cond v xs [] ds st with | some (ys, st') => mkL m ys st' | none => .no := by
  unfold compF
  simp only [srcF] <;> rfl
theorem whlB_rel {γ : Type} {c : DS → Store → RE} {body : DS → Store → RS} (F : γ → DS) (G : γ → Store) (I : γ → Prop) (p : γ → Bool) (μ : γ → Nat) (f : Nat) (g : γ) (hI : I g) (hμ : μ g < f)
    (hs : ∀ g, I g → c (F g) (G g) = .ok (.bl (p g)) (G g) ∧ (p g = true → ∃ g', (body (F g) (G g)).cont = .nx (F g') (G g') ∧ I g' ∧ μ g' < μ g)) :
    ∃ g', whlB c body f (F g) (G g) = .nx (F g') (G g') ∧ I g' ∧ p g' = false := by
  induction f generalizing g with
  | zero => omega
  | succ f ih =>
    obtain ⟨h1, h2⟩ := hs g hI
    rw [whlB, h1]
    cases hp : p g with
    | false => exact ⟨g, rfl, hI, hp⟩
    | true =>
      obtain ⟨g', e, hI', hm⟩ := h2 hp
      obtain ⟨g2, e2, h3, h4⟩ := ih g' hI' (by omega)
      refine ⟨g2, ?_, h3, h4⟩
      simp only [R.bindS_ok]
      revert e
      cases hb : body (F g) (G g) <;> intro e <;> simp only [RS.cont] at e <;> cases e
      · exact e2
      · exact e2
@[simp] theorem popC_l2 (n : Nat) (xs : List D) (y z : D) (st : Store) : popC (some (.lst (xs ++ [y, z]))) n st = .ok z (st.set n (.lst (xs ++ [y]))) := by
  have := popC_l n (xs ++ [y]) z st
  simpa using this
@[simp] theorem popC_l3 (n : Nat) (xs : List D) (x y z : D) (st : Store) : popC (some (.lst (xs ++ [x, y, z]))) n st = .ok z (st.set n (.lst (xs ++ [x, y]))) := by
  have := popC_l n (xs ++ [x, y]) z st
  simpa using this

end FL
end
section
set_option maxRecDepth 100000
set_option maxHeartbeats 4000000
namespace FL
open MP
/-! a dict whose values are cells -/
def rfD (n : Nat) : D := .ref (n + 1)
structure GD (B : Nat) (ks : List (Pl × Nat)) (rest : Store) : Prop where
  key : keyN ks
  cell : ∀ e ∈ ks, ∃ ps : List Pl, rest[e.2]? = some (.lst (ps.map plD)) ∧ ps.length ≤ B
theorem GD.up {B C : Nat} {ks : List (Pl × Nat)} {rest : Store} (h : GD B ks rest) (hb : B ≤ C) : GD C ks rest := ⟨h.key, fun e he => by
  obtain ⟨ps, h1, h2⟩ := h.cell e he
  exact ⟨ps, h1, by omega⟩⟩
theorem GD.grow {B : Nat} {ks : List (Pl × Nat)} {rest : Store} (h : GD B ks rest) (more : Store) : GD B ks (rest ++ more) := ⟨h.key, fun e he => by
  obtain ⟨ps, h1, h2⟩ := h.cell e he
  refine ⟨ps, ?_, h2⟩
  rw [List.getElem?_append_left (List.getElem?_eq_some_iff.mp h1).1]
  exact h1⟩
theorem GD.put {B : Nat} {ks : List (Pl × Nat)} {rest : Store} (h : GD B ks rest) (p : Pl) (ps : List Pl) (hp : ps.length ≤ B) : GD B (tput ks p rest.length) (rest ++ [.lst (ps.map plD)]) := ⟨tput_keyN h.key _ _, fun e he => by
  rcases tput_mem he with he | rfl
  · exact (h.grow _).cell e he
  · exact ⟨ps, by simp, hp⟩⟩
theorem GD.get {B : Nat} {ks : List (Pl × Nat)} {rest : Store} (h : GD B ks rest) {p : Pl} (hp : p ∈ ks.map (·.1)) : ∃ (n : Nat) (ps : List Pl), tget ks p = some n ∧ rest[n]? = some (.lst (ps.map plD)) ∧ ps.length ≤ B := by
  obtain ⟨n, hn⟩ := tget_some hp
  obtain ⟨ps, h1, h2⟩ := h.cell (p, n) (tget_mem hn)
  exact ⟨n, ps, hn, h1, h2⟩
theorem GD.app {B : Nat} {ks : List (Pl × Nat)} {rest : Store} (h : GD B ks rest) {n : Nat} {ps : List Pl} (h1 : rest[n]? = some (.lst (ps.map plD))) (h2 : ps.length ≤ B) (q : Pl) : GD (B + 1) ks (rest.set n (.lst (ps.map plD ++ [plD q]))) := ⟨h.key, fun e he => by
  obtain ⟨qs, h3, h4⟩ := h.cell e he
  by_cases hn : e.2 = n
  · refine ⟨ps ++ [q], ?_, by simp; omega⟩
    rw [hn, List.getElem?_set_self (List.getElem?_eq_some_iff.mp h1).1]
    simp
  · exact ⟨qs, by rw [List.getElem?_set_ne (fun e => hn e.symm)]; exact h3, by omega⟩⟩
def cont (rest : Store) (n : Nat) : List Pl := match rest[n]? with
  | some (.lst xs) => (plsOf xs).getD []
  | _ => []
theorem cont_eq {rest : Store} {n : Nat} {ps : List Pl} (h : rest[n]? = some (.lst (ps.map plD))) : cont rest n = ps := by
  unfold cont
  rw [h]
  have : plsOf (ps.map plD) = some ps := plsOf_pls ps
  simp [this]
def lnOf (ks : List (Pl × Nat)) (rest : Store) : DL := ks.map fun e => (e.1, cont rest e.2)
theorem lnOf_keys (ks : List (Pl × Nat)) (rest : Store) : (lnOf ks rest).map (·.1) = ks.map (·.1) := by simp [lnOf, List.map_map, Function.comp_def]
theorem GD.ok {B : Nat} {ks : List (Pl × Nat)} {rest : Store} (h : GD B ks rest) (hl : ks.length ≤ 1000) (hb : B ≤ 100000) : OkD (lnOf ks rest) where
  key := by unfold keyN; rw [lnOf_keys]; exact h.key
  len := by unfold lnOf; rw [List.length_map]; exact hl
  lens := fun e he => by
    obtain ⟨x, hx, rfl⟩ := List.mem_map.mp he
    obtain ⟨ps, h1, h2⟩ := h.cell x hx
    simp only [cont_eq h1]
    omega
theorem mapRefE_enc {α : Type} {g : Nat → Option D} (f : α → D) (e : α → D) : ∀ (es : List (Pl × α)), (∀ x ∈ es, mapRef g (f x.2) = some (e x.2)) → mapRefE g (encE f es) = some (encE e es)
  | [], _ => by rw [encE, List.map_nil, mapRefE]; rfl
  | x :: es, h => by
    have ih := mapRefE_enc f e es fun y hy => h y (by simp [hy])
    simp only [encE] at ih
    simp only [encE, List.map_cons]
    rw [mapRefE, h x (by simp), ih]
theorem GD.read {B : Nat} {ks : List (Pl × Nat)} {rest : Store} (h : GD B ks rest) : rsv (.dct (encE rfD ks) :: rest) (.ref 0) = some (.dct (encE plsL (lnOf ks rest))) := by
  unfold rsv
  rw [if_neg (by simp [noRef]), rsvN, mapRef]
  simp only [List.getElem?_cons_zero]
  have e : encE plsL (lnOf ks rest) = encE (fun n => plsL (cont rest n)) ks := by simp [encE, lnOf, List.map_map, Function.comp_def]
  rw [e]
  rw [mapRefE_enc rfD (fun n => plsL (cont rest n)) ks fun x hx => ?_]
  · rfl
  · obtain ⟨ps, h1, h2⟩ := h.cell x hx
    rw [rfD, mapRef, rsvN, mapRef]
    simp only [List.getElem?_cons_succ, h1, cont_eq h1]
    rw [mapRefs_nr _ _ (show noRefs (ps.map plD) = true from noRefs_pls ps)]
    rfl
theorem dget_rf (ks : List (Pl × Nat)) (p : Pl) : dget (encE rfD ks) p = (tget ks p).map rfD := dget_enc rfD ks p
@[simp] theorem or_setd (n : Nat) (st : Store) (es : List (Pl × D)) (h : st[n]? = some (.dct es)) : okRecv .setd (.ref n) st = true := by simp [okRecv, h]
theorem setd_none {st : Store} {n : Nat} {es : List (Pl × D)} {k : Pl} (c : D) (h : st[n]? = some (.dct es)) (hk : dget es k = none) (hl : es.length < lim) : prim3F .setd (.ref n) (plD k) c st = .ok c (st.set n (.dct (dput es k c))) := by
  simp only [prim3F, plOf_pl, h, hk, hl, if_true]
theorem setd_some {st : Store} {n : Nat} {es : List (Pl × D)} {k : Pl} {v : D} (c : D) (h : st[n]? = some (.dct es)) (hk : dget es k = some v) (hl : es.length < lim) : prim3F .setd (.ref n) (plD k) c st = .ok v st := by
  simp only [prim3F, plOf_pl, h, hk, hl, if_true]
mutual
theorem shift_zero : ∀ d : D, shift 0 d = d
  | .tup xs => by rw [shift, shifts_zero xs]
  | .lst xs => by rw [shift, shifts_zero xs]
  | .dct es => by rw [shift, shiftE_zero es]
  | .ref n => by rw [shift, Nat.zero_add]
  | .non => by rw [shift]
  | .bl _ => by rw [shift]
  | .int _ => by rw [shift]
  | .str _ => by rw [shift]
  | .scr _ => by rw [shift]
theorem shifts_zero : ∀ ds : List D, shifts 0 ds = ds
  | [] => by rw [shifts]
  | d :: ds => by rw [shifts, shift_zero d, shifts_zero ds]
theorem shiftE_zero : ∀ es : List (Pl × D), shiftE 0 es = es
  | [] => by rw [shiftE]
  | (p, d) :: es => by rw [shiftE, shift_zero d, shiftE_zero es]
end
theorem shiftC_zero (c : Cell) : shiftC 0 c = c := by cases c <;> simp [shiftC, shifts_zero, shiftE_zero]
theorem raw2_nil (d : D) (S : Store) : raw2 true (.ok d S) [] = .ok d S := by
  simp only [raw2, Bool.true_or, if_true, List.length_nil, shift_zero, List.nil_append]
  congr 1
  rw [show shiftC 0 = id from funext shiftC_zero, List.map_id]

end FL
end
section
set_option maxRecDepth 100000
set_option maxHeartbeats 4000000
namespace FL
open MP
/-! going round -/
def Cyc (f : Pl → Pl) (R : List Pl) : Prop := R.map f = R.tail ++ R.take 1
theorem cyc_rot {f : Pl → Pl} {A B : List Pl} (h : Cyc f (A ++ B)) : Cyc f (B ++ A) := by
  cases A with
  | nil => simpa using h
  | cons a A =>
    cases B with
    | nil => simpa using h
    | cons b B =>
      unfold Cyc at *
      simp only [List.cons_append, List.map_cons, List.map_append, List.tail_cons, List.take_succ_cons, List.take_zero] at h ⊢
      have h1 : (f a :: A.map f) ++ (f b :: B.map f) = (A ++ [b]) ++ (B ++ [a]) := by simpa using h
      obtain ⟨e1, e2⟩ := List.append_inj h1 (by simp)
      have : (f b :: B.map f) ++ (f a :: A.map f) = (B ++ [a]) ++ (A ++ [b]) := by rw [e1, e2]
      simpa using this
theorem cyc_mem {f : Pl → Pl} {R : List Pl} (h : Cyc f R) {x : Pl} (hx : x ∈ R) : f x ∈ R := by
  have : f x ∈ R.map f := List.mem_map_of_mem hx
  rw [h] at this
  rcases List.mem_append.mp this with h | h
  · exact List.mem_of_mem_tail h
  · exact List.mem_of_mem_take h
theorem cyc_next {f : Pl → Pl} {R : List Pl} (h : Cyc f R) {k : Nat} {x : Pl} (hx : R[k]? = some x) : (R ++ R)[k + 1]? = some (f x) := by
  have h1 : (R.map f)[k]? = some (f x) := by rw [List.getElem?_map, hx]; rfl
  rw [h] at h1
  cases R with
  | nil => simp at hx
  | cons r R =>
    simp only [List.tail_cons, List.take_succ_cons, List.take_zero, List.cons_append, List.getElem?_cons_succ] at h1 ⊢
    by_cases hk : k < R.length
    · rw [List.getElem?_append_left hk] at h1 ⊢; exact h1
    · rw [List.getElem?_append_right (by omega)] at h1 ⊢
      have := (List.getElem?_eq_some_iff.mp h1).1
      simp at this
      have e : k - R.length = 0 := by omega
      rw [e] at h1 ⊢
      simpa using h1
def itF (f : Pl → Pl) : Nat → Pl → Pl
  | 0, p => p
  | n + 1, p => f (itF f n p)
theorem it_mem {f : Pl → Pl} {R : List Pl} (h : Cyc f R) {x : Pl} (hx : x ∈ R) : ∀ n, itF f n x ∈ R
  | 0 => hx
  | n + 1 => cyc_mem h (it_mem h hx n)
theorem it_add (f : Pl → Pl) (p : Pl) (m : Nat) : ∀ n, itF f (n + m) p = itF f n (itF f m p)
  | 0 => by rw [Nat.zero_add]; rfl
  | n + 1 => by rw [Nat.succ_add, itF, it_add f p m n]; rfl
structure Wk (f : Pl → Pl) (p0 : Pl) (w : List Pl) (p : Pl) : Prop where
  nd : w.Nodup
  ch : w ++ [p] = p0 :: w.map f
theorem Wk.step {f : Pl → Pl} {p0 : Pl} {w : List Pl} {p : Pl} (h : Wk f p0 w p) (hp : p ∉ w) : Wk f p0 (w ++ [p]) (f p) := by
  refine ⟨?_, ?_⟩
  · rw [List.nodup_append]
    exact ⟨h.nd, by simp, by intro a ha b hb; simp at hb; subst hb; intro e; exact hp (by rw [← e]; exact ha)⟩
  · rw [List.map_append, ← List.cons_append, ← h.ch]; rfl
theorem Wk.it {f : Pl → Pl} {p0 : Pl} {w : List Pl} {p : Pl} (h : Wk f p0 w p) : ∀ k, k ≤ w.length → (w ++ [p])[k]? = some (itF f k p0)
  | 0, _ => by rw [h.ch]; rfl
  | k + 1, hk => by
    have := h.it k (by omega)
    rw [h.ch, List.getElem?_cons_succ, List.getElem?_map]
    rw [List.getElem?_append_left (by omega)] at this
    rw [this]
    rfl
def ringW (w : List Pl) (p : Pl) : List Pl := w.drop (w.idxOf p)
theorem idx_split {w : List Pl} {p : Pl} (h : p ∈ w) : w = w.take (w.idxOf p) ++ p :: w.drop (w.idxOf p + 1) := by
  have hl := List.idxOf_lt_length_of_mem h
  conv => lhs; rw [← List.take_append_drop (w.idxOf p) w]
  congr 1
  rw [List.drop_eq_getElem_cons hl]
  congr 1
  exact List.getElem_idxOf hl
theorem Wk.cyc {f : Pl → Pl} {p0 : Pl} {w : List Pl} {p : Pl} (h : Wk f p0 w p) (hp : p ∈ w) : Cyc f (ringW w p) ∧ ∃ B, ringW w p = p :: B := by
  have hs := idx_split hp
  have hl := List.idxOf_lt_length_of_mem hp
  have hd : ringW w p = p :: w.drop (w.idxOf p + 1) := by
    unfold ringW
    rw [List.drop_eq_getElem_cons hl]
    congr 1
    exact List.getElem_idxOf hl
  refine ⟨?_, _, hd⟩
  have hc := h.ch
  have h2 := congrArg (List.drop (w.idxOf p + 1)) hc
  rw [List.drop_succ_cons, ← List.map_drop, List.drop_append_of_le_length (by omega)] at h2
  unfold Cyc
  rw [hd]
  rw [List.tail_cons]
  unfold ringW at hd
  rw [hd] at h2
  exact h2.symm
/-- begun by the least -/
def ringF (w : List Pl) (p : Pl) : List Pl := (ringW w p).drop ((ringW w p).idxOf (minP (ringW w p))) ++ (ringW w p).take ((ringW w p).idxOf (minP (ringW w p)))
theorem minP_foldl : ∀ (ps : List Pl) (a : Pl), (ps.foldl (fun a y => if plLt y a then y else a) a = a ∨ ps.foldl (fun a y => if plLt y a then y else a) a ∈ ps)
  | [], a => .inl rfl
  | b :: ps, a => by
    simp only [List.foldl_cons]
    rcases minP_foldl ps (if plLt b a then b else a) with h | h
    · rw [h]; split <;> simp
    · exact .inr (List.mem_cons_of_mem _ h)
theorem minP_mem {ps : List Pl} (h : ps ≠ []) : minP ps ∈ ps := by
  cases ps with
  | nil => exact absurd rfl h
  | cons p ps =>
    rcases minP_foldl ps p with h | h
    · simp only [minP, h]; simp
    · exact List.mem_cons_of_mem _ h
theorem plLt_iff (a b : Pl) : plLt a b = true ↔ (a.1 < b.1 ∨ (a.1 = b.1 ∧ a.2 < b.2)) := by
  unfold plLt
  simp
theorem foldl_le : ∀ (ps : List Pl) (a : Pl), plLt a (ps.foldl (fun a y => if plLt y a then y else a) a) = false ∧ ∀ x ∈ ps, plLt x (ps.foldl (fun a y => if plLt y a then y else a) a) = false
  | [], a => by
    refine ⟨?_, by simp⟩
    rw [← Bool.not_eq_true, plLt_iff]
    simp
  | b :: ps, a => by
    simp only [List.foldl_cons]
    obtain ⟨h1, h2⟩ := foldl_le ps (if plLt b a then b else a)
    generalize ps.foldl (fun a y => if plLt y a then y else a) (if plLt b a then b else a) = m at *
    have key : plLt a m = false ∧ plLt b m = false := by
      by_cases hb : plLt b a = true
      · rw [if_pos hb] at h1
        refine ⟨?_, h1⟩
        rw [plLt_iff] at hb
        rw [← Bool.not_eq_true, plLt_iff] at h1 ⊢
        omega
      · rw [if_neg hb] at h1
        refine ⟨h1, ?_⟩
        rw [plLt_iff] at hb
        rw [← Bool.not_eq_true, plLt_iff] at h1 ⊢
        omega
    exact ⟨key.1, fun x hx => by
      rcases List.mem_cons.mp hx with rfl | hx
      · exact key.2
      · exact h2 x hx⟩
theorem minP_le {ps : List Pl} {x : Pl} (hx : x ∈ ps) : plLt x (minP ps) = false := by
  cases ps with
  | nil => cases hx
  | cons p ps =>
    rcases List.mem_cons.mp hx with rfl | hx
    · exact (foldl_le ps x).1
    · exact (foldl_le ps p).2 x hx
theorem ringF_perm (w : List Pl) (p : Pl) : (ringF w p).Perm (ringW w p) := by
  unfold ringF
  exact List.perm_append_comm.trans (by rw [List.take_append_drop])
theorem Wk.ring {f : Pl → Pl} {p0 : Pl} {w : List Pl} {p : Pl} (h : Wk f p0 w p) (hp : p ∈ w) :
    Cyc f (ringF w p) ∧ (ringF w p).Nodup ∧ (∀ x, x ∈ ringF w p ↔ x ∈ ringW w p) ∧ p ∈ ringF w p ∧ ∃ m B, ringF w p = m :: B ∧ ∀ x ∈ ringF w p, plLt x m = false := by
  obtain ⟨h1, B, h2⟩ := h.cyc hp
  have hne : ringW w p ≠ [] := by rw [h2]; simp
  have hm := minP_mem hne
  have hmem : ∀ x, x ∈ ringF w p ↔ x ∈ ringW w p := fun x => (ringF_perm w p).mem_iff
  have hl := List.idxOf_lt_length_of_mem hm
  refine ⟨?_, (ringF_perm w p).nodup_iff.mpr ?_, hmem, (hmem p).mpr (by rw [h2]; simp), minP (ringW w p), (ringW w p).drop ((ringW w p).idxOf (minP (ringW w p)) + 1) ++ (ringW w p).take ((ringW w p).idxOf (minP (ringW w p))), ?_, ?_⟩
  · unfold ringF
    apply cyc_rot
    rw [List.take_append_drop]
    exact h1
  · exact List.Nodup.sublist (List.drop_sublist _ _) h.nd
  · unfold ringF
    rw [List.drop_eq_getElem_cons hl, List.getElem_idxOf hl]
    rfl
  · intro x hx
    exact minP_le ((hmem x).mp hx)
theorem ringW_sub {w : List Pl} {p x : Pl} (h : x ∈ ringW w p) : x ∈ w := List.mem_of_mem_drop h
theorem Wk.reach {f : Pl → Pl} {p0 : Pl} {w : List Pl} {p : Pl} (h : Wk f p0 w p) (hp : p ∈ w) {n : Nat} (hn : w.length ≤ n) : itF f n p0 ∈ ringF w p := by
  obtain ⟨h1, _, _, h4, _⟩ := h.ring hp
  have h5 := h.it w.length (Nat.le_refl _)
  rw [List.getElem?_append_right (Nat.le_refl _), Nat.sub_self] at h5
  simp at h5
  have e : n = (n - w.length) + w.length := by omega
  rw [e, it_add, ← h5]
  exact it_mem h1 h4 _
theorem p_index_plsC {ps : List Pl} {st : Store} {n : Nat} (p : Pl) (hs : st[n]? = some (.lst (ps.map plD))) (h : p ∈ ps) : prim2F .index (.ref n) (plD p) st = .ok (.int (ps.idxOf p : Nat)) st := by
  have := p_index_pls ps p st h
  simp only [prim2F, lstOf, hs] at this ⊢
  exact this
theorem raw2_two {nr : Bool} {xs ys : List D} {st : Store} (h1 : noRefs xs = true) (h2 : noRefs ys = true) (h3 : (nr || (flatRs xs && flatRs ys)) = true) : raw2 nr (.ok (.ref 1) [.lst xs, .lst ys]) st = .ok (.ref (st.length + 1)) (st ++ [.lst xs, .lst ys]) := by
  unfold raw2
  simp only [flatR, List.all_cons, List.all_nil, flatC, Bool.and_true, Bool.true_and, h3, if_true, shift, List.map_cons, List.map_nil, shiftC, shifts_nr _ xs h1, shifts_nr _ ys h2]
theorem eqv_dctF {α : Type} {f : α → D} {st : Store} {es : List (Pl × α)} (h : keyN es) (hnr : ∀ a, noRef (f a) = true) (hc : ∀ a, cmpD (f a) = true) (hd : ∀ a, dep (f a) ≤ 60) (hq : ∀ a, eqD (f a) (f a) = true) :
    eqVal st (.dct (encE f es)) (.dct (encE f es)) = some true := by
  have h1 : rsv st (.dct (encE f es)) = some (.dct (encE f es)) := rsv_nr (by simp [noRef, nrE_enc hnr es])
  unfold eqVal
  rw [if_neg (by simp [scalar]), h1]
  simp only [cmpD, Bool.false_and, if_false, eqX, eqE_self h hc hd hq, if_true]
  rfl
theorem eqv_dctP {st : Store} {es : List (Pl × Pl)} (h : keyN es) : eqVal st (.dct (encE plD es)) (.dct (encE plD es)) = some true :=
  eqv_dctF h (fun _ => rfl) (fun _ => rfl) (fun _ => by simp) fun a => by rw [eqD_pl]; simp
theorem rangeI_at {n : Int} {j : Int} (h0 : 0 ≤ j) (h1 : j < n) : (rangeI 0 n)[j.toNat]? = some j := by
  unfold rangeI
  rw [List.getElem?_map, List.getElem?_range (by omega)]
  simp
  omega
theorem ix_rng {α : Type} (g : Int → α) (enc : α → D) {n j : Int} (h0 : 0 ≤ j) (h1 : j < n) (st : Store) : prim2F .ix (.lst (((rangeI 0 n).map g).map enc)) (.int j) st = .ok (enc (g j)) st := by
  rw [p_ix_lst st _ j h0 (by rw [List.length_map, List.length_map, rangeI_length]; omega), List.getElem?_map, List.getElem?_map, rangeI_at h0 h1]
  rfl
def keyK (z y k : Int) : Pl := (k * 5 % 60 + z, (k + y) % 26)
theorem keyK_inj {z y i j : Int} (hi : 0 ≤ i ∧ i < 60) (hj : 0 ≤ j ∧ j < 60) (h : keyK z y i = keyK z y j) : i = j := by
  unfold keyK at h
  simp only [Prod.mk.injEq] at h
  omega
theorem keyK_nodup {z y n : Int} (h : n ≤ 60) : ((rangeI 0 n).map (keyK z y)).Nodup := by
  rw [List.nodup_iff_pairwise_ne, List.pairwise_map]
  refine List.Pairwise.imp_of_mem ?_ (rangeI_pairwise 0 n)
  intro a b ha hb hab e
  have ha := mem_rangeI.mp ha
  have hb := mem_rangeI.mp hb
  have := keyK_inj (by omega) (by omega) e
  omega
theorem keyK_small {z y k : Int} (h : z = 0 ∨ z = 39) : smallK (keyK z y k) = true := by
  unfold smallK keyK
  simp only [Bool.and_eq_true, decide_eq_true_eq]
  omega
@[simp] theorem nrE_plD (es : List (Pl × Pl)) : noRefE (encE plD es) = true := nrE_enc (by intro p; rfl) _
theorem in_plsF (ps : List Pl) (q : Pl) (st : Store) : inVal st (plD q) (.lst (ps.map plD)) = some (decide (q ∈ ps)) := by
  have hany : ((ps.map plD).any fun y => eqD y (plD q)) = decide (q ∈ ps) := any_pl q ps
  have hnr : noRefs (ps.map plD) = true := noRefs_pls _
  have hcp : cmpDs (ps.map plD) = true := cmpDs_pls _
  have hdp : deps (ps.map plD) ≤ 1 := deps_pls _
  have h0 : ¬ (scalar (plD q) && (ps.map plD).all scalar) = true := by simp [scalar, plD]
  unfold inVal
  simp only [dctOf, seqOf, lstOf]
  rw [if_neg h0, rsv_nr (nr_pl q), rsvs_nr hnr]
  simp only
  rw [if_pos (by simp [hcp]; omega), hany]
def NX (nx : List (Pl × Pl)) (p : Pl) : Pl := (tget nx p).getD p
theorem minP_head {m : Pl} {B : List Pl} (h : ∀ x ∈ m :: B, plLt x m = false) : minP (m :: B) = m := by
  unfold minP
  simp only
  induction B with
  | nil => rfl
  | cons b B ih =>
    rw [List.foldl_cons, if_neg (by rw [h b (by simp)]; simp)]
    exact ih fun x hx => h x (by rcases List.mem_cons.mp hx with rfl | hx <;> simp [*])
theorem Wk.closed {f : Pl → Pl} {p0 : Pl} {w : List Pl} {p : Pl} (h : Wk f p0 w p) (hp : p ∈ w) : p0 ∈ w ∧ ∀ x ∈ w, f x ∈ w := by
  have hc := h.ch
  refine ⟨?_, fun x hx => ?_⟩
  · cases w with
    | nil => cases hp
    | cons a w => simp only [List.cons_append, List.cons.injEq] at hc; rw [hc.1]; simp
  · have : f x ∈ p0 :: w.map f := List.mem_cons_of_mem _ (List.mem_map_of_mem hx)
    rw [← hc] at this
    rcases List.mem_append.mp this with h | h
    · exact h
    · rw [List.mem_singleton.mp h]; exact hp
theorem Wk.same {f : Pl → Pl} {p0 : Pl} {w v : List Pl} {p q : Pl} (h : Wk f p0 w p) (g : Wk f p0 v q) (hq : q ∈ v) {x : Pl} (hx : x ∈ w) : x ∈ v := by
  obtain ⟨i, hi, e⟩ := List.mem_iff_getElem.mp hx
  have h1 := h.it i (by omega)
  rw [List.getElem?_append_left hi, List.getElem?_eq_getElem hi, e] at h1
  simp only [Option.some.injEq] at h1
  rw [h1]
  obtain ⟨g1, g2⟩ := g.closed hq
  clear h1 hi e
  induction i with
  | zero => exact g1
  | succ i ih => exact g2 _ ih

end FL
end
section
set_option maxRecDepth 100000
set_option maxHeartbeats 4000000
namespace FL
open MP
/-- _law_cell_at -/
def fn_cell_at_L3 : MP.Fn := ⟨2, 2, [.ifs (.pr (.op .lt) [.var 1, .pr .len [.var 0]]) [.ret (.pr (.op .mod) [.pr (.op (.add false)) [.pr (.op .mul) [.pr .ix [.var 0, .var 1], .k (.int 48271)], .pr (.op .mul) [.var 1, .k (.int 7919)]], .k (.int 1000003)])] [], .ret (.k (.int 0))]⟩
section
variable {T : Nat → Option Fn} {N : Nat} [At T 209 fn_cell_at_L3]
def cellW (ns : List Int) (k : Int) : Int := if k < ns.length then (ns.getD k.toNat 0 * 48271 + k * 7919) % 1000003 else 0
theorem cellW_nn (ns : List Int) (k : Int) : 0 ≤ cellW ns k ∧ cellW ns k < 1000003 := by unfold cellW; split <;> omega
theorem cellw_c (ns : List Int) (k : Int) (hk : 0 ≤ k) (hl : ns.length ≤ 63) {nr : Bool} {st : Store} (hN : 1 ≤ N) : frz nr (callF T N 209 [.scr ns, .int k] []) st = .ok (.int (cellW ns k)) st := by
  rw [call_at (by omega) rfl]
  by_cases h : k < ns.length
  · simp (disch := first | assumption | omega | (simp [-List.map_map, -List.map_take, -List.map_drop]; done) | (refine MP.lim_ok ?_; simp [-List.map_map, -List.map_take, -List.map_drop] <;> omega) | (simp [lim, -List.map_map, -List.map_take, -List.map_drop] <;> omega) | fail) [-List.map_map, -List.map_take, -List.map_drop, fn_cell_at_L3, cellW, h]
  · simp (disch := first | assumption | omega | (simp [-List.map_map, -List.map_take, -List.map_drop]; done) | (refine MP.lim_ok ?_; simp [-List.map_map, -List.map_take, -List.map_drop] <;> omega) | (simp [lim, -List.map_map, -List.map_take, -List.map_drop] <;> omega) | fail) [-List.map_map, -List.map_take, -List.map_drop, fn_cell_at_L3, cellW, h]

end
end FL
end
section
set_option maxRecDepth 100000
set_option maxHeartbeats 4000000
namespace FL
open MP
/-- _law_cells -/
def fn_cells_L_e1 : MP.E := .call 209 false [.var 0, .var 3]
def fn_cells_L : MP.Fn := ⟨3, 4, [.ret (.comp false 3 fn_cells_L_e1 .rng2 [.var 1, .pr .min2 [.var 2, .pr .len [.var 0]]] (.k (.bl true)))]⟩
section
variable {T : Nat → Option Fn} {N : Nat} [At T 209 fn_cell_at_L3] [At T 210 fn_cells_L]
theorem cells_c (ns : List Int) (a b : Int) (ha : 0 ≤ a) (hb : a ≤ b) (hb2 : b ≤ 1000) (hl : ns.length ≤ 63) {st : Store} (hN : 2 ≤ N) : frz true (callF T N 210 [.scr ns, .int a, .int b] []) st = .ok (.lst (((rangeI a (min b ns.length)).map (cellW ns)).map .int)) st := by
  rw [call_at (by omega) rfl]
  have hc := compF_all (m := false) (elt := evE (callF T (N - 1)) fn_cells_L_e1) (cl := callF T (N - 1)) (v := 3) (ds := [some (.scr ns), some (.int a), some (.int b), none]) (st := []) D.int D.int (cellW ns) (rangeI a (min b ns.length)) (by rw [rangeI_length]; simp only [lim]; omega) fun k hk => by
    rw [mem_rangeI] at hk
    have := fun nr st => cellw_c (T := T) (N := N - 1) (nr := nr) (st := st) ns k (by omega) hl (by omega)
    simp (disch := first | assumption | omega | (simp [-List.map_map, -List.map_take, -List.map_drop]; done) | (refine MP.lim_ok ?_; simp [-List.map_map, -List.map_take, -List.map_drop] <;> omega) | (simp [lim, -List.map_map, -List.map_take, -List.map_drop] <;> omega) | fail) [-List.map_map, -List.map_take, -List.map_drop, fn_cells_L_e1, this]
  simp (disch := first | assumption | omega | (simp [-List.map_map, -List.map_take, -List.map_drop]; done) | (refine MP.lim_ok ?_; simp [-List.map_map, -List.map_take, -List.map_drop] <;> omega) | (simp [lim, -List.map_map, -List.map_take, -List.map_drop] <;> omega) | fail) [-List.map_map, -List.map_take, -List.map_drop, fn_cells_L, compF_rng2, hc]

end
end FL
end
section
set_option maxRecDepth 100000
set_option maxHeartbeats 4000000
namespace FL
open MP
/-- _law_area -/
def fn_area_L1 : MP.Fn := ⟨2, 5, [.set 2 (.pr (.op .mod) [.var 0, .k (.int 4)]), .set 3 (.pr (.op .mod) [.pr (.op .fdiv) [.var 0, .k (.int 4)], .k (.int 4)]), .set 4 (.pr .tup [.pr (.op (.add false)) [.pr .ix [.var 1, .k (.int 0)], .pr .max2 [.var 2, .pr (.op .mod) [.pr (.op .fdiv) [.var 0, .k (.int 16)], .k (.int 4)]]], .pr (.op (.add false)) [.pr .ix [.var 1, .k (.int 1)], .pr .max2 [.var 3, .pr (.op .mod) [.pr (.op .fdiv) [.var 0, .k (.int 64)], .k (.int 4)]]]]), .ret (.pr .tup [.k (.str [97, 114, 101, 97]), .pr .tup [.k (.str [114, 101, 102]), .pr .tup [.pr (.op (.add false)) [.pr .ix [.var 1, .k (.int 0)], .var 2], .pr (.op (.add false)) [.pr .ix [.var 1, .k (.int 1)], .var 3]], .pr .tup [.k (.bl false), .k (.bl true)]], .pr .tup [.k (.str [114, 101, 102]), .var 4, .pr .tup [.k (.bl false), .k (.bl false)]]])]⟩
section
variable {T : Nat → Option Fn} {N : Nat} [At T 232 fn_area_L1]
theorem area1_c (c : Int) (far : Pl) {nr : Bool} {st : Store} (hN : 1 ≤ N) : frz nr (callF T N 232 [.int c, plD far] []) st = .ok (trD (areaC c far)) st := by
  rw [call_at (by omega) rfl]
  simp (disch := first | assumption | omega | (simp [-List.map_map, -List.map_take, -List.map_drop]; done) | (refine MP.lim_ok ?_; simp [-List.map_map, -List.map_take, -List.map_drop] <;> omega) | (simp [lim, -List.map_map, -List.map_take, -List.map_drop] <;> omega) | fail) [-List.map_map, -List.map_take, -List.map_drop, fn_area_L1, areaC, plD, blD]

end
end FL
end
section
set_option maxRecDepth 100000
set_option maxHeartbeats 4000000
namespace FL
open MP
/-- _law_mix -/
def fn_mix_L1 : MP.Fn := ⟨2, 2, [.ret (.pr (.op .mod) [.pr (.op (.add false)) [.pr (.op (.add false)) [.pr (.op .mul) [.var 0, .k (.int 48271)], .pr (.op .mul) [.var 1, .k (.int 69621)]], .k (.int 11)], .k (.int 1000003)])]⟩
section
variable {T : Nat → Option Fn} {N : Nat} [At T 230 fn_mix_L1]
theorem mix1_c (c k : Int) (hk : 0 ≤ k ∧ k < 1000) {nr : Bool} {st : Store} (hN : 1 ≤ N) : frz nr (callF T N 230 [.int c, .int k] []) st = .ok (.int (mixI c k)) st := by
  rw [call_at (by omega) rfl]
  simp (disch := first | assumption | omega | (simp [-List.map_map, -List.map_take, -List.map_drop]; done) | (refine MP.lim_ok ?_; simp [-List.map_map, -List.map_take, -List.map_drop] <;> omega) | (simp [lim, -List.map_map, -List.map_take, -List.map_drop] <;> omega) | fail) [-List.map_map, -List.map_take, -List.map_drop, fn_mix_L1, mixI]

end
end FL
end
section
set_option maxRecDepth 100000
set_option maxHeartbeats 4000000
namespace FL
open MP
/-- _law_ref -/
def fn_ref_L1 : MP.Fn := ⟨2, 2, [.ret (.pr .tup [.k (.str [114, 101, 102]), .pr .tup [.pr (.op (.add false)) [.pr .ix [.var 1, .k (.int 0)], .pr (.op .mod) [.var 0, .k (.int 4)]], .pr (.op (.add false)) [.pr .ix [.var 1, .k (.int 1)], .pr (.op .mod) [.pr (.op .fdiv) [.var 0, .k (.int 4)], .k (.int 4)]]], .pr .tup [.pr (.op .eq) [.pr (.op .mod) [.pr (.op .fdiv) [.var 0, .k (.int 16)], .k (.int 2)], .k (.int 1)], .pr (.op .eq) [.pr (.op .mod) [.pr (.op .fdiv) [.var 0, .k (.int 32)], .k (.int 2)], .k (.int 1)]]])]⟩
section
variable {T : Nat → Option Fn} {N : Nat} [At T 231 fn_ref_L1]
theorem ref1_c (c : Int) (far : Pl) {nr : Bool} {st : Store} (hN : 1 ≤ N) : frz nr (callF T N 231 [.int c, plD far] []) st = .ok (trD (refC c far)) st := by
  rw [call_at (by omega) rfl]
  simp (disch := first | assumption | omega | (simp [-List.map_map, -List.map_take, -List.map_drop]; done) | (refine MP.lim_ok ?_; simp [-List.map_map, -List.map_take, -List.map_drop] <;> omega) | (simp [lim, -List.map_map, -List.map_take, -List.map_drop] <;> omega) | fail) [-List.map_map, -List.map_take, -List.map_drop, fn_ref_L1, refC, plD, blD]

end
end FL
end
section
set_option maxRecDepth 100000
set_option maxHeartbeats 4000000
namespace FL
open MP
/-- _law_over -/
def fn_over_L3_b1 : List MP.S := [.set 5 (.call 230 false [.var 0, .pr (.op (.add false)) [.var 4, .k (.int 5)]]), .ifs (.or (.pr (.op .eq) [.pr (.op .mod) [.var 5, .k (.int 3)], .k (.int 0)]) (.and (.pr (.op .gt) [.var 4, .k (.int 1)]) (.pr (.op .eq) [.pr (.op .mod) [.var 5, .k (.int 3)], .k (.int 1)]))) [.expr (.mth .append (.var 3) [.call 231 false [.pr (.op .fdiv) [.var 5, .k (.int 3)], .var 1]])] [.ifs (.pr (.op .eq) [.pr (.op .mod) [.var 5, .k (.int 3)], .k (.int 1)]) [.expr (.mth .append (.var 3) [.call 234 false [.pr (.op .fdiv) [.var 5, .k (.int 3)], .var 1, .pr (.op .sub) [.var 2, .k (.int 1)]]])] [.expr (.mth .append (.var 3) [.call 232 false [.pr (.op .fdiv) [.var 5, .k (.int 3)], .var 1]])]]]
def fn_over_L3 : MP.Fn := ⟨3, 6, [.set 3 (.pr (.lst true) []), .for 4 .rng1 [.pr (.op (.add false)) [.k (.int 1), .pr (.op .mod) [.pr (.op .fdiv) [.var 0, .k (.int 3)], .pr (.op (.add false)) [.k (.int 2), .pr (.op .mul) [.k (.int 2), .var 2]]]]] fn_over_L3_b1, .ret (.pr .tup [.k (.str [111, 118, 101, 114]), .pr .ix [.pr (.lst false) [.k (.str [83, 85, 77]), .k (.str [67, 79, 85, 78, 84]), .k (.str [77, 65, 88])], .pr (.op .mod) [.var 0, .k (.int 3)]], .var 3])]⟩
/-- _law_tree -/
def fn_tree_L1 : MP.Fn := ⟨3, 7, [.set 3 (.pr (.op .mod) [.var 0, .k (.int 9)]), .set 4 (.pr (.op .fdiv) [.var 0, .k (.int 9)]), .ifs (.or (.pr (.op .eq) [.var 2, .k (.int 0)]) (.pr (.op .eq) [.var 3, .k (.int 0)])) [.ret (.pr .ix [.pr (.lst false) [.call 231 false [.var 4, .var 1], .pr .tup [.k (.str [110, 117, 109]), .pr (.op .mod) [.var 4, .k (.int 11)]], .call 231 false [.var 4, .var 1], .pr .tup [.k (.str [103, 111, 110, 101])]], .pr (.op .mul) [.pr (.op .mod) [.var 4, .k (.int 4)], .pr (.op .mod) [.pr (.op .fdiv) [.var 4, .k (.int 4)], .k (.int 2)]]])] [], .ifs (.pr (.op .lt) [.var 3, .k (.int 3)]) [.ret (.call 233 false [.var 4, .var 1, .var 2])] [], .set 5 (.call 234 false [.call 230 false [.var 0, .k (.int 1)], .var 1, .pr (.op .sub) [.var 2, .k (.int 1)]]), .ifs (.pr (.op .eq) [.var 3, .k (.int 3)]) [.ret (.pr .tup [.k (.str [109, 105, 110, 117, 115]), .var 5])] [], .set 6 (.call 234 false [.call 230 false [.var 0, .k (.int 2)], .var 1, .pr (.op .sub) [.var 2, .k (.int 1)]]), .ifs (.pr (.op .eq) [.var 3, .k (.int 4)]) [.ret (.pr .tup [.k (.str [112, 105, 99, 107]), .call 231 false [.var 4, .var 1], .var 5, .var 6])] [], .ifs (.pr (.op .eq) [.var 3, .k (.int 5)]) [.ret (.pr .tup [.k (.str [112, 105, 99, 107]), .var 5, .var 6, .call 234 false [.call 230 false [.var 0, .k (.int 3)], .var 1, .pr (.op .sub) [.var 2, .k (.int 1)]]])] [], .ifs (.pr (.op .eq) [.var 3, .k (.int 6)]) [.ret (.pr .tup [.k (.str [116, 119, 111]), .k (.str [43]), .call 231 false [.var 4, .var 1], .pr .tup [.k (.str [110, 117, 109]), .k (.int 1)]])] [], .ret (.pr .tup [.k (.str [116, 119, 111]), .pr .ix [.pr (.lst false) [.k (.str [43]), .k (.str [45]), .k (.str [42]), .k (.str [47]), .k (.str [60]), .k (.str [61])], .pr (.op .mod) [.var 4, .k (.int 6)]], .var 5, .var 6])]⟩
section
variable {T : Nat → Option Fn} {N : Nat} [At T 230 fn_mix_L1] [At T 231 fn_ref_L1] [At T 232 fn_area_L1] [At T 233 fn_over_L3] [At T 234 fn_tree_L1]
theorem over3_c (TC : Int → Tr) (c : Int) (far : Pl) (d : Nat) (hd : d ≤ 3) (h1 : 1 ≤ d) (hN : 2 ≤ N) (hT : ∀ c st, frz true (callF T (N - 1) 234 [.int c, plD far, .int ((d : Int) - 1)] []) st = .ok (trD (TC c)) st) :
    callF T N 233 [.int c, plD far, .int d] [] = .ok (.tup [.str [111, 118, 101, 114], .str (wordT c), .ref 0]) [.lst (((rangeI 0 (1 + c / 3 % (2 + 2 * (d : Int)))).map (partC TC c far)).map trD)] := by
  have m0 := Int.emod_nonneg (c / 3) (show (2 + 2 * (d : Int)) ≠ 0 by omega)
  have m1 := Int.emod_lt_of_pos (c / 3) (show 0 < (2 + 2 * (d : Int)) by omega)
  obtain ⟨n, hn⟩ : ∃ n, n = 1 + c / 3 % (2 + 2 * (d : Int)) := ⟨_, rfl⟩
  obtain ⟨⟨g, o⟩, l1, l2⟩ := forB_rel (body := evB (callF T (N - 1)) fn_over_L3_b1) (v := 4) D.int (fun v (g : List Tr × Option D) => [some (.int c), some (plD far), some (.int d), some (.ref 0), v, g.2]) (fun g => [.lst (g.1.map trD)]) (fun done g => g.1 = done.map (partC TC c far)) (rangeI 0 n) ([], none) none rfl fun done k rest v g hdn hg => by
    obtain ⟨g, o⟩ := g
    simp only at hg
    have hk := mem_rangeI.mp (show k ∈ rangeI 0 n by rw [← hdn]; simp)
    have hx := fun nr st => mix1_c (T := T) (N := N - 1) (nr := nr) (st := st) c (k + 5) (by omega) (by omega)
    have hlen := congrArg List.length hdn
    simp only [List.length_append, List.length_cons, rangeI_length] at hlen
    have hll : (g.map trD).length < lim := by rw [List.length_map, hg, List.length_map]; simp only [lim]; omega
    obtain ⟨m, hm⟩ : ∃ m, m = mixI c (k + 5) := ⟨_, rfl⟩
    rw [← hm] at hx
    have hr := fun nr st => ref1_c (T := T) (N := N - 1) (nr := nr) (st := st) (m / 3) far (by omega)
    have ha := fun nr st => area1_c (T := T) (N := N - 1) (nr := nr) (st := st) (m / 3) far (by omega)
    have hT := hT (m / 3)
    refine ⟨(g ++ [partC TC c far k], some (.int m)), ?_, by simp [hg]⟩
    unfold partC
    rw [← hm]
    by_cases k1 : m % 3 = 0
    · rw [if_pos (.inl k1)]
      generalize refC (m / 3) far = u at *
      simp (disch := first | assumption | omega | (simp [-List.map_map, -List.map_take, -List.map_drop]; done) | (refine MP.lim_ok ?_; simp [-List.map_map, -List.map_take, -List.map_drop] <;> omega) | (simp [lim, -List.map_map, -List.map_take, -List.map_drop] <;> omega) | fail) [-List.map_map, -List.map_take, -List.map_drop, fn_over_L3_b1, hx, hr, k1, hll]
    · by_cases k2 : m % 3 = 1
      · by_cases k3 : 1 < k
        · rw [if_pos (.inr ⟨k3, k2⟩)]
          generalize refC (m / 3) far = u at *
          simp (disch := first | assumption | omega | (simp [-List.map_map, -List.map_take, -List.map_drop]; done) | (refine MP.lim_ok ?_; simp [-List.map_map, -List.map_take, -List.map_drop] <;> omega) | (simp [lim, -List.map_map, -List.map_take, -List.map_drop] <;> omega) | fail) [-List.map_map, -List.map_take, -List.map_drop, fn_over_L3_b1, hx, hr, k1, k2, k3, hll]
        · rw [if_neg (by rintro (h | h); exact k1 h; exact k3 h.1), if_pos k2]
          generalize TC (m / 3) = u at *
          simp (disch := first | assumption | omega | (simp [-List.map_map, -List.map_take, -List.map_drop]; done) | (refine MP.lim_ok ?_; simp [-List.map_map, -List.map_take, -List.map_drop] <;> omega) | (simp [lim, -List.map_map, -List.map_take, -List.map_drop] <;> omega) | fail) [-List.map_map, -List.map_take, -List.map_drop, fn_over_L3_b1, hx, hT, k1, k2, k3, hll]
      · rw [if_neg (by rintro (h | h); exact k1 h; exact k2 h.2), if_neg k2]
        generalize areaC (m / 3) far = u at *
        simp (disch := first | assumption | omega | (simp [-List.map_map, -List.map_take, -List.map_drop]; done) | (refine MP.lim_ok ?_; simp [-List.map_map, -List.map_take, -List.map_drop] <;> omega) | (simp [lim, -List.map_map, -List.map_take, -List.map_drop] <;> omega) | fail) [-List.map_map, -List.map_take, -List.map_drop, fn_over_L3_b1, hx, ha, k1, k2, hll]
  simp only at l2
  rw [l2] at l1
  have hr : 1 + c / 3 % (2 + 2 * (d : Int)) < 4611686018427387904 := by omega
  have hr0 : -4611686018427387904 ≤ 1 + c / 3 % (2 + 2 * (d : Int)) := by omega
  have hw := word_ix c
  simp only [List.map_nil] at l1
  rw [hn] at l1
  rw [call_at (by omega) rfl]
  simp (disch := first | assumption | omega | (simp [-List.map_map, -List.map_take, -List.map_drop]; done) | (refine MP.lim_ok ?_; simp [-List.map_map, -List.map_take, -List.map_drop] <;> omega) | (simp [lim, -List.map_map, -List.map_take, -List.map_drop] <;> omega) | fail) [-List.map_map, -List.map_take, -List.map_drop, fn_over_L3, forR_rng1, l1, hw]
theorem tree1_all (far : Pl) : ∀ (d : Nat) (c : Int) (N : Nat) (st : Store), d ≤ 3 → 2 * d + 2 ≤ N → frz true (callF T N 234 [.int c, plD far, .int d] []) st = .ok (trD (treeC far d c)) st
  | 0, c, N, st, hd, hN => by
    have hr := fun nr st => ref1_c (T := T) (N := N - 1) (nr := nr) (st := st) (c / 9) far (by omega)
    obtain ⟨m, hm⟩ : ∃ m, m = c / 9 := ⟨_, rfl⟩
    rw [call_at (by omega) rfl, treeC]
    rw [← hm] at hr ⊢
    unfold leafC
    have h4 : m % 4 * (m / 4 % 2) = 0 ∨ m % 4 * (m / 4 % 2) = 1 ∨ m % 4 * (m / 4 % 2) = 2 ∨ m % 4 * (m / 4 % 2) = 3 := by
      have h : m / 4 % 2 = 0 ∨ m / 4 % 2 = 1 := by omega
      rcases h with h | h <;> rw [h] <;> omega
    generalize refC m far = u at *
    rcases h4 with h | h | h | h <;> simp (disch := first | assumption | omega | (simp [-List.map_map, -List.map_take, -List.map_drop]; done) | (refine MP.lim_ok ?_; simp [-List.map_map, -List.map_take, -List.map_drop] <;> omega) | (simp [lim, -List.map_map, -List.map_take, -List.map_drop] <;> omega) | fail) [-List.map_map, -List.map_take, -List.map_drop, fn_tree_L1, ← hm, hr, h]
  | d + 1, c, N, st, hd, hN => by
    have ih := fun c st => tree1_all far d c (N - 1) st (by omega) (by omega)
    have hr := fun nr st => ref1_c (T := T) (N := N - 1) (nr := nr) (st := st) (c / 9) far (by omega)
    have x1 := fun nr st => mix1_c (T := T) (N := N - 1) (nr := nr) (st := st) c 1 (by omega) (by omega)
    have x2 := fun nr st => mix1_c (T := T) (N := N - 1) (nr := nr) (st := st) c 2 (by omega) (by omega)
    have x3 := fun nr st => mix1_c (T := T) (N := N - 1) (nr := nr) (st := st) c 3 (by omega) (by omega)
    have hd1 : (((d + 1 : Nat) : Int)) = (d : Int) + 1 := by omega
    have hs : (d : Int) + 1 - 1 = (d : Int) := by omega
    have hd0 : ¬ ((d : Int) + 1 = 0) := by omega
    rw [call_at (by omega) rfl, treeC, hd1]
    by_cases w0 : c % 9 = 0
    · rw [if_pos w0]
      obtain ⟨m, hm⟩ : ∃ m, m = c / 9 := ⟨_, rfl⟩
      rw [← hm] at hr ⊢
      unfold leafC
      have h4 : m % 4 * (m / 4 % 2) = 0 ∨ m % 4 * (m / 4 % 2) = 1 ∨ m % 4 * (m / 4 % 2) = 2 ∨ m % 4 * (m / 4 % 2) = 3 := by
        have h : m / 4 % 2 = 0 ∨ m / 4 % 2 = 1 := by omega
        rcases h with h | h <;> rw [h] <;> omega
      generalize refC m far = u at *
      rcases h4 with h | h | h | h <;> simp (disch := first | assumption | omega | (simp [-List.map_map, -List.map_take, -List.map_drop]; done) | (refine MP.lim_ok ?_; simp [-List.map_map, -List.map_take, -List.map_drop] <;> omega) | (simp [lim, -List.map_map, -List.map_take, -List.map_drop] <;> omega) | fail) [-List.map_map, -List.map_take, -List.map_drop, fn_tree_L1, ← hm, hr, h, w0, hd0]
    rw [if_neg w0]
    by_cases w2 : c % 9 < 3
    · rw [if_pos w2]
      have ho := over3_c (T := T) (N := N - 1) (treeC far d) (c / 9) far (d + 1) hd (by omega) (by omega) (fun c st => by
        rw [hd1, hs]
        exact tree1_all far d c (N - 1 - 1) st (by omega) (by omega))
      rw [hd1] at ho
      unfold overC
      have hnr : ∀ ts : List Tr, noRefs (ts.map trD) = true := nrs_map nr_tr
      generalize (rangeI 0 (1 + c / 9 / 3 % (2 + 2 * ((d : Int) + 1)))).map (partC (treeC far d) (c / 9) far) = ps at *
      have hnp := hnr ps
      simp (disch := first | assumption | omega | (simp [-List.map_map, -List.map_take, -List.map_drop]; done) | (refine MP.lim_ok ?_; simp [-List.map_map, -List.map_take, -List.map_drop] <;> omega) | (simp [lim, -List.map_map, -List.map_take, -List.map_drop] <;> omega) | fail) [-List.map_map, -List.map_take, -List.map_drop, fn_tree_L1, w0, w2, hd0, ho, hnp]
    rw [if_neg w2]
    generalize refC (c / 9) far = u at *
    by_cases w3 : c % 9 = 3
    · rw [if_pos w3]
      generalize treeC far d = F at *
      simp (disch := first | assumption | omega | (simp [-List.map_map, -List.map_take, -List.map_drop]; done) | (refine MP.lim_ok ?_; simp [-List.map_map, -List.map_take, -List.map_drop] <;> omega) | (simp [lim, -List.map_map, -List.map_take, -List.map_drop] <;> omega) | fail) [-List.map_map, -List.map_take, -List.map_drop, fn_tree_L1, w0, w3, hd0, hs, ih, x1]
    rw [if_neg w3]
    by_cases w4 : c % 9 = 4
    · rw [if_pos w4]
      generalize treeC far d = F at *
      simp (disch := first | assumption | omega | (simp [-List.map_map, -List.map_take, -List.map_drop]; done) | (refine MP.lim_ok ?_; simp [-List.map_map, -List.map_take, -List.map_drop] <;> omega) | (simp [lim, -List.map_map, -List.map_take, -List.map_drop] <;> omega) | fail) [-List.map_map, -List.map_take, -List.map_drop, fn_tree_L1, w0, w4, hd0, hs, ih, x1, x2, hr]
    rw [if_neg w4]
    by_cases w5 : c % 9 = 5
    · rw [if_pos w5]
      generalize treeC far d = F at *
      simp (disch := first | assumption | omega | (simp [-List.map_map, -List.map_take, -List.map_drop]; done) | (refine MP.lim_ok ?_; simp [-List.map_map, -List.map_take, -List.map_drop] <;> omega) | (simp [lim, -List.map_map, -List.map_take, -List.map_drop] <;> omega) | fail) [-List.map_map, -List.map_take, -List.map_drop, fn_tree_L1, w0, w5, hd0, hs, ih, x1, x2, x3]
    rw [if_neg w5]
    have hsg := sign_ixL (c / 9)
    by_cases w6 : c % 9 = 6
    · rw [if_pos w6]
      generalize treeC far d = F at *
      simp (disch := first | assumption | omega | (simp [-List.map_map, -List.map_take, -List.map_drop]; done) | (refine MP.lim_ok ?_; simp [-List.map_map, -List.map_take, -List.map_drop] <;> omega) | (simp [lim, -List.map_map, -List.map_take, -List.map_drop] <;> omega) | fail) [-List.map_map, -List.map_take, -List.map_drop, fn_tree_L1, w0, w6, hd0, hs, ih, x1, x2, hr]
    · rw [if_neg w6]
      generalize treeC far d = F at *
      simp (disch := first | assumption | omega | (simp [-List.map_map, -List.map_take, -List.map_drop]; done) | (refine MP.lim_ok ?_; simp [-List.map_map, -List.map_take, -List.map_drop] <;> omega) | (simp [lim, -List.map_map, -List.map_take, -List.map_drop] <;> omega) | fail) [-List.map_map, -List.map_take, -List.map_drop, fn_tree_L1, w0, w2, w3, w4, w5, w6, hd0, hs, ih, x1, x2, hsg]

end
end FL
end
section
set_option maxRecDepth 100000
set_option maxHeartbeats 4000000
namespace FL
open MP
/-- _law_content -/
def fn_content_L1 : MP.Fn := ⟨2, 2, [.ifs (.pr (.op .eq) [.pr (.op .mod) [.var 0, .k (.int 8)], .k (.int 0)]) [.ret (.k .non)] [], .ifs (.pr (.op .lt) [.pr (.op .mod) [.var 0, .k (.int 8)], .k (.int 4)]) [.ret (.pr .ix [.pr (.lst false) [.pr (.op .sub) [.pr (.op .mod) [.pr (.op .fdiv) [.var 0, .k (.int 8)], .k (.int 9)], .k (.int 4)], .k (.int 0), .pr (.op .pow) [.var 0, .k (.int 5)], .pr .neg [.pr (.op .pow) [.var 0, .k (.int 5)]]], .pr (.op .mul) [.pr (.op .fdiv) [.pr (.op .mod) [.pr (.op .fdiv) [.var 0, .k (.int 72)], .k (.int 8)], .k (.int 2)], .pr (.op .mod) [.pr (.op .fdiv) [.var 0, .k (.int 576)], .k (.int 2)]]])] [], .ret (.call 234 false [.pr (.op .fdiv) [.var 0, .k (.int 8)], .var 1, .pr (.op (.add false)) [.k (.int 1), .pr (.op .mod) [.var 0, .k (.int 3)]]])]⟩
section
variable {T : Nat → Option Fn} {N : Nat} [At T 230 fn_mix_L1] [At T 231 fn_ref_L1] [At T 232 fn_area_L1] [At T 233 fn_over_L3] [At T 234 fn_tree_L1] [At T 235 fn_content_L1]
theorem cont1_c (c : Int) (far : Pl) (h0 : 0 ≤ c) (h1 : c < 62501) (hN : 10 ≤ N) (st : Store) : frz true (callF T N 235 [.int c, plD far] []) st = .ok (ctO (contC c far)) st := by
  rw [call_at (by omega) rfl]
  unfold contC
  by_cases w0 : c % 8 = 0
  · rw [if_pos w0]
    simp (disch := first | assumption | omega | (simp [-List.map_map, -List.map_take, -List.map_drop]; done) | (refine MP.lim_ok ?_; simp [-List.map_map, -List.map_take, -List.map_drop] <;> omega) | (simp [lim, -List.map_map, -List.map_take, -List.map_drop] <;> omega) | fail) [-List.map_map, -List.map_take, -List.map_drop, fn_content_L1, w0, ctO]
  rw [if_neg w0]
  by_cases w1 : c % 8 < 4
  · rw [if_pos w1]
    have h4 : c / 72 % 8 / 2 * (c / 576 % 2) = 0 ∨ c / 72 % 8 / 2 * (c / 576 % 2) = 1 ∨ c / 72 % 8 / 2 * (c / 576 % 2) = 2 ∨ c / 72 % 8 / 2 * (c / 576 % 2) = 3 := by
      have h : c / 576 % 2 = 0 ∨ c / 576 % 2 = 1 := by omega
      rcases h with h | h <;> rw [h] <;> omega
    rcases h4 with h | h | h | h <;> simp (disch := first | assumption | omega | (simp [-List.map_map, -List.map_take, -List.map_drop]; done) | (refine MP.lim_ok ?_; simp [-List.map_map, -List.map_take, -List.map_drop] <;> omega) | (simp [lim, -List.map_map, -List.map_take, -List.map_drop] <;> omega) | fail) [-List.map_map, -List.map_take, -List.map_drop, fn_content_L1, w0, w1, h, ctO]
  · rw [if_neg w1]
    have ht := fun st => tree1_all (T := T) far (1 + c % 3).toNat (c / 8) (N - 1) st (by omega) (by omega)
    have e : (((1 + c % 3).toNat : Nat) : Int) = 1 + c % 3 := by omega
    rw [e] at ht
    simp (disch := first | assumption | omega | (simp [-List.map_map, -List.map_take, -List.map_drop]; done) | (refine MP.lim_ok ?_; simp [-List.map_map, -List.map_take, -List.map_drop] <;> omega) | (simp [lim, -List.map_map, -List.map_take, -List.map_drop] <;> omega) | fail) [-List.map_map, -List.map_take, -List.map_drop, fn_content_L1, w0, w1, ht, ctO]

end
end FL
end
section
set_option maxRecDepth 100000
set_option maxHeartbeats 4000000
namespace FL
open MP
/-- _law_changed -/
def fn_changed_L_b1 : List MP.S := [.setix (.var 3) (.var 4) (.pr .ix [.var 0, .var 4])]
def fn_changed_L_b2 : List MP.S := [.set 4 (.pr .tup [.pr (.op (.add false)) [.pr .ix [.var 2, .k (.int 0)], .pr (.op .mod) [.var 6, .k (.int 4)]], .pr (.op (.add false)) [.pr .ix [.var 2, .k (.int 1)], .pr (.op .mod) [.pr (.op .fdiv) [.var 6, .k (.int 4)], .k (.int 4)]]]), .ifs (.pr (.op .eq) [.pr (.op .mod) [.pr (.op .fdiv) [.var 6, .k (.int 16)], .k (.int 8)], .k (.int 1)]) [.set 4 (.pr .tup [.pr (.op (.add false)) [.k (.int 1), .pr (.op .mod) [.pr (.op .fdiv) [.var 6, .k (.int 128)], .k (.int 30)]], .k (.int 5)])] [], .set 7 (.call 235 false [.pr (.op .fdiv) [.var 6, .k (.int 16)], .var 2]), .ifs (.pr .isn [.var 7]) [.expr (.mth .dpop (.var 3) [.var 4, .k .non])] [.setix (.var 3) (.var 4) (.var 7)], .ifs (.pr (.op .ne) [.mth .dget (.var 3) [.var 4], .mth .dget (.var 0) [.var 4]]) [.expr (.mth .append (.var 5) [.var 4])] []]
def fn_changed_L : MP.Fn := ⟨3, 8, [.set 3 (.pr .dnew []), .for 4 .itv [.var 0] fn_changed_L_b1, .set 5 (.pr (.lst true) []), .for 6 .it [.var 1] fn_changed_L_b2, .ret (.pr .tup [.var 3, .var 5])]⟩
section
variable {T : Nat → Option Fn} {N : Nat} [At T 230 fn_mix_L1] [At T 231 fn_ref_L1] [At T 232 fn_area_L1] [At T 233 fn_over_L3] [At T 234 fn_tree_L1] [At T 235 fn_content_L1] [At T 248 fn_changed_L]
theorem changed_raw (C : List (Pl × Ct)) (n : Nat) (hC : CS n C) (hn : n ≤ 900) (cells : List Int) (hc : ∀ c ∈ cells, 0 ≤ c ∧ c < 1000003) (hcl : cells.length ≤ 60) (far : Pl) (hf : farOk far) (hN : 11 ≤ N) :
    callF T N 248 [.dct (encE ctD C), .lst (cells.map .int), plD far] [] = .ok (.tup [.ref 0, .ref 1]) [.dct (encE ctD (changedF C far cells).1), .lst ((changedF C far cells).2.map plD)] := by
  have hlen := hC.len
  obtain ⟨g, l1, l2⟩ := forB_rel (body := evB (callF T (N - 1)) fn_changed_L_b1) (v := 4) (fun e : Pl × Ct => plD e.1) (fun v (g : List (Pl × Ct)) => [some (.dct (encE ctD C)), some (.lst (cells.map .int)), some (plD far), some (.ref 0), v, none, none, none]) (fun g => [.dct (encE ctD g)]) (fun done g => g = done) C [] none rfl fun done e rest v g hd hg => by
    subst hg
    have he : e ∈ C := by rw [← hd]; simp
    have hdg : dget (encE ctD C) e.1 = some (ctD e.2) := by rw [dget_enc, tget_of_mem hC.key he]; rfl
    have hnd := hC.key
    unfold keyN at hnd
    rw [← hd, List.map_append, List.nodup_append] at hnd
    have hnew : e.1 ∉ g.map (·.1) := fun hm => hnd.2.2 e.1 hm e.1 (by simp) rfl
    have hdp := dput_enc ctD g e.1 e.2
    rw [tput_new hnew] at hdp
    have hgl := congrArg List.length hd
    simp only [List.length_append, List.length_cons] at hgl
    have hll : (encE ctD g).length < lim := by simp only [enc_len, lim]; omega
    exact ⟨g ++ [e], by simp (disch := first | assumption | omega | (simp [-List.map_map, -List.map_take, -List.map_drop]; done) | (refine MP.lim_ok ?_; simp [-List.map_map, -List.map_take, -List.map_drop] <;> omega) | (simp [lim, -List.map_map, -List.map_take, -List.map_drop] <;> omega) | fail) [-List.map_map, -List.map_take, -List.map_drop, fn_changed_L_b1, hdg, hll, hdp], rfl⟩
  rw [l2, enc_nil] at l1
  obtain ⟨⟨g, o4, o7⟩, m1, m2, _⟩ := forB_rel (body := evB (callF T (N - 1)) fn_changed_L_b2) (v := 6) D.int (fun v (g : CG × Option D × Option D) => [some (.dct (encE ctD C)), some (.lst (cells.map .int)), some (plD far), some (.ref 0), g.2.1, some (.ref 1), v, g.2.2]) (fun g => [.dct (encE ctD g.1.1), .lst (g.1.2.map plD)]) (fun done g => g.1 = done.foldl (chgStep C far) (C, []) ∧ GOk n done.length C g.1) cells ((C, []), lastS (fun e : Pl × Ct => plD e.1) C none, none) none ⟨rfl, chg_start hC⟩ fun done k rest v g hd ⟨i1, i2⟩ => by
    obtain ⟨⟨B, os⟩, o4, o7⟩ := g
    simp only at i1 i2
    have hk := hc k (by rw [← hd]; simp)
    have hlen2 := congrArg List.length hd
    simp only [List.length_append, List.length_cons] at hlen2
    have hct := fun st => cont1_c (T := T) (N := N - 1) (k / 16) far (by omega) (by omega) (by omega) st
    have hok := chgStep_ok hf i2 hk.1 hk.2
    have hf2 : chgStep C far (B, os) k = (done ++ [k]).foldl (chgStep C far) (C, []) := by rw [List.foldl_append, ← i1]; rfl
    have hlk : (done ++ [k]).length = done.length + 1 := by simp
    have hBl := i2.cs.len
    have hol := i2.len
    simp only at hBl hol
    have hll : (encE ctD B).length < lim := by simp only [enc_len, lim]; omega
    have hl2 : (os.map plD).length < lim := by simp only [List.length_map, lim]; omega
    obtain ⟨p, hp⟩ : ∃ p, p = chgPl far k := ⟨_, rfl⟩
    obtain ⟨B2, hB2⟩ : ∃ B2, B2 = chgOne far B k := ⟨_, rfl⟩
    have hcs2 := chgOne_cs hf i2.cs hk.1 hk.2
    rw [← hB2] at hcs2
    have hga := dget_ct B2
    have hgb := dget_ct C
    have heq := fun st => eqv_ct st (tget B2 p) (tget C p) (fun c h => hcs2.ok _ (tget_mem h)) (fun c h => hC.ok _ (tget_mem h))
    have hstep : chgStep C far (B, os) k = (B2, if eqD (ctO' (tget B2 p)) (ctO' (tget C p)) = true then os else os ++ [p]) := by unfold chgStep; rw [hB2, hp]
    have hone : B2 = match contC (k / 16) far with
        | none => tdrop B p
        | some c => tput B p c := by rw [hB2, hp]; rfl
    -- the first part of the turn
    have hpl : evB (callF T (N - 1)) (fn_changed_L_b2.take 2) [some (.dct (encE ctD C)), some (.lst (cells.map .int)), some (plD far), some (.ref 0), o4, some (.ref 1), some (.int k), o7] [.dct (encE ctD B), .lst (os.map plD)] = .nx [some (.dct (encE ctD C)), some (.lst (cells.map .int)), some (plD far), some (.ref 0), some (plD p), some (.ref 1), some (.int k), o7] [.dct (encE ctD B), .lst (os.map plD)] := by
      rw [hp]
      unfold chgPl
      by_cases w : k / 16 % 8 = 1
      · rw [if_pos w]; simp (disch := first | assumption | omega | (simp [-List.map_map, -List.map_take, -List.map_drop]; done) | (refine MP.lim_ok ?_; simp [-List.map_map, -List.map_take, -List.map_drop] <;> omega) | (simp [lim, -List.map_map, -List.map_take, -List.map_drop] <;> omega) | fail) [-List.map_map, -List.map_take, -List.map_drop, fn_changed_L_b2, w, plD]
      · rw [if_neg w]; simp (disch := first | assumption | omega | (simp [-List.map_map, -List.map_take, -List.map_drop]; done) | (refine MP.lim_ok ?_; simp [-List.map_map, -List.map_take, -List.map_drop] <;> omega) | (simp [lim, -List.map_map, -List.map_take, -List.map_drop] <;> omega) | fail) [-List.map_map, -List.map_take, -List.map_drop, fn_changed_L_b2, w, plD]
    refine ⟨(chgStep C far (B, os) k, some (plD p), some (ctO (contC (k / 16) far))), ?_, hf2, by rw [hlk]; exact hok⟩
    rw [hstep]
    rw [show fn_changed_L_b2 = fn_changed_L_b2.take 2 ++ fn_changed_L_b2.drop 2 from rfl, evB_append]
    simp only [List.set_cons_succ, List.set_cons_zero]
    rw [hpl]
    cases hcc : contC (k / 16) far with
    | none =>
      rw [hcc] at hct hone
      simp only [ctO] at hct ⊢
      simp only at hone
      have hpop : ∀ (X : Cell), prim3F .dpop (.ref 0) (plD p) .non [.dct (encE ctD B), X] = .ok (ctO' (tget B p)) [.dct (encE ctD B2), X] := fun X => by
        rw [p_dpop_pl]
        simp only [List.getElem?_cons_zero]
        cases hg : tget B p with
        | none =>
          have : dget (encE ctD B) p = none := by rw [dget_enc, hg]; rfl
          rw [dpopC_none this, hone, tdrop_none (fun hm => by obtain ⟨v, hv⟩ := tget_some hm; rw [hg] at hv; cases hv)]
          rfl
        | some c =>
          have : dget (encE ctD B) p = some (ctD c) := by rw [dget_enc, hg]; rfl
          rw [dpopC_some this, ddrop_enc, hone]
          rfl
      by_cases he : eqD (ctO' (tget B2 p)) (ctO' (tget C p)) = true
      · simp (disch := first | assumption | omega | (simp [-List.map_map, -List.map_take, -List.map_drop]; done) | (refine MP.lim_ok ?_; simp [-List.map_map, -List.map_take, -List.map_drop] <;> omega) | (simp [lim, -List.map_map, -List.map_take, -List.map_drop] <;> omega) | fail) [-List.map_map, -List.map_take, -List.map_drop, fn_changed_L_b2, hct, hpop, hga, hgb, heq, he]
      · have he : eqD (ctO' (tget B2 p)) (ctO' (tget C p)) = false := by simpa using he
        simp (disch := first | assumption | omega | (simp [-List.map_map, -List.map_take, -List.map_drop]; done) | (refine MP.lim_ok ?_; simp [-List.map_map, -List.map_take, -List.map_drop] <;> omega) | (simp [lim, -List.map_map, -List.map_take, -List.map_drop] <;> omega) | fail) [-List.map_map, -List.map_take, -List.map_drop, fn_changed_L_b2, hct, hpop, hga, hgb, heq, he, hl2]
    | some c =>
      rw [hcc] at hct hone
      simp only [ctO] at hct ⊢
      simp only at hone
      have hin : ∀ st, prim1F .isn (ctD c) st = .ok (.bl false) st := fun st => by cases c <;> simp
      have hdp := dput_enc ctD B p c
      rw [← hone] at hdp
      by_cases he : eqD (ctO' (tget B2 p)) (ctO' (tget C p)) = true
      · simp (disch := first | assumption | omega | (simp [-List.map_map, -List.map_take, -List.map_drop]; done) | (refine MP.lim_ok ?_; simp [-List.map_map, -List.map_take, -List.map_drop] <;> omega) | (simp [lim, -List.map_map, -List.map_take, -List.map_drop] <;> omega) | fail) [-List.map_map, -List.map_take, -List.map_drop, fn_changed_L_b2, hct, hin, hll, hdp, hga, hgb, heq, he]
      · have he : eqD (ctO' (tget B2 p)) (ctO' (tget C p)) = false := by simpa using he
        simp (disch := first | assumption | omega | (simp [-List.map_map, -List.map_take, -List.map_drop]; done) | (refine MP.lim_ok ?_; simp [-List.map_map, -List.map_take, -List.map_drop] <;> omega) | (simp [lim, -List.map_map, -List.map_take, -List.map_drop] <;> omega) | fail) [-List.map_map, -List.map_take, -List.map_drop, fn_changed_L_b2, hct, hin, hll, hdp, hga, hgb, heq, he, hl2]
  simp only at m2
  have m2 : g = changedF C far cells := m2
  rw [m2] at m1
  have hm : (encE ctD C).map (fun e => plD e.1) = C.map fun e => plD e.1 := by simp [encE, List.map_map, Function.comp_def]
  simp only [List.map_nil] at m1
  rw [call_at (by omega) rfl]
  simp (disch := first | assumption | omega | (simp [-List.map_map, -List.map_take, -List.map_drop]; done) | (refine MP.lim_ok ?_; simp [-List.map_map, -List.map_take, -List.map_drop] <;> omega) | (simp [lim, -List.map_map, -List.map_take, -List.map_drop] <;> omega) | fail) [-List.map_map, -List.map_take, -List.map_drop, fn_changed_L, hm, l1, m1]
theorem changed_c (C : List (Pl × Ct)) (n : Nat) (hC : CS n C) (hn : n ≤ 900) (cells : List Int) (hc : ∀ c ∈ cells, 0 ≤ c ∧ c < 1000003) (hcl : cells.length ≤ 60) (far : Pl) (hf : farOk far) (hN : 11 ≤ N) (st : Store) :
    frz true (callF T N 248 [.dct (encE ctD C), .lst (cells.map .int), plD far] []) st = .ok (.tup [.dct (encE ctD (changedF C far cells).1), .lst ((changedF C far cells).2.map plD)]) st := by
  rw [changed_raw C n hC hn cells hc hcl far hf hN]
  have h : noRefs ((changedF C far cells).2.map plD) = true := noRefs_pls _
  have h2 := nrE_ct (changedF C far cells).1
  simp (disch := first | assumption | omega | (simp [-List.map_map, -List.map_take, -List.map_drop]; done) | (refine MP.lim_ok ?_; simp [-List.map_map, -List.map_take, -List.map_drop] <;> omega) | (simp [lim, -List.map_map, -List.map_take, -List.map_drop] <;> omega) | fail) [-List.map_map, -List.map_take, -List.map_drop, h, h2]

end
end FL
end
section
set_option maxRecDepth 100000
set_option maxHeartbeats 4000000
namespace FL
open MP
/-- _law_contents -/
def fn_contents_L2_b1 : List MP.S := [.setix (.var 4) (.pr .tup [.var 5, .k (.int 5)]) (.pr .tup [.k (.str [116, 119, 111]), .k (.str [43]), .pr .tup [.k (.str [114, 101, 102]), .pr .tup [.pr (.op .sub) [.var 5, .k (.int 1)], .k (.int 5)], .pr .tup [.k (.bl false), .k (.bl false)]], .pr .tup [.k (.str [110, 117, 109]), .var 5]])]
def fn_contents_L2_b2 : List MP.S := [.set 9 (.call 235 false [.pr (.op .fdiv) [.var 8, .k (.int 16)], .var 3]), .ifs (.pr .notn [.var 9]) [.setix (.var 4) (.pr .tup [.pr (.op (.add false)) [.pr .ix [.var 3, .k (.int 0)], .pr (.op .mod) [.var 8, .k (.int 4)]], .pr (.op (.add false)) [.pr .ix [.var 3, .k (.int 1)], .pr (.op .mod) [.pr (.op .fdiv) [.var 8, .k (.int 4)], .k (.int 4)]]]) (.var 9)] []]
def fn_contents_L2 : MP.Fn := ⟨3, 10, [.set 3 (.pr .ix [.pr (.lst false) [.pr .tup [.k (.int 0), .k (.int 0)], .pr .tup [.k (.int 95), .k (.int 22)]], .pr (.op .fdiv) [.pr (.op .mod) [.call 209 false [.var 0, .k (.int 0)], .k (.int 8)], .k (.int 7)]]), .set 4 (.pr .dnew []), .ifs (.pr (.op .eq) [.pr (.op .mod) [.call 209 false [.var 0, .k (.int 0)], .k (.int 8)], .k (.int 1)]) [.for 5 .rng2 [.k (.int 2), .pr (.op (.add false)) [.k (.int 2), .pr (.op .mod) [.call 209 false [.var 0, .k (.int 1)], .k (.int 40)]]] fn_contents_L2_b1, .setix (.var 4) (.pr .tup [.k (.int 1), .k (.int 5)]) (.pr (.op .mod) [.call 209 false [.var 0, .k (.int 1)], .k (.int 11)])] [], .ifs (.pr (.op .eq) [.pr (.op .mod) [.call 209 false [.var 0, .k (.int 0)], .k (.int 8)], .k (.int 2)]) [.set 6 (.pr .tup [.pr (.op .mod) [.call 209 false [.var 0, .k (.int 1)], .k (.int 30)], .pr (.op (.add false)) [.k (.int 3), .pr (.op .mod) [.pr (.op .fdiv) [.call 209 false [.var 0, .k (.int 1)], .k (.int 30)], .k (.int 9)]]]), .set 7 (.pr .tup [.k (.str [97, 114, 101, 97]), .pr .tup [.k (.str [114, 101, 102]), .pr .tup [.k (.int 0), .k (.int 0)], .pr .tup [.k (.bl false), .k (.bl false)]], .pr .tup [.k (.str [114, 101, 102]), .var 6, .pr .tup [.k (.bl true), .k (.bl false)]]]), .setix (.var 4) (.pr .tup [.k (.int 60), .k (.int 20)]) (.pr .tup [.k (.str [111, 118, 101, 114]), .pr .ix [.pr (.lst false) [.k (.str [83, 85, 77]), .k (.str [67, 79, 85, 78, 84])], .pr (.op .mod) [.pr (.op .fdiv) [.call 209 false [.var 0, .k (.int 1)], .k (.int 300)], .k (.int 2)]], .pr (.lst false) [.var 7]])] [], .for 8 .it [.call 210 false [.var 0, .var 1, .var 2]] fn_contents_L2_b2, .ret (.var 4)]⟩
section
variable {T : Nat → Option Fn} {N : Nat} [At T 209 fn_cell_at_L3] [At T 210 fn_cells_L] [At T 230 fn_mix_L1] [At T 231 fn_ref_L1] [At T 232 fn_area_L1] [At T 233 fn_over_L3] [At T 234 fn_tree_L1] [At T 235 fn_content_L1] [At T 247 fn_contents_L2]
theorem contents2_rawp (ns : List Int) (hl : ns.length ≤ 63) (low high : Int) (hlo : 0 ≤ low) (hlh : low ≤ high) (hhi : high ≤ 100) (hN : 12 ≤ N) :
    callF T N 247 [.scr ns, .int low, .int high] [] = .ok (.ref 0) [.dct (encE ctD (contsC (cellW ns 0) (cellW ns 1) 40 ((rangeI low (min high ns.length)).map (cellW ns))))] := by
  have c0 := fun nr st => cellw_c (T := T) (N := N - 1) (nr := nr) (st := st) ns 0 (by omega) hl (by omega)
  have c1 := fun nr st => cellw_c (T := T) (N := N - 1) (nr := nr) (st := st) ns 1 (by omega) hl (by omega)
  have hcs := fun st => cells_c (T := T) (N := N - 1) (st := st) ns low high hlo hlh (by omega) hl (by omega)
  obtain ⟨a, ha⟩ : ∃ a, a = cellW ns 0 := ⟨_, rfl⟩
  obtain ⟨b, hb⟩ : ∃ b, b = cellW ns 1 := ⟨_, rfl⟩
  obtain ⟨cs, hcse⟩ : ∃ cs, cs = (rangeI low (min high ns.length)).map (cellW ns) := ⟨_, rfl⟩
  have hb0 := cellW_nn ns 1
  have hcl : ∀ k ∈ cs, 0 ≤ k ∧ k < 1000003 := fun k hk => by
    rw [hcse] at hk
    obtain ⟨j, _, rfl⟩ := List.mem_map.mp hk
    exact cellW_nn ns j
  have hcn : cs.length ≤ 100 := by rw [hcse, List.length_map, rangeI_length]; omega
  rw [← hcse] at hcs
  rw [← ha] at c0
  rw [← hb] at c1 hb0
  rw [← ha, ← hb, ← hcse]
  have hfar : atL [D.tup [.int 0, .int 0], D.tup [.int 95, .int 22]] (a % 8 / 7) = some (plD (farC a)) := by
    have h : a % 8 / 7 = 0 ∨ a % 8 / 7 = 1 := by omega
    unfold farC
    rcases h with h | h <;> rw [h] <;> rfl
  have hfo := farC_ok a
  obtain ⟨far, hfe⟩ : ∃ far, far = farC a := ⟨_, rfl⟩
  rw [← hfe] at hfar hfo
  have hbase := baseC_cs a b 40 (by omega)
  -- the cells
  have LC : ∀ a5 a6 a7 (y : Option D), ∃ o9, forB (evB (callF T (N - 1)) fn_contents_L2_b2) 8 (cs.map .int) [some (.scr ns), some (.int low), some (.int high), some (plD far), some (.ref 0), a5, a6, a7, y, none] [.dct (encE ctD (baseC a b 40))] = .nx [some (.scr ns), some (.int low), some (.int high), some (plD far), some (.ref 0), a5, a6, a7, lastS D.int cs y, o9] [.dct (encE ctD (cs.foldl (putC far) (baseC a b 40)))] := fun a5 a6 a7 y => by
    obtain ⟨⟨g, o⟩, l1, l2, _⟩ := forB_rel (body := evB (callF T (N - 1)) fn_contents_L2_b2) (v := 8) D.int (fun v (g : List (Pl × Ct) × Option D) => [some (.scr ns), some (.int low), some (.int high), some (plD far), some (.ref 0), a5, a6, a7, v, g.2]) (fun g => [.dct (encE ctD g.1)]) (fun done g => g.1 = done.foldl (putC far) (baseC a b 40) ∧ CS (92 + done.length) g.1) cs (baseC a b 40, none) y ⟨rfl, hbase⟩ fun done k rest v g hd ⟨i1, i2⟩ => by
      obtain ⟨g, o⟩ := g
      simp only at i1 i2
      have hk := hcl k (by rw [← hd]; simp)
      have hlen := congrArg List.length hd
      simp only [List.length_append, List.length_cons] at hlen
      have hct := fun st => cont1_c (T := T) (N := N - 1) (k / 16) far (by omega) (by omega) (by omega) st
      have hcs2 := putC_cs hfo i2 hk.1 hk.2
      have hf2 : putC far g k = (done ++ [k]).foldl (putC far) (baseC a b 40) := by rw [List.foldl_append, ← i1]; rfl
      have hgl := i2.len
      have hll : (encE ctD g).length < lim := by simp only [enc_len, lim]; omega
      have hlk : (done ++ [k]).length = done.length + 1 := by simp
      refine ⟨(putC far g k, some (ctO (contC (k / 16) far))), ?_, hf2, by rw [hlk]; exact hcs2⟩
      have hpc : putC far g k = match contC (k / 16) far with
        | none => g
        | some c => tput g (far.1 + k % 4, far.2 + k / 4 % 4) c := rfl
      rw [hpc]
      cases hc : contC (k / 16) far with
      | none =>
        rw [hc] at hct
        simp only [ctO] at hct ⊢
        simp (disch := first | assumption | omega | (simp [-List.map_map, -List.map_take, -List.map_drop]; done) | (refine MP.lim_ok ?_; simp [-List.map_map, -List.map_take, -List.map_drop] <;> omega) | (simp [lim, -List.map_map, -List.map_take, -List.map_drop] <;> omega) | fail) [-List.map_map, -List.map_take, -List.map_drop, fn_contents_L2_b2, hct]
      | some c =>
        rw [hc] at hct
        simp only [ctO] at hct ⊢
        have hnn : ∀ st, prim1F .notn (ctD c) st = .ok (.bl true) st := fun st => by cases c <;> simp
        have hdp := dput_enc ctD g (far.1 + k % 4, far.2 + k / 4 % 4) c
        simp (disch := first | assumption | omega | (simp [-List.map_map, -List.map_take, -List.map_drop]; done) | (refine MP.lim_ok ?_; simp [-List.map_map, -List.map_take, -List.map_drop] <;> omega) | (simp [lim, -List.map_map, -List.map_take, -List.map_drop] <;> omega) | fail) [-List.map_map, -List.map_take, -List.map_drop, fn_contents_L2_b2, hct, hnn, hll, hdp]
    exact ⟨o, by rw [← l2]; exact l1⟩
  have hgoal : contsC a b 40 cs = cs.foldl (putC far) (baseC a b 40) := by rw [hfe]; rfl
  have s0 : ∀ rest, evB (callF T (N - 1)) (fn_contents_L2.body.take 1 ++ rest) [some (.scr ns), some (.int low), some (.int high), none, none, none, none, none, none, none] [] = evB (callF T (N - 1)) rest [some (.scr ns), some (.int low), some (.int high), some (plD far), none, none, none, none, none, none] [] := fun rest => by simp (disch := first | assumption | omega | (simp [-List.map_map, -List.map_take, -List.map_drop]; done) | (refine MP.lim_ok ?_; simp [-List.map_map, -List.map_take, -List.map_drop] <;> omega) | (simp [lim, -List.map_map, -List.map_take, -List.map_drop] <;> omega) | fail) [-List.map_map, -List.map_take, -List.map_drop, fn_contents_L2, c0, hfar]
  rw [hgoal, call_at (by omega) rfl]
  show (evB (callF T (N - 1)) (fn_contents_L2.body.take 1 ++ fn_contents_L2.body.drop 1) [some (.scr ns), some (.int low), some (.int high), none, none, none, none, none, none, none] []).fin = _
  rw [s0]
  have hl0 : ([] : List (Pl × D)).length < lim := by decide
  by_cases w1 : a % 8 = 1
  · have m0 := Int.emod_nonneg b (show (40 : Int) ≠ 0 by omega)
    have m1 := Int.emod_lt_of_pos b (show (0 : Int) < 40 by omega)
    obtain ⟨g, l1, l2, l3⟩ := forB_rel (body := evB (callF T (N - 1)) fn_contents_L2_b1) (v := 5) D.int (fun v (g : List (Pl × Ct)) => [some (.scr ns), some (.int low), some (.int high), some (plD far), some (.ref 0), v, none, none, none, none]) (fun g => [.dct (encE ctD g)]) (fun done g => g = done.foldl chainC [] ∧ CS done.length g) (rangeI 2 (2 + b % 40)) [] none ⟨rfl, CS.nil⟩ fun done k rest v g hd ⟨i1, i2⟩ => by
      have hk := mem_rangeI.mp (show k ∈ rangeI 2 (2 + b % 40) by rw [← hd]; simp)
      have hlen := congrArg List.length hd
      simp only [List.length_append, List.length_cons, rangeI_length] at hlen
      have hgl := i2.len
      have hll : (encE ctD g).length < lim := by simp only [enc_len, lim]; omega
      have hdp := dput_enc ctD g (k, 5) (.f (.two [43] (.ref (k - 1, 5) (false, false)) (.num k)))
      simp only [ctD_f, trD_two, trD_ref, trD_num, plD, blD] at hdp
      refine ⟨chainC g k, ?_, by rw [List.foldl_append, ← i1]; rfl, by rw [List.length_append]; exact chainC_cs i2 (by omega) (by omega)⟩
      unfold chainC
      simp (disch := first | assumption | omega | (simp [-List.map_map, -List.map_take, -List.map_drop]; done) | (refine MP.lim_ok ?_; simp [-List.map_map, -List.map_take, -List.map_drop] <;> omega) | (simp [lim, -List.map_map, -List.map_take, -List.map_drop] <;> omega) | fail) [-List.map_map, -List.map_take, -List.map_drop, fn_contents_L2_b1, hll, hdp]
    rw [l2, enc_nil] at l1
    rw [l2] at l3
    have hb1 : baseC a b 40 = tput ((rangeI 2 (2 + b % 40)).foldl chainC []) (1, 5) (.i (b % 11)) := by unfold baseC; rw [if_pos w1]
    have hgl := l3.len
    rw [rangeI_length] at hgl
    obtain ⟨o9, LC⟩ := LC (lastS D.int (rangeI 2 (2 + b % 40)) none) none none none
    rw [hb1] at LC
    have hdp := dput_enc ctD ((rangeI 2 (2 + b % 40)).foldl chainC []) (1, 5) (.i (b % 11))
    simp only [ctD_i] at hdp
    rw [hb1]
    generalize (rangeI 2 (2 + b % 40)).foldl chainC [] = es at *
    have hll : (encE ctD es).length < lim := by simp only [enc_len, lim]; omega
    have hr1 : 2 + b % 40 < 4611686018427387904 := by omega
    have hr0 : -4611686018427387904 ≤ 2 + b % 40 := by omega
    simp (disch := first | assumption | omega | (simp [-List.map_map, -List.map_take, -List.map_drop]; done) | (refine MP.lim_ok ?_; simp [-List.map_map, -List.map_take, -List.map_drop] <;> omega) | (simp [lim, -List.map_map, -List.map_take, -List.map_drop] <;> omega) | fail) [-List.map_map, -List.map_take, -List.map_drop, fn_contents_L2, c0, c1, w1, forR_rng2, l1, hll, hdp, hcs, LC]
  · by_cases w2 : a % 8 = 2
    · have hb1 : baseC a b 40 = tput [] (60, 20) (.f (areaN b)) := by unfold baseC; rw [if_neg w1, if_pos w2]
      have hwd : atL [D.str [83, 85, 77], D.str [67, 79, 85, 78, 84]] (b / 300 % 2) = some (.str (if b / 300 % 2 = 0 then [83, 85, 77] else [67, 79, 85, 78, 84])) := by
        have h : b / 300 % 2 = 0 ∨ b / 300 % 2 = 1 := by omega
        rcases h with h | h <;> rw [h] <;> rfl
      have hdp := dput_enc ctD [] (60, 20) (.f (areaN b))
      simp only [ctD_f, areaN, trD_over, List.map_cons, List.map_nil, trD_area, plD, blD, enc_nil] at hdp
      rw [hb1] at LC ⊢
      simp only [areaN] at LC ⊢
      have LC := fun x => LC none x (some (.tup [.str [97, 114, 101, 97], .tup [.str [114, 101, 102], .tup [.int 0, .int 0], .tup [.bl false, .bl false]], .tup [.str [114, 101, 102], .tup [.int (b % 30), .int (3 + b / 30 % 9)], .tup [.bl true, .bl false]]])) none
      obtain ⟨o9, LC⟩ := LC (some (.tup [.int (b % 30), .int (3 + b / 30 % 9)]))
      simp (disch := first | assumption | omega | (simp [-List.map_map, -List.map_take, -List.map_drop]; done) | (refine MP.lim_ok ?_; simp [-List.map_map, -List.map_take, -List.map_drop] <;> omega) | (simp [lim, -List.map_map, -List.map_take, -List.map_drop] <;> omega) | fail) [-List.map_map, -List.map_take, -List.map_drop, fn_contents_L2, c0, c1, w2, hwd, hl0, hdp, hcs, LC]
    · have hb1 : baseC a b 40 = [] := by unfold baseC; rw [if_neg w1, if_neg w2]
      obtain ⟨o9, LC⟩ := LC none none none none
      rw [hb1, enc_nil] at LC
      rw [hb1]
      simp (disch := first | assumption | omega | (simp [-List.map_map, -List.map_take, -List.map_drop]; done) | (refine MP.lim_ok ?_; simp [-List.map_map, -List.map_take, -List.map_drop] <;> omega) | (simp [lim, -List.map_map, -List.map_take, -List.map_drop] <;> omega) | fail) [-List.map_map, -List.map_take, -List.map_drop, fn_contents_L2, c0, c1, w1, w2, hcs, LC]
theorem contents2_c (ns : List Int) (hl : ns.length ≤ 63) (low high : Int) (hlo : 0 ≤ low) (hlh : low ≤ high) (hhi : high ≤ 100) (hN : 12 ≤ N) (st : Store) :
    frz true (callF T N 247 [.scr ns, .int low, .int high] []) st = .ok (.dct (encE ctD (contsC (cellW ns 0) (cellW ns 1) 40 ((rangeI low (min high ns.length)).map (cellW ns))))) st := by
  rw [contents2_rawp ns hl low high hlo hlh hhi hN]
  have hn : ∀ C, noRefE (encE ctD C) = true := nrE_ct
  generalize contsC (cellW ns 0) (cellW ns 1) 40 ((rangeI low (min high ns.length)).map (cellW ns)) = C
  simp (disch := first | assumption | omega | (simp [-List.map_map, -List.map_take, -List.map_drop]; done) | (refine MP.lim_ok ?_; simp [-List.map_map, -List.map_take, -List.map_drop] <;> omega) | (simp [lim, -List.map_map, -List.map_take, -List.map_drop] <;> omega) | fail) [-List.map_map, -List.map_take, -List.map_drop, hn]

end
end FL
end
section
set_option maxRecDepth 100000
set_option maxHeartbeats 4000000
namespace FL
open MP
/-- between -/
def fn_between_b2 : List MP.S := [.expr (.mth .append (.var 2) [.pr .tup [.var 3, .var 4]])]
def fn_between_b1 : List MP.S := [.for 4 .rng2 [.pr .ix [.var 0, .k (.int 1)], .pr (.op (.add false)) [.pr .ix [.var 1, .k (.int 1)], .k (.int 1)]] fn_between_b2]
def fn_between : MP.Fn := ⟨2, 5, [.set 2 (.pr (.lst true) []), .for 3 .rng2 [.pr .ix [.var 0, .k (.int 0)], .pr (.op (.add false)) [.pr .ix [.var 1, .k (.int 0)], .k (.int 1)]] fn_between_b1, .ret (.var 2)]⟩
section
variable {T : Nat → Option Fn} {N : Nat} [At T 20 fn_between]
theorem between_in (p q : D) (r : Int) (cs : List Int) (g : List Pl) (y : Option D) (hl : g.length + cs.length ≤ 1000000) :
    forB (evB (callF T N) fn_between_b2) 4 (cs.map .int) [some p, some q, some (.ref 0), some (.int r), y] [.lst (g.map plD)] = .nx [some p, some q, some (.ref 0), some (.int r), lastS .int cs y] [.lst ((g ++ cs.map fun c => (r, c)).map plD)] := by
  have h := (forB_fold (body := evB (callF T N) fn_between_b2) (v := 4) D.int (fun y (_ : List Pl) => [some p, some q, some (.ref 0), some (.int r), y]) (fun g => [.lst (g.map plD)]) (fun g c => g ++ [(r, c)]) (fun done g' => g'.length = g.length + done.length) cs g y rfl fun done x rest y g' hd hg => by
    have hlen := congrArg List.length hd
    simp only [List.length_append, List.length_cons] at hlen
    exact ⟨by simp (disch := first | assumption | omega | (simp [-List.map_map, -List.map_take, -List.map_drop]; done) | (refine MP.lim_ok ?_; simp [-List.map_map, -List.map_take, -List.map_drop] <;> omega) | (simp [lim, -List.map_map, -List.map_take, -List.map_drop] <;> omega) | fail) [-List.map_map, -List.map_take, -List.map_drop, fn_between_b2, plD], by rw [List.length_append, List.length_append, hg]; rfl⟩).1
  rw [foldl_app] at h
  exact h
theorem between_c (p q : Pl) (h : okB p q) {st : Store} (hN : 1 ≤ N) : frz true (callF T N 20 [plD p, plD q] []) st = .ok (.lst ((betw p q).map plD)) st := by
  rw [call_at (by omega) rfl]
  obtain ⟨h1, h2, h3, h4, h5, h6, h7, h8, h9⟩ := h
  have hb := betw_len p q
  obtain ⟨cs, hcs⟩ : ∃ cs, cs = rangeI p.2 (q.2 + 1) := ⟨_, rfl⟩
  have hcl : cs.length = (q.2 + 1 - p.2).toNat := by rw [hcs, rangeI_length]
  have L := (forB_fold (body := evB (callF T (N - 1)) fn_between_b1) (v := 3) D.int (fun y (g : List Pl × Option D) => [some (plD p), some (plD q), some (.ref 0), y, g.2]) (fun g => [.lst (g.1.map plD)]) (fun g r => (g.1 ++ cs.map fun c => (r, c), lastS .int cs g.2)) (fun done g => g.1.length = done.length * cs.length) (rangeI p.1 (q.1 + 1)) ([], none) none (by simp) fun done x rest y g hd hg => by
    have hlen := congrArg List.length hd
    simp only [List.length_append, List.length_cons, rangeI_length] at hlen
    have hm : (done.length + 1) * cs.length ≤ (q.1 + 1 - p.1).toNat * (q.2 + 1 - p.2).toNat := by
      rw [hcl]; exact Nat.mul_le_mul_right _ (by omega)
    rw [Nat.add_mul] at hm
    have hi := between_in (T := T) (N := N - 1) (plD p) (plD q) x cs g.1 g.2 (by omega)
    refine ⟨by simp (disch := first | assumption | omega | (simp [-List.map_map, -List.map_take, -List.map_drop]; done) | (refine MP.lim_ok ?_; simp [-List.map_map, -List.map_take, -List.map_drop] <;> omega) | (simp [lim, -List.map_map, -List.map_take, -List.map_drop] <;> omega) | fail) [-List.map_map, -List.map_take, -List.map_drop, fn_between_b1, forR_rng2, ← hcs, hi], ?_⟩
    simp only [List.length_append, List.length_map, List.length_singleton, hg, Nat.add_mul]
    omega).1
  have e : (List.foldl (fun (g : List Pl × Option D) r => (g.1 ++ cs.map fun c => (r, c), lastS .int cs g.2)) ([], none) (rangeI p.1 (q.1 + 1))).1 = betw p q := by
    have : ∀ (xs : List Int) (g : List Pl × Option D), (List.foldl (fun (g : List Pl × Option D) r => (g.1 ++ cs.map fun c => (r, c), lastS .int cs g.2)) g xs).1 = xs.foldl (fun g r => g ++ cs.map fun c => (r, c)) g.1 := by
      intro xs
      induction xs with
      | nil => intro g; rfl
      | cons x xs ih => intro g; rw [List.foldl_cons, List.foldl_cons, ih]
    rw [this, foldl_apps, hcs]
    rfl
  rw [e] at L
  simp only [List.map_nil] at L
  simp (disch := first | assumption | omega | (simp [-List.map_map, -List.map_take, -List.map_drop]; done) | (refine MP.lim_ok ?_; simp [-List.map_map, -List.map_take, -List.map_drop] <;> omega) | (simp [lim, -List.map_map, -List.map_take, -List.map_drop] <;> omega) | fail) [-List.map_map, -List.map_take, -List.map_drop, fn_between, forR_rng2, L]

end
end FL
end
section
set_option maxRecDepth 100000
set_option maxHeartbeats 4000000
namespace FL
open MP
/-- in_order -/
def fn_in_order_b1 : List MP.S := [.ifs (.or (.pr (.op .eq) [.var 1, .pr (.lst false) []]) (.pr (.op .ne) [.pr .ix [.var 1, .pr .neg [.k (.int 1)]], .var 2])) [.expr (.mth .append (.var 1) [.var 2])] []]
def fn_in_order : MP.Fn := ⟨1, 3, [.set 1 (.pr (.lst true) []), .for 2 .it [.pr (.sorted false) [.var 0]] fn_in_order_b1, .ret (.var 1)]⟩
section
variable {T : Nat → Option Fn} {N : Nat} [At T 26 fn_in_order]
theorem ord_loop (cl : Cl) (P : D) (ps : List Pl) (h : ps.length ≤ 10000000) : ∃ y, forB (evB cl fn_in_order_b1) 2 (ps.map plD) [some P, some (.ref 0), none] [.lst []] = .nx [some P, some (.ref 0), y] [.lst ((ded [] ps).map plD)] := by
  have h := (forB_fold (body := evB cl fn_in_order_b1) (v := 2) plD (fun y (g : List Pl) => [some P, some (.ref 0), y]) (fun g => [.lst (g.map plD)]) dstep (fun done g => g.length ≤ done.length) ps [] none (by simp) fun done p rest y g hd hg => by
    have hlen := congrArg List.length hd
    simp only [List.length_append, List.length_cons] at hlen
    have hl : (g.map plD).length < lim := by simp only [List.length_map, lim]; omega
    have e1 : eqVal [.lst (g.map plD)] (.ref 0) (.lst []) = some g.isEmpty := eqv_nil rfl
    refine ⟨?_, by rw [List.length_append]; exact Nat.le_trans (dstep_len g p) (by simp; omega)⟩
    rcases List.eq_nil_or_concat g with rfl | ⟨l, q, rfl⟩
    · simp only [List.map_nil, List.isEmpty_nil] at e1 hl
      simp (disch := first | assumption | omega | (simp [-List.map_map, -List.map_take, -List.map_drop]; done) | (refine MP.lim_ok ?_; simp [-List.map_map, -List.map_take, -List.map_drop] <;> omega) | (simp [lim, -List.map_map, -List.map_take, -List.map_drop] <;> omega) | fail) [-List.map_map, -List.map_take, -List.map_drop, fn_in_order_b1, e1, dstep, hl]
    · rw [List.concat_eq_append] at *
      have e2 : prim2F .ix (.ref 0) (.int (-1)) [.lst ((l ++ [q]).map plD)] = .ok (plD q) [.lst ((l ++ [q]).map plD)] := p_ix_last q rfl
      have e3 : ∀ st, eqVal st (plD q) (plD p) = some (decide (q = p)) := fun st => eqv_plD st q p
      have e4 : (l ++ [q]).isEmpty = false := by simp
      rw [e4] at e1
      simp only [List.map_append, List.map_cons, List.map_nil] at e1 e2 hl
      by_cases hq : q = p
      · subst hq
        simp (disch := first | assumption | omega | (simp [-List.map_map, -List.map_take, -List.map_drop]; done) | (refine MP.lim_ok ?_; simp [-List.map_map, -List.map_take, -List.map_drop] <;> omega) | (simp [lim, -List.map_map, -List.map_take, -List.map_drop] <;> omega) | fail) [-List.map_map, -List.map_take, -List.map_drop, fn_in_order_b1, e1, e2, e3, dstep]
      · simp (disch := first | assumption | omega | (simp [-List.map_map, -List.map_take, -List.map_drop]; done) | (refine MP.lim_ok ?_; simp [-List.map_map, -List.map_take, -List.map_drop] <;> omega) | (simp [lim, -List.map_map, -List.map_take, -List.map_drop] <;> omega) | fail) [-List.map_map, -List.map_take, -List.map_drop, fn_in_order_b1, e1, e2, e3, hq, hl, dstep]).1
  exact ⟨_, h⟩
theorem in_order_c (ps : List Pl) (h : ps.length ≤ 10000000) {st : Store} (hN : 1 ≤ N) : frz true (callF T N 26 [.lst (ps.map plD)] []) st = .ok (.lst ((inOrd ps).map plD)) st := by
  rw [call_at (by omega) rfl]
  obtain ⟨y, L⟩ := ord_loop (callF T (N - 1)) (.lst (ps.map plD)) (sortP ps) (by rw [(sortP_perm ps).length_eq]; exact h)
  have hs : ∀ st, prim1F (.sorted false) (.lst (ps.map plD)) st = .ok (.lst ((sortP ps).map plD)) st := fun st => p_sorted_pls false ps st
  simp (disch := first | assumption | omega | (simp [-List.map_map, -List.map_take, -List.map_drop]; done) | (refine MP.lim_ok ?_; simp [-List.map_map, -List.map_take, -List.map_drop] <;> omega) | (simp [lim, -List.map_map, -List.map_take, -List.map_drop] <;> omega) | fail) [-List.map_map, -List.map_take, -List.map_drop, fn_in_order, hs, L, inOrd]

end
end FL
end
section
set_option maxRecDepth 100000
set_option maxHeartbeats 4000000
namespace FL
open MP
/-- parts -/
def fn_parts : MP.Fn := ⟨1, 1, [.ifs (.pr (.op .eq) [.pr .ix [.var 0, .k (.int 0)], .k (.str [109, 105, 110, 117, 115])]) [.ret (.pr (.lst false) [.pr .ix [.var 0, .k (.int 1)]])] [], .ifs (.pr (.op .eq) [.pr .ix [.var 0, .k (.int 0)], .k (.str [116, 119, 111])]) [.ret (.pr (.lst false) [.pr .ix [.var 0, .k (.int 2)], .pr .ix [.var 0, .k (.int 3)]])] [], .ifs (.pr (.op .eq) [.pr .ix [.var 0, .k (.int 0)], .k (.str [112, 105, 99, 107])]) [.ret (.pr (.lst false) [.pr .ix [.var 0, .k (.int 1)], .pr .ix [.var 0, .k (.int 2)], .pr .ix [.var 0, .k (.int 3)]])] [], .ifs (.pr (.op .eq) [.pr .ix [.var 0, .k (.int 0)], .k (.str [111, 118, 101, 114])]) [.ret (.pr (.list false) [.pr .ix [.var 0, .k (.int 2)]])] [], .ret (.pr (.lst false) [])]⟩
section
variable {T : Nat → Option Fn} {N : Nat} [At T 38 fn_parts]
theorem parts_c (t : Tr) {st : Store} (hN : 1 ≤ N) : frz true (callF T N 38 [trD t] []) st = .ok (.lst (t.kids.map trD)) st := by
  rw [call_at (by omega) rfl]
  cases t <;> simp (disch := first | assumption | omega | (simp [-List.map_map, -List.map_take, -List.map_drop]; done) | (refine MP.lim_ok ?_; simp [-List.map_map, -List.map_take, -List.map_drop] <;> omega) | (simp [lim, -List.map_map, -List.map_take, -List.map_drop] <;> omega) | fail) [-List.map_map, -List.map_take, -List.map_drop, fn_parts]

end
end FL
end
section
set_option maxRecDepth 100000
set_option maxHeartbeats 4000000
namespace FL
open MP
/-- meant -/
def fn_meant_b1 : List MP.S := [.set 1 (.pr (.op (.add false)) [.var 1, .call 44 false [.var 2]])]
def fn_meant : MP.Fn := ⟨1, 3, [.ifs (.pr (.op .eq) [.pr .ix [.var 0, .k (.int 0)], .k (.str [114, 101, 102])]) [.ret (.pr (.lst false) [.pr .ix [.var 0, .k (.int 1)]])] [], .ifs (.pr (.op .eq) [.pr .ix [.var 0, .k (.int 0)], .k (.str [97, 114, 101, 97])]) [.ret (.call 20 false [.pr .ix [.pr .ix [.var 0, .k (.int 1)], .k (.int 1)], .pr .ix [.pr .ix [.var 0, .k (.int 2)], .k (.int 1)]])] [], .set 1 (.pr (.lst false) []), .for 2 .it [.call 38 false [.var 0]] fn_meant_b1, .ret (.call 26 false [.var 1])]⟩
section
variable {T : Nat → Option Fn} {N : Nat} [At T 20 fn_between] [At T 26 fn_in_order] [At T 38 fn_parts] [At T 44 fn_meant]
theorem meant_loop2 (cl : Cl) (x : D) : ∀ (ts : List Tr) (g : List Pl) (y : Option D), (∀ k ∈ ts, ∀ st, frz true (cl 44 [trD k] []) st = .ok (.lst (k.mpl.map plD)) st) → (∀ k ∈ ts, k.mpl.length ≤ 2574) → g.length + ts.length * 2574 ≤ 10000000 →
    ∃ y', forB (evB cl fn_meant_b1) 2 (ts.map trD) [some x, some (.lst (g.map plD)), y] [] = .nx [some x, some (.lst ((g ++ Tr.mpls ts).map plD)), y'] []
  | [], g, y, _, _, _ => ⟨y, by simp [Tr.mpls]⟩
  | k :: ks, g, y, h, h2, h3 => by
    have e := h k (by simp)
    have hk := h2 k (by simp)
    rw [List.length_cons, Nat.add_mul] at h3
    obtain ⟨y', ih⟩ := meant_loop2 cl x ks (g ++ k.mpl) (some (trD k)) (fun j hj => h j (by simp [hj])) (fun j hj => h2 j (by simp [hj])) (by rw [List.length_append]; omega)
    refine ⟨y', ?_⟩
    have hl : (g.map plD).length + (k.mpl.map plD).length ≤ lim := by simp only [List.length_map, lim]; omega
    rw [List.map_cons, forB_c, Tr.mpls, ← List.append_assoc, ← ih]
    simp (disch := first | assumption | omega | (simp [-List.map_map, -List.map_take, -List.map_drop]; done) | (refine MP.lim_ok ?_; simp [-List.map_map, -List.map_take, -List.map_drop] <;> omega) | (simp [lim, -List.map_map, -List.map_take, -List.map_drop] <;> omega) | fail) [-List.map_map, -List.map_take, -List.map_drop, fn_meant_b1, e, hl]
theorem meant_all : ∀ (d : Nat) (t : Tr) (N : Nat) (st : Store), Sm d t → InA t → d + 1 ≤ N → frz true (callF T N 44 [trD t] []) st = .ok (.lst (t.mpl.map plD)) st
  | d + 1, t, N, st, h, ha, hN => by
    rw [call_at (by omega) rfl]
    have hkl := h.1
    have hp := fun st => parts_c (T := T) (N := N - 1) (st := st) t (by omega)
    obtain ⟨y, L⟩ := meant_loop2 (callF T (N - 1)) (trD t) t.kids [] none (fun k hk st => meant_all d k (N - 1) st (h.2 k hk) (ha.kid hk) (by omega)) (fun k hk => (ha.kid hk).len) (by simp; omega)
    rw [List.nil_append, List.map_nil] at L
    have hml : (Tr.mpls t.kids).length ≤ 10000000 := by
      have : ∀ ts : List Tr, (∀ k ∈ ts, k.mpl.length ≤ 2574) → (Tr.mpls ts).length ≤ ts.length * 2574 := by
        intro ts
        induction ts with
        | nil => intro _; simp [Tr.mpls]
        | cons k ks ih =>
          intro h
          have h1 := ih fun j hj => h j (by simp [hj])
          have h2 := h k (by simp)
          rw [Tr.mpls, List.length_append, List.length_cons, Nat.add_mul]
          omega
      have := this t.kids fun k hk => (ha.kid hk).len
      omega
    have ho := fun st => in_order_c (T := T) (N := N - 1) (st := st) (Tr.mpls t.kids) hml (by omega)
    cases t with
    | ref p f => simp (disch := first | assumption | omega | (simp [-List.map_map, -List.map_take, -List.map_drop]; done) | (refine MP.lim_ok ?_; simp [-List.map_map, -List.map_take, -List.map_drop] <;> omega) | (simp [lim, -List.map_map, -List.map_take, -List.map_drop] <;> omega) | fail) [-List.map_map, -List.map_take, -List.map_drop, fn_meant, Tr.mpl]
    | area p f q g =>
      have hin := ha (.area p f q g) (by simp [Tr.items])
      have hb := fun st => between_c (T := T) (N := N - 1) (st := st) p q (okB_in hin.1 hin.2) (by omega)
      simp (disch := first | assumption | omega | (simp [-List.map_map, -List.map_take, -List.map_drop]; done) | (refine MP.lim_ok ?_; simp [-List.map_map, -List.map_take, -List.map_drop] <;> omega) | (simp [lim, -List.map_map, -List.map_take, -List.map_drop] <;> omega) | fail) [-List.map_map, -List.map_take, -List.map_drop, fn_meant, Tr.mpl, hb]
    | num n =>
      have ho0 := fun st => in_order_c (T := T) (N := N - 1) (st := st) [] (by simp) (by omega)
      simp only [List.map_nil, inOrd_nil] at ho0
      simp (disch := first | assumption | omega | (simp [-List.map_map, -List.map_take, -List.map_drop]; done) | (refine MP.lim_ok ?_; simp [-List.map_map, -List.map_take, -List.map_drop] <;> omega) | (simp [lim, -List.map_map, -List.map_take, -List.map_drop] <;> omega) | fail) [-List.map_map, -List.map_take, -List.map_drop, ] at hp
      simp (disch := first | assumption | omega | (simp [-List.map_map, -List.map_take, -List.map_drop]; done) | (refine MP.lim_ok ?_; simp [-List.map_map, -List.map_take, -List.map_drop] <;> omega) | (simp [lim, -List.map_map, -List.map_take, -List.map_drop] <;> omega) | fail) [-List.map_map, -List.map_take, -List.map_drop, fn_meant, hp, ho0, Tr.mpl]
    | gone =>
      have ho0 := fun st => in_order_c (T := T) (N := N - 1) (st := st) [] (by simp) (by omega)
      simp only [List.map_nil, inOrd_nil] at ho0
      simp (disch := first | assumption | omega | (simp [-List.map_map, -List.map_take, -List.map_drop]; done) | (refine MP.lim_ok ?_; simp [-List.map_map, -List.map_take, -List.map_drop] <;> omega) | (simp [lim, -List.map_map, -List.map_take, -List.map_drop] <;> omega) | fail) [-List.map_map, -List.map_take, -List.map_drop, ] at hp
      simp (disch := first | assumption | omega | (simp [-List.map_map, -List.map_take, -List.map_drop]; done) | (refine MP.lim_ok ?_; simp [-List.map_map, -List.map_take, -List.map_drop] <;> omega) | (simp [lim, -List.map_map, -List.map_take, -List.map_drop] <;> omega) | fail) [-List.map_map, -List.map_take, -List.map_drop, fn_meant, hp, ho0, Tr.mpl]
    | _ =>
      rw [mpl_inner (by simp) (by simp)]
      generalize hm : Tr.mpls _ = ms at *
      simp (disch := first | assumption | omega | (simp [-List.map_map, -List.map_take, -List.map_drop]; done) | (refine MP.lim_ok ?_; simp [-List.map_map, -List.map_take, -List.map_drop] <;> omega) | (simp [lim, -List.map_map, -List.map_take, -List.map_drop] <;> omega) | fail) [-List.map_map, -List.map_take, -List.map_drop, ] at L hp
      simp (disch := first | assumption | omega | (simp [-List.map_map, -List.map_take, -List.map_drop]; done) | (refine MP.lim_ok ?_; simp [-List.map_map, -List.map_take, -List.map_drop] <;> omega) | (simp [lim, -List.map_map, -List.map_take, -List.map_drop] <;> omega) | fail) [-List.map_map, -List.map_take, -List.map_drop, fn_meant, hp, L, ho]

end
end FL
end
section
set_option maxRecDepth 100000
set_option maxHeartbeats 4000000
namespace FL
open MP
/-- leans_of -/
def fn_leans_of_b1 : List MP.S := [.ifs (.pr (.isi .tuple) [.pr .ix [.var 0, .var 2]]) [.setix (.var 1) (.var 2) (.call 44 false [.pr .ix [.var 0, .var 2]])] []]
def fn_leans_of : MP.Fn := ⟨1, 3, [.set 1 (.pr .dnew []), .for 2 .it [.pr (.sorted false) [.var 0]] fn_leans_of_b1, .ret (.var 1)]⟩
section
variable {T : Nat → Option Fn} {N : Nat} [At T 20 fn_between] [At T 26 fn_in_order] [At T 38 fn_parts] [At T 44 fn_meant] [At T 237 fn_leans_of]
theorem leans_of_c (C : List (Pl × Ct)) (hC : COk C) {st : Store} (hN : 14 ≤ N) : frz true (callF T N 237 [.dct (encE ctD C)] []) st = .ok (.dct (encE plsL (leansF C))) st := by
  have hcl := hC.len
  obtain ⟨g, h1, h2⟩ := forB_rel (body := evB (callF T (N - 1)) fn_leans_of_b1) (v := 2) plD (fun v (g : DL) => [some (.dct (encE ctD C)), some (.ref 0), v]) (fun g => [.dct (encE plsL g)]) (fun done g => g = done.filterMap (leanF C)) (sortP (C.map (·.1))) [] none rfl fun done p rest v g hd hg => by
    have hpk : p ∈ C.map (·.1) := ckeys_mem.mp (by rw [← hd]; simp)
    obtain ⟨c, hc⟩ := tget_some hpk
    have hdg : dget (encE ctD C) p = some (ctD c) := by rw [dget_enc, hc]; rfl
    have hnd := ckeys_nodup hC.key
    rw [← hd] at hnd
    have hnew : p ∉ g.map (·.1) := by
      rw [hg]
      intro hm
      obtain ⟨e, he, e2⟩ := List.mem_map.mp hm
      obtain ⟨q, hq, he⟩ := List.mem_filterMap.mp he
      rw [(leanF_fst he).1] at e2
      rw [List.nodup_append] at hnd
      exact hnd.2.2 q hq p (by simp) e2
    have hgl : g.length ≤ 1000 := by
      have h1 := List.length_filterMap_le (leanF C) done
      have h2 := congrArg List.length hd
      rw [(sortP_perm _).length_eq, List.length_map] at h2
      simp only [List.length_append, List.length_cons] at h2
      rw [hg]
      omega
    have hll : (encE plsL g).length < lim := by simp only [enc_len, lim]; omega
    cases c with
    | i n =>
      refine ⟨g, by simp (disch := first | assumption | omega | (simp [-List.map_map, -List.map_take, -List.map_drop]; done) | (refine MP.lim_ok ?_; simp [-List.map_map, -List.map_take, -List.map_drop] <;> omega) | (simp [lim, -List.map_map, -List.map_take, -List.map_drop] <;> omega) | fail) [-List.map_map, -List.map_take, -List.map_drop, fn_leans_of_b1, hdg], ?_⟩
      rw [hg, List.filterMap_append]
      simp [leanF, hc]
    | f t =>
      obtain ⟨o1, o2, o3⟩ := hC.get hc
      have hm := fun st => meant_all (T := T) 12 t (N - 1) st (sm_of 12 t o2 o3) (Tr.Ok.inA (R := 99) (C := 26) (by omega) (by omega) (.inl o1)) (by omega)
      have hdp := dput_enc plsL g p t.mpl
      rw [tput_new hnew] at hdp
      simp only [plsL] at hdp
      have hnr : noRefs (t.mpl.map plD) = true := noRefs_pls _
      simp only [ctD_f] at hdg
      refine ⟨g ++ [(p, t.mpl)], by simp (disch := first | assumption | omega | (simp [-List.map_map, -List.map_take, -List.map_drop]; done) | (refine MP.lim_ok ?_; simp [-List.map_map, -List.map_take, -List.map_drop] <;> omega) | (simp [lim, -List.map_map, -List.map_take, -List.map_drop] <;> omega) | fail) [-List.map_map, -List.map_take, -List.map_drop, fn_leans_of_b1, hdg, hm, hnr, hll, hdp, plsL], ?_⟩
      rw [hg, List.filterMap_append]
      simp [leanF, hc]
  rw [call_at (by omega) rfl]
  have hs := fun st => p_sorted_dct false ctD C st
  rw [enc_nil] at h1
  rw [h2] at h1
  have e : (sortP (C.map (·.1))).filterMap (leanF C) = leansF C := rfl
  rw [e] at h1
  simp (disch := first | assumption | omega | (simp [-List.map_map, -List.map_take, -List.map_drop]; done) | (refine MP.lim_ok ?_; simp [-List.map_map, -List.map_take, -List.map_drop] <;> omega) | (simp [lim, -List.map_map, -List.map_take, -List.map_drop] <;> omega) | fail) [-List.map_map, -List.map_take, -List.map_drop, fn_leans_of, hs, h1]

end
end FL
end
section
set_option maxRecDepth 100000
set_option maxHeartbeats 4000000
namespace FL
open MP
/-- waits_for -/
def fn_waits_for_c1 : MP.E := .and (.pr (.op .isin) [.var 3, .var 1]) (.pr (.op .notin) [.var 3, .var 2])
def fn_waits_for_e1 : MP.E := .var 3
def fn_waits_for : MP.Fn := ⟨3, 4, [.ret (.comp false 3 fn_waits_for_e1 .it [.pr .ix [.var 1, .var 0]] fn_waits_for_c1)]⟩
section
variable {T : Nat → Option Fn} {N : Nat} [At T 215 fn_waits_for]
theorem waits_c (ln : DL) (s : List Pl) (p : Pl) (hok : OkD ln) (hp : p ∈ ln.map (·.1)) {st : Store} (hN : 1 ≤ N) : frz true (callF T N 215 [plD p, .dct (encE plsL ln), .dct (encE tt1 (stD s))] []) st = .ok (plsL (waits ln s p)) st := by
  rw [call_at (by omega) rfl]
  obtain ⟨ps, hps⟩ := tget_some hp
  have hl := tget_len hok hps
  have hg : dget (encE plsL ln) p = some (.lst (ps.map plD)) := by rw [dget_enc, hps]; rfl
  have hc := compF_map (m := false) (elt := evE (callF T (N - 1)) fn_waits_for_e1) (cond := evE (callF T (N - 1)) fn_waits_for_c1) (v := 3) (ds := [some (plD p), some (.dct (encE plsL ln)), some (.dct (encE tt1 (stD s))), none]) (st := []) plD plD id (fun o => decide (o ∈ ln.map (·.1)) && !decide (o ∈ s)) ps (by simp only [lim]; omega) (fun o _ => by
      have h1 := fun st => in_enc plsL ln o st
      have h2 := fun st => in_enc tt1 (stD s) o st
      simp only [stD_keys] at h2
      by_cases k1 : o ∈ ln.map (·.1)
      · rw [decide_eq_true k1] at h1
        rw [decide_eq_true k1]
        simp (disch := first | assumption | omega | (simp [-List.map_map, -List.map_take, -List.map_drop]; done) | (refine MP.lim_ok ?_; simp [-List.map_map, -List.map_take, -List.map_drop] <;> omega) | (simp [lim, -List.map_map, -List.map_take, -List.map_drop] <;> omega) | fail) [-List.map_map, -List.map_take, -List.map_drop, fn_waits_for_c1, h1, h2]
      · rw [decide_eq_false k1] at h1
        rw [decide_eq_false k1]
        simp (disch := first | assumption | omega | (simp [-List.map_map, -List.map_take, -List.map_drop]; done) | (refine MP.lim_ok ?_; simp [-List.map_map, -List.map_take, -List.map_drop] <;> omega) | (simp [lim, -List.map_map, -List.map_take, -List.map_drop] <;> omega) | fail) [-List.map_map, -List.map_take, -List.map_drop, fn_waits_for_c1, h1]) (fun o _ _ => by simp (disch := first | assumption | omega | (simp [-List.map_map, -List.map_take, -List.map_drop]; done) | (refine MP.lim_ok ?_; simp [-List.map_map, -List.map_take, -List.map_drop] <;> omega) | (simp [lim, -List.map_map, -List.map_take, -List.map_drop] <;> omega) | fail) [-List.map_map, -List.map_take, -List.map_drop, fn_waits_for_e1])
  rw [List.map_id] at hc
  have hw : waits ln s p = ps.filter fun o => decide (o ∈ ln.map (·.1)) && !decide (o ∈ s) := by simp only [waits, hps, Option.getD_some]
  rw [hw, plsL]
  have hnr : noRefs ((ps.filter fun o => decide (o ∈ ln.map (·.1)) && !decide (o ∈ s)).map plD) = true := noRefs_pls _
  generalize (ps.filter fun o => decide (o ∈ ln.map (·.1)) && !decide (o ∈ s)) = ws at *
  simp (disch := first | assumption | omega | (simp [-List.map_map, -List.map_take, -List.map_drop]; done) | (refine MP.lim_ok ?_; simp [-List.map_map, -List.map_take, -List.map_drop] <;> omega) | (simp [lim, -List.map_map, -List.map_take, -List.map_drop] <;> omega) | fail) [-List.map_map, -List.map_take, -List.map_drop, fn_waits_for, hg, hc]

end
end FL
end
section
set_option maxRecDepth 100000
set_option maxHeartbeats 4000000
namespace FL
open MP
/-- least_ready -/
def fn_least_ready_b1 : List MP.S := [.ifs (.and (.pr (.op .notin) [.var 3, .var 2]) (.pr (.op .eq) [.call 215 false [.var 3, .var 1, .var 2], .pr (.lst false) []])) [.ret (.var 3)] []]
def fn_least_ready : MP.Fn := ⟨3, 4, [.for 3 .it [.var 0] fn_least_ready_b1, .ret (.k .non)]⟩
section
variable {T : Nat → Option Fn} {N : Nat} [At T 215 fn_waits_for] [At T 216 fn_least_ready]
theorem least_find (ln : DL) (s : List Pl) : ∀ ks : List Pl, ks.findSome? (fun p => if free ln s p = true then some (plD p) else none) = (least ln ks s).map plD
  | [] => rfl
  | k :: ks => by
    have ih := least_find ln s ks
    unfold least at ih ⊢
    rw [List.findSome?_cons, List.find?_cons]
    cases h : free ln s k with
    | true => simp
    | false => simpa using ih
theorem least_c (ln : DL) (ks s : List Pl) (hok : OkD ln) (hk : ∀ p ∈ ks, p ∈ ln.map (·.1)) {nr : Bool} {st : Store} (hN : 2 ≤ N) : frz nr (callF T N 216 [.lst (ks.map plD), .dct (encE plsL ln), .dct (encE tt1 (stD s))] []) st = .ok (plO (least ln ks s)) st := by
  rw [call_at (by omega) rfl]
  have L := forB_find (body := evB (callF T (N - 1)) fn_least_ready_b1) (v := 3) plD (fun y => [some (.lst (ks.map plD)), some (.dct (encE plsL ln)), some (.dct (encE tt1 (stD s))), y]) [] (fun p => if free ln s p = true then some (plD p) else none) ks none fun p y hp => by
    have hw := fun st => waits_c (T := T) (N := N - 1) (st := st) ln s p hok (hk p hp) (by omega)
    have h2 := fun st => in_enc tt1 (stD s) p st
    simp only [stD_keys] at h2
    have e1 : ∀ st, eqVal st (plsL (waits ln s p)) (.lst []) = some (waits ln s p).isEmpty := fun st => eqv_nilL (waits ln s p)
    unfold free
    by_cases k1 : p ∈ s
    · rw [decide_eq_true k1] at h2 ⊢
      simp (disch := first | assumption | omega | (simp [-List.map_map, -List.map_take, -List.map_drop]; done) | (refine MP.lim_ok ?_; simp [-List.map_map, -List.map_take, -List.map_drop] <;> omega) | (simp [lim, -List.map_map, -List.map_take, -List.map_drop] <;> omega) | fail) [-List.map_map, -List.map_take, -List.map_drop, fn_least_ready_b1, h2]
    · rw [decide_eq_false k1] at h2 ⊢
      cases k2 : (waits ln s p).isEmpty with
      | true => rw [k2] at e1; simp (disch := first | assumption | omega | (simp [-List.map_map, -List.map_take, -List.map_drop]; done) | (refine MP.lim_ok ?_; simp [-List.map_map, -List.map_take, -List.map_drop] <;> omega) | (simp [lim, -List.map_map, -List.map_take, -List.map_drop] <;> omega) | fail) [-List.map_map, -List.map_take, -List.map_drop, fn_least_ready_b1, h2, hw, e1, k2]
      | false => rw [k2] at e1; simp (disch := first | assumption | omega | (simp [-List.map_map, -List.map_take, -List.map_drop]; done) | (refine MP.lim_ok ?_; simp [-List.map_map, -List.map_take, -List.map_drop] <;> omega) | (simp [lim, -List.map_map, -List.map_take, -List.map_drop] <;> omega) | fail) [-List.map_map, -List.map_take, -List.map_drop, fn_least_ready_b1, h2, hw, e1, k2]
  rw [least_find] at L
  cases hl : least ln ks s with
  | none => rw [hl] at L; simp only [Option.map_none] at L; simp (disch := first | assumption | omega | (simp [-List.map_map, -List.map_take, -List.map_drop]; done) | (refine MP.lim_ok ?_; simp [-List.map_map, -List.map_take, -List.map_drop] <;> omega) | (simp [lim, -List.map_map, -List.map_take, -List.map_drop] <;> omega) | fail) [-List.map_map, -List.map_take, -List.map_drop, fn_least_ready, L]
  | some p => rw [hl] at L; simp only [Option.map_some] at L; simp (disch := first | assumption | omega | (simp [-List.map_map, -List.map_take, -List.map_drop]; done) | (refine MP.lim_ok ?_; simp [-List.map_map, -List.map_take, -List.map_drop] <;> omega) | (simp [lim, -List.map_map, -List.map_take, -List.map_drop] <;> omega) | fail) [-List.map_map, -List.map_take, -List.map_drop, fn_least_ready, L]

end
end FL
end
section
set_option maxRecDepth 100000
set_option maxHeartbeats 4000000
namespace FL
open MP
/-- waits_for -/
def fn_waits_for_m_c1 : MP.E := .and (.pr (.op .isin) [.var 3, .var 1]) (.pr (.op .notin) [.var 3, .var 2])
def fn_waits_for_m_e1 : MP.E := .var 3
def fn_waits_for_m : MP.Fn := ⟨3, 4, [.ret (.comp true 3 fn_waits_for_m_e1 .it [.pr .ix [.var 1, .var 0]] fn_waits_for_m_c1)]⟩
section
variable {T : Nat → Option Fn} {N : Nat} [At T 1215 fn_waits_for_m]
theorem waitsm_c (ln : DL) (s : List Pl) (p : Pl) (hok : OkD ln) (hp : p ∈ ln.map (·.1)) (hN : 1 ≤ N) : callF T N 1215 [plD p, .dct (encE plsL ln), .dct (encE tt1 (stD s))] [] = .ok (.ref 0) [.lst ((waits ln s p).map plD)] := by
  rw [call_at (by omega) rfl]
  obtain ⟨ps, hps⟩ := tget_some hp
  have hl := tget_len hok hps
  have hg : dget (encE plsL ln) p = some (.lst (ps.map plD)) := by rw [dget_enc, hps]; rfl
  have hc := compF_map (m := true) (elt := evE (callF T (N - 1)) fn_waits_for_m_e1) (cond := evE (callF T (N - 1)) fn_waits_for_m_c1) (v := 3) (ds := [some (plD p), some (.dct (encE plsL ln)), some (.dct (encE tt1 (stD s))), none]) (st := []) plD plD id (fun o => decide (o ∈ ln.map (·.1)) && !decide (o ∈ s)) ps (by simp only [lim]; omega) (fun o _ => by
      have h1 := fun st => in_enc plsL ln o st
      have h2 := fun st => in_enc tt1 (stD s) o st
      simp only [stD_keys] at h2
      by_cases k1 : o ∈ ln.map (·.1)
      · rw [decide_eq_true k1] at h1
        rw [decide_eq_true k1]
        simp (disch := first | assumption | omega | (simp [-List.map_map, -List.map_take, -List.map_drop]; done) | (refine MP.lim_ok ?_; simp [-List.map_map, -List.map_take, -List.map_drop] <;> omega) | (simp [lim, -List.map_map, -List.map_take, -List.map_drop] <;> omega) | fail) [-List.map_map, -List.map_take, -List.map_drop, fn_waits_for_m_c1, h1, h2]
      · rw [decide_eq_false k1] at h1
        rw [decide_eq_false k1]
        simp (disch := first | assumption | omega | (simp [-List.map_map, -List.map_take, -List.map_drop]; done) | (refine MP.lim_ok ?_; simp [-List.map_map, -List.map_take, -List.map_drop] <;> omega) | (simp [lim, -List.map_map, -List.map_take, -List.map_drop] <;> omega) | fail) [-List.map_map, -List.map_take, -List.map_drop, fn_waits_for_m_c1, h1]) (fun o _ _ => by simp (disch := first | assumption | omega | (simp [-List.map_map, -List.map_take, -List.map_drop]; done) | (refine MP.lim_ok ?_; simp [-List.map_map, -List.map_take, -List.map_drop] <;> omega) | (simp [lim, -List.map_map, -List.map_take, -List.map_drop] <;> omega) | fail) [-List.map_map, -List.map_take, -List.map_drop, fn_waits_for_m_e1])
  rw [List.map_id] at hc
  have hw : waits ln s p = ps.filter fun o => decide (o ∈ ln.map (·.1)) && !decide (o ∈ s) := by simp only [waits, hps, Option.getD_some]
  rw [hw]
  generalize (ps.filter fun o => decide (o ∈ ln.map (·.1)) && !decide (o ∈ s)) = ws at *
  simp (disch := first | assumption | omega | (simp [-List.map_map, -List.map_take, -List.map_drop]; done) | (refine MP.lim_ok ?_; simp [-List.map_map, -List.map_take, -List.map_drop] <;> omega) | (simp [lim, -List.map_map, -List.map_take, -List.map_drop] <;> omega) | fail) [-List.map_map, -List.map_take, -List.map_drop, fn_waits_for_m, hg, hc]

end
end FL
end
section
set_option maxRecDepth 100000
set_option maxHeartbeats 4000000
namespace FL
open MP
/-- sorted_out -/
def fn_sorted_out_c1 : MP.E := .pr .notn [.var 4]
def fn_sorted_out_b1 : List MP.S := [.setix (.var 2) (.var 4) (.k (.bl true)), .expr (.mth .append (.var 3) [.var 4]), .set 4 (.call 216 false [.var 1, .var 0, .var 2])]
def fn_sorted_out_b2 : List MP.S := [.ifs (.pr (.op .notin) [.var 4, .var 2]) [.setix (.var 5) (.var 4) (.pr .minL [.call 1215 true [.var 4, .var 0, .var 2]])] []]
def fn_sorted_out : MP.Fn := ⟨1, 6, [.set 1 (.pr (.sorted false) [.var 0]), .set 2 (.pr .dnew []), .set 3 (.pr (.lst true) []), .set 4 (.call 216 false [.var 1, .var 0, .var 2]), .whl fn_sorted_out_c1 fn_sorted_out_b1, .set 5 (.pr .dnew []), .for 4 .it [.var 1] fn_sorted_out_b2, .ret (.pr .tup [.var 3, .var 5])]⟩
section
variable {T : Nat → Option Fn} {N : Nat} [At T 215 fn_waits_for] [At T 216 fn_least_ready] [At T 217 fn_sorted_out] [At T 1215 fn_waits_for_m]
abbrev SG := List Pl × Option Pl
def SG.ds (ln : DL) (g : SG) : DS := [some (.dct (encE plsL ln)), some (.lst ((sortP (ln.map (·.1))).map plD)), some (.ref 0), some (.ref 1), some (plO g.2), none]
def SG.st (g : SG) : Store := [.dct (encE tt1 (stD g.1)), .lst (g.1.map plD)]
structure SG.Ok (ln : DL) (g : SG) : Prop where
  step : ∀ (i : Nat) (p : Pl), g.1[i]? = some p → least ln (sortP (ln.map (·.1))) (g.1.take i) = some p
  nxt : g.2 = least ln (sortP (ln.map (·.1))) g.1
  nd : g.1.Nodup
  sub : ∀ p ∈ g.1, p ∈ sortP (ln.map (·.1))
theorem so_whl (ln : DL) (hok : OkD ln) (M : Nat) (hM : 3 ≤ M) : ∃ ord, Out ln ord ∧ ord.Nodup ∧ (∀ p ∈ ord, p ∈ ln.map (·.1)) ∧
    whlB (evE (callF T M) fn_sorted_out_c1) (evB (callF T M) fn_sorted_out_b1) whlFuel (SG.ds ln ([], least ln (sortP (ln.map (·.1))) [])) [.dct [], .lst []] = .nx (SG.ds ln (ord, none)) (SG.st (ord, none)) := by
  obtain ⟨ks, hks⟩ : ∃ ks, ks = sortP (ln.map (·.1)) := ⟨_, rfl⟩
  have hkl : ks.length = ln.length := by rw [hks, (sortP_perm _).length_eq, List.length_map]
  have hln := hok.len
  obtain ⟨g', h1, h2, h3⟩ := whlB_fold (c := evE (callF T M) fn_sorted_out_c1) (body := evB (callF T M) fn_sorted_out_b1) (SG.ds ln) SG.st (SG.Ok ln) (fun g => g.2.isSome) (fun g => match g.2 with | some p => (g.1 ++ [p], least ln ks (g.1 ++ [p])) | none => g) (fun g => ks.length - g.1.length + (if g.2.isSome then 1 else 0)) whlFuel ([], least ln ks []) ⟨by simp, by rw [hks], by simp, by simp⟩ (by unfold whlFuel; simp only [List.length_nil]; split <;> omega) fun g hg => by
    obtain ⟨s, o⟩ := g
    obtain ⟨i1, i2, i3, i4⟩ := hg
    simp only at i1 i2 i3 i4
    refine ⟨by cases o <;> simp (disch := first | assumption | omega | (simp [-List.map_map, -List.map_take, -List.map_drop]; done) | (refine MP.lim_ok ?_; simp [-List.map_map, -List.map_take, -List.map_drop] <;> omega) | (simp [lim, -List.map_map, -List.map_take, -List.map_drop] <;> omega) | fail) [-List.map_map, -List.map_take, -List.map_drop, fn_sorted_out_c1, SG.ds, SG.st], fun hp => ?_⟩
    cases o with
    | none => simp at hp
    | some p =>
      rw [← hks] at i1 i2 i4
      obtain ⟨m1, m2, _⟩ := least_mem i2.symm
      have hnd : (s ++ [p]).Nodup := by
        rw [List.nodup_append]
        exact ⟨i3, by simp, by intro a ha b hb; simp at hb; subst hb; intro e; exact m2 (by rw [← e]; exact ha)⟩
      have hsub : ∀ q ∈ s ++ [p], q ∈ ks := fun q hq => by
        rcases List.mem_append.mp hq with hq | hq
        · exact i4 q hq
        · rw [List.mem_singleton.mp hq]; exact m1
      have hlen := nodup_len hnd hsub
      rw [List.length_append, List.length_singleton] at hlen
      have hl1 : (encE tt1 (stD s)).length < lim := by simp only [enc_len, stD, List.length_map, lim]; omega
      have hl2 : (s.map plD).length < lim := by simp only [List.length_map, lim]; omega
      have hle := fun nr st => least_c (T := T) (N := M) (nr := nr) (st := st) ln ks (s ++ [p]) hok (fun q hq => by rw [hks] at hq; exact keys_mem.mp hq) (by omega)
      have hpt := putT s p m2
      refine ⟨?_, ⟨?_, ?_, hnd, by rw [← hks]; exact hsub⟩, ?_⟩
      · simp only [SG.ds, SG.st, ← hks]
        simp (disch := first | assumption | omega | (simp [-List.map_map, -List.map_take, -List.map_drop]; done) | (refine MP.lim_ok ?_; simp [-List.map_map, -List.map_take, -List.map_drop] <;> omega) | (simp [lim, -List.map_map, -List.map_take, -List.map_drop] <;> omega) | fail) [-List.map_map, -List.map_take, -List.map_drop, fn_sorted_out_b1, hl1, hl2, hpt, hle]
      · intro i q hq
        simp only at hq ⊢
        rw [← hks]
        by_cases hi : i < s.length
        · rw [List.getElem?_append_left hi] at hq
          rw [List.take_append_of_le_length (by omega)]
          exact i1 i q hq
        · have : i = s.length := by
            have := (List.getElem?_eq_some_iff.mp hq).1
            simp at this
            omega
          subst this
          simp at hq
          subst hq
          rw [List.take_left]
          exact i2.symm
      · simp only [hks]
      · simp only [List.length_append, List.length_singleton, Option.isSome_some, if_true]
        split <;> omega
  obtain ⟨s, o⟩ := g'
  obtain ⟨i1, i2, i3, i4⟩ := h2
  simp only at i1 i2 i3 i4 h3
  cases o with
  | some p => simp at h3
  | none =>
    refine ⟨s, ⟨i1, i2.symm⟩, i3, fun p hp => keys_mem.mp (i4 p hp), ?_⟩
    have e : SG.st ([], least ln ks []) = [.dct [], .lst []] := rfl
    rw [e, hks] at h1
    exact h1
theorem so_nexts (ln : DL) (hok : OkD ln) (ord : List Pl) (ho : Out ln ord) (hol : ord.length ≤ 1000) (M : Nat) (hM : 3 ≤ M) :
    ∃ y gb, forB (evB (callF T M) fn_sorted_out_b2) 4 ((sortP (ln.map (·.1))).map plD) [some (.dct (encE plsL ln)), some (.lst ((sortP (ln.map (·.1))).map plD)), some (.ref 0), some (.ref 1), some .non, some (.ref 2)] [.dct (encE tt1 (stD ord)), .lst (ord.map plD), .dct []] = .nx [some (.dct (encE plsL ln)), some (.lst ((sortP (ln.map (·.1))).map plD)), some (.ref 0), some (.ref 1), y, some (.ref 2)] ([.dct (encE tt1 (stD ord)), .lst (ord.map plD), .dct (encE plD (nextsD ln ord))] ++ gb) := by
  obtain ⟨ks, hks⟩ : ∃ ks, ks = sortP (ln.map (·.1)) := ⟨_, rfl⟩
  have hkl : ks.length = ln.length := by rw [hks, (sortP_perm _).length_eq, List.length_map]
  have hln := hok.len
  have hkn : ks.Nodup := by rw [hks]; exact keys_nodup hok.key
  have h := forB_rel (body := evB (callF T M) fn_sorted_out_b2) (v := 4) plD (fun y (g : List (Pl × Pl) × Store) => [some (.dct (encE plsL ln)), some (.lst (ks.map plD)), some (.ref 0), some (.ref 1), y, some (.ref 2)]) (fun g => [.dct (encE tt1 (stD ord)), .lst (ord.map plD), .dct (encE plD g.1)] ++ g.2) (fun done g => g.1 = (done.filter fun p => !decide (p ∈ ord)).map fun p => (p, minP (waits ln ord p))) ks ([], []) (some .non) (by simp) fun done p rest y g hd hg => by
    have hlen := congrArg List.length hd
    simp only [List.length_append, List.length_cons] at hlen
    have hpk : p ∈ ks := by rw [← hd]; simp
    have hpn : p ∉ done := by
      rw [← hd, List.nodup_append] at hkn
      intro hm
      exact hkn.2.2 p hm p (by simp) rfl
    have hgl : g.1.length ≤ done.length := by rw [hg, List.length_map]; exact List.length_filter_le _ _
    have hin := in_encC (f := tt1) (es := stD ord) (st := [.dct (encE tt1 (stD ord)), .lst (ord.map plD), .dct (encE plD g.1)] ++ g.2) (n := 0) (by simp) p
    rw [stD_keys] at hin
    by_cases hm : p ∈ ord
    · rw [decide_eq_true hm] at hin
      refine ⟨g, by simp (disch := first | assumption | omega | (simp [-List.map_map, -List.map_take, -List.map_drop]; done) | (refine MP.lim_ok ?_; simp [-List.map_map, -List.map_take, -List.map_drop] <;> omega) | (simp [lim, -List.map_map, -List.map_take, -List.map_drop] <;> omega) | fail) [-List.map_map, -List.map_take, -List.map_drop, fn_sorted_out_b2] at hin ⊢; simp (disch := first | assumption | omega | (simp [-List.map_map, -List.map_take, -List.map_drop]; done) | (refine MP.lim_ok ?_; simp [-List.map_map, -List.map_take, -List.map_drop] <;> omega) | (simp [lim, -List.map_map, -List.map_take, -List.map_drop] <;> omega) | fail) [-List.map_map, -List.map_take, -List.map_drop, hin], by rw [hg, List.filter_append]; simp [hm]⟩
    · rw [decide_eq_false hm] at hin
      have hne : waits ln ord p ≠ [] := by
        have hf := ho.fin
        rw [← hks] at hf
        exact least_none hf hpk hm
      have hw := waitsm_c (T := T) (N := M) ln ord p hok (by rw [hks] at hpk; exact keys_mem.mp hpk) (by omega)
      have hnr : noRefs ((waits ln ord p).map plD) = true := noRefs_pls _
      have hfl : flatRs ((waits ln ord p).map plD) = true := flatRs_pls _
      have hll : (encE plD g.1).length < lim := by simp only [enc_len, lim]; omega
      have hput : dput (encE plD g.1) p (plD (minP (waits ln ord p))) = encE plD (g.1 ++ [(p, minP (waits ln ord p))]) := by
        rw [dput_enc, tput_new]
        rw [hg, List.map_map]
        intro hx
        obtain ⟨q, hq, e⟩ := List.mem_map.mp hx
        simp only [Function.comp] at e
        subst e
        exact hpn (List.mem_filter.mp hq).1
      have hmin := p_minL_plsC hne (st := [.dct (encE tt1 (stD ord)), .lst (ord.map plD), .dct (encE plD g.1)] ++ g.2 ++ [.lst ((waits ln ord p).map plD)]) (n := g.2.length + 3) (by simp)
      refine ⟨(g.1 ++ [(p, minP (waits ln ord p))], g.2 ++ [.lst ((waits ln ord p).map plD)]), ?_, by simp only; rw [hg, List.filter_append, List.map_append]; simp [hm]⟩
      simp only [List.cons_append, List.nil_append, List.append_assoc] at hin hmin ⊢
      simp (disch := first | assumption | omega | (simp [-List.map_map, -List.map_take, -List.map_drop]; done) | (refine MP.lim_ok ?_; simp [-List.map_map, -List.map_take, -List.map_drop] <;> omega) | (simp [lim, -List.map_map, -List.map_take, -List.map_drop] <;> omega) | fail) [-List.map_map, -List.map_take, -List.map_drop, fn_sorted_out_b2, hin, hw, hnr, hfl, hmin, hll, hput]
  obtain ⟨g', h1, h2⟩ := h
  rw [h2] at h1
  rw [hks] at h1
  exact ⟨_, _, h1⟩
theorem sorted_out_c (ln : DL) (hok : OkD ln) (hN : 4 ≤ N) : ∃ ord, Out ln ord ∧ ord.Nodup ∧ (∀ p ∈ ord, p ∈ ln.map (·.1)) ∧ ∀ st, frz true (callF T N 217 [.dct (encE plsL ln)] []) st = .ok (.tup [.lst (ord.map plD), .dct (encE plD (nextsD ln ord))]) st := by
  obtain ⟨ord, h1, h2, h3, hw⟩ := so_whl (T := T) ln hok (N - 1) (by omega)
  have hol : ord.length ≤ 1000 := by
    have := nodup_len h2 h3
    rw [List.length_map] at this
    have := hok.len
    omega
  obtain ⟨y, gb, hn⟩ := so_nexts (T := T) ln hok ord h1 hol (N - 1) (by omega)
  refine ⟨ord, h1, h2, h3, fun st => ?_⟩
  rw [call_at (by omega) rfl]
  have hle := fun nr st => least_c (T := T) (N := N - 1) (nr := nr) (st := st) ln (sortP (ln.map (·.1))) [] hok (fun q hq => keys_mem.mp hq) (by omega)
  have hnr1 : noRefs (ord.map plD) = true := noRefs_pls _
  have hnr2 : noRefE (encE plD (nextsD ln ord)) = true := nrE_enc (by intro p; rfl) _
  have e0 : encE tt1 (stD []) = [] := rfl
  rw [e0] at hle
  simp only [SG.ds, SG.st] at hw
  simp only [List.map_nil, plO_n] at hw hle
  simp (disch := first | assumption | omega | (simp [-List.map_map, -List.map_take, -List.map_drop]; done) | (refine MP.lim_ok ?_; simp [-List.map_map, -List.map_take, -List.map_drop] <;> omega) | (simp [lim, -List.map_map, -List.map_take, -List.map_drop] <;> omega) | fail) [-List.map_map, -List.map_take, -List.map_drop, fn_sorted_out, hle, hw]
  simp (disch := first | assumption | omega | (simp [-List.map_map, -List.map_take, -List.map_drop]; done) | (refine MP.lim_ok ?_; simp [-List.map_map, -List.map_take, -List.map_drop] <;> omega) | (simp [lim, -List.map_map, -List.map_take, -List.map_drop] <;> omega) | fail) [-List.map_map, -List.map_take, -List.map_drop, hn]
theorem sorted_out_o (ln : DL) (hok : OkD ln) (ord : List Pl) (ho : Out ln ord) (hN : 4 ≤ N) (st : Store) : frz true (callF T N 217 [.dct (encE plsL ln)] []) st = .ok (.tup [.lst (ord.map plD), .dct (encE plD (nextsD ln ord))]) st := by
  obtain ⟨o, h1, _, _, h2⟩ := sorted_out_c (T := T) (N := N) ln hok hN
  rw [out_uniq ho h1]
  exact h2 st

end
end FL
end
section
set_option maxRecDepth 100000
set_option maxHeartbeats 4000000
namespace FL
open MP
/-- _law_due_log -/
def fn_due_log_L_m_c1 : MP.E := .pr (.op .ne) [.mth .dget (.var 1) [.var 8], .mth .dget (.var 2) [.var 8]]
def fn_due_log_L_m_e1 : MP.E := .var 8
def fn_due_log_L_m_b1 : List MP.S := [.set 7 (.comp false 8 fn_due_log_L_m_e1 .it [.pr .ix [.var 4, .var 6]] fn_due_log_L_m_c1), .ifs (.or (.pr (.op .isin) [.var 6, .var 3]) (.pr (.op .eq) [.mth .dget (.var 1) [.var 6], .k (.str [114, 105, 110, 103])])) [.expr (.mth .append (.var 5) [.pr .tup [.var 6, .var 6]])] [.ifs (.pr (.op .ne) [.var 7, .pr (.lst false) []]) [.expr (.mth .append (.var 5) [.pr .tup [.var 6, .pr .ix [.var 7, .k (.int 0)]]])] []]]
def fn_due_log_L_m : MP.Fn := ⟨4, 9, [.set 4 (.call 237 false [.var 0]), .set 5 (.pr (.lst true) []), .for 6 .it [.pr .ix [.call 217 false [.var 4], .k (.int 0)]] fn_due_log_L_m_b1, .ret (.var 5)]⟩
section
variable {T : Nat → Option Fn} {N : Nat} [At T 20 fn_between] [At T 26 fn_in_order] [At T 38 fn_parts] [At T 44 fn_meant] [At T 215 fn_waits_for] [At T 216 fn_least_ready] [At T 217 fn_sorted_out] [At T 237 fn_leans_of] [At T 1215 fn_waits_for_m] [At T 1250 fn_due_log_L_m]
theorem due_raw (C : List (Pl × Ct)) (hC : COk C) (A S : List (Pl × Vl)) (os ord : List Pl) (ho : Out (leansF C) ord) (hol : ord.length ≤ 1000) (hN : 16 ≤ N) :
    callF T N 1250 [.dct (encE ctD C), .dct (encE vlD A), .dct (encE vlD S), .lst (os.map plD)] [] = .ok (.ref 0) [.lst ((dueF C A S os ord).map lgD)] := by
  have h1 := fun st => leans_of_c (T := T) (N := N - 1) (st := st) C hC (by omega)
  have h2 := fun st => sorted_out_o (T := T) (N := N - 1) (leansF C) (leansF_ok hC) ord ho (by omega) st
  obtain ⟨ln, hln⟩ : ∃ ln, ln = leansF C := ⟨_, rfl⟩
  rw [← hln] at h1 h2
  have hga := dget_vl A
  have hgs := dget_vl S
  obtain ⟨⟨g, o⟩, l1, l2⟩ := forB_rel (body := evB (callF T (N - 1)) fn_due_log_L_m_b1) (v := 6) plD (fun v (g : List (Pl × Pl) × Option D) => [some (.dct (encE ctD C)), some (.dct (encE vlD A)), some (.dct (encE vlD S)), some (.lst (os.map plD)), some (.dct (encE plsL ln)), some (.ref 0), v, g.2, none]) (fun g => [.lst (g.1.map lgD)]) (fun done g => g.1 = dueF C A S os done ∧ g.1.length ≤ done.length) ord ([], none) none ⟨rfl, by simp⟩ fun done p rest v g hd ⟨i1, i2⟩ => by
    obtain ⟨lg, o⟩ := g
    simp only at i1 i2
    have hp : p ∈ ord := by rw [← hd]; simp
    obtain ⟨t, ht⟩ := out_sub hC.key ho p hp
    obtain ⟨o1, o2, o3⟩ := hC.get ht
    have hmln : InA t := Tr.Ok.inA (R := 99) (C := 26) (by omega) (by omega) (.inl o1)
    have hml := hmln.len
    have hlen := congrArg List.length hd
    simp only [List.length_append, List.length_cons] at hlen
    have hdl : dget (encE plsL ln) p = some (.lst (t.mpl.map plD)) := by
      have := leansF_get hC.key p
      rw [ht] at this
      rw [dget_enc, hln, this]
      rfl
    have hcp := compF_map (m := false) (elt := evE (callF T (N - 1)) fn_due_log_L_m_e1) (cond := evE (callF T (N - 1)) fn_due_log_L_m_c1) (v := 8) (ds := [some (.dct (encE ctD C)), some (.dct (encE vlD A)), some (.dct (encE vlD S)), some (.lst (os.map plD)), some (.dct (encE plsL ln)), some (.ref 0), some (plD p), o, none]) (st := [.lst (lg.map lgD)]) plD plD id (fun q => decide (lookV A q ≠ lookV S q)) t.mpl (by simp only [lim]; omega) (fun q _ => by
        have h3 := eqv_vl [.lst (lg.map lgD)] (lookV A q) (lookV S q)
        by_cases k3 : lookV A q = lookV S q
        · have h4 : eqVal [.lst (lg.map lgD)] (vlD (lookV S q)) (vlD (lookV S q)) = some true := by rw [eqv_vl]; simp
          simp (disch := first | assumption | omega | (simp [-List.map_map, -List.map_take, -List.map_drop]; done) | (refine MP.lim_ok ?_; simp [-List.map_map, -List.map_take, -List.map_drop] <;> omega) | (simp [lim, -List.map_map, -List.map_take, -List.map_drop] <;> omega) | fail) [-List.map_map, -List.map_take, -List.map_drop, fn_due_log_L_m_c1, hga, hgs, k3, h4]
        · rw [decide_eq_false k3] at h3
          simp (disch := first | assumption | omega | (simp [-List.map_map, -List.map_take, -List.map_drop]; done) | (refine MP.lim_ok ?_; simp [-List.map_map, -List.map_take, -List.map_drop] <;> omega) | (simp [lim, -List.map_map, -List.map_take, -List.map_drop] <;> omega) | fail) [-List.map_map, -List.map_take, -List.map_drop, fn_due_log_L_m_c1, hga, hgs, h3, k3]) (fun q _ _ => by simp (disch := first | assumption | omega | (simp [-List.map_map, -List.map_take, -List.map_drop]; done) | (refine MP.lim_ok ?_; simp [-List.map_map, -List.map_take, -List.map_drop] <;> omega) | (simp [lim, -List.map_map, -List.map_take, -List.map_drop] <;> omega) | fail) [-List.map_map, -List.map_take, -List.map_drop, fn_due_log_L_m_e1])
    rw [List.map_id] at hcp
    have hll : (lg.map lgD).length < lim := by simp only [List.length_map, lim]; omega
    have hin := in_plsL [.lst (lg.map lgD)] p os
    have hrg0 := eqv_vls [.lst (lg.map lgD)] (lookV A p) ringT
    have hdue : dueF C A S os (done ++ [p]) = lg ++ ((reasonF A S os p t.mpl).map fun q => (p, q)).toList := by
      rw [i1]
      unfold dueF
      rw [List.filterMap_append, List.filterMap_cons, ht]
      simp only
      cases reasonF A S os p t.mpl <;> simp
    have hhead : t.mpl.find? (fun q => decide (lookV A q ≠ lookV S q)) = (t.mpl.filter fun q => decide (lookV A q ≠ lookV S q)).head? := by rw [List.head?_filter]
    obtain ⟨df, hdf⟩ : ∃ df, df = t.mpl.filter fun q => decide (lookV A q ≠ lookV S q) := ⟨_, rfl⟩
    rw [← hdf] at hcp hhead
    have hlk : (done ++ [p]).length = done.length + 1 := by simp
    by_cases k1 : p ∈ os
    · have hr : reasonF A S os p t.mpl = some p := by unfold reasonF; rw [if_pos (.inl k1)]
      rw [hr] at hdue
      rw [decide_eq_true k1] at hin
      refine ⟨(lg ++ [(p, p)], some (.lst (df.map plD))), ?_, by rw [hdue]; rfl, by rw [hlk]; simp; omega⟩
      simp (disch := first | assumption | omega | (simp [-List.map_map, -List.map_take, -List.map_drop]; done) | (refine MP.lim_ok ?_; simp [-List.map_map, -List.map_take, -List.map_drop] <;> omega) | (simp [lim, -List.map_map, -List.map_take, -List.map_drop] <;> omega) | fail) [-List.map_map, -List.map_take, -List.map_drop, fn_due_log_L_m_b1, hdl, hcp, hin, hll, lgD]
    · rw [decide_eq_false k1] at hin
      by_cases k2 : lookV A p = .s ringT
      · have hr : reasonF A S os p t.mpl = some p := by unfold reasonF; rw [if_pos (.inr k2)]
        rw [hr] at hdue
        rw [decide_eq_true k2] at hrg0
        have hrg : eqVal [.lst (lg.map lgD)] (vlD (lookV A p)) (.str [114, 105, 110, 103]) = some true := hrg0
        refine ⟨(lg ++ [(p, p)], some (.lst (df.map plD))), ?_, by rw [hdue]; rfl, by rw [hlk]; simp; omega⟩
        simp (disch := first | assumption | omega | (simp [-List.map_map, -List.map_take, -List.map_drop]; done) | (refine MP.lim_ok ?_; simp [-List.map_map, -List.map_take, -List.map_drop] <;> omega) | (simp [lim, -List.map_map, -List.map_take, -List.map_drop] <;> omega) | fail) [-List.map_map, -List.map_take, -List.map_drop, fn_due_log_L_m_b1, hdl, hcp, hin, hll, lgD, hga, hrg]
      · have hr : reasonF A S os p t.mpl = df.head? := by unfold reasonF; rw [if_neg (by rintro (h | h); exact k1 h; exact k2 h), hhead]
        rw [decide_eq_false k2] at hrg0
        have hrg : eqVal [.lst (lg.map lgD)] (vlD (lookV A p)) (.str [114, 105, 110, 103]) = some false := hrg0
        rw [hr] at hdue
        have hnil := eqv_nilL (st := [.lst (lg.map lgD)]) df
        simp only [plsD] at hnil
        cases df with
        | nil =>
          simp only [List.isEmpty_nil, List.map_nil] at hnil hcp ⊢
          refine ⟨(lg, some (.lst [])), ?_, by rw [hdue]; simp, by rw [hlk]; simp; omega⟩
          simp (disch := first | assumption | omega | (simp [-List.map_map, -List.map_take, -List.map_drop]; done) | (refine MP.lim_ok ?_; simp [-List.map_map, -List.map_take, -List.map_drop] <;> omega) | (simp [lim, -List.map_map, -List.map_take, -List.map_drop] <;> omega) | fail) [-List.map_map, -List.map_take, -List.map_drop, fn_due_log_L_m_b1, hdl, hcp, hin, hga, hrg, hnil]
        | cons d ds =>
          simp only [List.isEmpty_cons, List.map_cons] at hnil hcp ⊢
          refine ⟨(lg ++ [(p, d)], some (.lst (plD d :: ds.map plD))), ?_, by rw [hdue]; rfl, by rw [hlk]; simp; omega⟩
          have h0 : atL (plD d :: ds.map plD) 0 = some (plD d) := by rw [atL_nat _ _ (by omega) (by simp <;> omega)]; rfl
          simp (disch := first | assumption | omega | (simp [-List.map_map, -List.map_take, -List.map_drop]; done) | (refine MP.lim_ok ?_; simp [-List.map_map, -List.map_take, -List.map_drop] <;> omega) | (simp [lim, -List.map_map, -List.map_take, -List.map_drop] <;> omega) | fail) [-List.map_map, -List.map_take, -List.map_drop, fn_due_log_L_m_b1, hdl, hcp, hin, hga, hrg, hnil, hll, h0, lgD]
  simp only at l2
  rw [l2.1] at l1
  simp only [List.map_nil] at l1
  rw [call_at (by omega) rfl]
  simp (disch := first | assumption | omega | (simp [-List.map_map, -List.map_take, -List.map_drop]; done) | (refine MP.lim_ok ?_; simp [-List.map_map, -List.map_take, -List.map_drop] <;> omega) | (simp [lim, -List.map_map, -List.map_take, -List.map_drop] <;> omega) | fail) [-List.map_map, -List.map_take, -List.map_drop, fn_due_log_L_m, h1, h2, l1]

end
end FL
end
section
set_option maxRecDepth 100000
set_option maxHeartbeats 4000000
namespace FL
open MP
/-- _law_log_alike -/
def fn_log_alike_L_t1 : MP.E := .or (.not (.pr (.isi .tuple) [.var 2])) (.or (.not (.pr (.isi .tuple) [.pr .ix [.var 2, .k (.int 0)]])) (.not (.pr (.isi .tuple) [.pr .ix [.var 2, .k (.int 1)]])))
def fn_log_alike_L_b1 : List MP.S := [.ifs fn_log_alike_L_t1 [.ret (.k (.bl false))] []]
def fn_log_alike_L : MP.Fn := ⟨2, 3, [.ifs (.or (.not (.pr (.isi .list) [.var 0])) (.pr (.op .ne) [.var 0, .var 1])) [.ret (.k (.bl false))] [], .for 2 .it [.var 0] fn_log_alike_L_b1, .ret (.k (.bl true))]⟩
section
variable {T : Nat → Option Fn} {N : Nat} [At T 249 fn_log_alike_L]
theorem cmps_lg : ∀ (l : List (Pl × Pl)), cmpDs (l.map lgD) = true
  | [] => rfl
  | e :: l => by rw [List.map_cons, cmps_cons, cmps_lg l]; rfl
theorem deps_lg : ∀ (l : List (Pl × Pl)), deps (l.map lgD) ≤ 2
  | [] => by simp
  | e :: l => by
    have := deps_lg l
    rw [List.map_cons, deps_cons]
    have : dep (lgD e) = 2 := rfl
    omega
theorem alikel_c (l : List (Pl × Pl)) {st : Store} (hN : 1 ≤ N) : frz true (callF T N 249 [.lst (l.map lgD), .lst (l.map lgD)] []) st = .ok (.bl true) st := by
  rw [call_at (by omega) rfl]
  have h1 := fun st => eqv_refl (st := st) (d := .lst (l.map lgD)) (by rw [nr_lst]; exact nrs_lg l) (by rw [cmp_lst]; exact cmps_lg l) (by rw [dep_lst]; have := deps_lg l; omega)
  have L := forB_idle (body := evB (callF T (N - 1)) fn_log_alike_L_b1) (v := 2) lgD (fun v => [some (.lst (l.map lgD)), some (.lst (l.map lgD)), v]) [] l none fun e v he => by
    simp (disch := first | assumption | omega | (simp [-List.map_map, -List.map_take, -List.map_drop]; done) | (refine MP.lim_ok ?_; simp [-List.map_map, -List.map_take, -List.map_drop] <;> omega) | (simp [lim, -List.map_map, -List.map_take, -List.map_drop] <;> omega) | fail) [-List.map_map, -List.map_take, -List.map_drop, fn_log_alike_L_b1, fn_log_alike_L_t1, lgD]
  simp (disch := first | assumption | omega | (simp [-List.map_map, -List.map_take, -List.map_drop]; done) | (refine MP.lim_ok ?_; simp [-List.map_map, -List.map_take, -List.map_drop] <;> omega) | (simp [lim, -List.map_map, -List.map_take, -List.map_drop] <;> omega) | fail) [-List.map_map, -List.map_take, -List.map_drop, fn_log_alike_L, h1, L]

end
end FL
end
section
set_option maxRecDepth 100000
set_option maxHeartbeats 4000000
namespace FL
open MP
/-- first_shown -/
def fn_first_shown_m_b1 : List MP.S := [.ifs (.not (.pr (.isi .tuple) [.pr .ix [.var 0, .var 3]])) [.setix (.var 2) (.var 3) (.pr .ix [.var 0, .var 3])] [.ifs (.pr (.op .isin) [.var 3, .var 1]) [.setix (.var 2) (.var 3) (.k (.str [114, 105, 110, 103]))] []]]
def fn_first_shown_m : MP.Fn := ⟨2, 4, [.set 2 (.pr .dnew []), .for 3 .itv [.var 0] fn_first_shown_m_b1, .ret (.var 2)]⟩
section
variable {T : Nat → Option Fn} {N : Nat} [At T 1240 fn_first_shown_m]
theorem first_c (C : List (Pl × Ct)) (hC : COk C) (nx : List (Pl × Pl)) (hN : 1 ≤ N) : callF T N 1240 [.dct (encE ctD C), .dct (encE plD nx)] [] = .ok (.ref 0) [.dct (encE vlD (firstF C (nx.map (·.1))))] := by
  have hcl := hC.len
  obtain ⟨g, h1, h2⟩ := forB_rel (body := evB (callF T (N - 1)) fn_first_shown_m_b1) (v := 3) (fun e : Pl × Ct => plD e.1) (fun v (g : List (Pl × Vl)) => [some (.dct (encE ctD C)), some (.dct (encE plD nx)), some (.ref 0), v]) (fun g => [.dct (encE vlD g)]) (fun done g => g = done.filterMap (firstC (nx.map (·.1)))) C [] none rfl fun done e rest v g hd hg => by
    have he : e ∈ C := by rw [← hd]; simp
    have hdg : dget (encE ctD C) e.1 = some (ctD e.2) := by rw [dget_enc, tget_of_mem hC.key he]; rfl
    have hnd := hC.key
    unfold keyN at hnd
    rw [← hd, List.map_append, List.nodup_append] at hnd
    have hnew : e.1 ∉ g.map (·.1) := by
      rw [hg]
      intro hm
      obtain ⟨x, hx, e2⟩ := List.mem_map.mp hm
      obtain ⟨q, hq, hx⟩ := List.mem_filterMap.mp hx
      rw [firstC_fst hx] at e2
      exact hnd.2.2 q.1 (List.mem_map.mpr ⟨q, hq, rfl⟩) e.1 (by simp) e2
    have hgl : g.length ≤ 1000 := by
      have h1 := List.length_filterMap_le (firstC (nx.map (·.1))) done
      have h2 := congrArg List.length hd
      simp only [List.length_append, List.length_cons] at h2
      rw [hg]
      omega
    have hll : (encE vlD g).length < lim := by simp only [enc_len, lim]; omega
    have hin := in_enc plD nx e.1 [.dct (encE vlD g)]
    cases hc : e.2 with
    | i n =>
      rw [hc] at hdg
      have hdp := dput_enc vlD g e.1 (.i n)
      rw [tput_new hnew] at hdp
      simp only [vlD_i] at hdp
      refine ⟨g ++ [(e.1, .i n)], by simp (disch := first | assumption | omega | (simp [-List.map_map, -List.map_take, -List.map_drop]; done) | (refine MP.lim_ok ?_; simp [-List.map_map, -List.map_take, -List.map_drop] <;> omega) | (simp [lim, -List.map_map, -List.map_take, -List.map_drop] <;> omega) | fail) [-List.map_map, -List.map_take, -List.map_drop, fn_first_shown_m_b1, hdg, hll, hdp], ?_⟩
      rw [hg, List.filterMap_append]
      simp [firstC, hc]
    | f t =>
      rw [hc] at hdg
      simp only [ctD_f] at hdg
      have hdp := dput_enc vlD g e.1 (.s ringT)
      rw [tput_new hnew] at hdp
      simp only [vlD_s, ringT] at hdp
      by_cases hK : e.1 ∈ nx.map (·.1)
      · rw [decide_eq_true hK] at hin
        refine ⟨g ++ [(e.1, .s ringT)], by simp (disch := first | assumption | omega | (simp [-List.map_map, -List.map_take, -List.map_drop]; done) | (refine MP.lim_ok ?_; simp [-List.map_map, -List.map_take, -List.map_drop] <;> omega) | (simp [lim, -List.map_map, -List.map_take, -List.map_drop] <;> omega) | fail) [-List.map_map, -List.map_take, -List.map_drop, fn_first_shown_m_b1, hdg, hin, hll, hdp, ringT], ?_⟩
        rw [hg, List.filterMap_append]
        simp only [List.filterMap_cons, firstC, hc, hK, if_true, List.filterMap_nil]
      · rw [decide_eq_false hK] at hin
        refine ⟨g, by simp (disch := first | assumption | omega | (simp [-List.map_map, -List.map_take, -List.map_drop]; done) | (refine MP.lim_ok ?_; simp [-List.map_map, -List.map_take, -List.map_drop] <;> omega) | (simp [lim, -List.map_map, -List.map_take, -List.map_drop] <;> omega) | fail) [-List.map_map, -List.map_take, -List.map_drop, fn_first_shown_m_b1, hdg, hin], ?_⟩
        rw [hg, List.filterMap_append]
        simp only [List.filterMap_cons, firstC, hc, hK, if_false, List.filterMap_nil, List.append_nil]
  have hm : (encE ctD C).map (fun e => plD e.1) = C.map fun e => plD e.1 := by simp [encE, List.map_map, Function.comp_def]
  rw [call_at (by omega) rfl]
  rw [h2, enc_nil] at h1
  have e : C.filterMap (firstC (nx.map (·.1))) = firstF C (nx.map (·.1)) := rfl
  rw [e] at h1
  simp (disch := first | assumption | omega | (simp [-List.map_map, -List.map_take, -List.map_drop]; done) | (refine MP.lim_ok ?_; simp [-List.map_map, -List.map_take, -List.map_drop] <;> omega) | (simp [lim, -List.map_map, -List.map_take, -List.map_drop] <;> omega) | fail) [-List.map_map, -List.map_take, -List.map_drop, fn_first_shown_m, hm, h1]

end
end FL
end
section
set_option maxRecDepth 100000
set_option maxHeartbeats 4000000
namespace FL
open MP
/-- reason -/
def fn_reason_b1 : List MP.S := [.ifs (.pr (.op .ne) [.mth .dget (.var 2) [.var 5], .mth .dget (.var 3) [.var 5]]) [.ret (.var 5)] []]
def fn_reason : MP.Fn := ⟨5, 6, [.ifs (.or (.pr (.op .isin) [.var 0, .var 4]) (.pr (.op .eq) [.mth .dget (.var 2) [.var 0], .k (.str [114, 105, 110, 103])])) [.ret (.var 0)] [], .for 5 .it [.var 1] fn_reason_b1, .ret (.k .non)]⟩
section
variable {T : Nat → Option Fn} {N : Nat} [At T 241 fn_reason]
theorem reason_c (A S : List (Pl × Vl)) (os : List Pl) (p : Pl) (ms : List Pl) {nr : Bool} {st : Store} (hN : 1 ≤ N) : frz nr (callF T N 241 [plD p, .lst (ms.map plD), .dct (encE vlD A), .dct (encE vlD S), .lst (os.map plD)] []) st = .ok (plO (reasonF A S os p ms)) st := by
  rw [call_at (by omega) rfl]
  have h1 := fun st => in_plsL st p os
  have h2 := eqv_vls [] (lookV A p) ringT
  have hg := dget_vl A
  have hg2 := dget_vl S
  unfold reasonF
  by_cases k1 : p ∈ os
  · rw [if_pos (.inl k1)]
    simp only [decide_eq_true k1] at h1
    simp (disch := first | assumption | omega | (simp [-List.map_map, -List.map_take, -List.map_drop]; done) | (refine MP.lim_ok ?_; simp [-List.map_map, -List.map_take, -List.map_drop] <;> omega) | (simp [lim, -List.map_map, -List.map_take, -List.map_drop] <;> omega) | fail) [-List.map_map, -List.map_take, -List.map_drop, fn_reason, h1, plO]
  · simp only [decide_eq_false k1] at h1
    by_cases k2 : lookV A p = .s ringT
    · rw [if_pos (.inr k2)]
      rw [decide_eq_true k2] at h2
      simp only [ringT] at h2
      simp (disch := first | assumption | omega | (simp [-List.map_map, -List.map_take, -List.map_drop]; done) | (refine MP.lim_ok ?_; simp [-List.map_map, -List.map_take, -List.map_drop] <;> omega) | (simp [lim, -List.map_map, -List.map_take, -List.map_drop] <;> omega) | fail) [-List.map_map, -List.map_take, -List.map_drop, fn_reason, h1, hg, h2, plO]
    · rw [if_neg (by rintro (h | h); exact k1 h; exact k2 h)]
      rw [decide_eq_false k2] at h2
      simp only [ringT] at h2
      have L := forB_find (body := evB (callF T (N - 1)) fn_reason_b1) (v := 5) plD (fun v => [some (plD p), some (.lst (ms.map plD)), some (.dct (encE vlD A)), some (.dct (encE vlD S)), some (.lst (os.map plD)), v]) [] (fun q => if (decide (lookV A q ≠ lookV S q)) = true then some (plD q) else none) ms none fun q v hq => by
        have h3 := eqv_vl [] (lookV A q) (lookV S q)
        by_cases k3 : lookV A q = lookV S q
        · have h4 : eqVal [] (vlD (lookV S q)) (vlD (lookV S q)) = some true := by rw [eqv_vl]; simp
          simp (disch := first | assumption | omega | (simp [-List.map_map, -List.map_take, -List.map_drop]; done) | (refine MP.lim_ok ?_; simp [-List.map_map, -List.map_take, -List.map_drop] <;> omega) | (simp [lim, -List.map_map, -List.map_take, -List.map_drop] <;> omega) | fail) [-List.map_map, -List.map_take, -List.map_drop, fn_reason_b1, hg, hg2, h4, k3]
        · rw [decide_eq_false k3] at h3
          simp (disch := first | assumption | omega | (simp [-List.map_map, -List.map_take, -List.map_drop]; done) | (refine MP.lim_ok ?_; simp [-List.map_map, -List.map_take, -List.map_drop] <;> omega) | (simp [lim, -List.map_map, -List.map_take, -List.map_drop] <;> omega) | fail) [-List.map_map, -List.map_take, -List.map_drop, fn_reason_b1, hg, hg2, h3, k3]
      rw [findSome_if] at L
      cases hf : ms.find? (fun q => decide (lookV A q ≠ lookV S q)) with
      | none =>
        rw [hf] at L
        simp only [Option.map_none] at L
        simp (disch := first | assumption | omega | (simp [-List.map_map, -List.map_take, -List.map_drop]; done) | (refine MP.lim_ok ?_; simp [-List.map_map, -List.map_take, -List.map_drop] <;> omega) | (simp [lim, -List.map_map, -List.map_take, -List.map_drop] <;> omega) | fail) [-List.map_map, -List.map_take, -List.map_drop, fn_reason, h1, hg, h2, L, plO]
      | some q =>
        rw [hf] at L
        simp only [Option.map_some] at L
        simp (disch := first | assumption | omega | (simp [-List.map_map, -List.map_take, -List.map_drop]; done) | (refine MP.lim_ok ?_; simp [-List.map_map, -List.map_take, -List.map_drop] <;> omega) | (simp [lim, -List.map_map, -List.map_take, -List.map_drop] <;> omega) | fail) [-List.map_map, -List.map_take, -List.map_drop, fn_reason, h1, hg, h2, L, plO]

end
end FL
end
section
set_option maxRecDepth 100000
set_option maxHeartbeats 4000000
namespace FL
open MP
/-- is_trouble -/
def fn_is_trouble : MP.Fn := ⟨1, 1, [.ret (.pr (.op .isin) [.var 0, .pr .tup [.k (.str [103, 111, 110, 101]), .k (.str [110, 111, 117, 103, 104, 116]), .k (.str [103, 114, 101, 97, 116]), .k (.str [114, 105, 110, 103])]])]⟩
section
variable {T : Nat → Option Fn} {N : Nat} [At T 178 fn_is_trouble]
theorem is_trouble_c (v : Vl) (h : v.Ok) {nr : Bool} {st : Store} (hN : 1 ≤ N) : frz nr (callF T N 178 [vlD v] []) st = .ok (.bl (match v with | .s _ => true | _ => false)) st := by
  rw [call_at (by omega) rfl]
  cases v with
  | s t => rcases h with rfl | rfl | rfl | rfl <;> simp (disch := first | assumption | omega | (simp [-List.map_map, -List.map_take, -List.map_drop]; done) | (refine MP.lim_ok ?_; simp [-List.map_map, -List.map_take, -List.map_drop] <;> omega) | (simp [lim, -List.map_map, -List.map_take, -List.map_drop] <;> omega) | fail) [-List.map_map, -List.map_take, -List.map_drop, fn_is_trouble, in_tup]
  | _ => simp (disch := first | assumption | omega | (simp [-List.map_map, -List.map_take, -List.map_drop]; done) | (refine MP.lim_ok ?_; simp [-List.map_map, -List.map_take, -List.map_drop] <;> omega) | (simp [lim, -List.map_map, -List.map_take, -List.map_drop] <;> omega) | fail) [-List.map_map, -List.map_take, -List.map_drop, fn_is_trouble, in_tup]

end
end FL
end
section
set_option maxRecDepth 100000
set_option maxHeartbeats 4000000
namespace FL
open MP
/-- bounded -/
def fn_bounded : MP.Fn := ⟨1, 1, [.ifs (.or (.pr (.op .gt) [.var 0, .glob "MOST" (.int 1000000000000000000000000000000)]) (.pr (.op .lt) [.var 0, .pr (.op .sub) [.k (.int 0), .glob "MOST" (.int 1000000000000000000000000000000)]])) [.ret (.k (.str [103, 114, 101, 97, 116]))] [], .ret (.var 0)]⟩
section
variable {T : Nat → Option Fn} {N : Nat} [At T 181 fn_bounded]
theorem bounded_c (x : Int) {nr : Bool} {st : Store} (hN : 1 ≤ N) : frz nr (callF T N 181 [.int x] []) st = .ok (vlD (bigV x)) st := by
  rw [call_at (by omega) rfl]
  unfold bigV
  by_cases h1 : 1000000000000000000000000000000 < x
  · simp (disch := first | assumption | omega | (simp [-List.map_map, -List.map_take, -List.map_drop]; done) | (refine MP.lim_ok ?_; simp [-List.map_map, -List.map_take, -List.map_drop] <;> omega) | (simp [lim, -List.map_map, -List.map_take, -List.map_drop] <;> omega) | fail) [-List.map_map, -List.map_take, -List.map_drop, fn_bounded, h1]
  · by_cases h2 : x < -1000000000000000000000000000000 <;> simp (disch := first | assumption | omega | (simp [-List.map_map, -List.map_take, -List.map_drop]; done) | (refine MP.lim_ok ?_; simp [-List.map_map, -List.map_take, -List.map_drop] <;> omega) | (simp [lim, -List.map_map, -List.map_take, -List.map_drop] <;> omega) | fail) [-List.map_map, -List.map_take, -List.map_drop, fn_bounded, h1, h2]

end
end FL
end
section
set_option maxRecDepth 100000
set_option maxHeartbeats 4000000
namespace FL
open MP
/-- gathered -/
def fn_gathered_b1 : List MP.S := [.ifs (.call 178 false [.var 3]) [.ret (.var 3)] [], .ifs (.pr .notn [.var 3]) [.expr (.mth .append (.var 2) [.var 3])] []]
def fn_gathered : MP.Fn := ⟨2, 4, [.set 2 (.pr (.lst true) []), .for 3 .it [.var 1] fn_gathered_b1, .ifs (.pr (.op .eq) [.var 0, .k (.str [83, 85, 77])]) [.ret (.call 181 false [.pr .sum [.var 2]])] [], .ifs (.pr (.op .eq) [.var 0, .k (.str [67, 79, 85, 78, 84])]) [.ret (.pr .len [.var 2])] [], .ret (.pr .maxD [.var 2])]⟩
section
variable {T : Nat → Option Fn} {N : Nat} [At T 178 fn_is_trouble] [At T 181 fn_bounded] [At T 191 fn_gathered]
def gStep (g : List Int) : Vl → List Int ⊕ D
  | .n => .inl g
  | .i x => .inl (g ++ [x])
  | .s t => .inr (.str t)
theorem gFold : ∀ (vs : List Vl) (g : List Int), foldE gStep vs g = match firstS vs with
    | some t => .inr (.str t, (foldE gStep vs g).elim id (·.2))
    | none => .inl (g ++ nums vs)
  | [], g => by simp [foldE, firstS, nums]
  | .n :: vs, g => by simp only [foldE, gStep, firstS, nums]; exact gFold vs g
  | .i x :: vs, g => by simp only [foldE, gStep, firstS, nums]; rw [gFold vs (g ++ [x])]; cases firstS vs <;> simp
  | .s t :: vs, g => by simp [foldE, gStep, firstS]
theorem gathered_loop (w vl : D) (vs : List Vl) (hv : ∀ v ∈ vs, v.Ok) (hl : vs.length ≤ 1000000) (hN : 1 ≤ N) :
    match firstS vs with
    | some t => ∃ S, forB (evB (callF T N) fn_gathered_b1) 3 (vs.map vlD) [some w, some vl, some (.ref 0), none] [.lst []] = .rt (.str t) S
    | none => ∃ y, forB (evB (callF T N) fn_gathered_b1) 3 (vs.map vlD) [some w, some vl, some (.ref 0), none] [.lst []] = .nx [some w, some vl, some (.ref 0), y] [.lst ((nums vs).map .int)] := by
  have h := forB_foldE (body := evB (callF T N) fn_gathered_b1) (v := 3) vlD (fun y (g : List Int) => [some w, some vl, some (.ref 0), y]) (fun g => [.lst (g.map .int)]) gStep (fun done g => g.length ≤ done.length) vs [] none (by simp) fun done x rest y g hd hg => by
    have hlen := congrArg List.length hd
    simp only [List.length_append, List.length_cons] at hlen
    have t1 := fun nr st => is_trouble_c (T := T) (N := N) (nr := nr) (st := st) x (hv x (by rw [← hd]; simp)) (by omega)
    cases x with
    | n =>
      simp only [vlD_n] at t1
      exact ⟨by simp (disch := first | assumption | omega | (simp [-List.map_map, -List.map_take, -List.map_drop]; done) | (refine MP.lim_ok ?_; simp [-List.map_map, -List.map_take, -List.map_drop] <;> omega) | (simp [lim, -List.map_map, -List.map_take, -List.map_drop] <;> omega) | fail) [-List.map_map, -List.map_take, -List.map_drop, fn_gathered_b1, t1], by rw [List.length_append, List.length_singleton]; omega⟩
    | i x =>
      simp only [vlD_i] at t1
      exact ⟨by simp (disch := first | assumption | omega | (simp [-List.map_map, -List.map_take, -List.map_drop]; done) | (refine MP.lim_ok ?_; simp [-List.map_map, -List.map_take, -List.map_drop] <;> omega) | (simp [lim, -List.map_map, -List.map_take, -List.map_drop] <;> omega) | fail) [-List.map_map, -List.map_take, -List.map_drop, fn_gathered_b1, t1], by rw [List.length_append, List.length_append, List.length_singleton, List.length_singleton]; omega⟩
    | s t =>
      simp only [vlD_s] at t1
      show _ = _
      simp (disch := first | assumption | omega | (simp [-List.map_map, -List.map_take, -List.map_drop]; done) | (refine MP.lim_ok ?_; simp [-List.map_map, -List.map_take, -List.map_drop] <;> omega) | (simp [lim, -List.map_map, -List.map_take, -List.map_drop] <;> omega) | fail) [-List.map_map, -List.map_take, -List.map_drop, fn_gathered_b1, t1]
  rw [gFold] at h
  cases hf : firstS vs with
  | some t => rw [hf] at h; exact ⟨_, h⟩
  | none => rw [hf] at h; exact ⟨_, h.1⟩
theorem gathered_c (w : Tx) (vs : List Vl) (hw : okW w) (hv : ∀ v ∈ vs, v.Ok) (hl : vs.length ≤ 1000000) {nr : Bool} {st : Store} (hN : 2 ≤ N) : frz nr (callF T N 191 [.str w, .lst (vs.map vlD)] []) st = .ok (vlD (gatherV w vs)) st := by
  rw [call_at (by omega) rfl]
  have L := gathered_loop (T := T) (N := N - 1) (.str w) (.lst (vs.map vlD)) vs hv hl (by omega)
  unfold gatherV
  cases hf : firstS vs with
  | some t =>
    rw [hf] at L
    obtain ⟨S, e⟩ := L
    simp (disch := first | assumption | omega | (simp [-List.map_map, -List.map_take, -List.map_drop]; done) | (refine MP.lim_ok ?_; simp [-List.map_map, -List.map_take, -List.map_drop] <;> omega) | (simp [lim, -List.map_map, -List.map_take, -List.map_drop] <;> omega) | fail) [-List.map_map, -List.map_take, -List.map_drop, fn_gathered, e]
  | none =>
    rw [hf] at L
    obtain ⟨y, e⟩ := L
    have hm := p_maxD_lst (nums vs)
    have hmr : ∀ st : Store, st[0]? = some (.lst ((nums vs).map .int)) → prim1F .maxD (.ref 0) st = .ok (.int (maxI (nums vs))) st := fun st h => by
      rw [← hm st]
      simp only [prim1F, lstOf_ref, h, lstC_l, lstOf_lst]
    rcases hw with rfl | rfl | rfl
    · simp (disch := first | assumption | omega | (simp [-List.map_map, -List.map_take, -List.map_drop]; done) | (refine MP.lim_ok ?_; simp [-List.map_map, -List.map_take, -List.map_drop] <;> omega) | (simp [lim, -List.map_map, -List.map_take, -List.map_drop] <;> omega) | fail) [-List.map_map, -List.map_take, -List.map_drop, fn_gathered, e, bounded_c]
    · simp (disch := first | assumption | omega | (simp [-List.map_map, -List.map_take, -List.map_drop]; done) | (refine MP.lim_ok ?_; simp [-List.map_map, -List.map_take, -List.map_drop] <;> omega) | (simp [lim, -List.map_map, -List.map_take, -List.map_drop] <;> omega) | fail) [-List.map_map, -List.map_take, -List.map_drop, fn_gathered, e]
    · simp (disch := first | assumption | omega | (simp [-List.map_map, -List.map_take, -List.map_drop]; done) | (refine MP.lim_ok ?_; simp [-List.map_map, -List.map_take, -List.map_drop] <;> omega) | (simp [lim, -List.map_map, -List.map_take, -List.map_drop] <;> omega) | fail) [-List.map_map, -List.map_take, -List.map_drop, fn_gathered, e, hmr]

end
end FL
end
section
set_option maxRecDepth 100000
set_option maxHeartbeats 4000000
namespace FL
open MP
/-- divided -/
def fn_divided : MP.Fn := ⟨2, 2, [.ifs (.pr (.op .eq) [.var 1, .k (.int 0)]) [.ret (.k (.str [110, 111, 117, 103, 104, 116]))] [], .ret (.pr (.op .fdiv) [.var 0, .var 1])]⟩
section
variable {T : Nat → Option Fn} {N : Nat} [At T 185 fn_divided]
theorem op_div (a b : Int) (h : b ≠ 0) (hb : small b) (st : Store) : opF .fdiv (.int a) (.int b) st = .ok (.int (a.fdiv b)) st :=
  op_fdivN st a b h (by unfold small at hb; exact Nat.lt_trans (show b.natAbs < 10000000000000000000000000000000 by omega) (by decide))
theorem divided_c (a b : Int) (hb : small b) {nr : Bool} {st : Store} (hN : 1 ≤ N) : frz nr (callF T N 185 [.int a, .int b] []) st = .ok (vlD (divV a b)) st := by
  rw [call_at (by omega) rfl]
  unfold divV
  by_cases h : b = 0
  · simp (disch := first | assumption | omega | (simp [-List.map_map, -List.map_take, -List.map_drop]; done) | (refine MP.lim_ok ?_; simp [-List.map_map, -List.map_take, -List.map_drop] <;> omega) | (simp [lim, -List.map_map, -List.map_take, -List.map_drop] <;> omega) | fail) [-List.map_map, -List.map_take, -List.map_drop, fn_divided, h]
  · simp (disch := first | assumption | omega | (simp [-List.map_map, -List.map_take, -List.map_drop]; done) | (refine MP.lim_ok ?_; simp [-List.map_map, -List.map_take, -List.map_drop] <;> omega) | (simp [lim, -List.map_map, -List.map_take, -List.map_drop] <;> omega) | fail) [-List.map_map, -List.map_take, -List.map_drop, fn_divided, h, -op_fdiv, op_div a b h hb]

end
end FL
end
section
set_option maxRecDepth 100000
set_option maxHeartbeats 4000000
namespace FL
open MP
/-- put_together -/
def fn_put_together : MP.Fn := ⟨3, 3, [.ifs (.call 178 false [.var 1]) [.ret (.var 1)] [], .ifs (.call 178 false [.var 2]) [.ret (.var 2)] [], .ifs (.pr (.op .eq) [.var 0, .k (.str [43])]) [.ret (.call 181 false [.pr (.op (.add false)) [.var 1, .var 2]])] [], .ifs (.pr (.op .eq) [.var 0, .k (.str [45])]) [.ret (.call 181 false [.pr (.op .sub) [.var 1, .var 2]])] [], .ifs (.pr (.op .eq) [.var 0, .k (.str [42])]) [.ret (.call 181 false [.pr (.op .mul) [.var 1, .var 2]])] [], .ifs (.pr (.op .eq) [.var 0, .k (.str [47])]) [.ret (.call 185 false [.var 1, .var 2])] [], .ifs (.pr (.op .eq) [.var 0, .k (.str [60])]) [.ret (.pr .int1 [.pr (.op .lt) [.var 1, .var 2]])] [], .ret (.pr .int1 [.pr (.op .eq) [.var 1, .var 2]])]⟩
section
variable {T : Nat → Option Fn} {N : Nat} [At T 178 fn_is_trouble] [At T 181 fn_bounded] [At T 185 fn_divided] [At T 186 fn_put_together]
theorem mul_small (a b : Int) (ha : small a) (hb : small b) (st : Store) : opF .mul (.int a) (.int b) st = .ok (.int (a * b)) st :=
  op_mulB st a b (Nat.lt_trans (show a.natAbs < 10000000000000000000000000000000 by unfold small at ha; omega) (by decide)) (Nat.lt_trans (show b.natAbs < 10000000000000000000000000000000 by unfold small at hb; omega) (by decide))
theorem put_together_c (s : Tx) (v w : Vl) (hs : okS s) (hv : v.Ok2) (hw : w.Ok2) {nr : Bool} {st : Store} (hN : 2 ≤ N) : frz nr (callF T N 186 [.str s, vlD v, vlD w] []) st = .ok (vlD (putV s v w)) st := by
  rw [call_at (by omega) rfl]
  have t1 := fun nr st => is_trouble_c (T := T) (N := N - 1) (nr := nr) (st := st) v hv.ok (by omega)
  have t2 := fun nr st => is_trouble_c (T := T) (N := N - 1) (nr := nr) (st := st) w hw.ok (by omega)
  cases v with
  | n => exact hv.elim
  | s t => simp only [vlD_s] at t1; simp (disch := first | assumption | omega | (simp [-List.map_map, -List.map_take, -List.map_drop]; done) | (refine MP.lim_ok ?_; simp [-List.map_map, -List.map_take, -List.map_drop] <;> omega) | (simp [lim, -List.map_map, -List.map_take, -List.map_drop] <;> omega) | fail) [-List.map_map, -List.map_take, -List.map_drop, fn_put_together, t1, putV]
  | i a => cases w with
    | n => exact hw.elim
    | s t => simp only [vlD_s, vlD_i] at t1 t2; simp (disch := first | assumption | omega | (simp [-List.map_map, -List.map_take, -List.map_drop]; done) | (refine MP.lim_ok ?_; simp [-List.map_map, -List.map_take, -List.map_drop] <;> omega) | (simp [lim, -List.map_map, -List.map_take, -List.map_drop] <;> omega) | fail) [-List.map_map, -List.map_take, -List.map_drop, fn_put_together, t1, t2, putV]
    | i b =>
      have hm := mul_small a b hv hw
      have hd := fun nr st => divided_c (T := T) (N := N - 1) (nr := nr) (st := st) a b hw (by omega)
      simp only [vlD_i] at t1 t2
      rcases hs with rfl | rfl | rfl | rfl | rfl | rfl <;> simp (disch := first | assumption | omega | (simp [-List.map_map, -List.map_take, -List.map_drop]; done) | (refine MP.lim_ok ?_; simp [-List.map_map, -List.map_take, -List.map_drop] <;> omega) | (simp [lim, -List.map_map, -List.map_take, -List.map_drop] <;> omega) | fail) [-List.map_map, -List.map_take, -List.map_drop, fn_put_together, t1, t2, putV, arith, bounded_c, -op_mul, hm, hd]

end
end FL
end
section
set_option maxRecDepth 100000
set_option maxHeartbeats 4000000
namespace FL
open MP
/-- picked -/
def fn_picked : MP.Fn := ⟨2, 3, [.set 2 (.call 198 false [.pr .ix [.var 0, .k (.int 1)], .var 1]), .ifs (.call 178 false [.var 2]) [.ret (.var 2)] [], .ifs (.pr (.op .eq) [.var 2, .k (.int 0)]) [.ret (.call 198 false [.pr .ix [.var 0, .k (.int 3)], .var 1])] [], .ret (.call 198 false [.pr .ix [.var 0, .k (.int 2)], .var 1])]⟩
/-- seen -/
def fn_seen_e1 : MP.E := .mth .dget (.var 1) [.var 2]
def fn_seen : MP.Fn := ⟨2, 3, [.ifs (.pr (.op .eq) [.pr .ix [.var 0, .k (.int 0)], .k (.str [97, 114, 101, 97])]) [.ret (.comp false 2 fn_seen_e1 .it [.call 20 false [.pr .ix [.pr .ix [.var 0, .k (.int 1)], .k (.int 1)], .pr .ix [.pr .ix [.var 0, .k (.int 2)], .k (.int 1)]]] (.k (.bl true)))] [], .ifs (.pr (.op .eq) [.pr .ix [.var 0, .k (.int 0)], .k (.str [114, 101, 102])]) [.ret (.pr (.lst false) [.mth .dget (.var 1) [.pr .ix [.var 0, .k (.int 1)]]])] [], .ret (.pr (.lst false) [.call 198 false [.var 0, .var 1]])]⟩
/-- reckoned -/
def fn_reckoned_b1 : List MP.S := [.set 3 (.pr (.op (.add false)) [.var 3, .call 197 false [.var 4, .var 1]])]
def fn_reckoned : MP.Fn := ⟨2, 5, [.ifs (.pr (.op .eq) [.pr .ix [.var 0, .k (.int 0)], .k (.str [110, 117, 109])]) [.ret (.pr .ix [.var 0, .k (.int 1)])] [], .ifs (.pr (.op .eq) [.pr .ix [.var 0, .k (.int 0)], .k (.str [103, 111, 110, 101])]) [.ret (.k (.str [103, 111, 110, 101]))] [], .ifs (.pr (.op .eq) [.pr .ix [.var 0, .k (.int 0)], .k (.str [114, 101, 102])]) [.set 2 (.mth .dget (.var 1) [.pr .ix [.var 0, .k (.int 1)]]), .ifs (.pr .isn [.var 2]) [.ret (.k (.int 0))] [], .ret (.var 2)] [], .ifs (.pr (.op .eq) [.pr .ix [.var 0, .k (.int 0)], .k (.str [109, 105, 110, 117, 115])]) [.ret (.call 186 false [.k (.str [45]), .k (.int 0), .call 198 false [.pr .ix [.var 0, .k (.int 1)], .var 1]])] [], .ifs (.pr (.op .eq) [.pr .ix [.var 0, .k (.int 0)], .k (.str [116, 119, 111])]) [.ret (.call 186 false [.pr .ix [.var 0, .k (.int 1)], .call 198 false [.pr .ix [.var 0, .k (.int 2)], .var 1], .call 198 false [.pr .ix [.var 0, .k (.int 3)], .var 1]])] [], .ifs (.pr (.op .eq) [.pr .ix [.var 0, .k (.int 0)], .k (.str [112, 105, 99, 107])]) [.ret (.call 196 false [.var 0, .var 1])] [], .set 3 (.pr (.lst false) []), .for 4 .it [.pr .ix [.var 0, .k (.int 2)]] fn_reckoned_b1, .ret (.call 191 false [.pr .ix [.var 0, .k (.int 1)], .var 3])]⟩
section
variable {T : Nat → Option Fn} {N : Nat} [At T 20 fn_between] [At T 178 fn_is_trouble] [At T 181 fn_bounded] [At T 185 fn_divided] [At T 186 fn_put_together] [At T 191 fn_gathered] [At T 196 fn_picked] [At T 197 fn_seen] [At T 198 fn_reckoned]
theorem seen_step {es : List (Pl × D)} {L : Pl → Vl} (hE : ∀ p, (dget es p).getD .non = vlD (L p)) (hn : noRefE es = true) {R C : Int} (hR : R ≤ 99) (hC : C ≤ 26) (k : Tr) (hk : okA R C k ∨ k.Ok R C) (M : Nat) (hM : 2 ≤ M)
    (hr : k.Ok R C → ∀ st nr, frz nr (callF T (M - 1) 198 [trD k, .dct es] []) st = .ok (vlD (k.val L)) st) (st : Store) : frz true (callF T M 197 [trD k, .dct es] []) st = .ok (.lst ((seenV L k (k.val L)).map vlD)) st := by
  rw [call_at (by omega) rfl]
  cases k with
  | area p f q g =>
    have hk' : okA R C (.area p f q g) := by
      rcases hk with h | h
      · exact h
      · exact h.elim
    obtain ⟨h1, h2, _⟩ := hk'
    have hb := between_c (T := T) (N := M - 1) (st := []) p q (okB_in (h1.mono hR hC) (h2.mono hR hC)) (by omega)
    have hl := betw_small (h1.mono hR hC) (h2.mono hR hC)
    have hc := compF_all (m := false) (elt := evE (callF T (M - 1)) fn_seen_e1) (cl := callF T (M - 1)) (v := 2) (ds := [some (trD (.area p f q g)), some (.dct es), none]) (st := []) plD vlD L (betw p q) (by simp only [lim]; omega) fun x _ => by simp (disch := first | assumption | omega | (simp [-List.map_map, -List.map_take, -List.map_drop]; done) | (refine MP.lim_ok ?_; simp [-List.map_map, -List.map_take, -List.map_drop] <;> omega) | (simp [lim, -List.map_map, -List.map_take, -List.map_drop] <;> omega) | fail) [-List.map_map, -List.map_take, -List.map_drop, fn_seen_e1, hE]
    simp (disch := first | assumption | omega | (simp [-List.map_map, -List.map_take, -List.map_drop]; done) | (refine MP.lim_ok ?_; simp [-List.map_map, -List.map_take, -List.map_drop] <;> omega) | (simp [lim, -List.map_map, -List.map_take, -List.map_drop] <;> omega) | fail) [-List.map_map, -List.map_take, -List.map_drop, ] at hc
    simp (disch := first | assumption | omega | (simp [-List.map_map, -List.map_take, -List.map_drop]; done) | (refine MP.lim_ok ?_; simp [-List.map_map, -List.map_take, -List.map_drop] <;> omega) | (simp [lim, -List.map_map, -List.map_take, -List.map_drop] <;> omega) | fail) [-List.map_map, -List.map_take, -List.map_drop, fn_seen, hb, hc, hn, seenV]
  | ref p f => simp (disch := first | assumption | omega | (simp [-List.map_map, -List.map_take, -List.map_drop]; done) | (refine MP.lim_ok ?_; simp [-List.map_map, -List.map_take, -List.map_drop] <;> omega) | (simp [lim, -List.map_map, -List.map_take, -List.map_drop] <;> omega) | fail) [-List.map_map, -List.map_take, -List.map_drop, fn_seen, hE, hn, seenV]
  | _ =>
    have hr' := fun st nr => hr (hk.resolve_left (by simp [okA])) st nr
    simp (disch := first | assumption | omega | (simp [-List.map_map, -List.map_take, -List.map_drop]; done) | (refine MP.lim_ok ?_; simp [-List.map_map, -List.map_take, -List.map_drop] <;> omega) | (simp [lim, -List.map_map, -List.map_take, -List.map_drop] <;> omega) | fail) [-List.map_map, -List.map_take, -List.map_drop, fn_seen, seenV, hn] at hr' ⊢
    simp (disch := first | assumption | omega | (simp [-List.map_map, -List.map_take, -List.map_drop]; done) | (refine MP.lim_ok ?_; simp [-List.map_map, -List.map_take, -List.map_drop] <;> omega) | (simp [lim, -List.map_map, -List.map_take, -List.map_drop] <;> omega) | fail) [-List.map_map, -List.map_take, -List.map_drop, hr']
theorem picked_step {es : List (Pl × D)} {L : Pl → Vl} (hn : noRefE es = true) (a b c : Tr) (M : Nat) (hM : 2 ≤ M) (h2 : (a.val L).Ok2)
    (ha : ∀ st nr, frz nr (callF T (M - 1) 198 [trD a, .dct es] []) st = .ok (vlD (a.val L)) st) (hb : ∀ st nr, frz nr (callF T (M - 1) 198 [trD b, .dct es] []) st = .ok (vlD (b.val L)) st)
    (hc : ∀ st nr, frz nr (callF T (M - 1) 198 [trD c, .dct es] []) st = .ok (vlD (c.val L)) st) (st : Store) (nr : Bool) : frz nr (callF T M 196 [trD (.pick a b c), .dct es] []) st = .ok (vlD (pickV (a.val L) (b.val L) (c.val L))) st := by
  rw [call_at (by omega) rfl]
  have t1 := fun nr st => is_trouble_c (T := T) (N := M - 1) (nr := nr) (st := st) (a.val L) h2.ok (by omega)
  generalize a.val L = v at *
  cases v with
  | n => exact h2.elim
  | s t => simp only [vlD_s] at t1 ha; simp (disch := first | assumption | omega | (simp [-List.map_map, -List.map_take, -List.map_drop]; done) | (refine MP.lim_ok ?_; simp [-List.map_map, -List.map_take, -List.map_drop] <;> omega) | (simp [lim, -List.map_map, -List.map_take, -List.map_drop] <;> omega) | fail) [-List.map_map, -List.map_take, -List.map_drop, fn_picked, ha, t1, hn, pickV]
  | i x =>
    simp only [vlD_i] at t1 ha
    by_cases h0 : x = 0
    · subst h0; simp (disch := first | assumption | omega | (simp [-List.map_map, -List.map_take, -List.map_drop]; done) | (refine MP.lim_ok ?_; simp [-List.map_map, -List.map_take, -List.map_drop] <;> omega) | (simp [lim, -List.map_map, -List.map_take, -List.map_drop] <;> omega) | fail) [-List.map_map, -List.map_take, -List.map_drop, fn_picked, ha, hb, hc, t1, hn, pickV]
    · simp (disch := first | assumption | omega | (simp [-List.map_map, -List.map_take, -List.map_drop]; done) | (refine MP.lim_ok ?_; simp [-List.map_map, -List.map_take, -List.map_drop] <;> omega) | (simp [lim, -List.map_map, -List.map_take, -List.map_drop] <;> omega) | fail) [-List.map_map, -List.map_take, -List.map_drop, fn_picked, ha, hb, hc, t1, hn, pickV, h0]
theorem reck_loop (cl : Cl) (es : List (Pl × D)) (L : Pl → Vl) (hn : noRefE es = true) (x : D) (y : Option D) {R C : Int} (hR : R ≤ 99) (hC : C ≤ 26) (ps : List Tr) (hok : ∀ k ∈ ps, okA R C k ∨ k.Ok R C) (hl : ps.length ≤ 8)
    (hs : ∀ k ∈ ps, ∀ st, frz true (cl 197 [trD k, .dct es] []) st = .ok (.lst ((seenV L k (k.val L)).map vlD)) st) :
    ∃ z, forB (evB cl fn_reckoned_b1) 4 (ps.map trD) [some x, some (.dct es), y, some (.lst []), none] [] = .nx [some x, some (.dct es), y, some (.lst ((Tr.vals L ps).map vlD)), z] [] := by
  have h := forB_fold (body := evB cl fn_reckoned_b1) (v := 4) trD (fun z (g : List Vl) => [some x, some (.dct es), y, some (.lst (g.map vlD)), z]) (fun _ => []) (fun g k => g ++ seenV L k (k.val L)) (fun done g => g.length ≤ done.length * 2574) ps [] none (by simp) fun done k rest z g hd hg => by
    have hlen := congrArg List.length hd
    simp only [List.length_append, List.length_cons] at hlen
    have hk : k ∈ ps := by rw [← hd]; simp
    have e := hs k hk
    have hsl := seen_len (L := L) hR hC (k.val L) (hok k hk)
    refine ⟨by simp (disch := first | assumption | omega | (simp [-List.map_map, -List.map_take, -List.map_drop]; done) | (refine MP.lim_ok ?_; simp [-List.map_map, -List.map_take, -List.map_drop] <;> omega) | (simp [lim, -List.map_map, -List.map_take, -List.map_drop] <;> omega) | fail) [-List.map_map, -List.map_take, -List.map_drop, fn_reckoned_b1, e, hn], ?_⟩
    rw [List.length_append, List.length_append, List.length_singleton, Nat.add_mul]
    omega
  have e : ∀ (ps : List Tr), ps.flatMap (fun k => seenV L k (k.val L)) = Tr.vals L ps := by
    intro ps
    induction ps with
    | nil => rfl
    | cons k ks ih => rw [List.flatMap_cons, ih, Tr.vals]
  rw [foldl_apps, e] at h
  exact ⟨_, h.1⟩
theorem reck_all {es : List (Pl × D)} {L : Pl → Vl} (hE : ∀ p, (dget es p).getD .non = vlD (L p)) (hn : noRefE es = true) (hL : ∀ p, (L p).Ok) {R C : Int} (hR : R ≤ 99) (hC : C ≤ 26) :
    ∀ (d : Nat) (t : Tr) (N : Nat), Sm d t → t.Ok R C → 2 * d + 4 ≤ N → ∀ (st : Store) (nr : Bool), frz nr (callF T N 198 [trD t, .dct es] []) st = .ok (vlD (t.val L)) st
  | d + 1, t, N, h, ho, hN, st, nr => by
    have ih := fun k (hk : k ∈ t.kids) (hok : k.Ok R C) (M : Nat) (hM : 2 * d + 4 ≤ M) => reck_all hE hn hL hR hC d k M (h.2 k hk) hok hM
    have hv := val_ok hR hC hL t ho
    rw [call_at (by omega) rfl]
    cases t with
    | num n => simp (disch := first | assumption | omega | (simp [-List.map_map, -List.map_take, -List.map_drop]; done) | (refine MP.lim_ok ?_; simp [-List.map_map, -List.map_take, -List.map_drop] <;> omega) | (simp [lim, -List.map_map, -List.map_take, -List.map_drop] <;> omega) | fail) [-List.map_map, -List.map_take, -List.map_drop, fn_reckoned, Tr.val]
    | gone => simp (disch := first | assumption | omega | (simp [-List.map_map, -List.map_take, -List.map_drop]; done) | (refine MP.lim_ok ?_; simp [-List.map_map, -List.map_take, -List.map_drop] <;> omega) | (simp [lim, -List.map_map, -List.map_take, -List.map_drop] <;> omega) | fail) [-List.map_map, -List.map_take, -List.map_drop, fn_reckoned, Tr.val]
    | ref p f =>
      have := hE p
      cases hp : L p with
      | n => rw [hp] at this; simp (disch := first | assumption | omega | (simp [-List.map_map, -List.map_take, -List.map_drop]; done) | (refine MP.lim_ok ?_; simp [-List.map_map, -List.map_take, -List.map_drop] <;> omega) | (simp [lim, -List.map_map, -List.map_take, -List.map_drop] <;> omega) | fail) [-List.map_map, -List.map_take, -List.map_drop, fn_reckoned, Tr.val, this, hp, zeroN]
      | i x => rw [hp] at this; simp (disch := first | assumption | omega | (simp [-List.map_map, -List.map_take, -List.map_drop]; done) | (refine MP.lim_ok ?_; simp [-List.map_map, -List.map_take, -List.map_drop] <;> omega) | (simp [lim, -List.map_map, -List.map_take, -List.map_drop] <;> omega) | fail) [-List.map_map, -List.map_take, -List.map_drop, fn_reckoned, Tr.val, this, hp, zeroN]
      | s t => rw [hp] at this; simp (disch := first | assumption | omega | (simp [-List.map_map, -List.map_take, -List.map_drop]; done) | (refine MP.lim_ok ?_; simp [-List.map_map, -List.map_take, -List.map_drop] <;> omega) | (simp [lim, -List.map_map, -List.map_take, -List.map_drop] <;> omega) | fail) [-List.map_map, -List.map_take, -List.map_drop, fn_reckoned, Tr.val, this, hp, zeroN]
    | minus a =>
      have ia := ih a (by simp) ho (N - 1) (by omega)
      have ha := val_ok hR hC hL a ho
      have hp := fun nr st => put_together_c (T := T) (N := N - 1) (nr := nr) (st := st) [45] (.i 0) (a.val L) (.inr (.inl rfl)) ⟨by decide, by decide⟩ ha (by omega)
      simp only [vlD_i] at hp
      simp (disch := first | assumption | omega | (simp [-List.map_map, -List.map_take, -List.map_drop]; done) | (refine MP.lim_ok ?_; simp [-List.map_map, -List.map_take, -List.map_drop] <;> omega) | (simp [lim, -List.map_map, -List.map_take, -List.map_drop] <;> omega) | fail) [-List.map_map, -List.map_take, -List.map_drop, fn_reckoned, Tr.val, ia, hp, hn]
    | two s a b =>
      have ia := ih a (by simp) ho.2.1 (N - 1) (by omega)
      have ib := ih b (by simp) ho.2.2 (N - 1) (by omega)
      have ha := val_ok hR hC hL a ho.2.1
      have hb := val_ok hR hC hL b ho.2.2
      have hp := fun nr st => put_together_c (T := T) (N := N - 1) (nr := nr) (st := st) s (a.val L) (b.val L) ho.1 ha hb (by omega)
      simp (disch := first | assumption | omega | (simp [-List.map_map, -List.map_take, -List.map_drop]; done) | (refine MP.lim_ok ?_; simp [-List.map_map, -List.map_take, -List.map_drop] <;> omega) | (simp [lim, -List.map_map, -List.map_take, -List.map_drop] <;> omega) | fail) [-List.map_map, -List.map_take, -List.map_drop, fn_reckoned, Tr.val, ia, ib, hp, hn]
    | pick a b c =>
      have hp := picked_step (T := T) (L := L) hn a b c (N - 1) (by omega) (val_ok hR hC hL a ho.1) (ih a (by simp) ho.1 _ (by omega)) (ih b (by simp) ho.2.1 _ (by omega)) (ih c (by simp) ho.2.2 _ (by omega))
      rw [trD_pick] at hp
      simp (disch := first | assumption | omega | (simp [-List.map_map, -List.map_take, -List.map_drop]; done) | (refine MP.lim_ok ?_; simp [-List.map_map, -List.map_take, -List.map_drop] <;> omega) | (simp [lim, -List.map_map, -List.map_take, -List.map_drop] <;> omega) | fail) [-List.map_map, -List.map_take, -List.map_drop, fn_reckoned, Tr.val, hp, hn]
    | over w ps =>
      have ho' := ok_over.mp ho
      obtain ⟨z, hl⟩ := reck_loop (callF T (N - 1)) es L hn (trD (.over w ps)) none hR hC ps ho'.2 (by omega) fun k hk st =>
        seen_step hE hn hR hC k (ho'.2 k hk) (N - 1) (by omega) (fun hok => ih k (by simpa using hk) hok (N - 1 - 1) (by omega)) st
      have hvl := vals_len (L := L) hR hC ps ho'.2
      have hvl2 : (Tr.vals L ps).length ≤ 1000000 := by
        have : ps.length * 2574 ≤ 8 * 2574 := Nat.mul_le_mul_right _ ho'.1.2.2
        omega
      have hvo : ∀ v ∈ Tr.vals L ps, v.Ok := fun v hv' => by
        obtain ⟨u, hu, hm⟩ := vals_mem hv'
        have h1 := ho'.2 u hu
        cases u with
        | area p f q g => simp only [seenV, List.mem_map] at hm; obtain ⟨x, _, rfl⟩ := hm; exact hL x
        | ref p f => simp only [seenV, List.mem_singleton] at hm; rw [hm]; exact hL p
        | _ =>
          simp only [seenV, List.mem_singleton] at hm
          rw [hm]
          rcases h1 with h1 | h1
          · exact h1.elim
          · exact (val_ok hR hC hL _ h1).ok
      have hg := fun nr st => gathered_c (T := T) (N := N - 1) (nr := nr) (st := st) w (Tr.vals L ps) ho'.1.1 hvo hvl2 (by omega)
      rw [trD_over] at hl
      simp (disch := first | assumption | omega | (simp [-List.map_map, -List.map_take, -List.map_drop]; done) | (refine MP.lim_ok ?_; simp [-List.map_map, -List.map_take, -List.map_drop] <;> omega) | (simp [lim, -List.map_map, -List.map_take, -List.map_drop] <;> omega) | fail) [-List.map_map, -List.map_take, -List.map_drop, fn_reckoned, Tr.val, hl, hg]
    | area p f q g => exact ho.elim

end
end FL
end
section
set_option maxRecDepth 100000
set_option maxHeartbeats 4000000
namespace FL
open MP
/-- settled -/
def fn_settled_m_b1 : List MP.S := [.set 8 (.call 241 false [.var 7, .pr .ix [.var 3, .var 7], .var 1, .var 5, .var 2]), .ifs (.pr .isn [.var 8]) [.setix (.var 5) (.var 7) (.mth .dget (.var 1) [.var 7])] [.setix (.var 5) (.var 7) (.call 198 false [.pr .ix [.var 0, .var 7], .var 5]), .expr (.mth .append (.var 6) [.pr .tup [.var 7, .var 8]])]]
def fn_settled_m_b2 : List MP.S := [.setix (.var 9) (.var 7) (.pr .ix [.var 5, .var 7])]
def fn_settled_m : MP.Fn := ⟨3, 10, [.set 3 (.call 237 false [.var 0]), .set 4 (.call 217 false [.var 3]), .set 5 (.call 1240 true [.var 0, .pr .ix [.var 4, .k (.int 1)]]), .set 6 (.pr (.lst true) []), .for 7 .it [.pr .ix [.var 4, .k (.int 0)]] fn_settled_m_b1, .set 9 (.pr .dnew []), .for 7 .it [.pr (.sorted false) [.var 5]] fn_settled_m_b2, .ret (.pr .tup [.var 9, .var 6])]⟩
section
variable {T : Nat → Option Fn} {N : Nat} [At T 20 fn_between] [At T 26 fn_in_order] [At T 38 fn_parts] [At T 44 fn_meant] [At T 178 fn_is_trouble] [At T 181 fn_bounded] [At T 185 fn_divided] [At T 186 fn_put_together] [At T 191 fn_gathered] [At T 196 fn_picked] [At T 197 fn_seen] [At T 198 fn_reckoned] [At T 215 fn_waits_for] [At T 216 fn_least_ready] [At T 217 fn_sorted_out] [At T 237 fn_leans_of] [At T 241 fn_reason] [At T 1215 fn_waits_for_m] [At T 1240 fn_first_shown_m] [At T 1242 fn_settled_m]
theorem settled_c (C : List (Pl × Ct)) (hC : COk C) (A : List (Pl × Vl)) (hA : okE A) (os ord : List Pl) (ho : Out (leansF C) ord) (hol : ord.length ≤ 1000) (hN : 32 ≤ N) :
    callF T N 1242 [.dct (encE ctD C), .dct (encE vlD A), .lst (os.map plD)] [] = .ok (.tup [.ref 2, .ref 1]) [.dct (encE vlD (settleF C A os ord).1), .lst ((settleF C A os ord).2.map lgD), .dct (encE vlD (keptF (settleF C A os ord).1))] := by
  have hCl := hC.len
  have h1 := fun st => leans_of_c (T := T) (N := N - 1) (st := st) C hC (by omega)
  have h2 := fun st => sorted_out_o (T := T) (N := N - 1) (leansF C) (leansF_ok hC) ord ho (by omega) st
  have h3 := first_c (T := T) (N := N - 1) C hC (nextsD (leansF C) ord) (by omega)
  have e3 : (nextsD (leansF C) ord).map (·.1) = stuckK C ord := rfl
  rw [e3] at h3
  obtain ⟨nx, hnx⟩ : ∃ nx, nx = nextsD (leansF C) ord := ⟨_, rfl⟩
  rw [← hnx] at h2 h3
  obtain ⟨ln, hln⟩ : ∃ ln, ln = leansF C := ⟨_, rfl⟩
  rw [← hln] at h1 h2
  have hsub : ∀ p ∈ ord, ∃ t, tget C p = some (.f t) := fun p hp => by
    obtain ⟨i, hi, e⟩ := List.mem_iff_getElem.mp hp
    have := ho.step i p (by rw [List.getElem?_eq_getElem hi, e])
    have := (least_mem this).1
    rw [keys_mem, leansF_mem hC.key] at this
    exact this
  have L1 := forB_rel (body := evB (callF T (N - 1)) fn_settled_m_b1) (v := 7) plD (fun v (g : SL × Option D) => [some (.dct (encE ctD C)), some (.dct (encE vlD A)), some (.lst (os.map plD)), some (.dct (encE plsL ln)), some (.tup [.lst (ord.map plD), .dct (encE plD nx)]), some (.ref 0), some (.ref 1), v, g.2, none]) (fun g => [.dct (encE vlD g.1.1), .lst (g.1.2.map lgD)]) (fun done g => g.1 = done.foldl (stepF C A os) (firstF C (stuckK C ord), []) ∧ SOk C done g.1) ord ((firstF C (stuckK C ord), []), none) none ⟨rfl, first_sok hC _⟩ fun done p rest v g hd ⟨i1, i2⟩ => by
    obtain ⟨⟨sh, lg⟩, o8⟩ := g
    simp only at i1 i2
    have hp : p ∈ ord := by rw [← hd]; simp
    obtain ⟨t, ht⟩ := hsub p hp
    obtain ⟨o1, o2, o3⟩ := hC.get ht
    have hlen := congrArg List.length hd
    simp only [List.length_append, List.length_cons] at hlen
    have q1 := i2.len
    have q2 := i2.log
    simp only at q1 q2
    have hdl : dget (encE plsL ln) p = some (.lst (t.mpl.map plD)) := by
      have := leansF_get hC.key p
      rw [ht] at this
      rw [dget_enc, hln, this]
      rfl
    have hdc : dget (encE ctD C) p = some (trD t) := by rw [dget_enc, ht]; rfl
    have hr := fun nr st => reason_c (T := T) (N := N - 1) (nr := nr) (st := st) A sh os p t.mpl (by omega)
    have hv := reck_all (T := T) (L := lookV sh) (look_get sh) (by simp) (lookV_ok i2.ok) (R := 99) (C := 26) (by omega) (by omega) 12 t (N - 1) (sm_of 12 t o2 o3) o1 (by omega)
    have hga := dget_vl A
    have hl1 : (encE vlD sh).length < lim := by simp only [enc_len, lim]; omega
    have hl2 : (lg.map lgD).length < lim := by simp only [List.length_map, lim]; omega
    have hd1 := dput_enc vlD sh p (lookV A p)
    have hd2 := dput_enc vlD sh p (t.val (lookV sh))
    have hs : stepF C A os (sh, lg) p = match reasonF A sh os p t.mpl with
      | none => (tput sh p (lookV A p), lg)
      | some q => (tput sh p (t.val (lookV sh)), lg ++ [(p, q)]) := by unfold stepF; rw [ht]; try rfl
    have hok := step_ok hC hA os i2 p
    have hfold : stepF C A os (sh, lg) p = (done ++ [p]).foldl (stepF C A os) (firstF C (stuckK C ord), []) := by rw [List.foldl_append, ← i1]; rfl
    cases hq : reasonF A sh os p t.mpl with
    | none =>
      rw [hq] at hr hs
      simp only [plO] at hr
      simp only at hs
      refine ⟨((tput sh p (lookV A p), lg), some .non), ?_, by simp only; rw [← hs]; exact hfold, by simp only; rw [← hs]; exact hok⟩
      simp (disch := first | assumption | omega | (simp [-List.map_map, -List.map_take, -List.map_drop]; done) | (refine MP.lim_ok ?_; simp [-List.map_map, -List.map_take, -List.map_drop] <;> omega) | (simp [lim, -List.map_map, -List.map_take, -List.map_drop] <;> omega) | fail) [-List.map_map, -List.map_take, -List.map_drop, fn_settled_m_b1, hdl, hr, hga, hl1, hd1]
    | some q =>
      rw [hq] at hr hs
      simp only [plO] at hr
      simp only at hs
      refine ⟨((tput sh p (t.val (lookV sh)), lg ++ [(p, q)]), some (plD q)), ?_, by simp only; rw [← hs]; exact hfold, by simp only; rw [← hs]; exact hok⟩
      simp (disch := first | assumption | omega | (simp [-List.map_map, -List.map_take, -List.map_drop]; done) | (refine MP.lim_ok ?_; simp [-List.map_map, -List.map_take, -List.map_drop] <;> omega) | (simp [lim, -List.map_map, -List.map_take, -List.map_drop] <;> omega) | fail) [-List.map_map, -List.map_take, -List.map_drop, fn_settled_m_b1, hdl, hdc, hr, hv, hl1, hl2, hd2, lgD]
  obtain ⟨⟨g, o8⟩, l1, l2, l3⟩ := L1
  simp only at l2 l3
  have l2 : g = settleF C A os ord := l2
  rw [l2] at l1 l3
  obtain ⟨sh, hsh⟩ : ∃ sh, sh = (settleF C A os ord).1 := ⟨_, rfl⟩
  obtain ⟨lg, hlg⟩ : ∃ lg, lg = (settleF C A os ord).2 := ⟨_, rfl⟩
  have k1 := l3.key
  have k2 := l3.len
  rw [← hsh] at k1 k2
  rw [← hsh, ← hlg] at l1 ⊢
  have L2 := forB_rel (body := evB (callF T (N - 1)) fn_settled_m_b2) (v := 7) plD (fun v (g : List (Pl × Vl)) => [some (.dct (encE ctD C)), some (.dct (encE vlD A)), some (.lst (os.map plD)), some (.dct (encE plsL ln)), some (.tup [.lst (ord.map plD), .dct (encE plD nx)]), some (.ref 0), some (.ref 1), v, o8, some (.ref 2)]) (fun g => [.dct (encE vlD sh), .lst (lg.map lgD), .dct (encE vlD g)]) (fun done g => g = done.map fun p => (p, lookV sh p)) (sortP (sh.map (·.1))) [] (lastS plD ord none) rfl fun done p rest v g hd hg => by
    have hpk : p ∈ sh.map (·.1) := ckeys_mem.mp (by rw [← hd]; simp)
    obtain ⟨x, hx⟩ := tget_some hpk
    have hdg : dget (encE vlD sh) p = some (vlD (lookV sh p)) := by rw [dget_enc, hx, lookV, hx]; rfl
    have hnd := ckeys_nodup k1
    rw [← hd, List.nodup_append] at hnd
    have hnew : p ∉ g.map (·.1) := by
      rw [hg, List.map_map]
      intro hm
      obtain ⟨q, hq, e⟩ := List.mem_map.mp hm
      exact hnd.2.2 q hq p (by simp) e
    have hlen := congrArg List.length hd
    rw [(sortP_perm _).length_eq, List.length_map] at hlen
    simp only [List.length_append, List.length_cons] at hlen
    have hll : (encE vlD g).length < lim := by simp only [enc_len, lim]; rw [hg, List.length_map]; omega
    have hdp := dput_enc vlD g p (lookV sh p)
    rw [tput_new hnew] at hdp
    exact ⟨g ++ [(p, lookV sh p)], by simp (disch := first | assumption | omega | (simp [-List.map_map, -List.map_take, -List.map_drop]; done) | (refine MP.lim_ok ?_; simp [-List.map_map, -List.map_take, -List.map_drop] <;> omega) | (simp [lim, -List.map_map, -List.map_take, -List.map_drop] <;> omega) | fail) [-List.map_map, -List.map_take, -List.map_drop, fn_settled_m_b2, hdg, hll, hdp], by rw [hg, List.map_append]; rfl⟩
  obtain ⟨g2, m1, m2⟩ := L2
  have m2 : g2 = keptF sh := m2
  rw [m2, enc_nil] at m1
  have hkeys : (encE vlD sh).map (fun e => plD e.1) = (sh.map (·.1)).map plD := by simp [encE, List.map_map, Function.comp_def]
  have hsd : ∀ X B, prim1F (.sorted false) (.ref 0) (.dct (encE vlD sh) :: X :: B) = .ok (.lst ((sortP (sh.map (·.1))).map plD)) (.dct (encE vlD sh) :: X :: B) := fun X B => by
    have := p_sorted_dct false vlD sh (.dct (encE vlD sh) :: X :: B)
    simp only [prim1F, dctOf, List.getElem?_cons_zero] at this ⊢
    exact this
  have hf0 := fRE_vl (firstF C (stuckK C ord))
  have hnn : noRefE (encE plD nx) = true := nrE_enc (by intro p; rfl) _
  rw [call_at (by omega) rfl]
  simp only [List.map_nil] at l1
  simp (disch := first | assumption | omega | (simp [-List.map_map, -List.map_take, -List.map_drop]; done) | (refine MP.lim_ok ?_; simp [-List.map_map, -List.map_take, -List.map_drop] <;> omega) | (simp [lim, -List.map_map, -List.map_take, -List.map_drop] <;> omega) | fail) [-List.map_map, -List.map_take, -List.map_drop, fn_settled_m, h1, ← hln, h2, h3, hf0, l1, hsd, m1, hnn]

end
end FL
end
section
set_option maxRecDepth 100000
set_option maxHeartbeats 4000000
namespace FL
open MP
/-- from_start -/
def fn_from_start_m : MP.Fn := ⟨1, 1, [.ret (.pr .ix [.call 1242 true [.var 0, .pr .dnew [], .pr (.list false) [.call 237 false [.var 0]]], .k (.int 0)])]⟩
section
variable {T : Nat → Option Fn} {N : Nat} [At T 20 fn_between] [At T 26 fn_in_order] [At T 38 fn_parts] [At T 44 fn_meant] [At T 178 fn_is_trouble] [At T 181 fn_bounded] [At T 185 fn_divided] [At T 186 fn_put_together] [At T 191 fn_gathered] [At T 196 fn_picked] [At T 197 fn_seen] [At T 198 fn_reckoned] [At T 215 fn_waits_for] [At T 216 fn_least_ready] [At T 217 fn_sorted_out] [At T 237 fn_leans_of] [At T 241 fn_reason] [At T 1215 fn_waits_for_m] [At T 1240 fn_first_shown_m] [At T 1242 fn_settled_m] [At T 1243 fn_from_start_m]
def fsF (C : List (Pl × Ct)) (ord : List Pl) : SL := settleF C [] ((leansF C).map (·.1)) ord
theorem raw2_three {nr : Bool} {e1 e3 : List (Pl × Vl)} {lg : List (Pl × Pl)} {st : Store} : raw2 nr (.ok (.tup [.ref 2, .ref 1]) [.dct (encE vlD e1), .lst (lg.map lgD), .dct (encE vlD e3)]) st = .ok (.tup [.ref (st.length + 2), .ref (st.length + 1)]) (st ++ [.dct (encE vlD e1), .lst (lg.map lgD), .dct (encE vlD e3)]) := by
  have h1 := nrE_vl e1
  have h3 := nrE_vl e3
  have h2 := nrs_lg lg
  have f1 := fRE_vl e1
  have f3 := fRE_vl e3
  have f2 := fRs_lg lg
  unfold raw2
  simp only [flatR, flatRs, List.all_cons, List.all_nil, flatC, f1, f2, f3, Bool.and_self, Bool.or_true, if_true, shift, shifts, List.map_cons, List.map_nil, shiftC, shiftE_nr _ _ h1, shiftE_nr _ _ h3, shifts_nr _ _ h2]
theorem from_start_raw (C : List (Pl × Ct)) (hC : COk C) (ord : List Pl) (ho : Out (leansF C) ord) (hol : ord.length ≤ 1000) (hN : 34 ≤ N) :
    callF T N 1243 [.dct (encE ctD C)] [] = .ok (.ref 3) [.dct [], .dct (encE vlD (fsF C ord).1), .lst ((fsF C ord).2.map lgD), .dct (encE vlD (keptF (fsF C ord).1))] := by
  have h1 := fun st => leans_of_c (T := T) (N := N - 1) (st := st) C hC (by omega)
  have h2 := settled_c (T := T) (N := N - 1) C hC [] (fun e he => by cases he) ((leansF C).map (·.1)) ord ho hol (by omega)
  have hm : (encE plsL (leansF C)).map (fun e => plD e.1) = ((leansF C).map (·.1)).map plD := by simp [encE, List.map_map, Function.comp_def]
  rw [call_at (by omega) rfl]
  have e : settleF C [] ((leansF C).map (·.1)) ord = fsF C ord := rfl
  rw [e] at h2
  rw [enc_nil] at h2
  have hr := fun nr st => raw2_three (nr := nr) (st := st) (e1 := (fsF C ord).1) (lg := (fsF C ord).2) (e3 := keptF (fsF C ord).1)
  simp (disch := first | assumption | omega | (simp [-List.map_map, -List.map_take, -List.map_drop]; done) | (refine MP.lim_ok ?_; simp [-List.map_map, -List.map_take, -List.map_drop] <;> omega) | (simp [lim, -List.map_map, -List.map_take, -List.map_drop] <;> omega) | fail) [-List.map_map, -List.map_take, -List.map_drop, fn_from_start_m, h1, hm, h2, hr]

end
end FL
end
section
set_option maxRecDepth 100000
set_option maxHeartbeats 4000000
namespace FL
open MP
/-- law -/
def fn_law_k63_b1 : List MP.S := [.set 6 (.pr .tup [.pr (.op (.add false)) [.pr .ix [.var 1, .k (.int 0)], .pr (.op .mod) [.var 5, .k (.int 5)]], .pr (.op (.add false)) [.pr .ix [.var 1, .k (.int 1)], .pr (.op .mod) [.pr (.op .fdiv) [.var 5, .k (.int 5)], .k (.int 5)]]]), .ifs (.and (.pr (.op .notin) [.var 6, .var 3]) (.pr (.op .gt) [.pr (.op .mod) [.var 5, .k (.int 3)], .k (.int 0)])) [.setix (.var 3) (.var 6) (.k .non)] []]
def fn_law_k63_t1 : MP.E := .or (.pr (.op .ne) [.var 7, .pr .tup [.pr .ix [.var 4, .k (.int 0)], .var 3, .pr .ix [.var 4, .k (.int 1)]]]) (.or (.not (.pr (.isi .tuple) [.var 8])) (.pr (.op .ne) [.pr .len [.var 8], .k (.int 2)]))
def fn_law_k63_e1 : MP.E := .pr .ix [.var 10, .k (.int 0)]
def fn_law_k63_b2 : List MP.S := [.ifs (.and (.pr (.op .notin) [.var 6, .var 9]) (.pr (.op .ne) [.pr .ix [.pr .ix [.var 8, .k (.int 0)], .var 6], .pr .ix [.var 3, .var 6]])) [.ret (.k (.bl false))] []]
def fn_law_k63 : MP.Fn := ⟨1, 12, [.set 1 (.pr .ix [.pr (.lst false) [.pr .tup [.k (.int 0), .k (.int 0)], .pr .tup [.k (.int 95), .k (.int 22)]], .pr (.op .fdiv) [.pr (.op .mod) [.call 209 false [.var 0, .k (.int 0)], .k (.int 8)], .k (.int 7)]]), .set 2 (.call 247 false [.var 0, .k (.int 2), .k (.int 20)]), .set 3 (.call 1243 true [.var 2]), .set 4 (.call 248 false [.var 2, .call 210 false [.var 0, .k (.int 20), .pr (.op (.add false)) [.pr (.op (.add false)) [.k (.int 20), .k (.int 1)], .pr (.op .mod) [.call 209 false [.var 0, .k (.int 1)], .k (.int 6)]]], .var 1]), .for 5 .it [.call 210 false [.var 0, .k (.int 27), .k (.int 33)]] fn_law_k63_b1, .set 7 (.pr .tup [.pr (.dict true) [.pr .ix [.var 4, .k (.int 0)]], .pr (.dict true) [.var 3], .pr (.list true) [.pr .ix [.var 4, .k (.int 1)]]]), .set 8 (.call 1242 true [.pr .ix [.var 7, .k (.int 0)], .pr .ix [.var 7, .k (.int 1)], .pr .ix [.var 7, .k (.int 2)]]), .ifs fn_law_k63_t1 [.ret (.k (.bl false))] [], .ifs (.not (.call 249 false [.pr .ix [.var 8, .k (.int 1)], .call 1250 true [.pr .ix [.var 4, .k (.int 0)], .var 3, .pr .ix [.var 8, .k (.int 0)], .pr .ix [.var 4, .k (.int 1)]]])) [.ret (.k (.bl false))] [], .set 9 (.comp false 10 fn_law_k63_e1 .itx [.pr .ix [.var 8, .k (.int 1)]] (.k (.bl true))), .set 11 (.pr .tup [.pr (.dict false) [.pr .ix [.var 8, .k (.int 0)]], .pr (.list false) [.pr .ix [.var 8, .k (.int 1)]]]), .expr (.mth .dclr (.pr .ix [.var 8, .k (.int 0)]) []), .expr (.mth .clear (.pr .ix [.var 8, .k (.int 1)]) []), .set 8 (.call 1242 true [.pr .ix [.var 7, .k (.int 0)], .pr .ix [.var 7, .k (.int 1)], .pr .ix [.var 7, .k (.int 2)]]), .expr (.mth .dclr (.pr .ix [.var 7, .k (.int 0)]) []), .expr (.mth .dclr (.pr .ix [.var 7, .k (.int 1)]) []), .expr (.mth .clear (.pr .ix [.var 7, .k (.int 2)]) []), .ifs (.pr (.op .ne) [.var 8, .var 11]) [.ret (.k (.bl false))] [], .for 6 .it [.pr .ix [.call 217 false [.call 237 false [.pr .ix [.var 4, .k (.int 0)]]], .k (.int 0)]] fn_law_k63_b2, .ret (.k (.bl true))]⟩
section
variable {T : Nat → Option Fn} {N : Nat} [At T 20 fn_between] [At T 26 fn_in_order] [At T 38 fn_parts] [At T 44 fn_meant] [At T 178 fn_is_trouble] [At T 181 fn_bounded] [At T 185 fn_divided] [At T 186 fn_put_together] [At T 191 fn_gathered] [At T 196 fn_picked] [At T 197 fn_seen] [At T 198 fn_reckoned] [At T 209 fn_cell_at_L3] [At T 210 fn_cells_L] [At T 215 fn_waits_for] [At T 216 fn_least_ready] [At T 217 fn_sorted_out] [At T 230 fn_mix_L1] [At T 231 fn_ref_L1] [At T 232 fn_area_L1] [At T 233 fn_over_L3] [At T 234 fn_tree_L1] [At T 235 fn_content_L1] [At T 237 fn_leans_of] [At T 241 fn_reason] [At T 247 fn_contents_L2] [At T 248 fn_changed_L] [At T 249 fn_log_alike_L] [At T 251 fn_law_k63] [At T 1215 fn_waits_for_m] [At T 1240 fn_first_shown_m] [At T 1242 fn_settled_m] [At T 1243 fn_from_start_m] [At T 1250 fn_due_log_L_m]
theorem eqE_on {α : Type} {f : α → D} {es : List (Pl × α)} (h : keyN es) (hc : ∀ e ∈ es, cmpD (f e.2) = true) (hd : ∀ e ∈ es, dep (f e.2) ≤ 60) : eqE (encE f es) (encE f es) = true := by
  unfold eqE
  simp only [Bool.and_eq_true, decide_eq_true_eq, true_and, List.all_eq_true]
  intro x hx
  obtain ⟨e, he, rfl⟩ := List.mem_map.mp hx
  rw [dget_enc, tget_of_mem h he]
  simp [hc e he, hd e he, eqD_refl _ (hc e he)]
theorem eqE_cont {C : List (Pl × Ct)} (hC : COk C) : eqE (encE ctD C) (encE ctD C) = true := eqE_on hC.key (fun e _ => cmp_ct e.2) fun e he => by
    have := hC.ok e he
    cases hc : e.2 with
    | i n => simp
    | f t =>
      rw [hc] at this
      have h4 := dep_tr t
      have h5 := this.2.1
      rw [ctD_f]
      omega
theorem frz_flat {x : RE} {st st' : Store} {d : D} (h : frz true x st = .ok d st') (hf : flat d = true) (nr : Bool) : frz nr x st = .ok d st' := by
  cases x with
  | ok y S =>
    rw [frz_ok] at h ⊢
    cases hr : rsv S y with
    | none => rw [hr] at h; simp [frz2] at h
    | some z =>
      rw [hr, frz2_t] at h
      cases h
      rw [frz2_ok (by rw [hf, Bool.or_true])]
  | exc e s => simp at h
  | no => simp [frz] at h
theorem compF_itx {elt cond : DS → Store → RE} {v n : Nat} {ds : DS} {st : Store} {xs : List D} {d : D} (hn : st[n]? = some (.lst xs)) (h : compF false elt cond v .it [.lst xs] ds (st.set n (.lckL xs)) = .ok d (st.set n (.lckL xs))) : compF false elt cond v .itx [.ref n] ds st = .ok d st := by
  have hl : n < st.length := (List.getElem?_eq_some_iff.mp hn).1
  unfold compF at h ⊢
  simp only [srcF, hn, lock] at h ⊢
  cases hc : compB elt cond v xs [] ds (st.set n (.lckL xs)) with
  | none => rw [hc] at h; simp at h
  | some r =>
    obtain ⟨ys, s'⟩ := r
    rw [hc] at h
    simp only [mkL, Bool.false_eq_true, if_false, R.ok.injEq] at h ⊢
    obtain ⟨h1, h2⟩ := h
    subst h2
    simp only [unlock, List.getElem?_set_self hl, List.set_set]
    rw [R.ok.injEq]
    refine ⟨h1, ?_⟩
    obtain ⟨h3, h4⟩ := List.getElem?_eq_some_iff.mp hn
    rw [← h4, List.set_getElem_self]
def addPl (far : Pl) (k : Int) : Pl := (far.1 + k % 5, far.2 + k / 5 % 5)
def addOne (far : Pl) (A : List (Pl × Vl)) (k : Int) : List (Pl × Vl) := if addPl far k ∉ A.map (·.1) ∧ k % 3 > 0 then A ++ [(addPl far k, .n)] else A
structure A63 (n : Nat) (kp A : List (Pl × Vl)) : Prop where
  key : keyN A
  ok : okE A
  look : ∀ p, lookV A p = lookV kp p
  len : A.length ≤ n
  sm : ∀ p ∈ A.map (·.1), smallK p = true
  sub : ∀ p ∈ kp.map (·.1), p ∈ A.map (·.1)
theorem A63.add {n : Nat} {kp A : List (Pl × Vl)} (h : A63 n kp A) {far : Pl} (hf : farOk far) (k : Int) : A63 (n + 1) kp (addOne far A k) := by
  unfold addOne
  split
  · rename_i hc
    have hn := hc.1
    have ht := (tput_new (d := Vl.n) hn).symm
    refine ⟨by rw [ht]; exact tput_keyN h.key _ _, by rw [ht]; exact okE_put h.ok _ trivial, fun p => ?_, by have := h.len; simp; omega, fun p hp => ?_, fun p hp => ?_⟩
    · rw [ht, look_put, h.look]
      split
      · rename_i e
        have h1 := h.look p
        rw [← h1, e]
        unfold lookV
        cases hg : tget A (addPl far k) with
        | none => rfl
        | some v => exact absurd (List.mem_map.mpr ⟨_, tget_mem hg, rfl⟩) hn
      · rfl
    · rw [List.map_append, List.mem_append] at hp
      rcases hp with hp | hp
      · exact h.sm p hp
      · simp at hp
        rw [hp]
        obtain ⟨h1, h2, h3, h4⟩ := hf
        unfold smallK addPl
        simp only [Bool.and_eq_true, decide_eq_true_eq]
        omega
    · rw [List.map_append, List.mem_append]
      exact .inl (h.sub p hp)
  · exact ⟨h.key, h.ok, h.look, by have := h.len; omega, h.sm, h.sub⟩
theorem p_dict_ref {m : Bool} {n : Nat} {st : Store} {es : List (Pl × D)} (h : st[n]? = some (.dct es)) : prim1F (.dict m) (.ref n) st = prim1F (.dict m) (.dct es) st := by simp only [prim1F, dctOf, h]
theorem eqv_x {st : Store} {a b : D} {xs ys : List D} (ha : rsv st a = some (.tup xs)) (hb : rsv st b = some (.tup ys)) (hs : scalar a = false) (hc : cmpDs xs = false) (h : eqUs 8 xs ys = true) : eqVal st a b = some true := by
  unfold eqVal
  rw [if_neg (by simp [hs]), ha, hb]
  simp only [cmpD, hc, Bool.false_and, Bool.false_eq_true, if_false, eqX, h, if_true]
theorem log_mono {C : List (Pl × Ct)} {A : List (Pl × Vl)} {os : List Pl} {x : Pl × Pl} : ∀ (rest : List Pl) (g : SL), x ∈ g.2 → x ∈ (rest.foldl (stepF C A os) g).2
  | [], g, h => h
  | p :: r, g, h => by
    rw [List.foldl_cons]
    refine log_mono r _ ?_
    unfold stepF
    split
    · split
      · exact h
      · exact List.mem_append_left _ h
    · exact h
theorem not_logged {C : List (Pl × Ct)} (hC : COk C) {A : List (Pl × Vl)} {os ord : List Pl} (ho : Out (leansF C) ord) (hnd : ord.Nodup) : ∀ p ∈ ord, (∃ q, (p, q) ∈ (settleF C A os ord).2) ∨ (p ∉ os ∧ lookV (settleF C A os ord).1 p = lookV A p) := fun p hp => by
  obtain ⟨t, ht⟩ := out_sub hC.key ho p hp
  obtain ⟨done, rest, hd⟩ := List.append_of_mem hp
  unfold settleF
  rw [hd] at hnd
  have hpr : p ∉ rest := by
    rw [List.nodup_append] at hnd
    have := hnd.2.1
    rw [List.nodup_cons] at this
    exact this.1
  generalize hK : stuckK C ord = K
  rw [hd, List.foldl_append, List.foldl_cons]
  generalize done.foldl (stepF C A os) (firstF C K, []) = g
  cases hr : reasonF A g.1 os p t.mpl with
  | none =>
    refine .inr ⟨fun h => ?_, ?_⟩
    · unfold reasonF at hr
      rw [if_pos (.inl h)] at hr
      cases hr
    · rw [fold_look rest _ hpr]
      have : stepF C A os g p = (tput g.1 p (lookV A p), g.2) := by
        unfold stepF
        rw [ht]
        simp only
        rw [hr]
      rw [this, look_put, if_pos rfl]
  | some q =>
    refine .inl ⟨q, log_mono rest _ ?_⟩
    have : stepF C A os g p = (tput g.1 p (t.val (lookV g.1)), g.2 ++ [(p, q)]) := by
      unfold stepF
      rw [ht]
      simp only
      rw [hr]
    rw [this]
    simp
theorem law_k63_ok (ns : List Int) (hl : ns.length ≤ 63) (hN : 50 ≤ N) : ∃ s, callF T N 251 [.scr ns] [] = .ok (.bl true) s := by
  have c0 := fun nr st => cellw_c (T := T) (N := N - 1) (nr := nr) (st := st) ns 0 (by omega) hl (by omega)
  have c1 := fun nr st => cellw_c (T := T) (N := N - 1) (nr := nr) (st := st) ns 1 (by omega) hl (by omega)
  have hcs := contsC_cs (cellW ns 0) (cellW ns 1) 40 (by omega) ((rangeI 2 (min 20 ns.length)).map (cellW ns)) (fun k hk => by
    obtain ⟨j, _, rfl⟩ := List.mem_map.mp hk
    exact cellW_nn ns j)
  have h1 := fun st => contents2_c (T := T) (N := N - 1) ns hl 2 20 (by omega) (by omega) (by omega) (by omega) st
  obtain ⟨C, hCe⟩ : ∃ C, C = contsC (cellW ns 0) (cellW ns 1) 40 ((rangeI 2 (min 20 ns.length)).map (cellW ns)) := ⟨_, rfl⟩
  rw [← hCe] at h1 hcs
  have hcs : CS 110 C := hcs.up (by rw [List.length_map, rangeI_length]; omega)
  obtain ⟨a, ha⟩ : ∃ a, a = cellW ns 0 := ⟨_, rfl⟩
  obtain ⟨a1, ha1⟩ : ∃ a1, a1 = cellW ns 1 := ⟨_, rfl⟩
  have ha1n := cellW_nn ns 1
  rw [← ha1] at c1 ha1n
  rw [← ha] at c0
  have hfar : atL [D.tup [.int 0, .int 0], D.tup [.int 95, .int 22]] (a % 8 / 7) = some (plD (farC a)) := by
    have h := cellW_nn ns 0
    have h : a % 8 / 7 = 0 ∨ a % 8 / 7 = 1 := by omega
    unfold farC
    rcases h with h | h <;> rw [h] <;> rfl
  have hfo := farC_ok a
  obtain ⟨far, hfe⟩ : ∃ far, far = farC a := ⟨_, rfl⟩
  rw [← hfe] at hfar hfo
  have hC : COk C := hcs.cok (by omega)
  have hordx : ∀ C : List (Pl × Ct), COk C → ∃ ord, Out (leansF C) ord ∧ ord.Nodup ∧ ord.length ≤ 1000 := fun C hC => by
    obtain ⟨ord, ho, hon, hos, _⟩ := sorted_out_c (T := T) (N := N - 2) (leansF C) (leansF_ok hC) (by omega)
    refine ⟨ord, ho, hon, ?_⟩
    have := nodup_len hon hos
    rw [List.length_map] at this
    have := (leansF_ok hC).len
    omega
  have hA0 : okE ([] : List (Pl × Vl)) := fun e he => by cases he
  obtain ⟨ord0, ho0, hon0, hol0⟩ := hordx C hC
  have h3 := from_start_raw (T := T) (N := N - 1) C hC ord0 ho0 hol0 (by omega)
  have hs0 := settle_sok hC hA0 ((leansF C).map (·.1)) ord0
  have hk0 := kept_keysC hC hA0 (os := (leansF C).map (·.1)) ho0
  have e0 : settleF C [] ((leansF C).map (·.1)) ord0 = fsF C ord0 := rfl
  rw [e0] at hs0
  rw [e0] at hk0
  obtain ⟨sh, hsh⟩ : ∃ sh, sh = (fsF C ord0).1 := ⟨_, rfl⟩
  obtain ⟨lg, hlg⟩ : ∃ lg, lg = (fsF C ord0).2 := ⟨_, rfl⟩
  obtain ⟨kp, hkp⟩ : ∃ kp, kp = keptF sh := ⟨_, rfl⟩
  rw [← hsh, ← hlg, ← hkp] at h3
  have hs1 := hs0.key
  have hs2' := hs0.ok
  rw [← hsh] at hs1 hs2' hk0
  have hAk : keyN kp := by rw [hkp]; exact kept_keyN hs1
  have hAo : okE kp := by rw [hkp]; exact kept_ok hs2'
  rw [← hkp] at hk0
  have hrw : ∀ nr st, raw2 nr (.ok (.ref 3) [.dct [], .dct (encE vlD sh), .lst (lg.map lgD), .dct (encE vlD kp)]) st = .ok (.ref (st.length + 3)) (st ++ [.dct [], .dct (encE vlD sh), .lst (lg.map lgD), .dct (encE vlD kp)]) := fun nr st => by
    have n1 := nrE_vl sh
    have n3 := nrE_vl kp
    have n2 := nrs_lg lg
    have f1 := fRE_vl sh
    have f3 := fRE_vl kp
    have f2 := fRs_lg lg
    have f0 : flatRE ([] : List (Pl × D)) = true := rfl
    have s0 : ∀ k, shiftE k ([] : List (Pl × D)) = [] := fun _ => rfl
    unfold raw2
    simp only [flatR, List.all_cons, List.all_nil, flatC, f0, f1, f2, f3, Bool.and_self, Bool.or_true, if_true, shift, List.map_cons, List.map_nil, shiftC, s0, shiftE_nr _ _ n1, shiftE_nr _ _ n3, shifts_nr _ _ n2]
  have hcl := fun st => cells_c (T := T) (N := N - 1) (st := st) ns 20 (21 + a1 % 6) (by omega) (by omega) (by omega) hl (by omega)
  obtain ⟨cs, hcse⟩ : ∃ cs, cs = (rangeI 20 (min (21 + a1 % 6) ns.length)).map (cellW ns) := ⟨_, rfl⟩
  rw [← hcse] at hcl
  have hcb : ∀ k ∈ cs, 0 ≤ k ∧ k < 1000003 := fun k hk => by
    rw [hcse] at hk
    obtain ⟨j, _, rfl⟩ := List.mem_map.mp hk
    exact cellW_nn ns j
  have hcn : cs.length ≤ 6 := by rw [hcse, List.length_map, rangeI_length]; omega
  have hdl := fun st => cells_c (T := T) (N := N - 1) (st := st) ns 27 33 (by omega) (by omega) (by omega) hl (by omega)
  obtain ⟨ds, hdse⟩ : ∃ ds, ds = (rangeI 27 (min 33 ns.length)).map (cellW ns) := ⟨_, rfl⟩
  rw [← hdse] at hdl
  have hdb : ∀ k ∈ ds, 0 ≤ k ∧ k < 1000003 := fun k hk => by
    rw [hdse] at hk
    obtain ⟨j, _, rfl⟩ := List.mem_map.mp hk
    exact cellW_nn ns j
  have hdn : ds.length ≤ 6 := by rw [hdse, List.length_map, rangeI_length]; omega
  have t1 := fun st => changed_c (T := T) (N := N - 1) C _ hcs (by omega) cs hcb (by omega) far hfo (by omega) st
  have hch := changedF_ok hfo hcs cs hcb
  obtain ⟨B, hBe⟩ : ∃ B, B = (changedF C far cs).1 := ⟨_, rfl⟩
  obtain ⟨os, hose⟩ : ∃ os, os = (changedF C far cs).2 := ⟨_, rfl⟩
  rw [← hBe, ← hose] at t1
  obtain ⟨b1, b2, b3⟩ := hch
  rw [← hBe] at b1 b3
  rw [← hose] at b2 b3
  have b1 : CS 116 B := b1.up (by omega)
  have hB : COk B := b1.cok (by omega)
  have hsmk : ∀ p ∈ kp.map (·.1), smallK p = true := fun p hp => by
    rw [hk0, ckeys_mem] at hp
    exact hcs.sm _ hp
  have hkpl : kp.length ≤ 110 := by
    have := congrArg List.length hk0
    rw [List.length_map, (sortP_perm _).length_eq, List.length_map] at this
    have := hcs.len
    omega
  -- the keys added
  obtain ⟨⟨A, o6⟩, l1, l2⟩ := forB_rel (body := evB (callF T (N - 1)) fn_law_k63_b1) (v := 5) D.int (fun v (g : List (Pl × Vl) × Option D) => [some (.scr ns), some (plD far), some (.dct (encE ctD C)), some (.ref 3), some (.tup [.dct (encE ctD B), .lst (os.map plD)]), v, g.2, none, none, none, none, none]) (fun g => [.dct [], .dct (encE vlD sh), .lst (lg.map lgD), .dct (encE vlD g.1)]) (fun done g => A63 (110 + done.length) kp g.1) ds (kp, none) none ⟨hAk, hAo, fun _ => rfl, by simpa using hkpl, hsmk, fun _ h => h⟩ fun done k rst v g hd i1 => by
    obtain ⟨A, o6⟩ := g
    simp only at i1
    have hlen := congrArg List.length hd
    simp only [List.length_append, List.length_cons] at hlen
    have hAl := i1.len
    have hpl : evB (callF T (N - 1)) (fn_law_k63_b1.take 1) [some (.scr ns), some (plD far), some (.dct (encE ctD C)), some (.ref 3), some (.tup [.dct (encE ctD B), .lst (os.map plD)]), some (.int k), o6, none, none, none, none, none] [.dct [], .dct (encE vlD sh), .lst (lg.map lgD), .dct (encE vlD A)] = .nx [some (.scr ns), some (plD far), some (.dct (encE ctD C)), some (.ref 3), some (.tup [.dct (encE ctD B), .lst (os.map plD)]), some (.int k), some (plD (addPl far k)), none, none, none, none, none] [.dct [], .dct (encE vlD sh), .lst (lg.map lgD), .dct (encE vlD A)] := by
      simp (disch := first | assumption | omega | (simp [-List.map_map, -List.map_take, -List.map_drop]; done) | (refine MP.lim_ok ?_; simp [-List.map_map, -List.map_take, -List.map_drop] <;> omega) | (simp [lim, -List.map_map, -List.map_take, -List.map_drop] <;> omega) | fail) [-List.map_map, -List.map_take, -List.map_drop, fn_law_k63_b1, addPl, plD]
    refine ⟨(addOne far A k, some (plD (addPl far k))), ?_, by have := i1.add hfo k; rw [List.length_append, List.length_singleton]; exact this⟩
    rw [show fn_law_k63_b1 = fn_law_k63_b1.take 1 ++ fn_law_k63_b1.drop 1 from rfl, evB_append]
    simp only [List.set_cons_succ, List.set_cons_zero]
    rw [hpl]
    unfold addOne
    obtain ⟨p, hp⟩ : ∃ p, p = addPl far k := ⟨_, rfl⟩
    rw [← hp]
    have hin : inVal [.dct [], .dct (encE vlD sh), .lst (lg.map lgD), .dct (encE vlD A)] (plD p) (.ref 3) = some (decide (p ∈ A.map (·.1))) := in_encC rfl p
    have hll : (encE vlD A).length < lim := by simp only [enc_len, lim]; omega
    by_cases m1 : p ∈ A.map (·.1)
    · rw [decide_eq_true m1] at hin
      rw [if_neg (fun h => h.1 m1)]
      simp (disch := first | assumption | omega | (simp [-List.map_map, -List.map_take, -List.map_drop]; done) | (refine MP.lim_ok ?_; simp [-List.map_map, -List.map_take, -List.map_drop] <;> omega) | (simp [lim, -List.map_map, -List.map_take, -List.map_drop] <;> omega) | fail) [-List.map_map, -List.map_take, -List.map_drop, fn_law_k63_b1, hin]
    · rw [decide_eq_false m1] at hin
      have hdp := dput_enc vlD A p .n
      rw [tput_new m1] at hdp
      simp only [vlD_n] at hdp
      by_cases m2 : k % 3 > 0
      · rw [if_pos ⟨m1, m2⟩]
        simp (disch := first | assumption | omega | (simp [-List.map_map, -List.map_take, -List.map_drop]; done) | (refine MP.lim_ok ?_; simp [-List.map_map, -List.map_take, -List.map_drop] <;> omega) | (simp [lim, -List.map_map, -List.map_take, -List.map_drop] <;> omega) | fail) [-List.map_map, -List.map_take, -List.map_drop, fn_law_k63_b1, hin, m2, hdp, hll]
      · rw [if_neg (fun h => m2 h.2)]
        simp (disch := first | assumption | omega | (simp [-List.map_map, -List.map_take, -List.map_drop]; done) | (refine MP.lim_ok ?_; simp [-List.map_map, -List.map_take, -List.map_drop] <;> omega) | (simp [lim, -List.map_map, -List.map_take, -List.map_drop] <;> omega) | fail) [-List.map_map, -List.map_take, -List.map_drop, fn_law_k63_b1, hin, m2]
  have l2 : A63 (110 + ds.length) kp A := l2
  have hAl := l2.len
  obtain ⟨od, p1, p2, p3⟩ := hordx B hB
  have t2 := settled_c (T := T) (N := N - 1) B hB A l2.ok os od p1 p3 (by omega)
  have q0 := settle_sok hB l2.ok os od
  have q2 := kept_keysC hB l2.ok (os := os) p1
  have q6 := log_due hB (A := A) (os := os) p1 p2 (keptF (settleF B A os od).1) fun q => kept_look q0.key q
  have q7 : ∀ p ∈ od, (∃ q, (p, q) ∈ (settleF B A os od).2) ∨ (p ∉ os ∧ lookV (keptF (settleF B A os od).1) p = lookV A p) := fun p hp => by
    rw [kept_look q0.key]
    exact not_logged hB p1 p2 p hp
  have q8 := q0.log
  obtain ⟨k2, hk2⟩ : ∃ k2, k2 = keptF (settleF B A os od).1 := ⟨_, rfl⟩
  obtain ⟨s2, hs2⟩ : ∃ s2, s2 = (settleF B A os od).1 := ⟨_, rfl⟩
  obtain ⟨g2, hg2⟩ : ∃ g2, g2 = (settleF B A os od).2 := ⟨_, rfl⟩
  have hkk : keyN k2 := by rw [hk2]; exact kept_keyN q0.key
  have hko : okE k2 := by rw [hk2]; exact kept_ok q0.ok
  rw [← hk2] at q2
  rw [← hk2] at q6
  rw [← hk2] at q7
  rw [← hg2] at q6
  rw [← hg2] at q7
  rw [← hg2] at q8
  rw [← hk2, ← hs2, ← hg2] at t2
  have t3 := due_raw (T := T) (N := N - 1) B hB A k2 os od p1 p3 (by omega)
  rw [← q6] at t3
  have t4 := fun nr st => frz_flat (alikel_c (T := T) (N := N - 1) (st := st) g2 (by omega)) rfl nr
  have hr := fun nr st => raw2_three (nr := nr) (st := st) (e1 := s2) (lg := g2) (e3 := k2)
  have hr1 : ∀ nr st, raw2 nr (.ok (.ref 0) [.lst (g2.map lgD)]) st = .ok (.ref st.length) (st ++ [.lst (g2.map lgD)]) := fun nr st => by
    have n2 := nrs_lg g2
    have f2 := fRs_lg g2
    unfold raw2
    simp only [flatR, List.all_cons, List.all_nil, flatC, f2, Bool.and_self, Bool.or_true, if_true, shift, List.map_cons, List.map_nil, shiftC, shifts_nr _ _ n2]
    rfl
  have hn1 : noRefs (os.map plD) = true := noRefs_pls _
  have hn2 := nrs_lg g2
  have hnE := nrE_vl A
  have hnK := nrE_vl k2
  have hnB := nrE_ct B
  have d1 := fun st => p_dict_enc true ctD B st (fun e he => b1.sm _ (List.mem_map.mpr ⟨e, he, rfl⟩)) (by have := b1.len; simp only [lim]; omega)
  have d2 : ∀ x y z X, prim1F (.dict true) (.ref 3) (x :: y :: z :: .dct (encE vlD A) :: X) = mkD true (encE vlD A) (x :: y :: z :: .dct (encE vlD A) :: X) := fun x y z X => by
    rw [p_dict_ref rfl]
    exact p_dict_enc true vlD A _ (fun e he => l2.sm _ (List.mem_map.mpr ⟨e, he, rfl⟩)) (by simp only [lim]; omega)
  have d3 : ∀ a b c d e f g h i X, prim1F (.dict false) (.ref 9) (a :: b :: c :: d :: e :: f :: g :: h :: i :: .dct (encE vlD k2) :: X) = mkD false (encE vlD k2) (a :: b :: c :: d :: e :: f :: g :: h :: i :: .dct (encE vlD k2) :: X) := fun a b c d e f g h i X => by
    rw [p_dict_ref rfl]
    exact p_dict_enc false vlD k2 _ (fun e he => by
      have : e.1 ∈ k2.map (·.1) := List.mem_map.mpr ⟨e, he, rfl⟩
      rw [q2, ckeys_mem] at this
      exact b1.sm _ this) (by
      have := congrArg List.length q2
      rw [List.length_map, (sortP_perm _).length_eq, List.length_map] at this
      have := b1.len
      simp only [lim]
      omega)
  have v1 : eqE (encE ctD B) (encE ctD B) = true := eqE_cont hB
  have v2 : eqE (encE vlD A) (encE vlD A) = true := eqE_self l2.key (by simp) (by simp) fun v => by cases v <;> simp [eqD]
  have v3 : eqE (encE vlD k2) (encE vlD k2) = true := eqE_self hkk (by simp) (by simp) fun v => by cases v <;> simp [eqD]
  have c1g : cmpDs (g2.map lgD) = true := cmps_lg g2
  have c2g : deps (g2.map lgD) ≤ 2 := deps_lg g2
  have c4 : eqD (.lst (g2.map lgD)) (.lst (g2.map lgD)) = true := eqD_refl _ (by rw [cmp_lst]; exact c1g)
  have c5 : cmpDs (os.map plD) = true := cmps_pls0 os
  have c6 : deps (os.map plD) ≤ 1 := deps_pls0 os
  have c7 : eqD (.lst (os.map plD)) (.lst (os.map plD)) = true := eqD_refl _ (by rw [cmp_lst]; exact c5)
  have w1 : ∀ x y z X, eqVal (x :: y :: z :: .dct (encE vlD A) :: .dct (encE ctD B) :: .dct (encE vlD A) :: .lst (os.map plD) :: X) (.tup [.ref 4, .ref 5, .ref 6]) (.tup [.dct (encE ctD B), .ref 3, .lst (os.map plD)]) = some true := fun x y z X => by
    refine eqv_x (xs := [.dct (encE ctD B), .dct (encE vlD A), .lst (os.map plD)]) (ys := [.dct (encE ctD B), .dct (encE vlD A), .lst (os.map plD)]) (by simp (disch := first | assumption | omega | (simp [-List.map_map, -List.map_take, -List.map_drop]; done) | (refine MP.lim_ok ?_; simp [-List.map_map, -List.map_take, -List.map_drop] <;> omega) | (simp [lim, -List.map_map, -List.map_take, -List.map_drop] <;> omega) | fail) [-List.map_map, -List.map_take, -List.map_drop, hn1]) (by simp (disch := first | assumption | omega | (simp [-List.map_map, -List.map_take, -List.map_drop]; done) | (refine MP.lim_ok ?_; simp [-List.map_map, -List.map_take, -List.map_drop] <;> omega) | (simp [lim, -List.map_map, -List.map_take, -List.map_drop] <;> omega) | fail) [-List.map_map, -List.map_take, -List.map_drop, hn1]) rfl (by simp [cmpDs, cmpD]) ?_
    simp only [eqUs, eqU, v1, v2, c7, cmp_lst, c5, dep_lst, Bool.true_and, Bool.and_true, Bool.or_true, Bool.or_false, Bool.and_eq_true, decide_eq_true_eq]
    omega
  have w2 : ∀ a b c d e f g h i j k l X, eqVal (a :: b :: c :: d :: e :: f :: g :: h :: i :: j :: k :: l :: .lst (g2.map lgD) :: .dct (encE vlD k2) :: X) (.tup [.ref 13, .ref 12]) (.tup [.dct (encE vlD k2), .lst (g2.map lgD)]) = some true := fun a b c d e f g h i j k l X => by
    refine eqv_x (xs := [.dct (encE vlD k2), .lst (g2.map lgD)]) (ys := [.dct (encE vlD k2), .lst (g2.map lgD)]) (by simp (disch := first | assumption | omega | (simp [-List.map_map, -List.map_take, -List.map_drop]; done) | (refine MP.lim_ok ?_; simp [-List.map_map, -List.map_take, -List.map_drop] <;> omega) | (simp [lim, -List.map_map, -List.map_take, -List.map_drop] <;> omega) | fail) [-List.map_map, -List.map_take, -List.map_drop, hn2]) (by simp (disch := first | assumption | omega | (simp [-List.map_map, -List.map_take, -List.map_drop]; done) | (refine MP.lim_ok ?_; simp [-List.map_map, -List.map_take, -List.map_drop] <;> omega) | (simp [lim, -List.map_map, -List.map_take, -List.map_drop] <;> omega) | fail) [-List.map_map, -List.map_take, -List.map_drop, hn2]) rfl (by simp [cmpDs, cmpD]) ?_
    simp only [eqUs, eqU, v3, c4, cmp_lst, c1g, dep_lst, Bool.true_and, Bool.and_true, Bool.or_true, Bool.or_false, Bool.and_eq_true, decide_eq_true_eq]
    omega
  have hcomp : ∀ D5 D6, compF false (evE (callF T (N - 1)) fn_law_k63_e1) (evE (callF T (N - 1)) (.k (.bl true))) 10 .itx [.ref 8] [some (.scr ns), some (plD far), some (.dct (encE ctD C)), some (.ref 3), some (.tup [.dct (encE ctD B), .lst (os.map plD)]), D5, D6, some (.tup [.ref 4, .ref 5, .ref 6]), some (.tup [.ref 9, .ref 8]), none, none, none] [.dct [], .dct (encE vlD sh), .lst (lg.map lgD), .dct (encE vlD A), .dct (encE ctD B), .dct (encE vlD A), .lst (os.map plD), .dct (encE vlD s2), .lst (g2.map lgD), .dct (encE vlD k2), .lst (g2.map lgD)] = .ok (.lst ((g2.map (·.1)).map plD)) [.dct [], .dct (encE vlD sh), .lst (lg.map lgD), .dct (encE vlD A), .dct (encE ctD B), .dct (encE vlD A), .lst (os.map plD), .dct (encE vlD s2), .lst (g2.map lgD), .dct (encE vlD k2), .lst (g2.map lgD)] := fun D5 D6 => by
    refine compF_itx (xs := g2.map lgD) rfl ?_
    rw [compF_map (m := false) lgD plD (fun x : Pl × Pl => x.1) (fun _ => true) g2 (by simp only [lim]; omega) (fun x _ => by simp (disch := first | assumption | omega | (simp [-List.map_map, -List.map_take, -List.map_drop]; done) | (refine MP.lim_ok ?_; simp [-List.map_map, -List.map_take, -List.map_drop] <;> omega) | (simp [lim, -List.map_map, -List.map_take, -List.map_drop] <;> omega) | fail) [-List.map_map, -List.map_take, -List.map_drop, ]) (fun x _ _ => by simp (disch := first | assumption | omega | (simp [-List.map_map, -List.map_take, -List.map_drop]; done) | (refine MP.lim_ok ?_; simp [-List.map_map, -List.map_take, -List.map_drop] <;> omega) | (simp [lim, -List.map_map, -List.map_take, -List.map_drop] <;> omega) | fail) [-List.map_map, -List.map_take, -List.map_drop, fn_law_k63_e1, lgD])]
    rw [List.filter_eq_self.mpr (fun _ _ => rfl)]
    rfl
  have L2 := forB_idle (body := evB (callF T (N - 1)) fn_law_k63_b2) (v := 6) plD (fun v => [some (.scr ns), some (plD far), some (.dct (encE ctD C)), some (.ref 3), some (.tup [.dct (encE ctD B), .lst (os.map plD)]), lastS D.int ds none, v, some (.tup [.ref 4, .ref 5, .ref 6]), some (.tup [.ref 13, .ref 12]), some (.lst ((g2.map (·.1)).map plD)), none, some (.tup [.dct (encE vlD k2), .lst (g2.map lgD)])]) [.dct [], .dct (encE vlD sh), .lst (lg.map lgD), .dct (encE vlD A), .dct [], .dct [], .lst [], .dct (encE vlD s2), .lst [], .dct [], .lst (g2.map lgD), .dct (encE vlD s2), .lst (g2.map lgD), .dct (encE vlD k2)] od o6 fun p v hp => by
    have hin := fun st => in_plsL st p (g2.map (·.1))
    rcases q7 p hp with ⟨q, hq⟩ | ⟨h1, h2⟩
    · have : p ∈ g2.map (·.1) := List.mem_map.mpr ⟨_, hq, rfl⟩
      rw [decide_eq_true this] at hin
      simp (disch := first | assumption | omega | (simp [-List.map_map, -List.map_take, -List.map_drop]; done) | (refine MP.lim_ok ?_; simp [-List.map_map, -List.map_take, -List.map_drop] <;> omega) | (simp [lim, -List.map_map, -List.map_take, -List.map_drop] <;> omega) | fail) [-List.map_map, -List.map_take, -List.map_drop, fn_law_k63_b2, hin]
    · obtain ⟨t, ht⟩ := out_sub hB.key p1 p hp
      have hB1 : p ∈ B.map (·.1) := List.mem_map.mpr ⟨_, tget_mem ht, rfl⟩
      have hk : p ∈ k2.map (·.1) := by rw [q2, ckeys_mem]; exact hB1
      have hA : p ∈ A.map (·.1) := by
        refine l2.sub p ?_
        rw [hk0, ckeys_mem]
        have : tget C p = some (.f t) := by
          rw [← ht]
          exact Classical.byContradiction fun h => h1 (b3 p fun e => h e.symm)
        exact List.mem_map.mpr ⟨_, tget_mem this, rfl⟩
      have g1 : dget (encE vlD k2) p = some (vlD (lookV k2 p)) := by
        obtain ⟨x, hx⟩ := tget_some hk
        rw [dget_enc, lookV, hx]
        rfl
      have g3 : dget (encE vlD A) p = some (vlD (lookV k2 p)) := by
        rw [h2]
        obtain ⟨x, hx⟩ := tget_some hA
        rw [dget_enc, lookV, hx]
        rfl
      have heq : ∀ st, eqVal st (vlD (lookV k2 p)) (vlD (lookV k2 p)) = some true := fun st => by rw [eqv_vl]; simp
      by_cases m : p ∈ g2.map (·.1)
      · rw [decide_eq_true m] at hin
        simp (disch := first | assumption | omega | (simp [-List.map_map, -List.map_take, -List.map_drop]; done) | (refine MP.lim_ok ?_; simp [-List.map_map, -List.map_take, -List.map_drop] <;> omega) | (simp [lim, -List.map_map, -List.map_take, -List.map_drop] <;> omega) | fail) [-List.map_map, -List.map_take, -List.map_drop, fn_law_k63_b2, hin]
      · rw [decide_eq_false m] at hin
        simp (disch := first | assumption | omega | (simp [-List.map_map, -List.map_take, -List.map_drop]; done) | (refine MP.lim_ok ?_; simp [-List.map_map, -List.map_take, -List.map_drop] <;> omega) | (simp [lim, -List.map_map, -List.map_take, -List.map_drop] <;> omega) | fail) [-List.map_map, -List.map_take, -List.map_drop, fn_law_k63_b2, hin, g1, g3, heq]
  have so := fun st => sorted_out_o (T := T) (N := N - 1) (leansF B) (leansF_ok hB) od p1 (by omega) st
  have lo := fun st => leans_of_c (T := T) (N := N - 1) (st := st) B hB (by omega)
  refine ⟨_, by
    rw [call_at (by omega) rfl]
    simp (disch := first | assumption | omega | (simp [-List.map_map, -List.map_take, -List.map_drop]; done) | (refine MP.lim_ok ?_; simp [-List.map_map, -List.map_take, -List.map_drop] <;> omega) | (simp [lim, -List.map_map, -List.map_take, -List.map_drop] <;> omega) | fail) [-List.map_map, -List.map_take, -List.map_drop, fn_law_k63, fn_law_k63_t1, c0, c1, hfar, h1, h3, hrw, hcl, hdl, t1, l1, d1, d2, d3, t2, hr, w1, t3, hr1, t4, hcomp, w2, so, lo, L2, hn1, hn2]
    rfl⟩

end
end FL
end
set_option maxHeartbeats 0
namespace K63
open PySem MP
def tab : List MP.Ent := [⟨209, 28, "_law_cell_at", ["_law_script", "_law_k"], ["_law_script", "_law_k"], FL.fn_cell_at_L3⟩,
  ⟨210, 29, "_law_cells", ["_law_script", "_law_low", "_law_high"], ["_law_script", "_law_low", "_law_high", "_law_k"], FL.fn_cells_L⟩,
  ⟨230, 32, "_law_mix", ["_law_cell", "_law_k"], ["_law_cell", "_law_k"], FL.fn_mix_L1⟩,
  ⟨231, 30, "_law_ref", ["_law_cell", "_law_far"], ["_law_cell", "_law_far"], FL.fn_ref_L1⟩,
  ⟨232, 31, "_law_area", ["_law_cell", "_law_far"], ["_law_cell", "_law_far", "_law_row", "_law_column", "_law_last"], FL.fn_area_L1⟩,
  ⟨233, 33, "_law_over", ["_law_cell", "_law_far", "_law_depth"], ["_law_cell", "_law_far", "_law_depth", "_law_some", "_law_k", "_law_more"], FL.fn_over_L3⟩,
  ⟨234, 34, "_law_tree", ["_law_cell", "_law_far", "_law_depth"], ["_law_cell", "_law_far", "_law_depth", "_law_way", "_law_more", "_law_one", "_law_two"], FL.fn_tree_L1⟩,
  ⟨235, 35, "_law_content", ["_law_cell", "_law_far"], ["_law_cell", "_law_far"], FL.fn_content_L1⟩,
  ⟨247, 36, "_law_contents", ["_law_script", "_law_low", "_law_high"], ["_law_script", "_law_low", "_law_high", "_law_far", "_law_contents_here", "_law_k", "_law_last", "_law_area_here", "_law_cell", "_law_content_here"], FL.fn_contents_L2⟩,
  ⟨38, 19, "parts", ["tree"], ["tree"], FL.fn_parts⟩,
  ⟨26, 6, "in_order", ["places"], ["places", "found", "place"], FL.fn_in_order⟩,
  ⟨20, 5, "between", ["first", "last"], ["first", "last", "found", "row", "column"], FL.fn_between⟩,
  ⟨44, 20, "meant", ["tree"], ["tree", "found", "part"], FL.fn_meant⟩,
  ⟨237, 22, "leans_of", ["contents"], ["contents", "leans", "place"], FL.fn_leans_of⟩,
  ⟨215, 1, "waits_for", ["place", "leans", "standing"], ["place", "leans", "standing", "one"], FL.fn_waits_for⟩,
  ⟨1215, 1, "waits_for", ["place", "leans", "standing"], ["place", "leans", "standing", "one"], FL.fn_waits_for_m⟩,
  ⟨216, 2, "least_ready", ["keys", "leans", "standing"], ["keys", "leans", "standing", "place"], FL.fn_least_ready⟩,
  ⟨217, 3, "sorted_out", ["leans"], ["leans", "keys", "standing", "order", "place", "nexts"], FL.fn_sorted_out⟩,
  ⟨1240, 24, "first_shown", ["contents", "nexts"], ["contents", "nexts", "shown", "place"], FL.fn_first_shown_m⟩,
  ⟨241, 23, "reason", ["place", "means", "ahead", "shown", "others"], ["place", "means", "ahead", "shown", "others", "one"], FL.fn_reason⟩,
  ⟨178, 9, "is_trouble", ["value"], ["value"], FL.fn_is_trouble⟩,
  ⟨181, 10, "bounded", ["number"], ["number"], FL.fn_bounded⟩,
  ⟨191, 13, "gathered", ["word", "values"], ["word", "values", "numbers", "value"], FL.fn_gathered⟩,
  ⟨185, 11, "divided", ["one", "other"], ["one", "other"], FL.fn_divided⟩,
  ⟨186, 12, "put_together", ["sign", "one", "other"], ["sign", "one", "other"], FL.fn_put_together⟩,
  ⟨196, 16, "picked", ["tree", "look"], ["tree", "look", "first"], FL.fn_picked⟩,
  ⟨197, 15, "seen", ["part", "look"], ["part", "look", "place"], FL.fn_seen⟩,
  ⟨198, 17, "reckoned", ["tree", "look"], ["tree", "look", "value", "values", "part"], FL.fn_reckoned⟩,
  ⟨1242, 25, "settled", ["contents", "ahead", "others"], ["contents", "ahead", "others", "leans", "ways", "shown", "log", "place", "why", "kept"], FL.fn_settled_m⟩,
  ⟨1243, 26, "from_start", ["contents"], ["contents"], FL.fn_from_start_m⟩,
  ⟨248, 37, "_law_changed", ["_law_contents_here", "_law_cells_here", "_law_far"], ["_law_contents_here", "_law_cells_here", "_law_far", "_law_behind", "_law_place", "_law_others", "_law_cell", "_law_content_here"], FL.fn_changed_L⟩,
  ⟨249, 39, "_law_log_alike", ["_law_found", "_law_due"], ["_law_found", "_law_due", "_law_one"], FL.fn_log_alike_L⟩,
  ⟨1250, 38, "_law_due_log", ["_law_contents_here", "_law_ahead", "_law_shown", "_law_others"], ["_law_contents_here", "_law_ahead", "_law_shown", "_law_others", "_law_leans", "_law_log", "_law_place", "_law_differ", "_law_one"], FL.fn_due_log_L_m⟩,
  ⟨251, 40, "law", ["_law_script"], ["_law_script", "_law_far", "_law_contents_here", "_law_ahead", "_law_change", "_law_cell", "_law_place", "_law_handed", "_law_found", "_law_logged", "_law_one", "_law_kept"], FL.fn_law_k63⟩]
def cons : List MP.Con := [.int "MOST" 1000000000000000000000000000000]
def exs : List Nat := []
def st (i : Nat) : Stmt := PySem.Challenge.pw_slate_k63_log_just_what_must_be.main.body.getD i (.Pass ⟨0, 0, 0, 0⟩)
theorem checks : tab.all (fun e => entB tab (conOf cons) exs (st e.i) e) = true := by decide +kernel
instance : At (tabF tab) 209 FL.fn_cell_at_L3 := ⟨rfl⟩
instance : At (tabF tab) 210 FL.fn_cells_L := ⟨rfl⟩
instance : At (tabF tab) 230 FL.fn_mix_L1 := ⟨rfl⟩
instance : At (tabF tab) 231 FL.fn_ref_L1 := ⟨rfl⟩
instance : At (tabF tab) 232 FL.fn_area_L1 := ⟨rfl⟩
instance : At (tabF tab) 233 FL.fn_over_L3 := ⟨rfl⟩
instance : At (tabF tab) 234 FL.fn_tree_L1 := ⟨rfl⟩
instance : At (tabF tab) 235 FL.fn_content_L1 := ⟨rfl⟩
instance : At (tabF tab) 247 FL.fn_contents_L2 := ⟨rfl⟩
instance : At (tabF tab) 38 FL.fn_parts := ⟨rfl⟩
instance : At (tabF tab) 26 FL.fn_in_order := ⟨rfl⟩
instance : At (tabF tab) 20 FL.fn_between := ⟨rfl⟩
instance : At (tabF tab) 44 FL.fn_meant := ⟨rfl⟩
instance : At (tabF tab) 237 FL.fn_leans_of := ⟨rfl⟩
instance : At (tabF tab) 215 FL.fn_waits_for := ⟨rfl⟩
instance : At (tabF tab) 1215 FL.fn_waits_for_m := ⟨rfl⟩
instance : At (tabF tab) 216 FL.fn_least_ready := ⟨rfl⟩
instance : At (tabF tab) 217 FL.fn_sorted_out := ⟨rfl⟩
instance : At (tabF tab) 1240 FL.fn_first_shown_m := ⟨rfl⟩
instance : At (tabF tab) 241 FL.fn_reason := ⟨rfl⟩
instance : At (tabF tab) 178 FL.fn_is_trouble := ⟨rfl⟩
instance : At (tabF tab) 181 FL.fn_bounded := ⟨rfl⟩
instance : At (tabF tab) 191 FL.fn_gathered := ⟨rfl⟩
instance : At (tabF tab) 185 FL.fn_divided := ⟨rfl⟩
instance : At (tabF tab) 186 FL.fn_put_together := ⟨rfl⟩
instance : At (tabF tab) 196 FL.fn_picked := ⟨rfl⟩
instance : At (tabF tab) 197 FL.fn_seen := ⟨rfl⟩
instance : At (tabF tab) 198 FL.fn_reckoned := ⟨rfl⟩
instance : At (tabF tab) 1242 FL.fn_settled_m := ⟨rfl⟩
instance : At (tabF tab) 1243 FL.fn_from_start_m := ⟨rfl⟩
instance : At (tabF tab) 248 FL.fn_changed_L := ⟨rfl⟩
instance : At (tabF tab) 249 FL.fn_log_alike_L := ⟨rfl⟩
instance : At (tabF tab) 1250 FL.fn_due_log_L_m := ⟨rfl⟩
instance : At (tabF tab) 251 FL.fn_law_k63 := ⟨rfl⟩
theorem plain (ns : List Int) (h : ns.length ≤ 63) : ∃ s, callF (tabF tab) 60 251 [.scr ns] [] = .ok (.bl true) s := FL.law_k63_ok ns h (by omega)
theorem binds : AllB st tab := ⟨fun _ _ _ _ _ _ us hl => match us, hl with | [_, _], _ => rfl,
  fun _ _ _ _ _ _ us hl => match us, hl with | [_, _, _], _ => rfl,
  fun _ _ _ _ _ _ us hl => match us, hl with | [_, _], _ => rfl,
  fun _ _ _ _ _ _ us hl => match us, hl with | [_, _], _ => rfl,
  fun _ _ _ _ _ _ us hl => match us, hl with | [_, _], _ => rfl,
  fun _ _ _ _ _ _ us hl => match us, hl with | [_, _, _], _ => rfl,
  fun _ _ _ _ _ _ us hl => match us, hl with | [_, _, _], _ => rfl,
  fun _ _ _ _ _ _ us hl => match us, hl with | [_, _], _ => rfl,
  fun _ _ _ _ _ _ us hl => match us, hl with | [_, _, _], _ => rfl,
  fun _ _ _ _ _ _ us hl => match us, hl with | [_], _ => rfl,
  fun _ _ _ _ _ _ us hl => match us, hl with | [_], _ => rfl,
  fun _ _ _ _ _ _ us hl => match us, hl with | [_, _], _ => rfl,
  fun _ _ _ _ _ _ us hl => match us, hl with | [_], _ => rfl,
  fun _ _ _ _ _ _ us hl => match us, hl with | [_], _ => rfl,
  fun _ _ _ _ _ _ us hl => match us, hl with | [_, _, _], _ => rfl,
  fun _ _ _ _ _ _ us hl => match us, hl with | [_, _, _], _ => rfl,
  fun _ _ _ _ _ _ us hl => match us, hl with | [_, _, _], _ => rfl,
  fun _ _ _ _ _ _ us hl => match us, hl with | [_], _ => rfl,
  fun _ _ _ _ _ _ us hl => match us, hl with | [_, _], _ => rfl,
  fun _ _ _ _ _ _ us hl => match us, hl with | [_, _, _, _, _], _ => rfl,
  fun _ _ _ _ _ _ us hl => match us, hl with | [_], _ => rfl,
  fun _ _ _ _ _ _ us hl => match us, hl with | [_], _ => rfl,
  fun _ _ _ _ _ _ us hl => match us, hl with | [_, _], _ => rfl,
  fun _ _ _ _ _ _ us hl => match us, hl with | [_, _], _ => rfl,
  fun _ _ _ _ _ _ us hl => match us, hl with | [_, _, _], _ => rfl,
  fun _ _ _ _ _ _ us hl => match us, hl with | [_, _], _ => rfl,
  fun _ _ _ _ _ _ us hl => match us, hl with | [_, _], _ => rfl,
  fun _ _ _ _ _ _ us hl => match us, hl with | [_, _], _ => rfl,
  fun _ _ _ _ _ _ us hl => match us, hl with | [_, _, _], _ => rfl,
  fun _ _ _ _ _ _ us hl => match us, hl with | [_], _ => rfl,
  fun _ _ _ _ _ _ us hl => match us, hl with | [_, _, _], _ => rfl,
  fun _ _ _ _ _ _ us hl => match us, hl with | [_, _], _ => rfl,
  fun _ _ _ _ _ _ us hl => match us, hl with | [_, _, _, _], _ => rfl,
  fun _ _ _ _ _ _ us hl => match us, hl with | [_], _ => rfl, trivial⟩
abbrev Rw : PySem.W.OpenRow := PySem.W.OpenLaw.row PySem.Challenge.rw_slate_k63_log_just_what_must_be
abbrev hk : PySem.W.Hook := hookC 4 (faTab tab cons) (fnTab tab st) (tupsOf cons exs)
def ob (s : PySem.W.SharedT) : MP.AlC := obsCG 4 (faTab tab cons) (fnTab tab st) (tupsOf cons exs) (HandSHeadRun.getT s)
theorem ob_eq (s : PySem.W.SharedT) : ob s = hk.obs s.abs := obsCG_eq (HandSHeadRun.getT_eq s)
def loose : List PySem.Str := (["waits_for", "least_ready", "sorted_out", "between", "in_order", "is_trouble", "bounded", "divided", "put_together", "gathered", "seen", "picked", "reckoned", "parts", "meant", "leans_of", "reason", "first_shown", "settled", "from_start"] : List PySem.Str) ++ (["_law_cell_at", "_law_cells", "_law_ref", "_law_area", "_law_mix", "_law_over", "_law_tree", "_law_content", "_law_contents", "_law_changed", "_law_due_log", "_law_log_alike", "MOST"] : List PySem.Str)
theorem run (w : World) : HandSHeadRun.RunEq Rw (PySem.W.view Rw.prog [40]) hk ob 4000 loose w := fun os => by kernel_rfl
end K63
open PySem PySem.W PySem.Calls PyProof.Rows
theorem PySem.Challenge.cw_slate_k63_log_just_what_must_be_holds : PySem.Challenge.rw_slate_k63_log_just_what_must_be.Holds := by
  w_on; o_law
  refine HandSHeadRun.head_any (r := K63.Rw) (q := view K63.Rw.prog [40]) (H := K63.hk) (ob := K63.ob) (M := 4000) (loose := K63.loose) (d := HandSHeadRun.topDef K63.Rw.prog 40) (kwd := []) K63.ob_eq
    ?h1 ?h2 K63.run ?h3 ?h4 ?h5 ?h6 ?h7 ?h8 ⟨rfl, rfl, rfl, rfl, rfl, by decide +kernel⟩ ?hw ?hc
  case hw => w_witness2
  case h1 => kernel_rfl
  case h2 => exact fun s => by kernel_rfl
  case h3 => kernel_rfl
  case h4 => kernel_rfl
  case h5 => kernel_rfl
  case h6 => rfl
  case h7 => first | assumption | decide +kernel
  case h8 => decide +kernel
  case hc => exact MP.law_tab (l := PySem.Challenge.rw_slate_k63_log_just_what_must_be) (L := 251) (n := 60) (x := "_law_script") rfl (by kernel_rfl) ⟨rfl, by decide, by decide⟩ (e := ⟨251, 40, "law", ["_law_script"], ["_law_script", "_law_far", "_law_contents_here", "_law_ahead", "_law_change", "_law_cell", "_law_place", "_law_handed", "_law_found", "_law_logged", "_law_one", "_law_kept"], FL.fn_law_k63⟩) rfl (by kernel_rfl) rfl (MP.AllB.mem K63.binds) (List.all_eq_true.mp K63.checks) (by decide +kernel) K63.plain
