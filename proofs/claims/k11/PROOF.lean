import PyProof.Rows.All
import Wide.All
import OpenK.AllK
import Wide.FinOn
import HandS.ForMost
import HandS.Words
import HandS.Defaults
import HandS.HeadHook1
import HandS.HeadHook2
import HandS.HeadEnd
import HandS.ExcCtx
import HandS.ExcField
import HandS.ExcInit
import HandS.Deep
import HandS.Dict
import HandS.DictEq
import KE.KEqDict
import KE.KEqNest
import HandS.ListEq
import HandS.DeepEq
import PyProof.NeKinds
import HandS.Wide
import HandS.List
import HandS.SortRule
import HandS.More
import HandS.Conv
import HandS.IsInst
import HandS.TupAny
import HandS.TupLen
import PyProof.WalkInts
import KE.DataCmp
import KE.SortData
import HandS.CallSlots
import HandS.TryOnly
import HandS.Comp
import HandS.Iter
import HandS.Text
import HandS.RaiseMore
import HandS.Style
import KE.KDictCopyH
import KE.KDictOf
import KE.KDictKeyed
import KE.DataMinMax
import HandS.DictTup
import HandS.Finally
import HandS.Replace
import KE.KDictPairs
import HandS.TupSets
import HandS.SortKw
import PyProof.Rows.StrStrike
import HandS.ExcIs
import HandS.HotCalls
import HandS.ExcValue
import HandS.WordsExc
import HandS.Exc
import HandS.TryMany
import HandS.ExcOwn
import HandS.ReplaceDef
import HandS.Head0
import HandS.Head1
import HandS.Head2
import KE.KStateDown
import PySem.Challenge.RW_slate_k11_refusals_apart
set_option Elab.async false
set_option linter.all false
set_option maxRecDepth 100000
section

namespace MP
open PySem

abbrev Pl := Int × Int
abbrev Tx := List Nat
inductive D where
  | non | bl (b : Bool) | int (i : Int) | str (s : Tx)
  | tup (xs : List D) | lst (xs : List D) | dct (es : List (Pl × D)) | scr (ns : List Int) | ref (n : Nat) | exc (c : Nat) (i : Option Int)
  deriving Inhabited
inductive Cell where
  | lst (xs : List D) | dct (es : List (Pl × D)) | lckL (xs : List D) | lckD (es : List (Pl × D))
  deriving Inhabited
abbrev Store := List Cell
structure Ex where
  cls : Nat
  at_ : Option Int
inductive R (α : Type) where
  | ok (a : α) (st : Store) | exc (e : Ex) (st : Store) | no
@[reducible] def RE := R D
abbrev DS := List (Option D)
inductive RS where
  | nx (ds : DS) (st : Store) | rt (d : D) (st : Store) | bk (ds : DS) (st : Store) | ct (ds : DS) (st : Store) | exc (e : Ex) (ds : DS) (st : Store) | no

def R.bind {α β : Type} (x : R α) (f : α → Store → R β) : R β := match x with
  | .ok a st => f a st
  | .exc e st => .exc e st
  | .no => .no
@[simp] theorem R.bind_ok {α β : Type} (a : α) (st : Store) (f : α → Store → R β) : (R.ok a st).bind f = f a st := (rfl)
@[simp] theorem R.bind_exc {α β : Type} (e : Ex) (st : Store) (f : α → Store → R β) : (R.exc e st : R α).bind f = .exc e st := (rfl)
@[simp] theorem R.bind_no {α β : Type} (f : α → Store → R β) : (R.no : R α).bind f = .no := (rfl)
def R.bindS {α : Type} (x : R α) (ds : DS) (f : α → Store → RS) : RS := match x with
  | .ok a st => f a st
  | .exc e st => .exc e ds st
  | .no => .no
@[simp] theorem R.bindS_ok {α : Type} (a : α) (st : Store) (ds : DS) (f : α → Store → RS) : (R.ok a st).bindS ds f = f a st := (rfl)
@[simp] theorem R.bindS_exc {α : Type} (e : Ex) (st : Store) (ds : DS) (f : α → Store → RS) : (R.exc e st : R α).bindS ds f = .exc e ds st := (rfl)
@[simp] theorem R.bindS_no {α : Type} (ds : DS) (f : α → Store → RS) : (R.no : R α).bindS ds f = .no := (rfl)
def ofO {α : Type} (st : Store) : Option α → R α
  | some a => .ok a st
  | none => .no
@[simp] theorem ofO_some {α : Type} (st : Store) (a : α) : ofO st (some a) = .ok a st := (rfl)
@[simp] theorem ofO_none {α : Type} (st : Store) : (ofO st none : R α) = .no := (rfl)

mutual
def noRef : D → Bool
  | .tup xs => noRefs xs
  | .lst xs => noRefs xs
  | .dct es => noRefE es
  | .ref _ => false
  | _ => true
def noRefs : List D → Bool
  | [] => true
  | x :: xs => noRef x && noRefs xs
def noRefE : List (Pl × D) → Bool
  | [] => true
  | (_, x) :: xs => noRef x && noRefE xs
end
mutual
def flat : D → Bool
  | .tup xs => flats xs
  | .lst _ => false
  | .dct _ => false
  | .scr _ => false
  | .ref _ => false
  | .exc _ _ => false
  | _ => true
def flats : List D → Bool
  | [] => true
  | x :: xs => flat x && flats xs
end
mutual
def mapRef (g : Nat → Option D) : D → Option D
  | .tup xs => (mapRefs g xs).map .tup
  | .lst xs => (mapRefs g xs).map .lst
  | .dct es => (mapRefE g es).map .dct
  | .ref n => g n
  | .non => some .non
  | .bl b => some (.bl b)
  | .int i => some (.int i)
  | .str s => some (.str s)
  | .scr ns => some (.scr ns)
  | .exc c i => some (.exc c i)
def mapRefs (g : Nat → Option D) : List D → Option (List D)
  | [] => some []
  | x :: xs => match mapRef g x, mapRefs g xs with
    | some y, some ys => some (y :: ys)
    | _, _ => none
def mapRefE (g : Nat → Option D) : List (Pl × D) → Option (List (Pl × D))
  | [] => some []
  | (k, x) :: xs => match mapRef g x, mapRefE g xs with
    | some y, some ys => some ((k, y) :: ys)
    | _, _ => none
end
def rsvN (st : Store) : Nat → D → Option D
  | 0, _ => none
  | k + 1, d => mapRef (fun n => match st[n]? with
    | some (.lst xs) => (mapRefs (fun m => rsvN st k (.ref m)) xs).map .lst
    | some (.lckL xs) => (mapRefs (fun m => rsvN st k (.ref m)) xs).map .lst
    | some (.dct es) => (mapRefE (fun m => rsvN st k (.ref m)) es).map .dct
    | some (.lckD es) => (mapRefE (fun m => rsvN st k (.ref m)) es).map .dct
    | none => none) d
def rsv (st : Store) (d : D) : Option D := if noRef d then some d else rsvN st 40 d
def rsvs (st : Store) : List D → Option (List D)
  | [] => some []
  | x :: xs => match rsv st x, rsvs st xs with
    | some y, some ys => some (y :: ys)
    | _, _ => none
mutual
def shift (k : Nat) : D → D
  | .tup xs => .tup (shifts k xs)
  | .lst xs => .lst (shifts k xs)
  | .dct es => .dct (shiftE k es)
  | .ref n => .ref (k + n)
  | .non => .non
  | .bl b => .bl b
  | .int i => .int i
  | .str s => .str s
  | .scr ns => .scr ns
  | .exc c i => .exc c i
def shifts (k : Nat) : List D → List D
  | [] => []
  | x :: xs => shift k x :: shifts k xs
def shiftE (k : Nat) : List (Pl × D) → List (Pl × D)
  | [] => []
  | (p, x) :: xs => (p, shift k x) :: shiftE k xs
end
def shiftC (k : Nat) : Cell → Cell
  | .lst xs => .lst (shifts k xs)
  | .dct es => .dct (shiftE k es)
  | .lckL xs => .lckL (shifts k xs)
  | .lckD es => .lckD (shiftE k es)
mutual
def flatR : D → Bool
  | .tup xs => flatRs xs
  | .lst _ => false
  | .dct _ => false
  | .scr _ => false
  | .exc _ _ => false
  | _ => true
def flatRs : List D → Bool
  | [] => true
  | x :: xs => flatR x && flatRs xs
end
def flatRE : List (Pl × D) → Bool
  | [] => true
  | (_, x) :: xs => flatR x && flatRE xs
def flatC : Cell → Bool
  | .lst xs => flatRs xs
  | .dct es => flatRE es
  | .lckL xs => flatRs xs
  | .lckD es => flatRE es

def lstOf (st : Store) : D → Option (List D)
  | .lst xs => some xs
  | .scr ns => some (ns.map .int)
  | .ref n => match st[n]? with
    | some (.lst xs) => some xs
    | some (.lckL xs) => some xs
    | _ => none
  | _ => none
def seqOf (st : Store) : D → Option (List D)
  | .tup xs => some xs
  | d => lstOf st d
def dctOf (st : Store) : D → Option (List (Pl × D))
  | .dct es => some es
  | .ref n => match st[n]? with
    | some (.dct es) => some es
    | some (.lckD es) => some es
    | _ => none
  | _ => none
def plOf : D → Option Pl
  | .tup [.int r, .int c] => some (r, c)
  | _ => none
def plD (p : Pl) : D := .tup [.int p.1, .int p.2]
def plLt (a b : Pl) : Bool := decide (a.1 < b.1 ∨ (a.1 = b.1 ∧ a.2 < b.2))
def smallK (p : Pl) : Bool := decide (0 ≤ p.1) && decide (p.1 < 104) && decide (0 ≤ p.2) && decide (p.2 < 32)
def dget (es : List (Pl × D)) (k : Pl) : Option D := (es.find? fun e => decide (e.1 = k)).map (·.2)
def dput (es : List (Pl × D)) (k : Pl) (d : D) : List (Pl × D) :=
  if (es.any fun e => decide (e.1 = k)) = true then es.map (fun e => if e.1 = k then (e.1, d) else e) else es ++ [(k, d)]
def ddrop (es : List (Pl × D)) (k : Pl) : List (Pl × D) := es.filter fun e => decide (e.1 ≠ k)
mutual
def dep : D → Nat
  | .tup xs => deps xs + 1
  | .lst xs => deps xs + 1
  | _ => 0
def deps : List D → Nat
  | [] => 0
  | x :: xs => max (dep x) (deps xs)
end
mutual
def cmpD : D → Bool
  | .tup xs => cmpDs xs
  | .lst xs => cmpDs xs
  | .dct _ => false
  | .ref _ => false
  | .scr _ => false
  | .exc _ _ => false
  | _ => true
def cmpDs : List D → Bool
  | [] => true
  | x :: xs => cmpD x && cmpDs xs
end
mutual
def eqD : D → D → Bool
  | .non, .non => true
  | .bl a, .bl b => a == b
  | .bl a, .int j => (if a then 1 else 0) == j
  | .int i, .bl b => i == (if b then 1 else 0)
  | .int i, .int j => i == j
  | .str s, .str t => s == t
  | .tup xs, .tup ys => eqDs xs ys
  | .lst xs, .lst ys => eqDs xs ys
  | _, _ => false
def eqDs : List D → List D → Bool
  | [], [] => true
  | x :: xs, y :: ys => eqD x y && eqDs xs ys
  | _, _ => false
end
def scalar : D → Bool
  | .non => true
  | .bl _ => true
  | .int _ => true
  | .str _ => true
  | _ => false
def eqE (es fs : List (Pl × D)) : Bool := decide (es.length = fs.length) && es.all fun p => match dget fs p.1 with
  | some v => cmpD p.2 && cmpD v && decide (dep p.2 ≤ 60) && decide (dep v ≤ 60) && eqD p.2 v
  | none => false
mutual
def eqU : Nat → D → D → Bool
  | 0, _, _ => false
  | n + 1, x, y => (cmpD x && cmpD y && decide (dep x ≤ 60) && decide (dep y ≤ 60) && eqD x y) || (match x, y with
    | .dct es, .dct fs => eqE es fs
    | .tup xs, .tup ys => eqUs n xs ys
    | _, _ => false)
def eqUs : Nat → List D → List D → Bool
  | _, [], [] => true
  | n, x :: xs, y :: ys => eqU n x y && eqUs n xs ys
  | _, _, _ => false
end
def eqX : D → D → Option Bool
  | .dct es, .dct fs => if eqE es fs then some true else none
  | .tup xs, .tup ys => if eqUs 8 xs ys then some true else none
  | _, _ => none
def eqVal (st : Store) (a b : D) : Option Bool :=
  if scalar a && scalar b then some (eqD a b) else
  match rsv st a, rsv st b with
  | some x, some y => if cmpD x && cmpD y && decide (dep x ≤ 64) && decide (dep y ≤ 64) then some (eqD x y) else eqX x y
  | _, _ => none
def lim : Nat := 16777216
def isSub (s t : Tx) : Bool := !(Builtin.Str.occurrences ⟨t.toArray⟩ ⟨s.toArray⟩ 0 t.length 1).isEmpty
def findT (s t : Tx) : Int := match Builtin.Str.occurrences ⟨s.toArray⟩ ⟨t.toArray⟩ 0 s.length 1 with
  | i :: _ => (i : Int)
  | [] => -1
def inVal (st : Store) (a b : D) : Option Bool :=
  match b with
  | .str t => match a with
    | .str [c] => some (decide (c ∈ t))
    | .str s => some (isSub s t)
    | _ => none
  | _ => match dctOf st b with
    | some es => match plOf a with
      | some k => some (dget es k).isSome
      | none => none
    | none => match seqOf st b with
      | some xs => if scalar a && xs.all scalar then some (xs.any fun y => eqD y a) else
        match lstOf st b, rsv st a, rsvs st xs with
        | some _, some x, some ys => if cmpD x && cmpDs ys && decide (dep x ≤ 64) && decide (deps ys ≤ 63) then some (ys.any fun z => eqD z x) else none
        | _, _, _ => none
      | none => none
def atL {α : Type} (xs : List α) (i : Int) : Option α := (L2.ixN xs.length i).bind fun j => xs[j]?
def cutL {α : Type} (xs : List α) (lo hi : Option Int) : List α :=
  (xs.drop (HT.sIx xs.length 0 lo)).take (HT.sIx xs.length xs.length hi - HT.sIx xs.length 0 lo)
def splT (c : Nat) : Tx → List Tx
  | [] => [[]]
  | x :: r => if x = c then [] :: splT c r else match splT c r with
    | [] => [[x]]
    | h :: t => (x :: h) :: t
def mkL (m : Bool) (xs : List D) (st : Store) : RE := if m then .ok (.ref st.length) (st ++ [.lst xs]) else .ok (.lst xs) st
def mkD (m : Bool) (es : List (Pl × D)) (st : Store) : RE := if m then .ok (.ref st.length) (st ++ [.dct es]) else .ok (.dct es) st

inductive Ty where
  | int | bool | str | tuple | list | dict
  deriving DecidableEq
def tyOf (st : Store) : D → Option Ty
  | .bl _ => some .bool
  | .int _ => some .int
  | .str _ => some .str
  | .tup _ => some .tuple
  | .lst _ => some .list
  | .scr _ => some .list
  | .dct _ => some .dict
  | .ref n => match st[n]? with
    | some (.lst _) => some .list
    | some (.lckL _) => some .list
    | some (.dct _) => some .dict
    | some (.lckD _) => some .dict
    | none => none
  | .non => none
  | .exc _ _ => none
def isTy (st : Store) (d : D) (t : Ty) : Option Bool := match d with
  | .non => some false
  | _ => match tyOf st d with
    | some u => some (decide (u = t) || (decide (u = .bool) && decide (t = .int)))
    | none => none

inductive Op where
  | add (m : Bool) | sub | mul | fdiv | mod | pow
  | eq | ne | lt | le | gt | ge | isin | notin | eqE | neE
def opF (o : Op) (a b : D) (st : Store) : RE :=
  match o with
  | .add m => match a, b with
    | .int i, .int j => .ok (.int (i + j)) st
    | .str s, .str t => if s.length + t.length ≤ lim then .ok (.str (s ++ t)) st else .no
    | _, _ => match lstOf st a, lstOf st b with
      | some xs, some ys => match a, b with
        | .scr _, _ => .no
        | _, .scr _ => .no
        | _, _ => if xs.length + ys.length ≤ lim then mkL m (xs ++ ys) st else .no
      | _, _ => .no
  | .sub => match a, b with
    | .int i, .int j => .ok (.int (i - j)) st
    | _, _ => .no
  | .mul => match a, b with
    | .int i, .int j => if i.natAbs.log2 + j.natAbs.log2 < 1000000 then .ok (.int (i * j)) st else
        if j.natAbs < 2 ^ 64 then .ok (.int (i * j)) st else if i.natAbs < 2 ^ 64 then .ok (.int (i * j)) st else .no
    | .str s, .int j => if 0 ≤ j ∧ j < 1000000 ∧ s.length * j.toNat ≤ lim then .ok (.str (List.replicate j.toNat s).flatten) st else .no
    | .ref n, .int j => match st[n]? with
      | some (.lst xs) => if 0 ≤ j ∧ j ≤ 1000 ∧ xs.length ≤ 1000 then mkL false (List.replicate j.toNat xs).flatten st else .no
      | _ => .no
    | _, _ => .no
  | .fdiv => match a, b with
    | .int i, .int j => if j ≠ 0 ∧ j.natAbs.log2 < 9000 then .ok (.int (i.fdiv j)) st else .no
    | _, _ => .no
  | .mod => match a, b with
    | .int i, .int j => if 0 < j then .ok (.int (i % j)) st else .no
    | _, _ => .no
  | .pow => match a, b with
    | .int i, .int j => if 0 ≤ j ∧ j ≤ 1000000 ∧ i.natAbs < 2 ^ 64 then .ok (.int (i ^ j.toNat)) st else .no
    | _, _ => .no
  | .eq => ofO st ((eqVal st a b).map .bl)
  | .ne => ofO st ((eqVal st a b).map fun k => .bl (!k))
  | .lt => match a, b with
    | .int i, .int j => .ok (.bl (decide (i < j))) st
    | _, _ => match plOf a, plOf b with
      | some p, some q => .ok (.bl (plLt p q)) st
      | _, _ => .no
  | .le => match a, b with
    | .int i, .int j => .ok (.bl (decide (i ≤ j))) st
    | _, _ => .no
  | .gt => match a, b with
    | .int i, .int j => .ok (.bl (decide (j < i))) st
    | _, _ => .no
  | .ge => match a, b with
    | .int i, .int j => .ok (.bl (decide (j ≤ i))) st
    | _, _ => .no
  | .isin => ofO st ((inVal st a b).map .bl)
  | .notin => ofO st ((inVal st a b).map fun k => .bl (!k))
  | .eqE => match lstOf st a, b with
    | some xs, .lst [] => .ok (.bl xs.isEmpty) st
    | _, _ => .no
  | .neE => match lstOf st a, b with
    | some xs, .lst [] => .ok (.bl (!xs.isEmpty)) st
    | _, _ => .no

inductive SK where
  | rng1 | rng2 | it | itv | itx | rngc (c : Nat)
inductive P where
  | op (o : Op) | neg | isn | notn | tup | lst (m : Bool) | dnew | ix
  | len | max2 | min2 | min3 | maxL | minL | maxD | sum | sorted (m : Bool) | list (m : Bool) | dict (m : Bool) | int1 | str1 | abs | all | isi (t : Ty)
  | lrng (m : Bool) | kix (ks : List (Tx × Int)) | nset | sset (m : Bool) | revs (m : Bool)
  | setd | append | pop | insert | clear | dget | dpop | find | index | join | split (m : Bool) | lower | upper | rev | dclr | dictL (m : Bool) | dpop1 | sidx
inductive E where
  | var (i : Nat)
  | k (d : D)
  | glob (x : Str) (d : D)
  | pr (p : P) (es : List E)
  | mth (p : P) (o : E) (es : List E)
  | slc (m hl hh : Bool) (a lo hi : E)
  | and (a b : E) | or (a b : E) | not (a : E)
  | ife (c a b : E)
  | chain (o o' : Op) (a b c : E)
  | call (f : Nat) (raw : Bool) (es : List E)
  | callM (f : Nat) (es : List E)
  | callX (k : Nat) (f : Nat) (es : List E)
  | comp (m : Bool) (v : Nat) (elt : E) (s : SK) (src : List E) (cond : E)
  | exis (c : Nat) | exat | exk (f : Nat)
  | mkx (c : Nat) (es : List E) | isx (c : Nat) (a : E) | atx (a : E)
inductive S where
  | set (i : Nat) (e : E) | setix (o i v : E) | expr (e : E) | ret (e : E)
  | ifs (c : E) (a b : List S) | whl (c : E) (b : List S) | for (v : Nat) (k : SK) (src : List E) (b : List S)
  | forE (i v : Nat) (src : E) (b : List S)
  | brk | cnt | pass
  | raise (cls : Nat) (msg at_ : E)
  | tri (b hs : List S) | hd (c : Nat) (v : Option Nat) (b : List S)
  | strk (i : Nat) (n : Int) (c : Nat) | strx (i j c : Nat)
  | dead
structure Fn where
  np : Nat
  ns : Nat
  body : List S

def mxL : List Int → Option Int
  | [] => none
  | x :: xs => some (xs.foldl (fun a b => if b > a then b else a) x)
def mnL : List Int → Option Int
  | [] => none
  | x :: xs => some (xs.foldl (fun a b => if b < a then b else a) x)
def intsOf : List D → Option (List Int)
  | [] => some []
  | .int i :: xs => (intsOf xs).map (i :: ·)
  | _ => none
def blsOf : List D → Option (List Bool)
  | [] => some []
  | .bl i :: xs => (blsOf xs).map (i :: ·)
  | _ => none
def txsOf : List D → Option (List Tx)
  | [] => some []
  | .str i :: xs => (txsOf xs).map (i :: ·)
  | _ => none
def plsOf : List D → Option (List Pl)
  | [] => some []
  | x :: xs => match plOf x, plsOf xs with
    | some p, some ps => some (p :: ps)
    | _, _ => none
def pairsOf : List D → Option (List (Pl × D))
  | [] => some []
  | .tup [p, v] :: xs => match plOf p, pairsOf xs with
    | some k, some es => some ((k, v) :: es)
    | _, _ => none
  | _ => none
def plLe (a b : Pl) : Bool := decide (a.1 < b.1) || (decide (a.1 = b.1) && decide (a.2 ≤ b.2))
def sortP (ps : List Pl) : List Pl := ps.mergeSort plLe
def uniq : List Pl → List Pl
  | [] => []
  | p :: ps => if p ∈ ps then uniq ps else p :: uniq ps
def joinT (sep : Tx) : List Tx → Tx
  | [] => []
  | [t] => t
  | t :: ts => t ++ sep ++ joinT sep ts
def oneS (c : Nat) : D := .str [c]

def rangeC (a b : Int) (c : Nat) : List D := (List.range (if a < b then ((b - a - 1) / c + 1).toNat else 0)).map fun (i : Nat) => .int (a + i * c)
def rangeD (a b : Int) : List D := (List.range (b - a).toNat).map fun (i : Nat) => .int (a + i)
def srcF (k : SK) (ds : List D) (st : Store) : Option (Option Nat × List D) := match k, ds with
  | .rng1, [.int n] => if -(2 ^ 62) ≤ n ∧ n < 2 ^ 62 then some (none, rangeD 0 n) else none
  | .rng2, [.int a, .int b] => if (-(2 ^ 62) ≤ a ∧ a < 2 ^ 62) ∧ (-(2 ^ 62) ≤ b ∧ b < 2 ^ 62) then some (none, rangeD a b) else none
  | .rngc c, [.int a, .int b] => if ((-(2 ^ 62) ≤ a ∧ a < 2 ^ 62) ∧ (-(2 ^ 62) ≤ b ∧ b < 2 ^ 62)) ∧ 0 < c ∧ c < 1000 then some (none, rangeC a b c) else none
  | .it, [d] => match d with
    | .lst xs => some (none, xs)
    | .tup xs => some (none, xs)
    | .scr ns => some (none, ns.map .int)
    | .str s => some (none, s.map oneS)
    | _ => none
  | .itv, [d] => match d with
    | .lst xs => some (none, xs)
    | .tup xs => some (none, xs)
    | .scr ns => some (none, ns.map .int)
    | .str s => some (none, s.map oneS)
    | .dct es => some (none, es.map fun e => plD e.1)
    | .ref n => match st[n]? with
      | some (.lst xs) => some (some n, xs)
      | some (.dct es) => some (some n, es.map fun e => plD e.1)
      | some (.lckL xs) => some (none, xs)
      | some (.lckD es) => some (none, es.map fun e => plD e.1)
      | none => none
    | _ => none
  | .itx, [d] => match d with
    | .ref n => match st[n]? with
      | some (.lst xs) => some (some n, xs)
      | _ => none
    | _ => none
  | _, _ => none
def lock (n : Nat) (st : Store) : Option Store := match st[n]? with
  | some (.lst xs) => some (st.set n (.lckL xs))
  | some (.dct es) => some (st.set n (.lckD es))
  | _ => none
def unlock (n : Nat) (st : Store) : Option Store := match st[n]? with
  | some (.lckL xs) => some (st.set n (.lst xs))
  | some (.lckD es) => some (st.set n (.dct es))
  | _ => none
def unlockS (n : Nat) : RS → RS
  | .nx ds st => match unlock n st with | some st' => .nx ds st' | none => .no
  | .rt d st => match unlock n st with | some st' => .rt d st' | none => .no
  | .bk ds st => match unlock n st with | some st' => .bk ds st' | none => .no
  | .ct ds st => match unlock n st with | some st' => .ct ds st' | none => .no
  | .exc e ds st => .no
  | .no => .no

def prim1F (p : P) (a : D) (st : Store) : RE :=
  match p with
  | .neg => match a with
    | .int i => .ok (.int (-i)) st
    | _ => .no
  | .isn => .ok (.bl (match a with | .non => true | _ => false)) st
  | .notn => .ok (.bl (match a with | .non => false | _ => true)) st
  | .len => match a with
    | .str s => if s.length ≤ lim then .ok (.int s.length) st else .no
    | _ => match dctOf st a with
      | some es => .ok (.int es.length) st
      | none => match seqOf st a with
        | some xs => .ok (.int xs.length) st
        | none => .no
  | .maxL => match lstOf st a with
    | some xs => ofO st (((intsOf xs).bind mxL).map .int)
    | none => .no
  | .minL => match lstOf st a with
    | some xs => match (intsOf xs).bind mnL with
      | some i => .ok (.int i) st
      | none => match plsOf xs with
        | some (p :: ps) => .ok (plD (ps.foldl (fun a y => if plLt y a then y else a) p)) st
        | _ => .no
    | none => .no
  | .nset => match lstOf st a with
    | some xs => match plsOf xs with
      | some ps => if ps.length < 64 ∧ ps.Nodup then .ok (.int ps.length) st else .no
      | none => .no
    | none => .no
  | .revs m => match lstOf st a with
    | some xs => mkL m xs.reverse st
    | none => .no
  | .sset m => match lstOf st a with
    | some xs => match plsOf xs with
      | some ps => if (uniq ps).length < 3999 then mkL m ((sortP (uniq ps)).map plD) st else .no
      | none => .no
    | none => .no
  | .maxD => match lstOf st a with
    | some xs => match intsOf xs with
      | some [] => .ok (.int 0) st
      | some is => ofO st ((mxL is).map .int)
      | none => .no
    | none => .no
  | .sum => match lstOf st a with
    | some xs => ofO st ((intsOf xs).map fun is => .int is.sum)
    | none => .no
  | .sorted m => match dctOf st a with
    | some es => mkL m ((sortP (es.map (·.1))).map plD) st
    | none => match lstOf st a with
      | some xs => match plsOf xs with
        | some ps => mkL m ((sortP ps).map plD) st
        | none => .no
      | none => .no
  | .list m => match dctOf st a with
    | some es => mkL m (es.map fun e => plD e.1) st
    | none => match seqOf st a with
      | some xs => mkL m xs st
      | none => .no
  | .dict m => match dctOf st a with
    | some es => if es.all (fun e => smallK e.1) && decide (es.length ≤ lim) then mkD m es st else .no
    | none => .no
  | .int1 => match a with
    | .int i => .ok (.int i) st
    | .bl b => .ok (.int (if b then 1 else 0)) st
    | .str s => if s.length ≤ 640 then ofO st ((PySem.intText? ⟨s.toArray⟩).map .int) else .no
    | _ => .no
  | .str1 => match a with
    | .int i => if i.natAbs.log2 < 1920 then .ok (.str (PySem.Str.ofString (toString i)).cps.toList) st else .no
    | .str s => .ok (.str s) st
    | .non => .ok (.str [78, 111, 110, 101]) st
    | _ => .no
  | .abs => match a with
    | .int i => .ok (.int (if i < 0 then -i else i)) st
    | _ => .no
  | .all => match lstOf st a with
    | some xs => ofO st ((blsOf xs).map fun bs => .bl (bs.all id))
    | none => .no
  | .isi t => ofO st ((isTy st a t).map .bl)
  | .kix ks => match a with
    | .str s => ofO st ((ks.foldl (fun o p => if p.1 = s then some p.2 else o) (none : Option Int)).map .int)
    | _ => .no
  | .pop => match a with
    | .ref n => match st[n]? with
      | some (.lst xs) => match xs[xs.length - 1]? with
        | some y => .ok y (st.set n (.lst xs.dropLast))
        | none => .no
      | _ => .no
    | _ => .no
  | .clear => match a with
    | .ref n => match st[n]? with
      | some (.lst xs) => .ok .non (st.set n (.lst []))
      | _ => .no
    | _ => .no
  | .dclr => match a with
    | .ref n => match st[n]? with
      | some (.dct es) => .ok .non (st.set n (.dct []))
      | _ => .no
    | _ => .no
  | .rev => match a with
    | .ref n => match st[n]? with
      | some (.lst xs) => .ok .non (st.set n (.lst xs.reverse))
      | _ => .no
    | _ => .no
  | .dictL m => match lstOf st a with
    | some xs => match pairsOf xs with
      | some es => mkD m (es.foldl (fun g e => dput g e.1 e.2) []) st
      | none => .no
    | none => .no
  | .lower => match a with
    | .str [c] => if 65 ≤ c ∧ c ≤ 90 then .ok (.str [c + 32]) st else .no
    | _ => .no
  | _ => .no
def prim2F (p : P) (a b : D) (st : Store) : RE :=
  match p with
  | .op o => opF o a b st
  | .ix => match a with
    | .str s => match b with
      | .int j => if s.length ≤ lim then ofO st ((atL s j).map oneS) else .no
      | _ => .no
    | _ => match dctOf st a with
      | some es => match plOf b with
        | some k => ofO st (dget es k)
        | none => .no
      | none => match seqOf st a, b with
        | some xs, .int j => ofO st (atL xs j)
        | _, _ => .no
  | .find => match a, b with
    | .str s, .str t => .ok (.int (findT s t)) st
    | _, _ => .no
  | .split m => match a, b with
    | .str s, .str t => match t with
      | [c] => if c < 256 ∧ s.length + 2 ≤ lim then mkL m ((splT c s).map .str) st else .no
      | _ => .no
    | _, _ => .no
  | .sidx => match a, b with
    | .str s, .str t => if 0 ≤ findT s t then .ok (.int (findT s t)) st else .no
    | _, _ => .no
  | .index => match lstOf st a, plOf b with
    | some xs, some p => match plsOf xs with
      | some ps => if p ∈ ps then .ok (.int (ps.idxOf p : Nat)) st else .no
      | none => .no
    | some xs, none => match b with
      | .str t => match txsOf xs with
        | some ts => if t ∈ ts then .ok (.int (ts.idxOf t : Nat)) st else .no
        | none => .no
      | _ => .no
    | _, _ => .no
  | .dpop1 => match a, plOf b with
    | .ref n, some k => match st[n]? with
      | some (.dct es) => match dget es k with
        | some v => .ok v (st.set n (.dct (ddrop es k)))
        | none => .no
      | _ => .no
    | _, _ => .no
  | .max2 => match a, b with
    | .int i, .int j => .ok (.int (if j > i then j else i)) st
    | _, _ => .no
  | .min2 => match a, b with
    | .int i, .int j => .ok (.int (if j < i then j else i)) st
    | _, _ => .no
  | .append => match a with
    | .ref n => match st[n]? with
      | some (.lst xs) => if xs.length < lim then .ok .non (st.set n (.lst (xs ++ [b]))) else .no
      | _ => .no
    | _ => .no
  | .lrng m => match a, b with
    | .int i, .int j => if ((-(2 ^ 62) ≤ i ∧ i < 2 ^ 62) ∧ (-(2 ^ 62) ≤ j ∧ j < 2 ^ 62)) ∧ (j - i).toNat ≤ lim then mkL m (rangeD i j) st else .no
    | _, _ => .no
  | .dget => match dctOf st a, plOf b with
    | some es, some k => .ok ((dget es k).getD .non) st
    | _, _ => .no
  | .join => match a with
    | .str s => match lstOf st b with
      | some xs => match txsOf xs with
        | some ts => if (ts.map List.length).sum + ts.length * s.length ≤ lim then .ok (.str (joinT s ts)) st else .no
        | none => .no
      | none => .no
    | _ => .no
  | _ => .no
def prim3F (p : P) (a b c : D) (st : Store) : RE :=
  match p with
  | .insert => match a, b with
    | .ref n, .int i => match st[n]? with
      | some (.lst xs) => if xs.length < lim ∧ 0 ≤ i ∧ i < 2 ^ 63 then .ok .non (st.set n (.lst (xs.take i.toNat ++ [c] ++ xs.drop i.toNat))) else .no
      | _ => .no
    | _, _ => .no
  | .dpop => match a, plOf b with
    | .ref n, some k => match st[n]? with
      | some (.dct es) => match dget es k with
        | some v => .ok v (st.set n (.dct (ddrop es k)))
        | none => .ok c st
      | _ => .no
    | _, _ => .no
  | .setd => match a, plOf b with
    | .ref n, some k => match st[n]? with
      | some (.dct es) => if es.length < lim then match dget es k with
          | some v => .ok v st
          | none => .ok c (st.set n (.dct (dput es k c)))
        else .no
      | _ => .no
    | _, _ => .no
  | .min3 => match a, b, c with
    | .int i, .int j, .int k => .ok (.int (if k < (if j < i then j else i) then k else if j < i then j else i)) st
    | _, _, _ => .no
  | _ => .no
def filtS (k : SK) (r : RS) : RS := match k with
  | .itv => match r with
    | .exc _ _ _ => .no
    | x => x
  | _ => r
def primF (p : P) (ds : List D) (st : Store) : RE :=
  match p with
  | .tup => if ds.length ≤ 1000 then .ok (.tup ds) st else .no
  | .lst m => if ds.length ≤ 1000 then mkL m ds st else .no
  | .dnew => match ds with
    | [] => mkD true [] st
    | _ => .no
  | _ => match ds with
    | [a] => prim1F p a st
    | [a, b] => prim2F p a b st
    | [a, b, c] => prim3F p a b c st
    | _ => .no

def okRecv (p : P) (x : D) (st : Store) : Bool := match p with
  | .append => (lstOf st x).isSome
  | .pop => (lstOf st x).isSome
  | .insert => (lstOf st x).isSome
  | .clear => (lstOf st x).isSome
  | .rev => (lstOf st x).isSome
  | .dget => (dctOf st x).isSome
  | .setd => match x with
    | .ref n => match st[n]? with
      | some (.dct _) => true
      | _ => false
    | _ => false
  | .dpop => match x with
    | .ref n => match st[n]? with
      | some (.dct _) => true
      | _ => false
    | _ => false
  | .dpop1 => match x with
    | .ref n => match st[n]? with
      | some (.dct _) => true
      | _ => false
    | _ => false
  | .dclr => match x with
    | .ref n => match st[n]? with
      | some (.dct _) => true
      | _ => false
    | _ => false
  | .index => (lstOf st x).isSome
  | .sidx => match x with
    | .str _ => true
    | _ => false
  | .join => match x with
    | .str _ => true
    | _ => false
  | .find => match x with
    | .str _ => true
    | _ => false
  | .split _ => match x with
    | .str _ => true
    | _ => false
  | .lower => match x with
    | .str _ => true
    | _ => false
  | .upper => match x with
    | .str _ => true
    | _ => false
  | _ => false
def setixF (o i v : D) (st : Store) : Option Store := match o with
  | .ref n => match st[n]? with
    | some (.lst xs) => match i with
      | .int j => (L2.ixN xs.length j).map fun m => st.set n (.lst (xs.set m v))
      | _ => none
    | some (.dct es) => match plOf i with
      | some k => if es.length < lim then some (st.set n (.dct (dput es k v))) else none
      | none => none
    | _ => none
  | _ => none
def partOf : D → Option (Option Int)
  | .non => some none
  | .int i => some (some i)
  | _ => none
def partR (h : Bool) (r : RE) (st : Store) : RE := if h then r.bind fun d s => match d with | .int i => .ok (.int i) s | _ => .no else .ok .non st
def slcF (m : Bool) (a lo hi : D) (st : Store) : RE := match partOf lo, partOf hi with
  | some l, some h => match a with
    | .str s => if s.length ≤ lim then .ok (.str (cutL s l h)) st else .no
    | .tup xs => .ok (.tup (cutL xs l h)) st
    | _ => match lstOf st a with
      | some xs => mkL m (cutL xs l h) st
      | none => .no
  | _, _ => .no

abbrev Cl := Nat → List D → Store → RE
def isCls (x y : Nat) : Bool := y == 9 || y == 0 || x == y
def clE (cl : Cl) (e : Ex) : Cl := fun f args st =>
  if 3000000 ≤ f then cl (f - 3000000) [.int e.cls] st else
  if f = 2000000 then (match e.at_ with
    | some i => .ok (.int i) st
    | none => .no)
  else if 1000000 ≤ f ∧ f < 1000010 then .ok (.bl (isCls e.cls (f - 1000000))) st else cl f args st
def raise2F (x : D) (ds : DS) (st2 : Store) : RS := match x with
  | .int i => .exc ⟨2, some i⟩ ds st2
  | _ => .no
def unb (i : Nat) : RS → RS
  | .nx ds st => .nx (ds.set i none) st
  | .rt d st => .rt d st
  | _ => .no
def pcall (cl : Cl) (f : Nat) (raw : Bool) (args : List D) (st : Store) : RE :=
  match rsvs st args with
  | none => .no
  | some args' => match cl f args' [] with
    | .ok d S =>
      if raw then (if noRefs args || (flatR d && S.all flatC) then .ok (shift st.length d) (st ++ S.map (shiftC st.length)) else .no)
      else match rsv S d with
        | some d' => if noRefs args || flat d' then .ok d' st else .no
        | none => .no
    | .exc e _ => .exc e st
    | .no => .no

def rsvNX (st : Store) (l : Nat) : Nat → D → Option D
  | 0, _ => none
  | k + 1, d => mapRef (fun n => if n = l then none else match st[n]? with
    | some (.lst xs) => (mapRefs (fun m => rsvNX st l k (.ref m)) xs).map .lst
    | some (.lckL xs) => (mapRefs (fun m => rsvNX st l k (.ref m)) xs).map .lst
    | some (.dct es) => (mapRefE (fun m => rsvNX st l k (.ref m)) es).map .dct
    | some (.lckD es) => (mapRefE (fun m => rsvNX st l k (.ref m)) es).map .dct
    | none => none) d
def semiD (ds : List D) (S : Store) (k : Nat) : Option (D × Cell) := match ds.getLast? with
  | some (.ref l) => match S[l]? with
    | some (.lst xs) => if noRefs xs then (mapRefs (fun n => rsvNX S l 20 (.ref n)) ds.dropLast).map fun ys => (.tup (ys ++ [.ref k]), .lst xs) else none
    | _ => none
  | _ => none
def scall (cl : Cl) (f : Nat) (args : List D) (st : Store) : RE := if noRefs args then match cl f args [] with
    | .ok (.tup ds) S => match semiD ds S st.length with
      | some (d, c) => .ok d (st ++ [c])
      | none => .no
    | .ok _ _ => .no
    | .exc e _ => .exc e st
    | .no => .no
  else .no
mutual
def dctF (st : Store) : D → Option D
  | .tup xs => (dctFs st xs).map .tup
  | .ref n => match st[n]? with
    | some (.dct es) => if noRefE es then some (.dct es) else none
    | some (.lckD es) => if noRefE es then some (.dct es) else none
    | _ => none
  | .non => some .non
  | .bl b => some (.bl b)
  | .int i => some (.int i)
  | .str s => some (.str s)
  | .scr ns => some (.scr ns)
  | .exc c i => some (.exc c i)
  | .lst xs => if noRefs xs then some (.lst xs) else none
  | .dct es => if noRefE es then some (.dct es) else none
def dctFs (st : Store) : List D → Option (List D)
  | [] => some []
  | x :: xs => match dctF st x, dctFs st xs with
    | some y, some ys => some (y :: ys)
    | _, _ => none
end
mutual
def lstO : D → Bool
  | .tup xs => lstOs xs
  | .lst xs => lstOs xs
  | .dct _ => false
  | .scr _ => false
  | .ref _ => false
  | .exc _ _ => false
  | _ => true
def lstOs : List D → Bool
  | [] => true
  | x :: xs => lstO x && lstOs xs
end
def dcall (cl : Cl) (f : Nat) (args : List D) (st : Store) : RE := match dctFs st args with
  | some args' => match cl f args' [] with
    | .ok d _ => if lstO d then .ok d st else .no
    | .exc e _ => .exc e st
    | .no => .no
  | none => .no
def xcall (k : Nat) (cl : Cl) (f : Nat) (args : List D) (st : Store) : RE := if k = 0 then scall cl f args st else dcall cl f args st
def forB (body : DS → Store → RS) (v : Nat) : List D → DS → Store → RS
  | [], ds, st => .nx ds st
  | d :: r, ds, st => match body (ds.set v (some d)) st with
    | .nx ds' st' => forB body v r ds' st'
    | .ct ds' st' => forB body v r ds' st'
    | .bk ds' st' => .nx ds' st'
    | x => x
def forE (body : DS → Store → RS) (i v : Nat) : Nat → List D → DS → Store → RS
  | _, [], ds, st => .nx ds st
  | k, d :: r, ds, st => match body ((ds.set i (some (.int (k : Nat)))).set v (some d)) st with
    | .nx ds' st' => forE body i v (k + 1) r ds' st'
    | .ct ds' st' => forE body i v (k + 1) r ds' st'
    | .bk ds' st' => .nx ds' st'
    | x => x
def whlB (c : DS → Store → RE) (body : DS → Store → RS) : Nat → DS → Store → RS
  | 0, _, _ => .no
  | k + 1, ds, st => (c ds st).bindS ds fun b st' => match b with
    | .bl true => match body ds st' with
      | .nx ds' st2 => whlB c body k ds' st2
      | .ct ds' st2 => whlB c body k ds' st2
      | .bk ds' st2 => .nx ds' st2
      | x => x
    | .bl false => .nx ds st'
    | _ => .no
def compB (elt cond : DS → Store → RE) (v : Nat) : List D → List D → DS → Store → Option (List D × Store)
  | [], acc, _, st => some (acc, st)
  | d :: r, acc, ds, st => match cond (ds.set v (some d)) st with
    | .ok (.bl true) st1 => match elt (ds.set v (some d)) st1 with
      | .ok y st2 => if acc.length < lim then compB elt cond v r (acc ++ [y]) ds st2 else none
      | _ => none
    | .ok (.bl false) st1 => compB elt cond v r acc ds st1
    | _ => none
def compF (m : Bool) (elt cond : DS → Store → RE) (v : Nat) (k : SK) (src : List D) (ds : DS) (st : Store) : RE :=
  match srcF k src st with
  | some (none, xs) => match compB elt cond v xs [] ds st with
    | some (ys, st') => mkL m ys st'
    | none => .no
  | some (some n, xs) => match lock n st with
    | some st1 => match compB elt cond v xs [] ds st1 with
      | some (ys, st') => match unlock n st' with
        | some st2 => mkL m ys st2
        | none => .no
      | none => .no
    | none => .no
  | none => .no

def mkxF (c : Nat) (xs : List D) (st : Store) : RE := match xs with
  | [_] => .ok (.exc c (if c = 2 then some 0 else none)) st
  | [_, .int i] => if c = 2 then .ok (.exc 2 (some i)) st else .no
  | _ => .no
def isxF (c : Nat) (x : D) (st : Store) : RE := match x with
  | .exc y _ => .ok (.bl (isCls y c)) st
  | _ => .no
def atxF (x : D) (st : Store) : RE := match x with
  | .exc _ (some i) => .ok (.int i) st
  | _ => .no
mutual
def evE (cl : Cl) : E → DS → Store → RE
  | .var i, ds, st => match ds[i]? with
    | some (some d) => .ok d st
    | _ => .no
  | .k d, _, st => .ok d st
  | .glob _ d, _, st => .ok d st
  | .pr p es, ds, st => (evL cl es ds st).bind fun xs st' => primF p xs st'
  | .mth p o es, ds, st => (evE cl o ds st).bind fun x st1 => if okRecv p x st1 then (evL cl es ds st1).bind fun ys st2 => primF p (x :: ys) st2 else .no
  | .slc m hl hh a lo hi, ds, st => (evE cl a ds st).bind fun x st1 => (partR hl (evE cl lo ds st1) st1).bind fun l st2 => (partR hh (evE cl hi ds st2) st2).bind fun h st3 => slcF m x l h st3
  | .and a b, ds, st => (evE cl a ds st).bind fun x st1 => match x with
    | .bl true => evE cl b ds st1
    | .bl false => .ok (.bl false) st1
    | _ => .no
  | .or a b, ds, st => (evE cl a ds st).bind fun x st1 => match x with
    | .bl true => .ok (.bl true) st1
    | .bl false => evE cl b ds st1
    | _ => .no
  | .not a, ds, st => (evE cl a ds st).bind fun x st1 => match x with
    | .bl b => .ok (.bl (!b)) st1
    | _ => .no
  | .ife c a b, ds, st => (evE cl c ds st).bind fun x st1 => match x with
    | .bl true => evE cl a ds st1
    | .bl false => evE cl b ds st1
    | _ => .no
  | .chain o o' a b c, ds, st => (evE cl a ds st).bind fun x st1 => (evE cl b ds st1).bind fun y st2 => (opF o x y st2).bind fun z st3 => match z with
    | .bl true => (evE cl c ds st3).bind fun w st4 => opF o' y w st4
    | .bl false => .ok (.bl false) st3
    | _ => .no
  | .call f raw es, ds, st => (evL cl es ds st).bind fun xs st' => pcall cl f raw xs st'
  | .callM f es, ds, st => (evL cl es ds st).bind fun xs st' => cl f xs st'
  | .callX k f es, ds, st => (evL cl es ds st).bind fun xs st' => xcall k cl f xs st'
  | .comp m v elt k src cond, ds, st => (evL cl src ds st).bind fun xs st' => compF m (evE cl elt) (evE cl cond) v k xs ds st'
  | .exis c, _, st => cl (1000000 + c) [] st
  | .exat, _, st => cl 2000000 [] st
  | .exk f, _, st => cl (3000000 + f) [] st
  | .mkx c es, ds, st => (evL cl es ds st).bind fun xs st' => mkxF c xs st'
  | .isx c a, ds, st => (evE cl a ds st).bind fun x st' => isxF c x st'
  | .atx a, ds, st => (evE cl a ds st).bind fun x st' => atxF x st'
def evL (cl : Cl) : List E → DS → Store → R (List D)
  | [], _, st => .ok [] st
  | e :: es, ds, st => (evE cl e ds st).bind fun x st1 => (evL cl es ds st1).bind fun xs st2 => .ok (x :: xs) st2
end
def whlFuel : Nat := 1000000
def strkF (i : Nat) (n : Int) (c : Nat) (fl : DS → Store → RE) : DS → Store → RS := fun ds st => (fl ds st).bindS ds fun d st' => match d, ds[i]? with
  | .int l, some (some (.str s)) => if n < l then (if s.length ≤ 1000000 then .nx (ds.set i (some (.str (s.filter (· != c))))) st' else .no) else .nx ds st'
  | _, _ => .no
def strxF (i j c : Nat) : DS → Store → RS := fun ds st => match ds[j]? with
  | some (some (.str s)) => if s.length ≤ 1000000 then .nx (ds.set i (some (.str (s.filter (· != c))))) st else .no
  | _ => .no
mutual
def evS (cl : Cl) : S → DS → Store → RS
  | .set i e, ds, st => (evE cl e ds st).bindS ds fun d st' => .nx (ds.set i (some d)) st'
  | .setix o i v, ds, st => (evE cl v ds st).bindS ds fun x st1 => (evE cl o ds st1).bindS ds fun y st2 => (evE cl i ds st2).bindS ds fun z st3 => match setixF y z x st3 with
    | some st4 => .nx ds st4
    | none => .no
  | .expr e, ds, st => (evE cl e ds st).bindS ds fun _ st' => .nx ds st'
  | .ret e, ds, st => (evE cl e ds st).bindS ds fun d st' => .rt d st'
  | .ifs c a b, ds, st => (evE cl c ds st).bindS ds fun x st' => match x with
    | .bl true => evB cl a ds st'
    | .bl false => evB cl b ds st'
    | _ => .no
  | .whl c b, ds, st => whlB (evE cl c) (evB cl b) whlFuel ds st
  | .for v k src b, ds, st => (evL cl src ds st).bindS ds fun xs st' => match srcF k xs st' with
    | some (none, items) => filtS k (forB (evB cl b) v items ds st')
    | some (some n, items) => match lock n st' with
      | some st1 => unlockS n (forB (evB cl b) v items ds st1)
      | none => .no
    | none => .no
  | .forE i v src b, ds, st => (evE cl src ds st).bindS ds fun d st' => match d with
    | .lst items => forE (evB cl b) i v 0 items ds st'
    | _ => .no
  | .brk, ds, st => .bk ds st
  | .cnt, ds, st => .ct ds st
  | .pass, ds, st => .nx ds st
  | .dead, _, _ => .no
  | .hd _ _ _, _, _ => .no
  | .strk i n c, ds, st => strkF i n c (evE cl (.pr .len [.var i])) ds st
  | .strx i j c, ds, st => strxF i j c ds st
  | .tri b hs, ds, st => match evB cl b ds st with
    | .exc e ds' st' => evH cl hs e ds' st'
    | x => x
  | .raise c m a, ds, st => (evE cl m ds st).bindS ds fun _ st1 => (evE cl a ds st1).bindS ds fun x st2 => match x with
    | .non => if c = 2 then .no else .exc ⟨c, none⟩ ds st2
    | .int i => if c = 2 then .exc ⟨c, some i⟩ ds st2 else .no
    | _ => .no
def evB (cl : Cl) : List S → DS → Store → RS
  | [], ds, st => .nx ds st
  | s :: r, ds, st => match evS cl s ds st with
    | .nx ds' st' => evB cl r ds' st'
    | x => x
def evH (cl : Cl) : List S → Ex → DS → Store → RS
  | [], e, ds, st => .exc e ds st
  | .hd c none b :: r, e, ds, st => if isCls e.cls c then (match evB cl b ds st with
    | .exc _ _ _ => .no
    | x => x) else evH cl r e ds st
  | .hd c (some i) b :: r, e, ds, st => if isCls e.cls c then (if i < ds.length then unb i (evB (clE cl e) b (ds.set i none) st) else .no) else evH cl r e ds st
  | _ :: _, _, _, _ => .no
end
def hotR : RS → RE
  | .rt d st' => .ok d st'
  | .nx _ st' => .ok .non st'
  | _ => .no
def hotNp : Nat := 1000001
def callF (T : Nat → Option Fn) : Nat → Cl
  | 0, _, _, _ => .no
  | n + 1, f, args, st => match T f with
    | none => .no
    | some fn => if fn.np = hotNp then (match args with
        | [.int c] => hotR (evB (clE (callF T n) ⟨c.toNat, none⟩) fn.body (List.replicate fn.ns none) st)
        | _ => .no)
      else if args.length = fn.np then match evB (callF T n) fn.body (args.map some ++ List.replicate (fn.ns - fn.np) none) st with
        | .rt d st' => .ok d st'
        | .nx _ st' => .ok .non st'
        | .exc e _ st' => .exc e st'
        | _ => .no
      else .no
end MP
end
section
set_option maxRecDepth 100000
set_option maxHeartbeats 8000000
namespace MP
open PySem PySem.Spec PySem.Calls PyProof.Rows L2
def strOf (s : Tx) : Str := ⟨s.toArray⟩
def bltNames : List Str := ["len", "max", "min", "sum", "list", "int", "abs", "all", "isinstance", "range", "bool", "str", "tuple", "dict", "sorted", "set", "enumerate", "ValueError"]
def clsName : Nat → Str
  | 0 => "SlateError"
  | 1 => "BadPlace"
  | 2 => "BadFormula"
  | 3 => "TooGreat"
  | 4 => "NoRing"
  | 5 => "BadSize"
  | 6 => "Outside"
  | 7 => "BadSpan"
  | _ => "BadRow"
def locB (sc : Scope) (x : Str) : Bool := match sc.names.lookup x with
  | some .local => true
  | some .cell => true
  | _ => false
structure Ent where
  id : Nat
  i : Nat
  x : Str
  ps : List Str
  N : List Str
  fn : Fn
def scopeB (N ps : List Str) (sc : Scope) : Bool :=
  decide (sc.kind = .function) && decide (sc.isCoroutine = false) && decide (sc.isGenerator = false) && decide N.Nodup && decide (N.take ps.length = ps) && ps.all (locB sc) && sc.names.all (fun y => decide (y.2 ≠ .free))
def excCB (K : PySem.W.Frag) (D : Addr) : Bool :=
  decide (PySem.W.findIn K (.ref D) "__getattribute__" = some (some (.builtin "BaseException.__getattribute__"))) && decide (PySem.W.findIn K (.ref D) "__getattr__" = some none) &&
  decide (PySem.W.subIn K (.ref D) (.type "BaseException") = some true) && PySem.W.hasDictIn K D && decide (PySem.W.findIn K (.ref D) "__class__" = some (some (.builtin "object.__class__"))) &&
  decide (PySem.W.specialIn K (.builtin "object.__class__") "__get__" = some (some (.builtin "getset_descriptor.__get__"))) && decide (PySem.W.takesIn K (.builtin "object.__class__") = some true) &&
  decide (PySem.W.mroIn K D (.type "object") = some true)
def oexCB (K : PySem.W.Frag) (C : Addr) : Bool := (match K.lookup C with
  | some ⟨.type "type", _, .cls cd, sl⟩ => (match cd.mro, sl.toList with
    | .ref C' :: bm, [_, _, _, _, some (.builtin n), _] => C' == C && n == "ValueError.__new__" && !cd.hasDel && cd.hasDict && PySem.HandSPX.refsVE bm
    | _, _ => false)
  | _ => false) && (decide (PySem.W.findIn K (.ref C) "__setattr__" = some (some (.builtin "object.__setattr__"))) && (decide (PySem.W.subIn K (.ref C) (.type "BaseException") = some true) && (decide (PySem.W.typeIn K (.ref C) = some (.type "type")) && PySem.W.keepIn K (.ref C))))
def iniAt : Str × Option Str := ("BadFormula", some "__init__")
def iniB (K : PySem.W.Frag) : Bool := match He.fnW K iniAt with
  | some (nm, q, ⟨[], [⟨a1, _, _⟩, ⟨a2, _, _⟩, ⟨a3, _, _⟩], none, [], [], none, [_]⟩, .stmts [.Expr (.Call (.Attribute (.Name b _) m q2) [.Name s _, .Name w _] [] q5) _, .Assign [.Attribute (.Name s2 _) f _] (.Name t _) _], sc, g, [], bi) =>
    decide (nm = "__init__") && (decide (a1 = "self") && (decide (a2 = "words") && (decide (a3 = "at") && (decide (m = "__init__") && (decide (s = "self") && (decide (w = "words") && (decide (s2 = "self") && (decide (f = "at") && (decide (t = "at") && (decide (g = mainGlobals) && (decide (bi = builtinsNs) && ((q2.endLine == q5.line) &&
    (scopeB ["self", "words", "at"] ["self", "words", "at"] sc && ((["self", "words", "at"] : List Str).all (fun x => decide (sc.names.lookup x = some .local)) && (decide (sc.names.lookup b = some .globalImplicit) && (!(b == ("__debug__" : Str)) && ((He.Fa.glo b).ok K &&
    (decide (PySem.W.specialIn K (.ref (He.ga K b)) "__getattribute__" = some (some (.builtin "type.__getattribute__"))) && (PySem.W.readsIn K (He.ga K b) (.type "type") && ((match PySem.W.findCls K (.ref (He.ga K b)) (.type "type") "__init__" with | some (.val v) => v == .builtin "ValueError.__init__" | _ => false) &&
    (PySem.W.keepIn K (.ref (He.fAd K iniAt)) && (match K.lookup (He.fAd K iniAt) with
      | some ⟨_, _, .func fd, _⟩ => PySem.W.codeIn K fd.code q && (He.dflB K fd.defaults [V.int 0] && He.kwdB K fd.kwdefaults [])
      | _ => false))))))))))))))))))))))
  | _ => false
def mkAtB (K : PySem.W.Frag) : Bool := oexCB K (He.ga K "BadFormula") && (decide (PySem.W.findIn K (.ref (He.ga K "BadFormula")) "at" = some none) && (decide (PySem.W.findIn K (.ref (He.ga K "BadFormula")) "__init__" = some (some (.ref (He.fAd K iniAt)))) && (decide (PySem.W.typeIn K (.ref (He.fAd K iniAt)) = some (.type "function")) && iniB K)))
inductive Con where
  | int (x : Str) (i : Int)
  | str (x : Str) (z : Tx)
  | tup (x : Str) (zs : List Tx)
def Con.name : Con → Str
  | .int x _ => x
  | .str x _ => x
  | .tup x _ => x
def Con.val : Con → D
  | .int _ i => .int i
  | .str _ z => .str z
  | .tup _ zs => .tup (zs.map .str)
def Con.fa : Con → He.Fa
  | .int x i => .int x i
  | .str x z => .str x (strOf z)
  | .tup x _ => .glo x
def Con.good : Con → Bool
  | .int _ _ => true
  | .str _ z => z.all fun c => decide (c < 0x110000)
  | .tup _ zs => decide (zs.length ≠ 2) && zs.all fun z => z.all fun c => decide (c < 0x110000)
def Con.tups : Con → Option (Str × List He.Dv)
  | .tup x zs => some (x, zs.map fun z => .str (strOf z))
  | _ => none
def faTab (tab : List Ent) (cs : List Con) : List He.Fa := tab.map (fun e => .glo e.x) ++ (bltNames.map .free ++ cs.map Con.fa)
def fnTab (tab : List Ent) (st : Nat → Stmt) : List He.DefD := tab.map fun e => ⟨(e.x, none), e.x, e.x, defArgs (st e.i), defBody (st e.i), defScope (st e.i), [], []⟩
abbrev Tps := List (Str × List He.Dv) × List Nat
def excB0 (es : List Nat) (K : PySem.W.Frag) : Bool := es.all fun x => (He.Fa.glo (clsName x)).ok K && (x == 2 || (He.Fa.exc (clsName x)).ok K) && excCB K (He.ga K (clsName x)) &&
  decide (PySem.W.kitOne K (.ref (He.ga K (clsName x))) (.type "ValueError") = some true) &&
  es.all fun y => (He.Fa.exm (clsName x) (clsName y) (isCls x y)).ok K && decide (PySem.W.kitOne K (.ref (He.ga K (clsName x))) (.ref (He.ga K (clsName y))) = some (isCls x y))
def badB (es : List Nat) (K : PySem.W.Frag) : Bool := es.all fun x => x != 2 || (xfB K (He.ga K (clsName 2)) && (decide (PySem.W.findIn K (.ref (He.ga K (clsName 2))) "at" = some none) && mkAtB K))
def excB (es : List Nat) (K : PySem.W.Frag) : Bool := excB0 es K && badB es K
def tupsB (ts : Tps) (K : PySem.W.Frag) : Bool := (ts.1.all fun t => He.tupB K t.1 t.2) && excB ts.2 K
abbrev AlC : Type := Bool × He.AlD
def SaysC (fa : List He.Fa) (fn : List He.DefD) (ts : Tps) (K : PySem.W.Frag) : Prop := (tupsB ts K, He.obsD fa fn K) = (true, He.valD fn)
def asX (g : Addr → Option Obj) : List Addr := He.growD g (He.growD g (He.growD g [He.ga (He.frG g (He.asD g 1)) (clsName 2)]))
def asC (ts : Tps) (g : Addr → Option Obj) (n : Nat) : List Addr := if ts.2.contains 2 then cStatics :: (He.asD g n ++ asX g) else He.asD g n
def obsCG (n : Nat) (fa : List He.Fa) (fn : List He.DefD) (ts : Tps) (g : Addr → Option Obj) : AlC := (tupsB ts (He.frG g (asC ts g n)), He.obsD fa fn (He.frG g (asC ts g n)))
def hookC (n : Nat) (fa : List He.Fa) (fn : List He.DefD) (ts : Tps) : PySem.W.Hook where
  α := AlC
  obs := fun s => obsCG n fa fn ts s.heap.get?
  val := fun _ => (true, He.valD fn)
  says := fun _ h => ∃ K : PySem.W.Frag, K.In h ∧ SaysC fa fn ts K
  of := fun _ _ e => ⟨_, He.frG_in, e⟩
  keeps := fun _ _ _ ⟨K, hK, c⟩ k => ⟨K, PySem.W.Frag.In.keeps hK k, c⟩
theorem obsCG_eq {n : Nat} {fa : List He.Fa} {fn : List He.DefD} {ts : Tps} {g : Addr → Option Obj} {s : Shared} (h : ∀ a, g a = s.heap.get? a) : obsCG n fa fn ts g = (hookC n fa fn ts).obs s := by
  have e : g = s.heap.get? := funext h
  rw [e] <;> rfl
def tupsOf (cs : List Con) (es : List Nat) : Tps := (cs.filterMap Con.tups, es)
end MP
end
namespace FL
open MP
def fn_cell_at_L1 : MP.Fn := ⟨2, 2, [.ifs (.pr (.op .lt) [.var 1, .pr .len [.var 0]]) [.ret (.pr .ix [.var 0, .var 1])] [], .ret (.k (.int 0))]⟩
def fn_kinds_L : MP.Fn := ⟨1, 2, [.set 1 (.pr (.lst false) [.isx 1 (.var 0), .isx 2 (.var 0), .isx 3 (.var 0)]), .set 1 (.pr (.op (.add false)) [.var 1, .pr (.lst false) [.isx 4 (.var 0), .isx 5 (.var 0), .isx 6 (.var 0)]]), .ret (.pr (.op (.add false)) [.var 1, .pr (.lst false) [.isx 7 (.var 0), .isx 8 (.var 0)]])]⟩
def fn_made_L1 : MP.Fn := ⟨2, 2, [.ifs (.pr (.op .eq) [.var 0, .k (.int 0)]) [.ret (.mkx 1 [.var 1])] [], .ifs (.pr (.op .eq) [.var 0, .k (.int 1)]) [.ret (.mkx 2 [.var 1])] [], .ifs (.pr (.op .eq) [.var 0, .k (.int 2)]) [.ret (.mkx 3 [.var 1])] [], .ifs (.pr (.op .eq) [.var 0, .k (.int 3)]) [.ret (.mkx 4 [.var 1])] [], .ifs (.pr (.op .eq) [.var 0, .k (.int 4)]) [.ret (.mkx 5 [.var 1])] [], .ifs (.pr (.op .eq) [.var 0, .k (.int 5)]) [.ret (.mkx 6 [.var 1])] [], .ifs (.pr (.op .eq) [.var 0, .k (.int 6)]) [.ret (.mkx 7 [.var 1])] [], .ret (.mkx 8 [.var 1])]⟩
def fn_whole_L : MP.Fn := ⟨1, 1, [.ret (.and (.pr (.isi .int) [.var 0]) (.not (.pr (.isi .bool) [.var 0])))]⟩
def fn_law_k11_t1 : MP.E := .or (.not (.isx 0 (.var 5))) (.or (.not (.call 3 false [.atx (.var 5)])) (.pr (.op .ne) [.atx (.var 5), .var 4]))
def fn_law_k11_e1 : MP.E := .pr (.op .eq) [.var 6, .var 1]
def fn_law_k11 : MP.Fn := ⟨1, 7, [.set 1 (.pr (.op .mod) [.call 1 false [.var 0, .k (.int 0)], .k (.int 8)]), .set 2 (.slc false false true (.k (.str [97, 98, 99, 100, 101, 102, 103, 104])) (.k .non) (.pr (.op .mod) [.call 1 false [.var 0, .k (.int 1)], .k (.int 9)])), .set 3 (.call 0 false [.var 1, .var 2]), .ifs (.or (.not (.isx 0 (.var 3))) (.not (.isx 9 (.var 3)))) [.ret (.k (.bl false))] [], .ifs (.and (.pr (.op .eq) [.var 1, .k (.int 1)]) (.not (.and (.call 3 false [.atx (.var 3)]) (.pr (.op .eq) [.atx (.var 3), .k (.int 0)])))) [.ret (.k (.bl false))] [], .set 4 (.pr (.op .mod) [.call 1 false [.var 0, .k (.int 2)], .pr (.op .pow) [.k (.int 10), .k (.int 9)]]), .set 5 (.mkx 2 [.var 2, .var 4]), .ifs fn_law_k11_t1 [.ret (.k (.bl false))] [], .ret (.pr (.op .eq) [.call 2 false [.var 3], .comp false 6 fn_law_k11_e1 .rng1 [.k (.int 8)] (.k (.bl true))])]⟩
end FL
section
set_option maxHeartbeats 0
namespace K11
open PySem MP
def tab : List MP.Ent := [⟨0, 13, "_law_made", ["_law_kind", "_law_words"], ["_law_kind", "_law_words"], FL.fn_made_L1⟩,
  ⟨1, 11, "_law_cell_at", ["_law_script", "_law_k"], ["_law_script", "_law_k"], FL.fn_cell_at_L1⟩,
  ⟨2, 14, "_law_kinds", ["_law_error"], ["_law_error", "_law_found"], FL.fn_kinds_L⟩,
  ⟨3, 12, "_law_whole", ["_law_found"], ["_law_found"], FL.fn_whole_L⟩,
  ⟨4, 15, "law", ["_law_script"], ["_law_script", "_law_kind", "_law_words", "_law_error", "_law_number", "_law_stood_at", "_law_k"], FL.fn_law_k11⟩]
def cons : List MP.Con := []
def exs : List Nat := [0, 1, 2, 3, 4, 5, 6, 7, 8]
def st (i : Nat) : Stmt := PySem.Challenge.pw_slate_k11_refusals_apart.main.body.getD i (.Pass ⟨0, 0, 0, 0⟩)
abbrev Rw : PySem.W.OpenRow := PySem.W.OpenLaw.row PySem.Challenge.rw_slate_k11_refusals_apart
abbrev hk : PySem.W.Hook := hookC 2 (faTab tab cons) (fnTab tab st) (tupsOf cons exs)
def ob (s : PySem.W.SharedT) : MP.AlC := obsCG 2 (faTab tab cons) (fnTab tab st) (tupsOf cons exs) (HandSHeadRun.getT s)
theorem ob_eq (s : PySem.W.SharedT) : ob s = hk.obs s.abs := obsCG_eq (HandSHeadRun.getT_eq s)
def loose : List PySem.Str := ["SlateError", "BadPlace", "BadFormula", "TooGreat", "NoRing", "BadSize", "Outside", "BadSpan", "BadRow", "_law_cell_at", "_law_whole", "_law_made", "_law_kinds"]
theorem run (w : World) : HandSHeadRun.RunEq Rw (PySem.W.view Rw.prog [15]) hk ob 4000 loose w := fun os => by kernel_rfl
end K11
end
section
set_option maxRecDepth 100000
set_option maxHeartbeats 4000000
namespace MP
open PySem PySem.Spec PyProof.Rows L2

def txOk (s : Tx) : Prop := ∀ c ∈ s, c < 0x110000
def kP (p : Pl) : List Key := [Sum.inl p.1, Sum.inl p.2]
def TupAt (K : PySem.W.Frag) (H : Hp) (a : Addr) (vs : List V) : Prop :=
  H a = some (.tup vs) ∨ (vs.length ≠ 2 ∧ ∃ (o : Obj) (its : Array Value) (n : Nat), K.lookup a = some o ∧ o.cls = .type "tuple" ∧ o.data = .seq its n ∧ its.size ≤ sizeLine ∧ Vals vs its.toList)
theorem TupAt.sq {K : PySem.W.Frag} {H : Hp} {a : Addr} {vs : List V} (h : TupAt K H a vs) : SqT K H a vs := by
  rcases h with h | ⟨_, h⟩
  · exact .inl (.inl h)
  · exact .inr h
def exT : HO := .ext fun _ => True
def ExcAt (K : PySem.W.Frag) (H : Hp) (c : Nat) (i : Option Int) (oe : Obj) : Prop := (∃ vs, oe.data = .fields vs) ∧ c < 9 ∧
  ((c ≠ 2 ∧ i = none ∧ Zc (.ref (He.ga K (clsName c))) none oe) ∨
   (c = 2 ∧ ∃ d od n t, i = some n ∧ Zc (.ref (He.ga K (clsName c))) (some d) oe ∧ H d = some (.frz od exT) ∧ PySem.W.lookIn "at" od = some (some (.int n t))))
mutual
def Rep (K : PySem.W.Frag) (ex : Addr → Prop) (H : Hp) (ρ : List Addr) : D → V → Prop
  | .non, v => v = .non
  | .bl b, v => v = .bl b
  | .int i, v => v = .int i
  | .str s, v => v = .str (strOf s) ∧ txOk s
  | .tup xs, v => ∃ a vs, v = .ref a ∧ TupAt K H a vs ∧ Reps K ex H ρ xs vs
  | .lst xs, v => ∃ a vs, v = .ref a ∧ Rd H a (.lst vs) ∧ a ∉ ρ ∧ ¬ ex a ∧ Reps K ex H ρ xs vs
  | .dct es, v => ∃ a kvs, v = .ref a ∧ Rd H a (.dT kvs) ∧ a ∉ ρ ∧ ¬ ex a ∧ RepE K ex H ρ es kvs
  | .scr ns, v => ∃ a, v = .ref a ∧ ((Rd H a (.lst (ns.map V.int)) ∧ a ∉ ρ ∧ ¬ ex a) ∨
      ∃ (o : Obj) (its : Array Value) (n : Nat), K.lookup a = some o ∧ o.cls = .type "list" ∧ o.dict = none ∧ o.data = .seq its n ∧ its.size ≤ sizeLine ∧ Vals (ns.map V.int) its.toList)
  | .ref n, v => ∃ a, ρ[n]? = some a ∧ v = .ref a
  | .exc c i, v => ∃ a oe, v = .ref a ∧ H a = some (.frz oe exT) ∧ ExcAt K H c i oe
def Reps (K : PySem.W.Frag) (ex : Addr → Prop) (H : Hp) (ρ : List Addr) : List D → List V → Prop
  | [], vs => vs = []
  | d :: ds, vs => ∃ v r, vs = v :: r ∧ Rep K ex H ρ d v ∧ Reps K ex H ρ ds r
def RepE (K : PySem.W.Frag) (ex : Addr → Prop) (H : Hp) (ρ : List Addr) : List (Pl × D) → List (List Key × V) → Prop
  | [], kvs => kvs = []
  | (p, d) :: es, kvs => ∃ v r, kvs = (kP p, v) :: r ∧ Rep K ex H ρ d v ∧ RepE K ex H ρ es r
end
def CellAt (K : PySem.W.Frag) (ex : Addr → Prop) (H : Hp) (ρ : List Addr) (c : Cell) (a : Addr) : Prop := match c with
  | .lst xs => ∃ vs, H a = some (.lst vs) ∧ Reps K ex H ρ xs vs
  | .dct es => ∃ kvs, H a = some (.dT kvs) ∧ RepE K ex H ρ es kvs
  | .lckL xs => ∃ o vs, H a = some (.frz o (.lst vs)) ∧ Reps K ex H ρ xs vs
  | .lckD es => ∃ o kvs, H a = some (.frz o (.dT kvs)) ∧ RepE K ex H ρ es kvs
structure Mem (K : PySem.W.Frag) (ex : Addr → Prop) (H : Hp) (ρ : List Addr) (st : Store) : Prop where
  len : ρ.length = st.length
  nod : ρ.Nodup
  cell : ∀ (n : Nat) (a : Addr) (c : Cell), ρ[n]? = some a → st[n]? = some c → CellAt K ex H ρ c a
  exT : ∀ a, ex a → H a ≠ none
  exD : ∀ a, a ∈ ρ → ¬ ex a
structure Ext (ρ : List Addr) (H : Hp) (ρ' : List Addr) (H' : Hp) : Prop where
  keep : ∀ a o, H a = some o → a ∉ ρ → H' a = some o
  tups : ∀ a vs, H a = some (.tup vs) → H' a = some (.tup vs)
  frzs : ∀ a o u, H a = some (.frz o u) → H' a = some (.frz o u)
  pre : ∀ (n : Nat) (a : Addr), ρ[n]? = some a → ρ'[n]? = some a
  new : ∀ a, a ∈ ρ' → a ∈ ρ ∨ H a = none
  trk : ∀ a, H a ≠ none → H' a ≠ none
theorem Ext.refl (ρ : List Addr) (H : Hp) : Ext ρ H ρ H := ⟨fun _ _ h _ => h, fun _ _ h => h, fun _ _ _ h => h, fun _ _ h => h, fun _ h => .inl h, fun _ h => h⟩
theorem mem_of_get {α : Type} {l : List α} {n : Nat} {a : α} (h : l[n]? = some a) : a ∈ l := List.mem_of_getElem? h
theorem Ext.sub {ρ ρ' : List Addr} {H H' : Hp} (e : Ext ρ H ρ' H') {a : Addr} (h : a ∈ ρ) : a ∈ ρ' := by
  obtain ⟨n, hn⟩ := List.getElem?_of_mem h
  exact mem_of_get (e.pre n a hn)
theorem Ext.trans {ρ ρ1 ρ2 : List Addr} {H H1 H2 : Hp} (a : Ext ρ H ρ1 H1) (b : Ext ρ1 H1 ρ2 H2) : Ext ρ H ρ2 H2 where
  keep := fun x o h n => b.keep x o (a.keep x o h n) fun m => by
    rcases a.new x m with m | m
    · exact n m
    · rw [h] at m; cases m
  tups := fun x vs h => b.tups x vs (a.tups x vs h)
  frzs := fun x o u h => b.frzs x o u (a.frzs x o u h)
  pre := fun n x h => b.pre n x (a.pre n x h)
  new := fun x h => by
    rcases b.new x h with h | h
    · exact a.new x h
    · refine .inr ?_
      cases q : H x with
      | none => rfl
      | some o => exact absurd h (a.trk x (by rw [q]; simp))
  trk := fun x h => b.trk x (a.trk x h)
theorem ExcAt.ext {K : PySem.W.Frag} {H H' : Hp} (hz : ∀ a o, H a = some (.frz o exT) → H' a = some (.frz o exT)) {c : Nat} {i : Option Int} {oe : Obj} (h : ExcAt K H c i oe) : ExcAt K H' c i oe := by
  obtain ⟨h1, h9, h | ⟨hc, d, od, n, t, q1, q2, q3, q4⟩⟩ := h
  · exact ⟨h1, h9, .inl h⟩
  · exact ⟨h1, h9, .inr ⟨hc, d, od, n, t, q1, q2, hz d od q3, q4⟩⟩
section
variable {K : PySem.W.Frag} {ex : Addr → Prop} {H H' : Hp} {ρ ρ' : List Addr}
theorem not_new (e : Ext ρ H ρ' H') {a : Addr} (h : H a ≠ none) (n : a ∉ ρ) : a ∉ ρ' := fun m => by
  rcases e.new a m with m | m
  · exact n m
  · exact h m
theorem Rd.ne {H : Hp} {a : Addr} {u : HO} (h : Rd H a u) : H a ≠ none := by
  rcases h with h | ⟨o, h⟩ <;> rw [h] <;> simp
theorem Rd.ext (e : Ext ρ H ρ' H') {a : Addr} {u : HO} (h : Rd H a u) (n : a ∉ ρ) : Rd H' a u := by
  rcases h with h | ⟨o, h⟩
  · exact .inl (e.keep a _ h n)
  · exact .inr ⟨o, e.keep a _ h n⟩
theorem TupAt.ext (e : Ext ρ H ρ' H') {a : Addr} {vs : List V} (h : TupAt K H a vs) : TupAt K H' a vs := by
  rcases h with h | h
  · exact .inl (e.tups a vs h)
  · exact .inr h
mutual
theorem Rep.ext (e : Ext ρ H ρ' H') : ∀ {d : D} {v : V}, Rep K ex H ρ d v → Rep K ex H' ρ' d v
  | .non, _, h => h
  | .bl _, _, h => h
  | .int _, _, h => h
  | .str _, _, h => h
  | .tup _, _, ⟨a, vs, e1, t, r⟩ => ⟨a, vs, e1, t.ext e, Reps.ext e r⟩
  | .lst _, _, ⟨a, vs, e1, t, n, x, r⟩ => ⟨a, vs, e1, Rd.ext e t n, not_new e (Rd.ne t) n, x, Reps.ext e r⟩
  | .dct _, _, ⟨a, vs, e1, t, n, x, r⟩ => ⟨a, vs, e1, Rd.ext e t n, not_new e (Rd.ne t) n, x, RepE.ext e r⟩
  | .scr _, _, ⟨a, e1, .inl ⟨t, n, x⟩⟩ => ⟨a, e1, .inl ⟨Rd.ext e t n, not_new e (Rd.ne t) n, x⟩⟩
  | .scr _, _, ⟨a, e1, .inr h⟩ => ⟨a, e1, .inr h⟩
  | .ref n, _, ⟨a, h, e1⟩ => ⟨a, e.pre n a h, e1⟩
  | .exc c i, _, ⟨a, oe, e1, h, x⟩ => ⟨a, oe, e1, e.frzs a oe exT h, x.ext fun b o h => e.frzs b o exT h⟩
theorem Reps.ext (e : Ext ρ H ρ' H') : ∀ {ds : List D} {vs : List V}, Reps K ex H ρ ds vs → Reps K ex H' ρ' ds vs
  | [], _, h => h
  | _ :: _, _, ⟨v, r, e1, h, t⟩ => ⟨v, r, e1, Rep.ext e h, Reps.ext e t⟩
theorem RepE.ext (e : Ext ρ H ρ' H') : ∀ {ds : List (Pl × D)} {vs : List (List Key × V)}, RepE K ex H ρ ds vs → RepE K ex H' ρ' ds vs
  | [], _, h => h
  | (_, _) :: _, _, ⟨v, r, e1, h, t⟩ => ⟨v, r, e1, Rep.ext e h, RepE.ext e t⟩
end
def KeepsT (H H' : Hp) : Prop := (∀ a vs, H a = some (.tup vs) → H' a = some (.tup vs)) ∧ ∀ a o, H a = some (.frz o exT) → H' a = some (.frz o exT)
theorem KeepsT.refl {H : Hp} : KeepsT H H := ⟨fun _ _ h => h, fun _ _ h => h⟩
theorem Ext.keepsT {ρ ρ' : List Addr} {H H' : Hp} (e : Ext ρ H ρ' H') : KeepsT H H' := ⟨e.tups, fun a o h => e.frzs a o exT h⟩
def Plain : HO → Prop
  | .lst _ => True
  | .dT _ => True
  | _ => False
mutual
theorem Rep.gen {ex2 : Addr → Prop} (hk : ∀ a u, Plain u → Rd H a u → a ∉ ρ → ¬ ex a → Rd H' a u ∧ a ∉ ρ' ∧ ¬ ex2 a) (ht : KeepsT H H') (hp : ∀ (n : Nat) (a : Addr), ρ[n]? = some a → ρ'[n]? = some a) : ∀ {d : D} {v : V}, Rep K ex H ρ d v → Rep K ex2 H' ρ' d v
  | .non, _, h => h
  | .bl _, _, h => h
  | .int _, _, h => h
  | .str _, _, h => h
  | .tup _, _, ⟨a, vs, e1, .inl t, r⟩ => ⟨a, vs, e1, .inl (ht.1 a vs t), Reps.gen hk ht hp r⟩
  | .tup _, _, ⟨a, vs, e1, .inr t, r⟩ => ⟨a, vs, e1, .inr t, Reps.gen hk ht hp r⟩
  | .lst _, _, ⟨a, vs, e1, t, n, x, r⟩ => ⟨a, vs, e1, (hk a (.lst vs) trivial t n x).1, (hk a (.lst vs) trivial t n x).2.1, (hk a (.lst vs) trivial t n x).2.2, Reps.gen hk ht hp r⟩
  | .dct _, _, ⟨a, vs, e1, t, n, x, r⟩ => ⟨a, vs, e1, (hk a (.dT vs) trivial t n x).1, (hk a (.dT vs) trivial t n x).2.1, (hk a (.dT vs) trivial t n x).2.2, RepE.gen hk ht hp r⟩
  | .scr ns, _, ⟨a, e1, .inl ⟨t, n, x⟩⟩ => ⟨a, e1, .inl (hk a (.lst (ns.map V.int)) trivial t n x)⟩
  | .scr _, _, ⟨a, e1, .inr h⟩ => ⟨a, e1, .inr h⟩
  | .ref n, _, ⟨a, h, e1⟩ => ⟨a, hp n a h, e1⟩
  | .exc c i, _, ⟨a, oe, e1, h, x⟩ => ⟨a, oe, e1, ht.2 a oe h, x.ext ht.2⟩
theorem Reps.gen {ex2 : Addr → Prop} (hk : ∀ a u, Plain u → Rd H a u → a ∉ ρ → ¬ ex a → Rd H' a u ∧ a ∉ ρ' ∧ ¬ ex2 a) (ht : KeepsT H H') (hp : ∀ (n : Nat) (a : Addr), ρ[n]? = some a → ρ'[n]? = some a) : ∀ {ds : List D} {vs : List V}, Reps K ex H ρ ds vs → Reps K ex2 H' ρ' ds vs
  | [], _, h => h
  | _ :: _, _, ⟨v, r, e1, h, t⟩ => ⟨v, r, e1, Rep.gen hk ht hp h, Reps.gen hk ht hp t⟩
theorem RepE.gen {ex2 : Addr → Prop} (hk : ∀ a u, Plain u → Rd H a u → a ∉ ρ → ¬ ex a → Rd H' a u ∧ a ∉ ρ' ∧ ¬ ex2 a) (ht : KeepsT H H') (hp : ∀ (n : Nat) (a : Addr), ρ[n]? = some a → ρ'[n]? = some a) : ∀ {ds : List (Pl × D)} {vs : List (List Key × V)}, RepE K ex H ρ ds vs → RepE K ex2 H' ρ' ds vs
  | [], _, h => h
  | (_, _) :: _, _, ⟨v, r, e1, h, t⟩ => ⟨v, r, e1, Rep.gen hk ht hp h, RepE.gen hk ht hp t⟩
end
theorem hk_ext {ex2 : Addr → Prop} (e : Ext ρ H ρ' H') (hx : ∀ a, H a ≠ none → ¬ ex a → ¬ ex2 a) : ∀ a u, Plain u → Rd H a u → a ∉ ρ → ¬ ex a → Rd H' a u ∧ a ∉ ρ' ∧ ¬ ex2 a := fun a u _ t n x => ⟨Rd.ext e t n, not_new e (Rd.ne t) n, hx a (Rd.ne t) x⟩
theorem Rep.ext2 {ex2 : Addr → Prop} (e : Ext ρ H ρ' H') (hx : ∀ a, H a ≠ none → ¬ ex a → ¬ ex2 a) {d : D} {v : V} (r : Rep K ex H ρ d v) : Rep K ex2 H' ρ' d v := r.gen (hk_ext e hx) e.keepsT e.pre
theorem Reps.ext2 {ex2 : Addr → Prop} (e : Ext ρ H ρ' H') (hx : ∀ a, H a ≠ none → ¬ ex a → ¬ ex2 a) {d : List D} {v : List V} (r : Reps K ex H ρ d v) : Reps K ex2 H' ρ' d v := r.gen (hk_ext e hx) e.keepsT e.pre
theorem RepE.ext2 {ex2 : Addr → Prop} (e : Ext ρ H ρ' H') (hx : ∀ a, H a ≠ none → ¬ ex a → ¬ ex2 a) {d : List (Pl × D)} {v : List (List Key × V)} (r : RepE K ex H ρ d v) : RepE K ex2 H' ρ' d v := r.gen (hk_ext e hx) e.keepsT e.pre
theorem Reps.length : ∀ {ds : List D} {vs : List V}, Reps K ex H ρ ds vs → ds.length = vs.length
  | [], _, h => by cases h; rfl
  | _ :: _, _, ⟨v, r, e1, h, t⟩ => by rw [e1, List.length_cons, List.length_cons, Reps.length t]
theorem RepE.length : ∀ {ds : List (Pl × D)} {vs : List (List Key × V)}, RepE K ex H ρ ds vs → ds.length = vs.length
  | [], _, h => by cases h; rfl
  | (_, _) :: _, _, ⟨v, r, e1, h, t⟩ => by rw [e1, List.length_cons, List.length_cons, RepE.length t]
theorem Reps.get : ∀ {ds : List D} {vs : List V} {i : Nat} {d : D}, Reps K ex H ρ ds vs → ds[i]? = some d → ∃ v, vs[i]? = some v ∧ Rep K ex H ρ d v
  | [], _, _, _, _, e => by simp at e
  | _ :: _, _, 0, _, ⟨v, r, e1, h, t⟩, e => by cases e; subst e1; exact ⟨v, rfl, h⟩
  | _ :: _, _, i + 1, _, ⟨v, r, e1, h, t⟩, e => by
    obtain ⟨w, h1, h2⟩ := Reps.get (i := i) t (by simpa using e)
    subst e1
    exact ⟨w, by simpa using h1, h2⟩
theorem Reps.append : ∀ {ds es : List D} {vs ws : List V}, Reps K ex H ρ ds vs → Reps K ex H ρ es ws → Reps K ex H ρ (ds ++ es) (vs ++ ws)
  | [], _, _, _, h, g => by cases h; exact g
  | _ :: _, _, _, _, ⟨v, r, e1, h, t⟩, g => by subst e1; exact ⟨v, r ++ _, rfl, h, Reps.append t g⟩
theorem Reps.drop : ∀ {ds : List D} {vs : List V} (n : Nat), Reps K ex H ρ ds vs → Reps K ex H ρ (ds.drop n) (vs.drop n)
  | _, _, 0, h => h
  | [], _, n + 1, h => by cases h; exact rfl
  | _ :: _, _, n + 1, ⟨v, r, e1, h, t⟩ => by subst e1; exact Reps.drop n t
theorem Reps.take : ∀ {ds : List D} {vs : List V} (n : Nat), Reps K ex H ρ ds vs → Reps K ex H ρ (ds.take n) (vs.take n)
  | _, _, 0, h => by rw [List.take_zero, List.take_zero]; exact rfl
  | [], _, n + 1, h => by cases h; exact rfl
  | _ :: _, _, n + 1, ⟨v, r, e1, h, t⟩ => by subst e1; exact ⟨v, r.take n, rfl, h, Reps.take n t⟩
theorem Reps.set : ∀ {ds : List D} {vs : List V} {d : D} {v : V} (n : Nat), Reps K ex H ρ ds vs → Rep K ex H ρ d v → Reps K ex H ρ (ds.set n d) (vs.set n v)
  | [], _, _, _, _, h, _ => by cases h; exact rfl
  | _ :: _, _, _, _, 0, ⟨v, r, e1, h, t⟩, g => by subst e1; exact ⟨_, r, rfl, g, t⟩
  | _ :: _, _, _, _, n + 1, ⟨v, r, e1, h, t⟩, g => by subst e1; exact ⟨v, _, rfl, h, Reps.set n t g⟩
theorem Reps.ints : ∀ (ns : List Int), Reps K ex H ρ (ns.map .int) (ns.map V.int)
  | [] => rfl
  | n :: ns => ⟨_, _, rfl, rfl, Reps.ints ns⟩
theorem Reps.dropLast {ds : List D} {vs : List V} (h : Reps K ex H ρ ds vs) : Reps K ex H ρ ds.dropLast vs.dropLast := by
  rw [List.dropLast_eq_take, List.dropLast_eq_take, h.length]
  exact h.take _
theorem rep_pl {d : D} {v : V} {p : Pl} (r : Rep K ex H ρ d v) (e : plOf d = some p) : ∃ a, v = .ref a ∧ H a = some (.tup ((kP p).map kV)) := by
  unfold plOf at e
  split at e
  · rename_i i j
    cases e
    obtain ⟨a, vs, rfl, t, v1, r1, rfl, h1, v2, r2, rfl, h2, rfl⟩ := r
    cases h1
    cases h2
    rcases t with t | ⟨n, _⟩
    · exact ⟨a, rfl, t⟩
    · exact absurd rfl n
  · cases e
theorem plOf_eq {d : D} {p : Pl} (e : plOf d = some p) : d = plD p := by
  unfold plOf at e
  split at e
  · cases e; rfl
  · cases e
theorem rep_plD {a : Addr} {p : Pl} (h : H a = some (.tup ((kP p).map kV))) : Rep K ex H ρ (plD p) (.ref a) :=
  ⟨a, _, rfl, .inl h, _, _, rfl, rfl, _, _, rfl, rfl, rfl⟩
theorem kP_inj {p q : Pl} : kP p = kP q ↔ p = q := by
  constructor
  · intro h
    obtain ⟨a, b⟩ := p
    obtain ⟨c, d⟩ := q
    have h1 := List.cons.inj h
    have h2 := List.cons.inj h1.2
    have e1 : a = c := Sum.inl.inj h1.1
    have e2 : b = d := Sum.inl.inj h2.1
    rw [e1, e2]
  · rintro rfl; rfl
theorem RepE.val : ∀ {es : List (Pl × D)} {kvs : List (List Key × V)} (p : Pl), RepE K ex H ρ es kvs →
    (dget es p = none ∧ valV kvs (kP p) = none) ∨ ∃ d v, dget es p = some d ∧ valV kvs (kP p) = some v ∧ Rep K ex H ρ d v
  | [], _, p, h => by cases h; exact .inl ⟨rfl, rfl⟩
  | (q, d) :: es, _, p, ⟨v, r, e1, h, t⟩ => by
    subst e1
    unfold dget valV
    rw [List.find?_cons, List.find?_cons]
    by_cases hq : q = p
    · subst hq
      simp only [decide_true, Option.map_some]
      exact .inr ⟨d, v, rfl, rfl, h⟩
    · have hk : ¬ kP q = kP p := fun z => hq (kP_inj.mp z)
      simp only [hq, hk, decide_false]
      exact RepE.val p t
theorem RepE.any {p : Pl} : ∀ {es : List (Pl × D)} {kvs : List (List Key × V)}, RepE K ex H ρ es kvs → (es.any fun e => decide (e.1 = p)) = (kvs.any fun kv => decide (kv.1 = kP p))
  | [], _, h => by cases h; rfl
  | (q, d) :: es, _, ⟨v, r, e1, h, t⟩ => by
    subst e1
    rw [List.any_cons, List.any_cons, RepE.any t]
    congr 1
    exact decide_eq_decide.mpr kP_inj.symm
theorem RepE.map {p : Pl} {d : D} {v : V} (r : Rep K ex H ρ d v) : ∀ {es : List (Pl × D)} {kvs : List (List Key × V)}, RepE K ex H ρ es kvs →
    RepE K ex H ρ (es.map fun e => if e.1 = p then (e.1, d) else e) (kvs.map fun kv => if kv.1 = kP p then (kv.1, v) else kv)
  | [], _, h => by cases h; exact rfl
  | (q, x) :: es, _, ⟨y, r1, e1, h, t⟩ => by
    subst e1
    simp only [List.map_cons]
    by_cases hq : q = p
    · subst hq
      simp only [if_true]
      exact ⟨_, _, rfl, r, RepE.map r t⟩
    · have hk : ¬ kP q = kP p := fun z => hq (kP_inj.mp z)
      simp only [hq, hk, if_false]
      exact ⟨_, _, rfl, h, RepE.map r t⟩
theorem RepE.append : ∀ {es fs : List (Pl × D)} {kvs lvs : List (List Key × V)}, RepE K ex H ρ es kvs → RepE K ex H ρ fs lvs → RepE K ex H ρ (es ++ fs) (kvs ++ lvs)
  | [], _, _, _, h, g => by cases h; exact g
  | (_, _) :: _, _, _, _, ⟨v, r, e1, h, t⟩, g => by subst e1; exact ⟨v, r ++ _, rfl, h, RepE.append t g⟩
theorem RepE.put {es : List (Pl × D)} {kvs : List (List Key × V)} {p : Pl} {d : D} {v : V} (h : RepE K ex H ρ es kvs) (r : Rep K ex H ρ d v) : RepE K ex H ρ (dput es p d) (putK kvs (kP p) v) := by
  unfold dput putK
  rw [h.any (p := p)]
  split
  · exact h.map r
  · exact h.append ⟨v, [], rfl, r, rfl⟩
end
section
variable {K : PySem.W.Frag} {ex : Addr → Prop} {H H' : Hp} {ρ ρ' : List Addr} {st : Store}
theorem Mem.at (M : Mem K ex H ρ st) {n : Nat} {c : Cell} (h : st[n]? = some c) : ∃ a, ρ[n]? = some a ∧ CellAt K ex H ρ c a := by
  have hl : n < st.length := (List.getElem?_eq_some_iff.mp h).1
  have hr : n < ρ.length := by rw [M.len]; exact hl
  have e : ρ[n]? = some ρ[n] := List.getElem?_eq_getElem hr
  exact ⟨_, e, M.cell n _ c e h⟩
theorem Mem.of (M : Mem K ex H ρ st) {n : Nat} {a : Addr} (h : ρ[n]? = some a) : ∃ c, st[n]? = some c ∧ CellAt K ex H ρ c a := by
  have hl : n < ρ.length := (List.getElem?_eq_some_iff.mp h).1
  have hr : n < st.length := by rw [← M.len]; exact hl
  have e : st[n]? = some st[n] := List.getElem?_eq_getElem hr
  exact ⟨_, e, M.cell n a _ h e⟩
theorem CellAt.ne {c : Cell} {a : Addr} (h : CellAt K ex H ρ c a) : H a ≠ none := by
  cases c with
  | lst xs => obtain ⟨vs, e, _⟩ := h; rw [e]; simp
  | dct xs => obtain ⟨vs, e, _⟩ := h; rw [e]; simp
  | lckL xs => obtain ⟨o, vs, e, _⟩ := h; rw [e]; simp
  | lckD xs => obtain ⟨o, vs, e, _⟩ := h; rw [e]; simp
theorem CellAt.notup {c : Cell} {a : Addr} (h : CellAt K ex H ρ c a) (vs : List V) : H a ≠ some (.tup vs) := by
  cases c with
  | lst xs => obtain ⟨vs, e, _⟩ := h; rw [e]; simp
  | dct xs => obtain ⟨vs, e, _⟩ := h; rw [e]; simp
  | lckL xs => obtain ⟨o, vs, e, _⟩ := h; rw [e]; simp
  | lckD xs => obtain ⟨o, vs, e, _⟩ := h; rw [e]; simp
theorem Mem.tracked (M : Mem K ex H ρ st) {a : Addr} (h : a ∈ ρ) : H a ≠ none := by
  obtain ⟨n, hn⟩ := List.getElem?_of_mem h
  obtain ⟨c, _, hc⟩ := M.of hn
  exact hc.ne
theorem Mem.notup (M : Mem K ex H ρ st) {a : Addr} {vs : List V} (h : H a = some (.tup vs)) : a ∉ ρ := fun m => by
  obtain ⟨n, hn⟩ := List.getElem?_of_mem m
  obtain ⟨c, _, hc⟩ := M.of hn
  exact hc.notup vs h
theorem CellAt.ext {c : Cell} {a : Addr} (e : Ext ρ H ρ' H') (ha : H' a = H a) (h : CellAt K ex H ρ c a) : CellAt K ex H' ρ' c a := by
  cases c with
  | lst xs => obtain ⟨vs, e1, r⟩ := h; exact ⟨vs, by rw [ha]; exact e1, r.ext e⟩
  | dct xs => obtain ⟨vs, e1, r⟩ := h; exact ⟨vs, by rw [ha]; exact e1, r.ext e⟩
  | lckL xs => obtain ⟨o, vs, e1, r⟩ := h; exact ⟨o, vs, by rw [ha]; exact e1, r.ext e⟩
  | lckD xs => obtain ⟨o, vs, e1, r⟩ := h; exact ⟨o, vs, by rw [ha]; exact e1, r.ext e⟩
theorem Mem.gen {ex2 : Addr → Prop} (M : Mem K ex H ρ st) (hk : ∀ a u, Plain u → Rd H a u → a ∉ ρ → ¬ ex a → Rd H' a u ∧ a ∉ ρ ∧ ¬ ex2 a) (ht : KeepsT H H') (hc : ∀ a, a ∈ ρ → H' a = H a)
    (hT : ∀ a, ex2 a → H' a ≠ none) (hD : ∀ a, a ∈ ρ → ¬ ex2 a) : Mem K ex2 H' ρ st where
  len := M.len
  nod := M.nod
  cell := fun n a c h1 h2 => by
    have h := M.cell n a c h1 h2
    have e := hc a (mem_of_get h1)
    cases c with
    | lst xs => obtain ⟨vs, e1, r⟩ := h; exact ⟨vs, by rw [e]; exact e1, r.gen hk ht (fun _ _ h => h)⟩
    | dct xs => obtain ⟨vs, e1, r⟩ := h; exact ⟨vs, by rw [e]; exact e1, r.gen hk ht (fun _ _ h => h)⟩
    | lckL xs => obtain ⟨o, vs, e1, r⟩ := h; exact ⟨o, vs, by rw [e]; exact e1, r.gen hk ht (fun _ _ h => h)⟩
    | lckD xs => obtain ⟨o, vs, e1, r⟩ := h; exact ⟨o, vs, by rw [e]; exact e1, r.gen hk ht (fun _ _ h => h)⟩
  exT := hT
  exD := hD
theorem Ext.laid {p : Addr} {o : HO} (hp : H p = none) : Ext ρ H ρ (upd H p o) where
  keep := fun a u h _ => by rw [upd_ne (ne_of_none h hp)]; exact h
  tups := fun a u h => by rw [upd_ne (ne_of_none h hp)]; exact h
  frzs := fun a o u h => by rw [upd_ne (ne_of_none h hp)]; exact h
  pre := fun _ _ h => h
  new := fun _ h => .inl h
  trk := fun a h => by
    by_cases e : a = p
    · subst e; rw [upd_same]; simp
    · rw [upd_ne e]; exact h
theorem Ext.cell {p : Addr} {o : HO} (hp : H p = none) : Ext ρ H (ρ ++ [p]) (upd H p o) where
  keep := (Ext.laid (ρ := ρ) hp).keep
  tups := (Ext.laid (ρ := ρ) hp).tups
  frzs := (Ext.laid (ρ := ρ) hp).frzs
  pre := fun n a h => by rw [List.getElem?_append_left (List.getElem?_eq_some_iff.mp h).1]; exact h
  new := fun a h => by
    rcases List.mem_append.mp h with h | h
    · exact .inl h
    · rw [List.mem_singleton.mp h]; exact .inr hp
  trk := (Ext.laid (ρ := ρ) hp).trk
theorem Mem.laid {p : Addr} {o : HO} (M : Mem K ex H ρ st) (hp : H p = none) : Mem K ex (upd H p o) ρ st where
  len := M.len
  nod := M.nod
  cell := fun n a c h1 h2 => by
    have hc := M.cell n a c h1 h2
    refine hc.ext (Ext.laid hp) (upd_ne fun e => ?_)
    subst e
    exact hc.ne hp
  exT := fun a h => (Ext.laid (ρ := ρ) hp).trk a (M.exT a h)
  exD := M.exD
theorem Mem.fresh (M : Mem K ex H ρ st) {p : Addr} (hp : H p = none) : p ∉ ρ ∧ ¬ ex p := ⟨fun m => M.tracked m hp, fun x => M.exT p x hp⟩
theorem Mem.push {p : Addr} {o : HO} {c : Cell} (M : Mem K ex H ρ st) (hp : H p = none) (hc : CellAt K ex (upd H p o) (ρ ++ [p]) c p) : Mem K ex (upd H p o) (ρ ++ [p]) (st ++ [c]) where
  len := by rw [List.length_append, List.length_append, M.len]; rfl
  nod := by
    rw [List.nodup_append]
    refine ⟨M.nod, by simp, fun a ha b hb e => ?_⟩
    rw [List.mem_singleton.mp hb] at e
    subst e
    exact M.tracked ha hp
  cell := fun n a c' h1 h2 => by
    by_cases hn : n < ρ.length
    · rw [List.getElem?_append_left hn] at h1
      rw [List.getElem?_append_left (by rw [← M.len]; exact hn)] at h2
      have hd := M.cell n a c' h1 h2
      exact hd.ext (Ext.cell hp) (upd_ne fun e => hd.ne (by rw [e]; exact hp))
    · have hn2 : n < ρ.length + 1 := by
        have := (List.getElem?_eq_some_iff.mp h1).1
        rw [List.length_append] at this
        exact this
      have e : n = ρ.length := by omega
      subst e
      rw [List.getElem?_append_right (Nat.le_refl _), Nat.sub_self] at h1
      rw [List.getElem?_append_right (by rw [M.len]; exact Nat.le_refl _), M.len, Nat.sub_self] at h2
      cases h1
      cases h2
      exact hc
  exT := fun a h => (Ext.laid (ρ := ρ) hp).trk a (M.exT a h)
  exD := fun a h => by
    rcases List.mem_append.mp h with h | h
    · exact M.exD a h
    · rw [List.mem_singleton.mp h]; exact fun x => M.exT p x hp
theorem Ext.write {n : Nat} {a : Addr} {o : HO} (hn : ρ[n]? = some a) (nt : ∀ vs, H a ≠ some (.tup vs)) (nf : ∀ ob u, H a ≠ some (.frz ob u)) : Ext ρ H ρ (upd H a o) where
  keep := fun b u h m => by rw [upd_ne fun e => m (by subst e; exact mem_of_get hn)]; exact h
  tups := fun b vs h => by rw [upd_ne fun e => nt vs (by subst e; exact h)]; exact h
  frzs := fun b ob u h => by rw [upd_ne fun e => nf ob u (by subst e; exact h)]; exact h
  pre := fun _ _ h => h
  new := fun _ h => .inl h
  trk := fun b h => by
    by_cases e : b = a
    · subst e; rw [upd_same]; simp
    · rw [upd_ne e]; exact h
theorem nodup_get {α : Type} {l : List α} (hl : l.Nodup) {i j : Nat} {a : α} (h1 : l[i]? = some a) (h2 : l[j]? = some a) : i = j := by
  have hi := List.getElem?_eq_some_iff.mp h1
  have hj := List.getElem?_eq_some_iff.mp h2
  exact (List.getElem_inj hl).mp (hi.2.trans hj.2.symm)
theorem Mem.write {n : Nat} {a : Addr} {o : HO} {c : Cell} (M : Mem K ex H ρ st) (hn : ρ[n]? = some a) (e : Ext ρ H ρ (upd H a o)) (hc : CellAt K ex (upd H a o) ρ c a) : Mem K ex (upd H a o) ρ (st.set n c) where
  len := by rw [List.length_set]; exact M.len
  nod := M.nod
  cell := fun m b c' h1 h2 => by
    by_cases hm : m = n
    · subst hm
      rw [hn] at h1
      cases h1
      have hl : m < st.length := by rw [← M.len]; exact (List.getElem?_eq_some_iff.mp hn).1
      rw [List.getElem?_set_self hl] at h2
      cases h2
      exact hc
    · rw [List.getElem?_set_ne (Ne.symm hm)] at h2
      exact (M.cell m b c' h1 h2).ext e (upd_ne fun q => hm (nodup_get M.nod (by rw [← q]; exact h1) hn))
  exT := fun b h => e.trk b (M.exT b h)
  exD := M.exD
theorem Mem.lst (M : Mem K ex H ρ st) {n : Nat} {xs : List D} (h : st[n]? = some (.lst xs)) : ∃ a vs, ρ[n]? = some a ∧ H a = some (.lst vs) ∧ Reps K ex H ρ xs vs := by
  obtain ⟨a, h1, vs, h2, h3⟩ := M.at h
  exact ⟨a, vs, h1, h2, h3⟩
theorem Mem.dct (M : Mem K ex H ρ st) {n : Nat} {xs : List (Pl × D)} (h : st[n]? = some (.dct xs)) : ∃ a vs, ρ[n]? = some a ∧ H a = some (.dT vs) ∧ RepE K ex H ρ xs vs := by
  obtain ⟨a, h1, vs, h2, h3⟩ := M.at h
  exact ⟨a, vs, h1, h2, h3⟩
theorem rep_lst (M : Mem K ex H ρ st) {d : D} {v : V} {xs : List D} (r : Rep K ex H ρ d v) (h : lstOf st d = some xs) : ∃ a vs, v = .ref a ∧ SqL K H a vs ∧ Reps K ex H ρ xs vs := by
  unfold lstOf at h
  split at h
  · cases h
    obtain ⟨a, vs, rfl, t, _, _, rs⟩ := r
    exact ⟨a, vs, rfl, .inl t, rs⟩
  · cases h
    obtain ⟨a, rfl, ⟨t, _⟩ | t⟩ := r
    · exact ⟨a, _, rfl, .inl t, Reps.ints _⟩
    · exact ⟨a, _, rfl, .inr t, Reps.ints _⟩
  · obtain ⟨a, ha, rfl⟩ := r
    split at h
    · rename_i hs
      cases h
      obtain ⟨b, vs, h1, h2, h3⟩ := M.lst hs
      rw [ha] at h1
      cases h1
      exact ⟨a, vs, rfl, .inl (.inl h2), h3⟩
    · rename_i hs
      cases h
      obtain ⟨b, h1, o, vs, h2, h3⟩ := M.at hs
      rw [ha] at h1
      cases h1
      exact ⟨a, vs, rfl, .inl (.inr ⟨o, h2⟩), h3⟩
    · cases h
  · cases h
theorem rep_seq (M : Mem K ex H ρ st) {d : D} {v : V} {xs : List D} (r : Rep K ex H ρ d v) (h : seqOf st d = some xs) : ∃ a vs, v = .ref a ∧ (SqL K H a vs ∨ SqT K H a vs) ∧ Reps K ex H ρ xs vs := by
  unfold seqOf at h
  split at h
  · cases h
    obtain ⟨a, vs, rfl, t, rs⟩ := r
    exact ⟨a, vs, rfl, .inr t.sq, rs⟩
  · obtain ⟨a, vs, h1, h2, h3⟩ := rep_lst M r h
    exact ⟨a, vs, h1, .inl h2, h3⟩
theorem rep_dct (M : Mem K ex H ρ st) {d : D} {v : V} {es : List (Pl × D)} (r : Rep K ex H ρ d v) (h : dctOf st d = some es) : ∃ a kvs, v = .ref a ∧ Rd H a (.dT kvs) ∧ RepE K ex H ρ es kvs := by
  unfold dctOf at h
  split at h
  · cases h
    obtain ⟨a, vs, rfl, t, _, _, rs⟩ := r
    exact ⟨a, vs, rfl, t, rs⟩
  · obtain ⟨a, ha, rfl⟩ := r
    split at h
    · rename_i hs
      cases h
      obtain ⟨b, vs, h1, h2, h3⟩ := M.dct hs
      rw [ha] at h1
      cases h1
      exact ⟨a, vs, rfl, .inl h2, h3⟩
    · rename_i hs
      cases h
      obtain ⟨b, h1, o, vs, h2, h3⟩ := M.at hs
      rw [ha] at h1
      cases h1
      exact ⟨a, vs, rfl, .inr ⟨o, h2⟩, h3⟩
    · cases h
  · cases h
end
end MP
end
section
set_option maxRecDepth 100000
set_option maxHeartbeats 4000000
namespace MP
open PySem PySem.Spec PyProof.Rows L2

mutual
def py : D → PyData
  | .non => .none
  | .bl b => .bool b
  | .int i => .int i
  | .str s => .str (strOf s)
  | .tup xs => .tuple (pys xs)
  | .lst xs => .list (pys xs)
  | .dct _ => .none
  | .scr _ => .none
  | .exc _ _ => .none
  | .ref _ => .none
def pys : List D → List PyData
  | [] => []
  | x :: xs => py x :: pys xs
end
theorem strOf_inj {s t : Tx} : strOf s = strOf t ↔ s = t := by
  constructor
  · intro h
    have h1 : s.toArray = t.toArray := congrArg Str.cps h
    have h2 := congrArg Array.toList h1
    simpa using h2
  · rintro rfl; rfl
theorem strOf_beq (s t : Tx) : (strOf s == strOf t) = (s == t) := by
  by_cases h : s = t
  · subst h; simp
  · have h' : ¬ strOf s = strOf t := fun e => h (strOf_inj.mp e)
    rw [beq_eq_false_iff_ne.mpr h, beq_eq_false_iff_ne.mpr h']
mutual
theorem eqv_py : ∀ a b : D, cmpD a = true → cmpD b = true → PyData.eqv (py a) (py b) = eqD a b
  | .non, b, _, hb => by cases b <;> simp_all [py, eqD, PyData.eqv, cmpD]
  | .bl x, b, _, hb => by cases b <;> simp_all [py, eqD, PyData.eqv, cmpD]
  | .int x, b, _, hb => by cases b <;> simp_all [py, eqD, PyData.eqv, cmpD]
  | .str x, b, _, hb => by cases b <;> simp_all [py, eqD, PyData.eqv, cmpD, strOf_beq]
  | .tup xs, b, ha, hb => by
    cases b with
    | tup ys =>
      simp only [py, eqD, PyData.eqv]
      exact eqv_pys xs ys (by simpa [cmpD] using ha) (by simpa [cmpD] using hb)
    | _ => simp_all [py, eqD, PyData.eqv, cmpD]
  | .lst xs, b, ha, hb => by
    cases b with
    | lst ys =>
      simp only [py, eqD, PyData.eqv]
      exact eqv_pys xs ys (by simpa [cmpD] using ha) (by simpa [cmpD] using hb)
    | _ => simp_all [py, eqD, PyData.eqv, cmpD]
  | .dct _, _, ha, _ => by simp [cmpD] at ha
  | .scr _, _, ha, _ => by simp [cmpD] at ha
  | .exc _ _, _, ha, _ => by simp [cmpD] at ha
  | .ref _, _, ha, _ => by simp [cmpD] at ha
theorem eqv_pys : ∀ a b : List D, cmpDs a = true → cmpDs b = true → PyData.eqvAll (pys a) (pys b) = eqDs a b
  | [], [], _, _ => by simp [pys, eqDs, PyData.eqvAll]
  | [], _ :: _, _, _ => by simp [pys, eqDs, PyData.eqvAll]
  | _ :: _, [], _, _ => by simp [pys, eqDs, PyData.eqvAll]
  | x :: xs, y :: ys, ha, hb => by
    have ha' : cmpD x = true ∧ cmpDs xs = true := by simpa [cmpDs] using ha
    have hb' : cmpD y = true ∧ cmpDs ys = true := by simpa [cmpDs] using hb
    simp only [pys, eqDs, PyData.eqvAll]
    rw [eqv_py x y ha'.1 hb'.1, eqv_pys xs ys ha'.2 hb'.2]
end
mutual
theorem depth_py : ∀ a : D, cmpD a = true → (py a).depth = dep a
  | .non, _ => by simp [py, dep, PyData.depth]
  | .bl x, _ => by simp [py, dep, PyData.depth]
  | .int x, _ => by simp [py, dep, PyData.depth]
  | .str x, _ => by simp [py, dep, PyData.depth]
  | .tup xs, h => by simp only [py, dep, PyData.depth]; rw [depth_pys xs (by simpa [cmpD] using h)]
  | .lst xs, h => by simp only [py, dep, PyData.depth]; rw [depth_pys xs (by simpa [cmpD] using h)]
  | .dct _, h => by simp [cmpD] at h
  | .scr _, h => by simp [cmpD] at h
  | .exc _ _, h => by simp [cmpD] at h
  | .ref _, h => by simp [cmpD] at h
theorem depth_pys : ∀ a : List D, cmpDs a = true → PyData.depthAll (pys a) = deps a
  | [], _ => by simp [pys, deps, PyData.depthAll]
  | x :: xs, h => by
    have h' : cmpD x = true ∧ cmpDs xs = true := by simpa [cmpDs] using h
    simp only [pys, deps, PyData.depthAll]
    rw [depth_py x h'.1, depth_pys xs h'.2]
end
theorem strOk_of {s : Tx} (h : txOk s) : PyData.strOk (strOf s) = true := by
  unfold PyData.strOk strOf
  rw [Array.all_eq_true_iff_forall_mem]
  intro c hc
  exact decide_eq_true (h c (by simpa using hc))
section
variable {K : PySem.W.Frag} {ex : Addr → Prop} {H : Hp} {ρ : List Addr}
mutual
theorem rep_dp : ∀ {d : D} {v : V}, cmpD d = true → Rep K ex H ρ d v → Dp K H v (py d) ∧ (py d).canLay0 = true
  | .non, _, _, h => by cases h; exact ⟨.non, by simp [py, PyData.canLay0]⟩
  | .bl _, _, _, h => by cases h; exact ⟨.bl _, by simp [py, PyData.canLay0]⟩
  | .int _, _, _, h => by cases h; exact ⟨.int _, by simp [py, PyData.canLay0]⟩
  | .str _, _, _, h => by obtain ⟨rfl, h⟩ := h; exact ⟨.str _, by simp only [py, PyData.canLay0]; exact strOk_of h⟩
  | .tup xs, _, c, ⟨a, vs, e, t, r⟩ => by
    subst e
    have q := rep_dps (by simpa [cmpD] using c) r
    exact ⟨.tup t.sq q.1, by simp only [py, PyData.canLay0]; exact q.2⟩
  | .lst xs, _, c, ⟨a, vs, e, t, _, _, r⟩ => by
    subst e
    have q := rep_dps (by simpa [cmpD] using c) r
    exact ⟨.lst (.inl t) q.1, by simp only [py, PyData.canLay0]; exact q.2⟩
  | .dct _, _, c, _ => by simp [cmpD] at c
  | .scr _, _, c, _ => by simp [cmpD] at c
  | .exc _ _, _, c, _ => by simp [cmpD] at c
  | .ref _, _, c, _ => by simp [cmpD] at c
theorem rep_dps : ∀ {ds : List D} {vs : List V}, cmpDs ds = true → Reps K ex H ρ ds vs → DpAll K H vs (pys ds) ∧ PyData.canLayAll0 (pys ds) = true
  | [], _, _, h => by cases h; exact ⟨.nil, by simp [pys, PyData.canLayAll0]⟩
  | x :: xs, _, c, ⟨v, r, e, h, t⟩ => by
    have c' : cmpD x = true ∧ cmpDs xs = true := by simpa [cmpDs] using c
    subst e
    have q1 := rep_dp c'.1 h
    have q2 := rep_dps c'.2 t
    exact ⟨.cons q1.1 q2.1, by simp only [pys, PyData.canLayAll0, q1.2, q2.2, Bool.and_self]⟩
end
theorem shaped_py {d : D} (c : cmpD d = true) (l : (py d).canLay0 = true) (h : dep d ≤ 64) : SeqAt.shaped (py d) = true := by
  unfold SeqAt.shaped
  rw [l, depth_py d c, decide_eq_true h]
  rfl
mutual
theorem Rep.anew {ex2 : Addr → Prop} {ρ2 : List Addr} (hf : ∀ a, a ∉ ρ → ¬ ex a → a ∉ ρ2 ∧ ¬ ex2 a) : ∀ {d : D} {v : V}, noRef d = true → Rep K ex H ρ d v → Rep K ex2 H ρ2 d v
  | .non, _, _, h => h
  | .bl _, _, _, h => h
  | .int _, _, _, h => h
  | .str _, _, _, h => h
  | .tup _, _, c, ⟨a, vs, e, t, r⟩ => ⟨a, vs, e, t, Reps.anew hf (by simpa [noRef] using c) r⟩
  | .lst _, _, c, ⟨a, vs, e, t, n, x, r⟩ => ⟨a, vs, e, t, (hf a n x).1, (hf a n x).2, Reps.anew hf (by simpa [noRef] using c) r⟩
  | .dct _, _, c, ⟨a, vs, e, t, n, x, r⟩ => ⟨a, vs, e, t, (hf a n x).1, (hf a n x).2, RepE.anew hf (by simpa [noRef] using c) r⟩
  | .scr _, _, _, ⟨a, e, .inl ⟨t, n, x⟩⟩ => ⟨a, e, .inl ⟨t, hf a n x⟩⟩
  | .scr _, _, _, ⟨a, e, .inr h⟩ => ⟨a, e, .inr h⟩
  | .exc _ _, _, _, h => h
  | .ref _, _, c, _ => by simp [noRef] at c
theorem Reps.anew {ex2 : Addr → Prop} {ρ2 : List Addr} (hf : ∀ a, a ∉ ρ → ¬ ex a → a ∉ ρ2 ∧ ¬ ex2 a) : ∀ {ds : List D} {vs : List V}, noRefs ds = true → Reps K ex H ρ ds vs → Reps K ex2 H ρ2 ds vs
  | [], _, _, h => h
  | _ :: _, _, c, ⟨v, r, e, h, t⟩ => by
    rw [noRefs, Bool.and_eq_true] at c
    exact ⟨v, r, e, Rep.anew hf c.1 h, Reps.anew hf c.2 t⟩
theorem RepE.anew {ex2 : Addr → Prop} {ρ2 : List Addr} (hf : ∀ a, a ∉ ρ → ¬ ex a → a ∉ ρ2 ∧ ¬ ex2 a) : ∀ {ds : List (Pl × D)} {vs : List (List Key × V)}, noRefE ds = true → RepE K ex H ρ ds vs → RepE K ex2 H ρ2 ds vs
  | [], _, _, h => h
  | (_, _) :: _, _, c, ⟨v, r, e, h, t⟩ => by
    rw [noRefE, Bool.and_eq_true] at c
    exact ⟨v, r, e, Rep.anew hf c.1 h, RepE.anew hf c.2 t⟩
end
mutual
theorem Rep.flat {ex2 : Addr → Prop} {ρ2 : List Addr} : ∀ {d : D} {v : V}, flat d = true → Rep K ex H ρ d v → Rep K ex2 H ρ2 d v
  | .non, _, _, h => h
  | .bl _, _, _, h => h
  | .int _, _, _, h => h
  | .str _, _, _, h => h
  | .tup _, _, c, ⟨a, vs, e, t, r⟩ => ⟨a, vs, e, t, Reps.flat (by simpa [MP.flat] using c) r⟩
  | .lst _, _, c, _ => by simp [MP.flat] at c
  | .dct _, _, c, _ => by simp [MP.flat] at c
  | .scr _, _, c, _ => by simp [MP.flat] at c
  | .exc _ _, _, c, _ => by simp [MP.flat] at c
  | .ref _, _, c, _ => by simp [MP.flat] at c
theorem Reps.flat {ex2 : Addr → Prop} {ρ2 : List Addr} : ∀ {ds : List D} {vs : List V}, flats ds = true → Reps K ex H ρ ds vs → Reps K ex2 H ρ2 ds vs
  | [], _, _, h => h
  | _ :: _, _, c, ⟨v, r, e, h, t⟩ => by
    rw [flats, Bool.and_eq_true] at c
    exact ⟨v, r, e, Rep.flat c.1 h, Reps.flat c.2 t⟩
end
mutual
theorem Rep.mapRef {ex2 : Addr → Prop} {g : Nat → Option D} (hf : ∀ a, ¬ ex a → ¬ ex2 a) (hg : ∀ n d' v, g n = some d' → Rep K ex H ρ (.ref n) v → Rep K ex2 H [] d' v) :
    ∀ {d d' : D} {v : V}, mapRef g d = some d' → Rep K ex H ρ d v → Rep K ex2 H [] d' v
  | .non, _, _, c, h => by rw [MP.mapRef] at c; cases c; exact h
  | .bl _, _, _, c, h => by rw [MP.mapRef] at c; cases c; exact h
  | .int _, _, _, c, h => by rw [MP.mapRef] at c; cases c; exact h
  | .str _, _, _, c, h => by rw [MP.mapRef] at c; cases c; exact h
  | .exc _ _, _, _, c, h => by rw [MP.mapRef] at c; cases c; exact h
  | .scr _, _, _, c, h => by
    rw [MP.mapRef] at c
    cases c
    obtain ⟨a, e, ⟨t, n, x⟩ | h⟩ := h
    · exact ⟨a, e, .inl ⟨t, by simp, hf a x⟩⟩
    · exact ⟨a, e, .inr h⟩
  | .ref n, _, _, c, h => hg n _ _ (by rw [MP.mapRef] at c; exact c) h
  | .tup xs, _, _, c, ⟨a, vs, e, t, r⟩ => by
    rw [MP.mapRef] at c
    obtain ⟨ys, hy, rfl⟩ := Option.map_eq_some_iff.mp c
    exact ⟨a, vs, e, t, Reps.mapRef hf hg hy r⟩
  | .lst xs, _, _, c, ⟨a, vs, e, t, n, x, r⟩ => by
    rw [MP.mapRef] at c
    obtain ⟨ys, hy, rfl⟩ := Option.map_eq_some_iff.mp c
    exact ⟨a, vs, e, t, by simp, hf a x, Reps.mapRef hf hg hy r⟩
  | .dct xs, _, _, c, ⟨a, vs, e, t, n, x, r⟩ => by
    rw [MP.mapRef] at c
    obtain ⟨ys, hy, rfl⟩ := Option.map_eq_some_iff.mp c
    exact ⟨a, vs, e, t, by simp, hf a x, RepE.mapRef hf hg hy r⟩
theorem Reps.mapRef {ex2 : Addr → Prop} {g : Nat → Option D} (hf : ∀ a, ¬ ex a → ¬ ex2 a) (hg : ∀ n d' v, g n = some d' → Rep K ex H ρ (.ref n) v → Rep K ex2 H [] d' v) :
    ∀ {d d' : List D} {v : List V}, mapRefs g d = some d' → Reps K ex H ρ d v → Reps K ex2 H [] d' v
  | [], _, _, c, h => by rw [MP.mapRefs] at c; cases c; exact h
  | x :: xs, _, _, c, ⟨v, r, e, h, t⟩ => by
    rw [MP.mapRefs] at c
    split at c
    · rename_i y ys h1 h2
      cases c
      exact ⟨v, r, e, Rep.mapRef hf hg h1 h, Reps.mapRef hf hg h2 t⟩
    · cases c
theorem RepE.mapRef {ex2 : Addr → Prop} {g : Nat → Option D} (hf : ∀ a, ¬ ex a → ¬ ex2 a) (hg : ∀ n d' v, g n = some d' → Rep K ex H ρ (.ref n) v → Rep K ex2 H [] d' v) :
    ∀ {d d' : List (Pl × D)} {v : List (List Key × V)}, mapRefE g d = some d' → RepE K ex H ρ d v → RepE K ex2 H [] d' v
  | [], _, _, c, h => by rw [MP.mapRefE] at c; cases c; exact h
  | (k, x) :: xs, _, _, c, ⟨v, r, e, h, t⟩ => by
    rw [MP.mapRefE] at c
    split at c
    · rename_i y ys h1 h2
      cases c
      exact ⟨v, r, e, Rep.mapRef hf hg h1 h, RepE.mapRef hf hg h2 t⟩
    · cases c
end
theorem Rep.rsvN {ex2 : Addr → Prop} {st : Store} (M : Mem K ex H ρ st) (hf : ∀ a, ¬ ex a → ¬ ex2 a) (hr : ∀ a, a ∈ ρ → ¬ ex2 a) : ∀ (k : Nat) {d d' : D} {v : V}, rsvN st k d = some d' → Rep K ex H ρ d v → Rep K ex2 H [] d' v
  | 0, _, _, _, c, _ => by rw [MP.rsvN] at c; cases c
  | k + 1, d, d', v, c, h => by
    rw [MP.rsvN] at c
    refine Rep.mapRef hf (fun n d2 v2 c2 h2 => ?_) c h
    obtain ⟨a, ha, rfl⟩ := h2
    have ih : ∀ n d' v, MP.rsvN st k (.ref n) = some d' → Rep K ex H ρ (.ref n) v → Rep K ex2 H [] d' v := fun n d' v e r => Rep.rsvN M hf hr k e r
    split at c2
    · rename_i xs hs
      obtain ⟨b, vs, h1, h2, h3⟩ := M.lst hs
      rw [ha] at h1
      cases h1
      obtain ⟨ys, hy, rfl⟩ := Option.map_eq_some_iff.mp c2
      exact ⟨a, vs, rfl, .inl h2, by simp, hr a (mem_of_get ha), Reps.mapRef hf ih hy h3⟩
    · rename_i xs hs
      obtain ⟨b, h1, o, vs, h2, h3⟩ := M.at hs
      rw [ha] at h1
      cases h1
      obtain ⟨ys, hy, rfl⟩ := Option.map_eq_some_iff.mp c2
      exact ⟨a, vs, rfl, .inr ⟨o, h2⟩, by simp, hr a (mem_of_get ha), Reps.mapRef hf ih hy h3⟩
    · rename_i xs hs
      obtain ⟨b, vs, h1, h2, h3⟩ := M.dct hs
      rw [ha] at h1
      cases h1
      obtain ⟨ys, hy, rfl⟩ := Option.map_eq_some_iff.mp c2
      exact ⟨a, vs, rfl, .inl h2, by simp, hr a (mem_of_get ha), RepE.mapRef hf ih hy h3⟩
    · rename_i xs hs
      obtain ⟨b, h1, o, vs, h2, h3⟩ := M.at hs
      rw [ha] at h1
      cases h1
      obtain ⟨ys, hy, rfl⟩ := Option.map_eq_some_iff.mp c2
      exact ⟨a, vs, rfl, .inr ⟨o, h2⟩, by simp, hr a (mem_of_get ha), RepE.mapRef hf ih hy h3⟩
    · cases c2
theorem Rep.rsv {ex2 : Addr → Prop} {st : Store} (M : Mem K ex H ρ st) (hf : ∀ a, ¬ ex a → ¬ ex2 a) (hr : ∀ a, a ∈ ρ → ¬ ex2 a) {d d' : D} {v : V} (c : rsv st d = some d') (h : Rep K ex H ρ d v) : Rep K ex2 H [] d' v := by
  unfold MP.rsv at c
  split at c
  · rename_i n
    cases c
    exact Rep.anew (fun a h1 h2 => ⟨by simp, hf a h2⟩) n h
  · exact Rep.rsvN M hf hr 40 c h
theorem Reps.rsv {ex2 : Addr → Prop} {st : Store} (M : Mem K ex H ρ st) (hf : ∀ a, ¬ ex a → ¬ ex2 a) (hr : ∀ a, a ∈ ρ → ¬ ex2 a) : ∀ {d d' : List D} {v : List V}, rsvs st d = some d' → Reps K ex H ρ d v → Reps K ex2 H [] d' v
  | [], _, _, c, h => by rw [rsvs] at c; cases c; exact h
  | x :: xs, _, _, c, ⟨v, r, e, h, t⟩ => by
    rw [rsvs] at c
    split at c
    · rename_i y ys h1 h2
      cases c
      exact ⟨v, r, e, Rep.rsv M hf hr h1 h, Reps.rsv M hf hr h2 t⟩
    · cases c
theorem rsv_noRef {st : Store} {d : D} (h : noRef d = true) : rsv st d = some d := by unfold rsv; rw [if_pos h]
theorem rsvs_noRef {st : Store} : ∀ {ds : List D}, noRefs ds = true → rsvs st ds = some ds
  | [], _ => rfl
  | d :: ds, h => by
    rw [noRefs, Bool.and_eq_true] at h
    rw [rsvs, rsv_noRef h.1, rsvs_noRef h.2]
mutual
theorem Rep.wide {ex2 : Addr → Prop} {ρ2 : List Addr} (hf : ∀ a, ¬ ex a → a ∉ ρ2 ∧ ¬ ex2 a) : ∀ {d : D} {v : V}, Rep K ex H [] d v → Rep K ex2 H ρ2 d v
  | .non, _, h => h
  | .bl _, _, h => h
  | .int _, _, h => h
  | .str _, _, h => h
  | .tup _, _, ⟨a, vs, e, t, r⟩ => ⟨a, vs, e, t, Reps.wide hf r⟩
  | .lst _, _, ⟨a, vs, e, t, n, x, r⟩ => ⟨a, vs, e, t, (hf a x).1, (hf a x).2, Reps.wide hf r⟩
  | .dct _, _, ⟨a, vs, e, t, n, x, r⟩ => ⟨a, vs, e, t, (hf a x).1, (hf a x).2, RepE.wide hf r⟩
  | .scr _, _, ⟨a, e, .inl ⟨t, n, x⟩⟩ => ⟨a, e, .inl ⟨t, hf a x⟩⟩
  | .scr _, _, ⟨a, e, .inr h⟩ => ⟨a, e, .inr h⟩
  | .exc _ _, _, h => h
  | .ref _, _, ⟨a, h, _⟩ => by simp at h
theorem Reps.wide {ex2 : Addr → Prop} {ρ2 : List Addr} (hf : ∀ a, ¬ ex a → a ∉ ρ2 ∧ ¬ ex2 a) : ∀ {ds : List D} {vs : List V}, Reps K ex H [] ds vs → Reps K ex2 H ρ2 ds vs
  | [], _, h => h
  | _ :: _, _, ⟨v, r, e, h, t⟩ => ⟨v, r, e, Rep.wide hf h, Reps.wide hf t⟩
theorem RepE.wide {ex2 : Addr → Prop} {ρ2 : List Addr} (hf : ∀ a, ¬ ex a → a ∉ ρ2 ∧ ¬ ex2 a) : ∀ {ds : List (Pl × D)} {vs : List (List Key × V)}, RepE K ex H [] ds vs → RepE K ex2 H ρ2 ds vs
  | [], _, h => h
  | (_, _) :: _, _, ⟨v, r, e, h, t⟩ => ⟨v, r, e, Rep.wide hf h, RepE.wide hf t⟩
end
mutual
theorem Rep.shift {ex2 : Addr → Prop} {ρ0 : List Addr} : ∀ {d : D} {v : V}, (flatR d = true ∨ ∀ a, a ∉ ρ → ¬ ex a → a ∉ ρ0 ++ ρ ∧ ¬ ex2 a) → Rep K ex H ρ d v → Rep K ex2 H (ρ0 ++ ρ) (shift ρ0.length d) v
  | .non, _, _, h => h
  | .bl _, _, _, h => h
  | .int _, _, _, h => h
  | .str _, _, _, h => h
  | .tup _, _, c, ⟨a, vs, e, t, r⟩ => ⟨a, vs, e, t, Reps.shift (c.imp (by intro h; simpa [flatR] using h) id) r⟩
  | .lst _, _, .inl c, _ => by simp [flatR] at c
  | .lst _, _, .inr c, ⟨a, vs, e, t, n, x, r⟩ => ⟨a, vs, e, t, (c a n x).1, (c a n x).2, Reps.shift (.inr c) r⟩
  | .dct _, _, .inl c, _ => by simp [flatR] at c
  | .dct _, _, .inr c, ⟨a, vs, e, t, n, x, r⟩ => ⟨a, vs, e, t, (c a n x).1, (c a n x).2, RepE.shift (.inr c) r⟩
  | .scr _, _, .inl c, _ => by simp [flatR] at c
  | .scr _, _, .inr c, ⟨a, e, .inl ⟨t, n, x⟩⟩ => ⟨a, e, .inl ⟨t, c a n x⟩⟩
  | .scr _, _, .inr c, ⟨a, e, .inr h⟩ => ⟨a, e, .inr h⟩
  | .exc _ _, _, _, h => h
  | .ref n, _, _, ⟨a, h, e⟩ => ⟨a, by rw [List.getElem?_append_right (Nat.le_add_right _ _), Nat.add_sub_cancel_left]; exact h, e⟩
theorem Reps.shift {ex2 : Addr → Prop} {ρ0 : List Addr} : ∀ {d : List D} {v : List V}, (flatRs d = true ∨ ∀ a, a ∉ ρ → ¬ ex a → a ∉ ρ0 ++ ρ ∧ ¬ ex2 a) → Reps K ex H ρ d v → Reps K ex2 H (ρ0 ++ ρ) (shifts ρ0.length d) v
  | [], _, _, h => h
  | _ :: _, _, c, ⟨v, r, e, h, t⟩ => ⟨v, r, e, Rep.shift (c.imp (by intro h; rw [flatRs, Bool.and_eq_true] at h; exact h.1) id) h, Reps.shift (c.imp (by intro h; rw [flatRs, Bool.and_eq_true] at h; exact h.2) id) t⟩
theorem RepE.shift {ex2 : Addr → Prop} {ρ0 : List Addr} : ∀ {d : List (Pl × D)} {v : List (List Key × V)}, (flatRE d = true ∨ ∀ a, a ∉ ρ → ¬ ex a → a ∉ ρ0 ++ ρ ∧ ¬ ex2 a) → RepE K ex H ρ d v → RepE K ex2 H (ρ0 ++ ρ) (shiftE ρ0.length d) v
  | [], _, _, h => h
  | (_, _) :: _, _, c, ⟨v, r, e, h, t⟩ => ⟨v, r, e, Rep.shift (c.imp (by intro h; rw [flatRE, Bool.and_eq_true] at h; exact h.1) id) h, RepE.shift (c.imp (by intro h; rw [flatRE, Bool.and_eq_true] at h; exact h.2) id) t⟩
end
theorem CellAt.shift {ex2 : Addr → Prop} {ρ0 : List Addr} {c : Cell} {a : Addr} (hc : flatC c = true ∨ ∀ a, a ∉ ρ → ¬ ex a → a ∉ ρ0 ++ ρ ∧ ¬ ex2 a) (h : CellAt K ex H ρ c a) : CellAt K ex2 H (ρ0 ++ ρ) (shiftC ρ0.length c) a := by
  cases c with
  | lst xs => obtain ⟨vs, e, r⟩ := h; exact ⟨vs, e, r.shift hc⟩
  | dct xs => obtain ⟨vs, e, r⟩ := h; exact ⟨vs, e, r.shift hc⟩
  | lckL xs => obtain ⟨o, vs, e, r⟩ := h; exact ⟨o, vs, e, r.shift hc⟩
  | lckD xs => obtain ⟨o, vs, e, r⟩ := h; exact ⟨o, vs, e, r.shift hc⟩
end
def PostV (K : PySem.W.Frag) (ex : Addr → Prop) (H : Hp) (ρ : List Addr) (res : RE) (X : Ex → Hp → List Addr → Store → Prop) (Q : VK) : Prop := match res with
  | .ok d st' => ∀ v H' ρ', Ext ρ H ρ' H' → Mem K ex H' ρ' st' → Rep K ex H' ρ' d v → Q v H'
  | .exc e st' => ∀ H' ρ', Ext ρ H ρ' H' → Mem K ex H' ρ' st' → X e H' ρ' st'
  | .no => False
def CallOk (K : PySem.W.Frag) (cl : Cl) (f : Nat) (vs : List V) (H : Hp) (Q : VK) (X : Ex → Hp → Prop) : Prop :=
  ∃ ex ρ st args, Mem K ex H ρ st ∧ Reps K ex H ρ args vs ∧ PostV K ex H ρ (cl f args st) (fun e H' _ _ => X e H') Q
section
variable {K : PySem.W.Frag} {ex : Addr → Prop} {H : Hp} {ρ : List Addr} {st : Store}
theorem Mem.nil (H : Hp) (ex : Addr → Prop) (h : ∀ a, ex a → H a ≠ none) : Mem K ex H [] [] := ⟨rfl, List.nodup_nil, fun n a c h => by simp at h, h, fun a h => by simp at h⟩
theorem Ext.same {H' : Hp} {ρc : List Addr} (e : Ext [] H ρc H') {a : Addr} (h : H a ≠ none) : H' a = H a := by
  cases q : H a with
  | none => exact absurd q h
  | some o => exact e.keep a o q (by simp)
theorem Mem.after {H' : Hp} {ρc : List Addr} (M : Mem K ex H ρ st) (e : Ext [] H ρc H') : Mem K ex H' ρ st ∧ Ext ρ H ρ H' := by
  have e2 : Ext ρ H ρ H' := ⟨fun a o h _ => e.keep a o h (by simp), e.tups, e.frzs, fun _ _ h => h, fun _ h => .inl h, e.trk⟩
  refine ⟨⟨M.len, M.nod, fun n a c h1 h2 => ?_, fun a h => e.trk a (M.exT a h), M.exD⟩, e2⟩
  have hc := M.cell n a c h1 h2
  exact hc.ext e2 (e.same hc.ne)
theorem Mem.join {ex' : Addr → Prop} {H' : Hp} {ρc : List Addr} {S : Store} (M : Mem K ex H ρ st) (e : Ext [] H ρc H') (M1 : Mem K ex' H' ρc S) (hC : (∀ c ∈ S, flatC c = true) ∨ ∀ a, a ∉ ρc → ¬ ex' a → a ∉ ρ ++ ρc ∧ ¬ ex a) :
    Mem K ex H' (ρ ++ ρc) (st ++ S.map (shiftC st.length)) ∧ Ext ρ H (ρ ++ ρc) H' := by
  have e2 := (M.after e).2
  have e3 : Ext ρ H (ρ ++ ρc) H' := ⟨e2.keep, e2.tups, e2.frzs, fun n a hh => by rw [List.getElem?_append_left (List.getElem?_eq_some_iff.mp hh).1]; exact hh, fun a m => (List.mem_append.mp m).elim .inl (fun q => .inr ((e.new a q).resolve_left (by simp))), e2.trk⟩
  refine ⟨⟨?_, ?_, fun n a c h1 h2 => ?_, fun a q => e.trk a (M.exT a q), fun a m => ?_⟩, e3⟩
  · rw [List.length_append, List.length_append, List.length_map, M.len, M1.len]
  · refine List.nodup_append.mpr ⟨M.nod, M1.nod, fun a h1 b h2 q => ?_⟩
    subst q
    exact M.tracked h1 ((e.new a h2).resolve_left (by simp))
  · by_cases hl : n < ρ.length
    · rw [List.getElem?_append_left hl] at h1
      rw [List.getElem?_append_left (by rw [← M.len]; exact hl)] at h2
      have hc' := M.cell n a c h1 h2
      exact hc'.ext e3 (e.same hc'.ne)
    · rw [List.getElem?_append_right (by omega)] at h1
      rw [List.getElem?_append_right (by rw [← M.len]; omega), List.getElem?_map] at h2
      obtain ⟨c0, hc0, rfl⟩ := Option.map_eq_some_iff.mp h2
      rw [← M.len] at hc0
      rw [← M.len]
      exact (M1.cell _ a c0 h1 hc0).shift (hC.imp (fun h => h c0 (mem_of_get hc0)) id)
  · exact (List.mem_append.mp m).elim (M.exD a) (fun q => fun x => M.exT a x ((e.new a q).resolve_left (by simp)))
theorem pcall_ok {cl : Cl} {f : Nat} {raw : Bool} {args : List D} {vs : List V} {Q : VK} {X : Ex → Hp → List Addr → Store → Prop} (M : Mem K ex H ρ st) (r : Reps K ex H ρ args vs)
    (h : PostV K ex H ρ (pcall cl f raw args st) X Q) : CallOk K cl f vs H Q (fun e H' => Ext ρ H ρ H' ∧ Mem K ex H' ρ st ∧ X e H' ρ st) := by
  unfold pcall at h
  cases ha : rsvs st args with
  | none => rw [ha] at h; exact h.elim
  | some args' =>
    rw [ha] at h
    simp only at h
    by_cases hn : noRefs args = true
    · -- no cell among the arguments: the callee's ban is ours and our cells
      have ea : args' = args := by rw [rsvs_noRef hn] at ha; exact (Option.some.inj ha).symm
      subst ea
      refine ⟨fun a => ex a ∨ a ∈ ρ, [], [], args', Mem.nil _ _ (fun a q => q.elim (M.exT a) M.tracked), Reps.anew (fun a h1 h2 => ⟨by simp, fun q => q.elim h2 h1⟩) hn r, ?_⟩
      cases hc : cl f args' [] with
      | no => rw [hc] at h; exact h.elim
      | exc e S =>
        rw [hc] at h
        intro H' ρ' e1 M1
        have e2 := M.after e1
        exact ⟨e2.2, e2.1, h H' ρ e2.2 e2.1⟩
      | ok d S =>
        rw [hc] at h
        simp only at h
        intro v H' ρ' e1 M1 r1
        rw [hn] at h
        simp only [Bool.true_or, if_true] at h
        have hC : ∀ a, a ∉ ρ' → ¬ (ex a ∨ a ∈ ρ) → a ∉ ρ ++ ρ' ∧ ¬ ex a := fun a h1 h2 => ⟨fun m => (List.mem_append.mp m).elim (fun q => h2 (.inr q)) h1, fun q => h2 (.inl q)⟩
        cases raw with
        | true =>
          simp only [if_true] at h
          have j := M.join e1 M1 (.inr hC)
          exact h v H' (ρ ++ ρ') j.2 j.1 (by rw [← M.len]; exact r1.shift (.inr hC))
        | false =>
          simp only [Bool.false_eq_true, if_false] at h
          have e2 := M.after e1
          cases hd : rsv S d with
          | none => rw [hd] at h; exact h.elim
          | some d' =>
            rw [hd] at h
            simp only at h
            have r2 : Rep K (fun a => ex a ∨ a ∈ ρ) H' [] d' v := Rep.rsv M1 (fun _ h => h) M1.exD hd r1
            exact h v H' ρ e2.2 e2.1 (r2.wide fun a h2 => ⟨fun q => h2 (.inr q), fun q => h2 (.inl q)⟩)
    · -- cells are seen as frozen: the answer is flat
      have hnf : noRefs args = false := by simpa using hn
      rw [hnf] at h
      simp only [Bool.false_or] at h
      refine ⟨fun _ => False, [], [], args', Mem.nil _ _ (fun a q => q.elim), Reps.rsv M (fun _ _ q => q) (fun _ _ q => q) ha r, ?_⟩
      cases hc : cl f args' [] with
      | no => rw [hc] at h; exact h.elim
      | exc e S =>
        rw [hc] at h
        intro H' ρ' e1 M1
        have e2 := M.after e1
        exact ⟨e2.2, e2.1, h H' ρ e2.2 e2.1⟩
      | ok d S =>
        rw [hc] at h
        simp only at h
        intro v H' ρ' e1 M1 r1
        cases raw with
        | true =>
          simp only [if_true] at h
          split at h
          · rename_i hf
            rw [Bool.and_eq_true] at hf
            have j := M.join e1 M1 (.inl (fun c hc => List.all_eq_true.mp hf.2 c hc))
            exact h v H' (ρ ++ ρ') j.2 j.1 (by rw [← M.len]; exact r1.shift (.inl hf.1))
          · exact h.elim
        | false =>
          simp only [Bool.false_eq_true, if_false] at h
          have e2 := M.after e1
          cases hd : rsv S d with
          | none => rw [hd] at h; exact h.elim
          | some d' =>
            rw [hd] at h
            simp only at h
            split at h
            · rename_i hf
              have r2 : Rep K (fun _ => False) H' [] d' v := Rep.rsv M1 (fun _ h => h) M1.exD hd r1
              exact h v H' ρ e2.2 e2.1 (r2.flat hf)
            · exact h.elim
mutual
theorem shift_nr0 (k : Nat) : ∀ (d : D), noRef d = true → MP.shift k d = d
  | .non, _ => by rw [MP.shift]
  | .bl _, _ => by rw [MP.shift]
  | .int _, _ => by rw [MP.shift]
  | .str _, _ => by rw [MP.shift]
  | .scr _, _ => by rw [MP.shift]
  | .exc _ _, _ => by rw [MP.shift]
  | .tup xs, h => by rw [MP.shift, shifts_nr0 k xs (by simpa [noRef] using h)]
  | .lst xs, h => by rw [MP.shift, shifts_nr0 k xs (by simpa [noRef] using h)]
  | .dct xs, h => by rw [MP.shift, shiftE_nr0 k xs (by simpa [noRef] using h)]
  | .ref _, h => by simp [noRef] at h
theorem shifts_nr0 (k : Nat) : ∀ (xs : List D), noRefs xs = true → shifts k xs = xs
  | [], _ => by rw [shifts]
  | x :: xs, h => by
    rw [noRefs, Bool.and_eq_true] at h
    rw [shifts, shift_nr0 k x h.1, shifts_nr0 k xs h.2]
theorem shiftE_nr0 (k : Nat) : ∀ (xs : List (Pl × D)), noRefE xs = true → shiftE k xs = xs
  | [], _ => by rw [shiftE]
  | (p, x) :: xs, h => by
    rw [noRefE, Bool.and_eq_true] at h
    rw [shiftE, shift_nr0 k x h.1, shiftE_nr0 k xs h.2]
end
mutual
theorem Rep.mapRef2 {ex2 : Addr → Prop} {g : Nat → Option D} (hf : ∀ a, a ∉ ρ → ¬ ex a → ¬ ex2 a) (hg : ∀ n d' v, g n = some d' → Rep K ex H ρ (.ref n) v → Rep K ex2 H [] d' v) :
    ∀ {d d' : D} {v : V}, mapRef g d = some d' → Rep K ex H ρ d v → Rep K ex2 H [] d' v
  | .non, _, _, c, h => by rw [MP.mapRef] at c; cases c; exact h
  | .bl _, _, _, c, h => by rw [MP.mapRef] at c; cases c; exact h
  | .int _, _, _, c, h => by rw [MP.mapRef] at c; cases c; exact h
  | .str _, _, _, c, h => by rw [MP.mapRef] at c; cases c; exact h
  | .exc _ _, _, _, c, h => by rw [MP.mapRef] at c; cases c; exact h
  | .scr _, _, _, c, h => by
    rw [MP.mapRef] at c
    cases c
    obtain ⟨a, e, ⟨t, n, x⟩ | h⟩ := h
    · exact ⟨a, e, .inl ⟨t, by simp, hf a n x⟩⟩
    · exact ⟨a, e, .inr h⟩
  | .ref n, _, _, c, h => hg n _ _ (by rw [MP.mapRef] at c; exact c) h
  | .tup xs, _, _, c, ⟨a, vs, e, t, r⟩ => by
    rw [MP.mapRef] at c
    obtain ⟨ys, hy, rfl⟩ := Option.map_eq_some_iff.mp c
    exact ⟨a, vs, e, t, Reps.mapRef2 hf hg hy r⟩
  | .lst xs, _, _, c, ⟨a, vs, e, t, n, x, r⟩ => by
    rw [MP.mapRef] at c
    obtain ⟨ys, hy, rfl⟩ := Option.map_eq_some_iff.mp c
    exact ⟨a, vs, e, t, by simp, hf a n x, Reps.mapRef2 hf hg hy r⟩
  | .dct xs, _, _, c, ⟨a, vs, e, t, n, x, r⟩ => by
    rw [MP.mapRef] at c
    obtain ⟨ys, hy, rfl⟩ := Option.map_eq_some_iff.mp c
    exact ⟨a, vs, e, t, by simp, hf a n x, RepE.mapRef2 hf hg hy r⟩
theorem Reps.mapRef2 {ex2 : Addr → Prop} {g : Nat → Option D} (hf : ∀ a, a ∉ ρ → ¬ ex a → ¬ ex2 a) (hg : ∀ n d' v, g n = some d' → Rep K ex H ρ (.ref n) v → Rep K ex2 H [] d' v) :
    ∀ {d d' : List D} {v : List V}, mapRefs g d = some d' → Reps K ex H ρ d v → Reps K ex2 H [] d' v
  | [], _, _, c, h => by rw [MP.mapRefs] at c; cases c; exact h
  | x :: xs, _, _, c, ⟨v, r, e, h, t⟩ => by
    rw [MP.mapRefs] at c
    split at c
    · rename_i y ys h1 h2
      cases c
      exact ⟨v, r, e, Rep.mapRef2 hf hg h1 h, Reps.mapRef2 hf hg h2 t⟩
    · cases c
theorem RepE.mapRef2 {ex2 : Addr → Prop} {g : Nat → Option D} (hf : ∀ a, a ∉ ρ → ¬ ex a → ¬ ex2 a) (hg : ∀ n d' v, g n = some d' → Rep K ex H ρ (.ref n) v → Rep K ex2 H [] d' v) :
    ∀ {d d' : List (Pl × D)} {v : List (List Key × V)}, mapRefE g d = some d' → RepE K ex H ρ d v → RepE K ex2 H [] d' v
  | [], _, _, c, h => by rw [MP.mapRefE] at c; cases c; exact h
  | (k, x) :: xs, _, _, c, ⟨v, r, e, h, t⟩ => by
    rw [MP.mapRefE] at c
    split at c
    · rename_i y ys h1 h2
      cases c
      exact ⟨v, r, e, Rep.mapRef2 hf hg h1 h, RepE.mapRef2 hf hg h2 t⟩
    · cases c
end
theorem Rep.rsvNX {ex2 : Addr → Prop} {st : Store} {l : Nat} (M : Mem K ex H ρ st) (hf : ∀ a, a ∉ ρ → ¬ ex a → ¬ ex2 a) (hr : ∀ n a, ρ[n]? = some a → n ≠ l → ¬ ex2 a) : ∀ (k : Nat) {d d' : D} {v : V}, rsvNX st l k d = some d' → Rep K ex H ρ d v → Rep K ex2 H [] d' v
  | 0, _, _, _, c, _ => by rw [MP.rsvNX] at c; cases c
  | k + 1, d, d', v, c, h => by
    rw [MP.rsvNX] at c
    refine Rep.mapRef2 hf (fun n d2 v2 c2 h2 => ?_) c h
    obtain ⟨a, ha, rfl⟩ := h2
    have ih : ∀ n d' v, MP.rsvNX st l k (.ref n) = some d' → Rep K ex H ρ (.ref n) v → Rep K ex2 H [] d' v := fun n d' v e r => Rep.rsvNX M hf hr k e r
    split at c2
    · cases c2
    rename_i hnl
    split at c2
    · rename_i xs hs
      obtain ⟨b, vs, h1, h2, h3⟩ := M.lst hs
      rw [ha] at h1
      cases h1
      obtain ⟨ys, hy, rfl⟩ := Option.map_eq_some_iff.mp c2
      exact ⟨a, vs, rfl, .inl h2, by simp, hr n a ha hnl, Reps.mapRef2 hf ih hy h3⟩
    · rename_i xs hs
      obtain ⟨b, h1, o, vs, h2, h3⟩ := M.at hs
      rw [ha] at h1
      cases h1
      obtain ⟨ys, hy, rfl⟩ := Option.map_eq_some_iff.mp c2
      exact ⟨a, vs, rfl, .inr ⟨o, h2⟩, by simp, hr n a ha hnl, Reps.mapRef2 hf ih hy h3⟩
    · rename_i xs hs
      obtain ⟨b, vs, h1, h2, h3⟩ := M.dct hs
      rw [ha] at h1
      cases h1
      obtain ⟨ys, hy, rfl⟩ := Option.map_eq_some_iff.mp c2
      exact ⟨a, vs, rfl, .inl h2, by simp, hr n a ha hnl, RepE.mapRef2 hf ih hy h3⟩
    · rename_i xs hs
      obtain ⟨b, h1, o, vs, h2, h3⟩ := M.at hs
      rw [ha] at h1
      cases h1
      obtain ⟨ys, hy, rfl⟩ := Option.map_eq_some_iff.mp c2
      exact ⟨a, vs, rfl, .inr ⟨o, h2⟩, by simp, hr n a ha hnl, RepE.mapRef2 hf ih hy h3⟩
    · cases c2
theorem Reps.split : ∀ {ds es : List D} {vs : List V}, Reps K ex H ρ (ds ++ es) vs → ∃ us ws, vs = us ++ ws ∧ Reps K ex H ρ ds us ∧ Reps K ex H ρ es ws
  | [], es, vs, h => ⟨[], vs, rfl, rfl, h⟩
  | d :: ds, es, _, ⟨v, r, e, h, t⟩ => by
    obtain ⟨us, ws, e2, h1, h2⟩ := Reps.split t
    exact ⟨v :: us, ws, by rw [e, e2]; rfl, ⟨v, us, rfl, h, h1⟩, h2⟩
theorem scall_ok {cl : Cl} {f : Nat} {args : List D} {vs : List V} {Q : VK} {X : Ex → Hp → List Addr → Store → Prop} (M : Mem K ex H ρ st) (r : Reps K ex H ρ args vs)
    (h : PostV K ex H ρ (scall cl f args st) X Q) : CallOk K cl f vs H Q (fun e H' => Ext ρ H ρ H' ∧ Mem K ex H' ρ st ∧ X e H' ρ st) := by
  unfold scall at h
  by_cases hn : noRefs args = true
  · rw [if_pos hn] at h
    refine ⟨fun a => ex a ∨ a ∈ ρ, [], [], args, Mem.nil _ _ (fun a q => q.elim (M.exT a) M.tracked), Reps.anew (fun a h1 h2 => ⟨by simp, fun q => q.elim h2 h1⟩) hn r, ?_⟩
    cases hc : cl f args [] with
    | no => rw [hc] at h; exact h.elim
    | exc e S =>
      rw [hc] at h
      intro H' ρ' e1 M1
      have e2 := M.after e1
      exact ⟨e2.2, e2.1, h H' ρ e2.2 e2.1⟩
    | ok d S =>
      rw [hc] at h
      cases d with
      | tup ds =>
        simp only at h
        cases hs : semiD ds S st.length with
        | none => rw [hs] at h; exact h.elim
        | some dc =>
          obtain ⟨d', c⟩ := dc
          rw [hs] at h
          simp only at h
          intro v H' ρ' e1 M1 r1
          unfold semiD at hs
          split at hs
          · rename_i l hl
            split at hs
            · rename_i xs hx
              split at hs
              · rename_i hnx
                obtain ⟨ys, hy, hq⟩ := Option.map_eq_some_iff.mp hs
                cases hq
                obtain ⟨t, us, rfl, ht, rs⟩ := r1
                have hds : ds = ds.dropLast ++ [.ref l] := by
                  obtain ⟨zs, e0⟩ := List.getLast?_eq_some_iff.mp hl
                  rw [e0, List.dropLast_concat]
                rw [hds] at rs
                obtain ⟨u1, u2, rfl, ra, w, w2, rfl, ⟨al, hal, rfl⟩, rfl⟩ := Reps.split rs
                obtain ⟨b, vs2, hb1, hb2, hb3⟩ := M1.lst hx
                rw [hal] at hb1
                cases hb1
                have hC : ∀ a, a ∉ [al] → ¬ (ex a ∨ a ∈ ρ) → a ∉ ρ ++ [al] ∧ ¬ ex a := fun a h1 h2 => ⟨fun m => (List.mem_append.mp m).elim (fun q => h2 (.inr q)) h1, fun q => h2 (.inl q)⟩
                have hmem : al ∈ ρ' := mem_of_get hal
                have e1' : Ext [] H [al] H' := ⟨e1.keep, e1.tups, e1.frzs, fun n a q => by simp at q, fun a q => by rw [List.mem_singleton.mp q]; exact e1.new al hmem, e1.trk⟩
                have M1' : Mem K (fun a => ex a ∨ a ∈ ρ) H' [al] [.lst xs] := ⟨rfl, by simp, fun n a c q1 q2 => by
                  match n, q1, q2 with
                  | 0, q1, q2 =>
                    cases q1
                    cases q2
                    exact ⟨vs2, hb2, Reps.anew (fun a h1 h2 => ⟨fun m => h1 (by rw [List.mem_singleton.mp m]; exact hmem), h2⟩) hnx hb3⟩
                  | n + 1, q1, q2 => simp at q1, fun a q => M1.exT a q, fun a q => by rw [List.mem_singleton.mp q]; exact M1.exD al hmem⟩
                have j := M.join e1' M1' (.inr hC)
                have hsh : [Cell.lst xs].map (shiftC st.length) = [.lst xs] := by
                  show [Cell.lst (shifts st.length xs)] = _
                  rw [shifts_nr0 _ xs hnx]
                rw [hsh] at j
                refine h (.ref t) H' (ρ ++ [al]) j.2 j.1 ⟨t, _, rfl, ht, Reps.append ?_ ⟨.ref al, [], rfl, ⟨al, ?_, rfl⟩, rfl⟩⟩
                · have q1 : Reps K (fun a => (ex a ∨ a ∈ ρ) ∨ a = al) H' [] ys u1 := Reps.mapRef2 (ex := fun a => ex a ∨ a ∈ ρ) (ρ := ρ') (fun a h1 h2 => fun q => q.elim h2 (fun z => h1 (by rw [z]; exact hmem)))
                    (fun n d'' v'' c'' r'' => Rep.rsvNX M1 (fun a h1 h2 => fun q => q.elim h2 (fun z => h1 (by rw [z]; exact hmem))) (fun n2 a2 h1 h2 => fun q => q.elim (M1.exD a2 (mem_of_get h1)) (fun z => by
                      subst z
                      exact h2 (nodup_get M1.nod h1 hal))) 20 c'' r'') hy ra
                  exact q1.wide fun a h2 => ⟨fun m => (List.mem_append.mp m).elim (fun q => h2 (.inl (.inr q))) (fun q => h2 (.inr (List.mem_singleton.mp q))), fun q => h2 (.inl (.inl q))⟩
                · rw [List.getElem?_append_right (by rw [M.len]; exact Nat.le_refl _), M.len, Nat.sub_self]; rfl
              · cases hs
            · cases hs
          · cases hs
      | _ => exact h.elim
  · rw [if_neg hn] at h
    exact h.elim
mutual
theorem Rep.dctF (M : Mem K ex H ρ st) : ∀ {d d' : D} {v : V}, dctF st d = some d' → Rep K ex H ρ d v → Rep K (fun a => ex a ∨ (a ∈ ρ ∧ ∀ kvs, ¬ Rd H a (.dT kvs))) H [] d' v
  | .non, _, _, c, h => by rw [MP.dctF] at c; cases c; exact h
  | .bl _, _, _, c, h => by rw [MP.dctF] at c; cases c; exact h
  | .int _, _, _, c, h => by rw [MP.dctF] at c; cases c; exact h
  | .str _, _, _, c, h => by rw [MP.dctF] at c; cases c; exact h
  | .exc _ _, _, _, c, h => by rw [MP.dctF] at c; cases c; exact h
  | .scr _, _, _, c, h => by
    rw [MP.dctF] at c
    cases c
    exact Rep.anew (fun a h1 h2 => ⟨by simp, fun q => q.elim h2 (fun z => h1 z.1)⟩) rfl h
  | .lst xs, _, _, c, h => by
    rw [MP.dctF] at c
    split at c
    · rename_i hn
      cases c
      exact Rep.anew (fun a h1 h2 => ⟨by simp, fun q => q.elim h2 (fun z => h1 z.1)⟩) (show noRef (.lst xs) = true from hn) h
    · cases c
  | .dct es, _, _, c, h => by
    rw [MP.dctF] at c
    split at c
    · rename_i hn
      cases c
      exact Rep.anew (fun a h1 h2 => ⟨by simp, fun q => q.elim h2 (fun z => h1 z.1)⟩) (show noRef (.dct es) = true from hn) h
    · cases c
  | .tup xs, _, _, c, ⟨a, vs, e, t, r⟩ => by
    rw [MP.dctF] at c
    obtain ⟨ys, hy, rfl⟩ := Option.map_eq_some_iff.mp c
    exact ⟨a, vs, e, t, Reps.dctF M hy r⟩
  | .ref n, _, _, c, ⟨a, ha, e⟩ => by
    rw [MP.dctF] at c
    split at c
    · rename_i es hs
      split at c
      · rename_i hn
        cases c
        obtain ⟨b, kvs, h1, h2, h3⟩ := M.dct hs
        rw [ha] at h1
        cases h1
        exact ⟨a, kvs, e, .inl h2, by simp, fun q => q.elim (M.exD a (mem_of_get ha)) (fun z => z.2 kvs (.inl h2)), RepE.anew (fun a h1 h2 => ⟨by simp, fun q => q.elim h2 (fun z => h1 z.1)⟩) hn h3⟩
      · cases c
    · rename_i es hs
      split at c
      · rename_i hn
        cases c
        obtain ⟨b, h1, o, kvs, h2, h3⟩ := M.at hs
        rw [ha] at h1
        cases h1
        exact ⟨a, kvs, e, .inr ⟨o, h2⟩, by simp, fun q => q.elim (M.exD a (mem_of_get ha)) (fun z => z.2 kvs (.inr ⟨o, h2⟩)), RepE.anew (fun a h1 h2 => ⟨by simp, fun q => q.elim h2 (fun z => h1 z.1)⟩) hn h3⟩
      · cases c
    · cases c
theorem Reps.dctF (M : Mem K ex H ρ st) : ∀ {d d' : List D} {v : List V}, dctFs st d = some d' → Reps K ex H ρ d v → Reps K (fun a => ex a ∨ (a ∈ ρ ∧ ∀ kvs, ¬ Rd H a (.dT kvs))) H [] d' v
  | [], _, _, c, h => by rw [MP.dctFs] at c; cases c; exact h
  | x :: xs, _, _, c, ⟨v, r, e, h, t⟩ => by
    rw [MP.dctFs] at c
    split at c
    · rename_i y ys h1 h2
      cases c
      exact ⟨v, r, e, Rep.dctF M h1 h, Reps.dctF M h2 t⟩
    · cases c
end
mutual
theorem Rep.lstO {ex2 : Addr → Prop} {ρ2 : List Addr} (hf : ∀ a vs, Rd H a (.lst vs) → a ∉ ρ → ¬ ex a → a ∉ ρ2 ∧ ¬ ex2 a) : ∀ {d : D} {v : V}, lstO d = true → Rep K ex H ρ d v → Rep K ex2 H ρ2 d v
  | .non, _, _, h => h
  | .bl _, _, _, h => h
  | .int _, _, _, h => h
  | .str _, _, _, h => h
  | .tup _, _, c, ⟨a, vs, e, t, r⟩ => ⟨a, vs, e, t, Reps.lstO hf (by simpa [MP.lstO] using c) r⟩
  | .lst _, _, c, ⟨a, vs, e, t, n, x, r⟩ => ⟨a, vs, e, t, (hf a vs t n x).1, (hf a vs t n x).2, Reps.lstO hf (by simpa [MP.lstO] using c) r⟩
  | .dct _, _, c, _ => by simp [MP.lstO] at c
  | .scr _, _, c, _ => by simp [MP.lstO] at c
  | .exc _ _, _, c, _ => by simp [MP.lstO] at c
  | .ref _, _, c, _ => by simp [MP.lstO] at c
theorem Reps.lstO {ex2 : Addr → Prop} {ρ2 : List Addr} (hf : ∀ a vs, Rd H a (.lst vs) → a ∉ ρ → ¬ ex a → a ∉ ρ2 ∧ ¬ ex2 a) : ∀ {ds : List D} {vs : List V}, lstOs ds = true → Reps K ex H ρ ds vs → Reps K ex2 H ρ2 ds vs
  | [], _, _, h => h
  | _ :: _, _, c, ⟨v, r, e, h, t⟩ => by
    rw [lstOs, Bool.and_eq_true] at c
    exact ⟨v, r, e, Rep.lstO hf c.1 h, Reps.lstO hf c.2 t⟩
end
theorem dcall_ok {cl : Cl} {f : Nat} {args : List D} {vs : List V} {Q : VK} {X : Ex → Hp → List Addr → Store → Prop} (M : Mem K ex H ρ st) (r : Reps K ex H ρ args vs)
    (h : PostV K ex H ρ (dcall cl f args st) X Q) : CallOk K cl f vs H Q (fun e H' => Ext ρ H ρ H' ∧ Mem K ex H' ρ st ∧ X e H' ρ st) := by
  unfold dcall at h
  cases ha : dctFs st args with
  | none => rw [ha] at h; exact h.elim
  | some args' =>
    rw [ha] at h
    simp only at h
    refine ⟨fun a => ex a ∨ (a ∈ ρ ∧ ∀ kvs, ¬ Rd H a (.dT kvs)), [], [], args', Mem.nil _ _ (fun a q => q.elim (M.exT a) (fun z => M.tracked z.1)), Reps.dctF M ha r, ?_⟩
    cases hc : cl f args' [] with
    | no => rw [hc] at h; exact h.elim
    | exc e S =>
      rw [hc] at h
      intro H' ρ' e1 M1
      have e2 := M.after e1
      exact ⟨e2.2, e2.1, h H' ρ e2.2 e2.1⟩
    | ok d S =>
      rw [hc] at h
      simp only at h
      split at h
      · rename_i hl
        intro v H' ρ' e1 M1 r1
        have e2 := M.after e1
        refine h v H' ρ e2.2 e2.1 (Rep.lstO (fun a vs t n x => ⟨fun m => ?_, fun q => x (.inl q)⟩) hl r1)
        refine x (.inr ⟨m, fun kvs q => ?_⟩)
        have hs := e1.same (M.tracked m)
        rcases t with t | ⟨o, t⟩ <;> rcases q with q | ⟨o', q⟩ <;> rw [hs, q] at t <;> cases t
      · exact h.elim
theorem xcall_ok {k : Nat} {cl : Cl} {f : Nat} {args : List D} {vs : List V} {Q : VK} {X : Ex → Hp → List Addr → Store → Prop} (M : Mem K ex H ρ st) (r : Reps K ex H ρ args vs)
    (h : PostV K ex H ρ (xcall k cl f args st) X Q) : CallOk K cl f vs H Q (fun e H' => Ext ρ H ρ H' ∧ Mem K ex H' ρ st ∧ X e H' ρ st) := by
  unfold xcall at h
  split at h
  · exact scall_ok M r h
  · exact dcall_ok M r h
end
end MP
end
section
set_option maxRecDepth 100000
set_option maxHeartbeats 4000000
namespace MP
open PySem PySem.Spec PyProof.Rows L2 PySem.W
section
variable {prog : Program} {w : World} {K : Type} [DecidableEq K] {knd : HeapKind prog w K} {A : Around} {E : Value → Shared → Prop} {s : Shared}
def HitsT (prog : Program) (w : World) (A : Around) (s : Shared) (ys : List (K × Addr × Value)) (xs : List (K × Addr × Value)) : Prop :=
  ∀ x ∈ xs, ∃ p, atKey ys x.1 = some p ∧ SeqAt.EqP prog w A s x.2.2 p.2 true
theorem samePairsH {nm : String} {a b : Addr} {xs ys : List (K × Addr × Value)} {Q : Bool → Shared → Prop} (hu : knd.room A) (ha : (a == sysModules) = false) (hb : (b == sysModules) = false)
    (da : s.heap.DictOfH knd a xs) (db : s.heap.DictOfH knd b ys) (hl : xs.length = ys.length) (hits : HitsT prog w A s ys xs) (h : Q true s) :
    wpAny (model prog w) A (Builtin.Dict.samePairs nm a b) Q E s := by
  obtain ⟨oa, es, ep, hoa, _, hda, hea, hia, hna⟩ := da
  obtain ⟨ob, es', ep', hob, _, hdb, heb, hib, hnb⟩ := db
  have hla : xs.length = es.size := (size_of_entries hea).symm
  have hlb : ys.length = es'.size := (size_of_entries heb).symm
  have hsz : es.size = es'.size := by omega
  unfold Builtin.Dict.samePairs Builtin.Dict.showsAll
  rw [if_neg (show ¬ (a == sysModules) = true by rw [ha]; exact Bool.false_ne_true), if_neg (show ¬ (b == sysModules) = true by rw [hb]; exact Bool.false_ne_true)]
  refine wpAny_bind (wpAny_pure (wpAny_bind (wpAny_pure ?_)))
  refine wpAny_bind (wpAny_dictEntries hoa hda ?_)
  dsimp only
  refine wpAny_bind (wpAny_dictEntries hob hdb ?_)
  rw [if_neg (by rw [hsz]; simp)]
  refine wpAny_bind (wpAny_dictEpoch hoa hda ?_)
  refine wpAny_bind ?_
  rw [Std.Legacy.Range.forIn_eq_forIn_range']
  simp only [Std.Legacy.Range.size, Nat.sub_zero, Nat.add_sub_cancel, Nat.div_one]
  refine wpAny_forIn_list _
    (fun rest q s' => s' = s ∧ q = (none, ()) ∧ ∃ i, rest = List.range' i (es.size - i) ∧ i ≤ es.size)
    _ ?_ ?_ _ _ ⟨rfl, rfl, 0, by simp, Nat.zero_le _⟩
  · rintro x rest q s' ⟨rfl, rfl, i, hr, hi⟩
    have hlt : i < es.size := by
      rcases Nat.lt_or_ge i es.size with h | h
      · exact h
      · rw [Nat.sub_eq_zero_of_le h] at hr; simp at hr
    obtain ⟨rfl, hrest⟩ : x = i ∧ rest = List.range' (i + 1) (es.size - (i + 1)) := by
      have e : es.size - i = (es.size - (i + 1)) + 1 := by omega
      rw [e, List.range'_succ] at hr
      injection hr with h1 h2
      exact ⟨h1, h2⟩
    refine wpAny_bind (wpAny_dictEntries hoa hda ?_)
    have hx : x < xs.length := by rw [hla]; exact hlt
    obtain ⟨k, ka, v, hkv⟩ : ∃ k ka v, xs[x] = (k, ka, v) := ⟨_, _, _, rfl⟩
    have hxe : es[x]? = some (entryOfKey knd (k, ka, v)) := by rw [entry_at hea x, List.getElem?_eq_getElem hx, hkv]; rfl
    rw [hxe]
    have hmem : (k, ka, v) ∈ xs := by rw [← hkv]; exact List.getElem_mem hx
    have hkey := hia _ hmem
    obtain ⟨p, hp, heq⟩ := hits _ hmem
    show wpAny _ _ (holding [Value.ref ka, v] _ >>= _) _ _ _
    refine wpAny_bind (wpAny_holding (wpAny_bind (wpAny_dictFind_heap hu hkey hob hdb heb hib hnb ?_ ?_)))
    · intro hno
      rw [atKey_none_of_get hno] at hp
      cases hp
    · intro j pj hj
      have hpj := atKey_of_get hnb hj
      rw [hp] at hpj
      cases hpj
      refine wpAny_bind (wpAny_dictEntries hob hdb ?_)
      rw [entry_at heb j, hj]
      refine wpAny_holding (heq _ _ ?_)
      show wpAny _ _ (if (!true) = true then _ else _) _ _ _
      rw [if_neg (by decide)]
      refine wpAny_bind (wpAny_dictEpoch hoa hda ?_)
      rw [if_neg (by simp)]
      exact wpAny_pure ⟨rfl, rfl, x + 1, hrest, hlt⟩
  · rintro q s' ⟨rfl, rfl, i, hr, hi⟩
    exact wpAny_pure h
theorem eq_dictsH {a b : Addr} {xs ys : List (K × Addr × Value)} {Q : Value → Shared → Prop} (hr : knd.room A.in1) (ha : (a == sysModules) = false) (hb : (b == sysModules) = false)
    (da : s.heap.DictOfH knd a xs) (db : s.heap.DictOfH knd b ys) (hu : A.units < cLine) (hl : xs.length = ys.length) (hits : HitsT prog w A.in1 s ys xs) (h : Q (.bool true) s) :
    wpAny (model prog w) A (compareOp .Eq (.ref a) (.ref b)) Q E s := by
  refine wpAny_richCompare_same_room (op := .Eq) da.typeIs db.typeIs PySem.F.slot_dict_eq (wpAny_call_entry PySem.F.slot_dict_eq da.typeIs PySem.F.entry_dict_eq ?_ (PySem.F.args_dict_eq_2 _ _)) hu
  show wpAny _ _ (Builtin.Dict.dictSlotArgs "__eq__" ⟨[.ref a, .ref b], []⟩ >>= _) _ _ s
  refine wpAny_bind ?_
  unfold Builtin.Dict.dictSlotArgs
  refine wpAny_bind (wpAny_notOrdered_dict da.typeIs ?_)
  show wpAny _ _ (pure (Value.ref a, Value.ref b)) _ _ s
  refine wpAny_pure ?_
  refine wpAny_bind (wpAny_isInstance (T := "dict") db.typeIs PySem.F.sub_dict_dict ?_)
  simp only [Bool.not_true, Bool.false_eq_true, if_false]
  refine wpAny_bind (wpAny_pure (wpAny_bind (wpAny_pure ?_)))
  refine wpAny_bind (samePairsH hr ha hb da db hl hits ?_)
  exact wpAny_pure ⟨_, rfl, (fun x => nomatch x), by simpa using h⟩
theorem ne_dictsH {a b : Addr} {xs ys : List (K × Addr × Value)} {Q : Value → Shared → Prop} (hr : knd.room A.in1) (ha : (a == sysModules) = false) (hb : (b == sysModules) = false)
    (da : s.heap.DictOfH knd a xs) (db : s.heap.DictOfH knd b ys) (hu : A.units < cLine) (hl : xs.length = ys.length) (hits : HitsT prog w A.in1 s ys xs) (h : Q (.bool false) s) :
    wpAny (model prog w) A (compareOp .NotEq (.ref a) (.ref b)) Q E s := by
  refine wpAny_richCompare_same_room (op := .NotEq) da.typeIs db.typeIs PySem.F.slot_dict_ne (wpAny_call_entry PySem.F.slot_dict_ne da.typeIs PySem.F.entry_dict_ne ?_ (PySem.F.args_dict_ne_2 _ _)) hu
  show wpAny _ _ (Builtin.Dict.dictSlotArgs "__ne__" ⟨[.ref a, .ref b], []⟩ >>= _) _ _ s
  refine wpAny_bind ?_
  unfold Builtin.Dict.dictSlotArgs
  refine wpAny_bind (wpAny_notOrdered_dict da.typeIs ?_)
  show wpAny _ _ (pure (Value.ref a, Value.ref b)) _ _ s
  refine wpAny_pure ?_
  refine wpAny_bind (wpAny_isInstance (T := "dict") db.typeIs PySem.F.sub_dict_dict ?_)
  simp only [Bool.not_true, Bool.false_eq_true, if_false]
  refine wpAny_bind (wpAny_pure (wpAny_bind (wpAny_pure ?_)))
  refine wpAny_bind (samePairsH hr ha hb da db hl hits ?_)
  exact wpAny_pure ⟨_, rfl, (fun x => nomatch x), by simpa using h⟩
end
def SameT (K : PySem.W.Frag) (H : Hp) (x y : V) : Prop := ∃ a b ks ls, x = .ref a ∧ y = .ref b ∧ Rd H a (.dT ks) ∧ Rd H b (.dT ls) ∧ ks.length = ls.length ∧
  ∀ p ∈ ks, ∃ u, valV ls p.1 = some u ∧ ∃ d e, Dp K H p.2 d ∧ Dp K H u e ∧ SeqAt.shaped d = true ∧ SeqAt.shaped e = true ∧ PyData.eqv d e = true
section
variable {X : Cx}
theorem hitsT {pins : List (Addr × Obj)} {σ : L2.St} {H : Hp} {s : Shared} {A : Around} (I : Inv X pins σ H s) (hu : A.in1.units + 64 < cLine) {ls : List (List Key × V)} {ys : List (List Key × Addr × Value)} (ry : KT H ls ys) :
    ∀ {ks : List (List Key × V)} {xs : List (List Key × Addr × Value)}, KT H ks xs → (∀ p ∈ ks, ∃ u, valV ls p.1 = some u ∧ ∃ d e, Dp X.K H p.2 d ∧ Dp X.K H u e ∧ SeqAt.shaped d = true ∧ SeqAt.shaped e = true ∧ PyData.eqv d e = true) → HitsT X.prog X.w A.in1 s ys xs := by
  intro ks xs rx
  induction rx with
  | nil => intro _ x hx; exact nomatch hx
  | @cons p q ps qs h t ih =>
    intro hp x hx
    rcases List.mem_cons.mp hx with e | hx
    · subst e
      obtain ⟨u, hu1, d, e, h1, h2, h3, h4, h5⟩ := hp p List.mem_cons_self
      obtain ⟨e1, _, rv⟩ := h
      have rr := ry.val p.1
      rw [hu1] at rr
      obtain ⟨z, hz, rz⟩ := rr.some_of
      obtain ⟨pp, hpp, rfl⟩ := Option.map_eq_some_iff.mp hz
      rw [e1] at hpp
      obtain ⟨as, r1⟩ := Dp.reads I d _ _ h1 rv
      obtain ⟨bs, r2⟩ := Dp.reads I e _ _ h2 rz
      have := keq_at (A := A) r1 r2 h3 h4 hu
      rw [h5] at this
      exact ⟨pp, hpp, this.eqP⟩
    · exact ih (fun p' m => hp p' (List.mem_cons_of_mem _ m)) x hx
def rEqT (K : PySem.W.Frag) : R2 := fun x y H Q => SameT K H x y ∧ Q (.bl true) H
def rNeT (K : PySem.W.Frag) : R2 := fun x y H Q => SameT K H x y ∧ Q (.bl false) H
theorem op_eqT (hu : X.A.units + 65 < cLine) : OpR X (compareOp .Eq) (rEqT X.K) := by
  intro pins s σ H x y v u Q I rx ry h
  obtain ⟨⟨a, b, ks, ls, rfl, rfl, ea, eb, hlen, hp⟩, q⟩ := h
  obtain rfl : v = Value.ref a := rx
  obtain rfl : u = Value.ref b := ry
  obtain ⟨_, ya, xs, ra, da⟩ := dt_rd I.hok ea
  obtain ⟨_, yb, ys, rb, db⟩ := dt_rd I.hok eb
  have hl : xs.length = ys.length := by rw [← Paired.length ra, ← Paired.length rb]; exact hlen
  have hu1 : X.A.in1.units = X.A.units + 1 := rfl
  exact eq_dictsH (tupleKind_room_in1 (by omega)) ya yb da db (by omega) hl (hitsT I (by omega) rb ra hp) ⟨.bl true, H, I, rfl, q⟩
theorem op_neT (hu : X.A.units + 65 < cLine) : OpR X (compareOp .NotEq) (rNeT X.K) := by
  intro pins s σ H x y v u Q I rx ry h
  obtain ⟨⟨a, b, ks, ls, rfl, rfl, ea, eb, hlen, hp⟩, q⟩ := h
  obtain rfl : v = Value.ref a := rx
  obtain rfl : u = Value.ref b := ry
  obtain ⟨_, ya, xs, ra, da⟩ := dt_rd I.hok ea
  obtain ⟨_, yb, ys, rb, db⟩ := dt_rd I.hok eb
  have hl : xs.length = ys.length := by rw [← Paired.length ra, ← Paired.length rb]; exact hlen
  have hu1 : X.A.in1.units = X.A.units + 1 := rfl
  exact ne_dictsH (tupleKind_room_in1 (by omega)) ya yb da db (by omega) hl (hitsT I (by omega) rb ra hp) ⟨.bl false, H, I, rfl, q⟩
theorem opr_or {f : Value → Value → Sem Value} {r r' : R2} (h : OpR X f r) (h' : OpR X f r') : OpR X f fun x y H Q => r x y H Q ∨ r' x y H Q := by
  intro pins s σ H x y v u Q I rx ry q
  rcases q with q | q
  · exact h pins s σ H x y v u Q I rx ry q
  · exact h' pins s σ H x y v u Q I rx ry q
end
end MP
end
section
set_option maxRecDepth 100000
set_option maxHeartbeats 4000000
namespace PySem.SeqAt
open AutoSeq1 (wpAny_loadPart')
open MeetsSeq MeetsSeq2 MeetsSeq3 SeqRoads2
section
variable {prog : Program} {w : World}
theorem mpTupNe (l b : Addr) (xs ys : Array Value) (n n2 : Nat) (dd dd2 : Option Addr) (sl sl2 : Array (Option Value)) (hsz : xs.size = ys.size) :
    MeetsIn prog w (Builtin.«tuple.__ne__» ⟨[.ref l, .ref b], []⟩)
      (fun A R s => s.heap.get? l = some { cls := .type "tuple", dict := dd, data := .seq xs n, slots := sl } ∧ s.heap.get? b = some { cls := .type "tuple", dict := dd2, data := .seq ys n2, slots := sl2 } ∧
        (∀ j (g1 : j < xs.size) (g2 : j < ys.size), EqP prog w A.in1 s xs[j] ys[j] true) ∧ R (.ok (.ret (.bool false))) s) :=
  .of_wp fun A R s h => by
    obtain ⟨hp, g, d, tk, os⟩ := s
    obtain ⟨hl, hb, he, h⟩ := h
    have ft := AutoSeq1.sub_tuple_tuple
    have hz0 : (xs.toList.zip ys.toList).length = xs.size := by simp [hsz]
    wp_walk using wpAny_loadPart' hl, wpAny_loadPart' hb, wpAny_forIn_list _ (fun r q s' => q.1 = none ∧ s' = ⟨hp, g, d, tk, os⟩ ∧ ∃ i, r = (xs.toList.zip ys.toList).drop i) _
    case turn =>
      rintro ⟨y, x⟩ r q s' ⟨hq, rfl, i, hz⟩
      have ilt : i < (xs.toList.zip ys.toList).length := by
        refine Nat.lt_of_not_le fun hge => ?_
        rw [List.drop_of_length_le hge] at hz
        cases hz
      have g1 : i < xs.size := hz0 ▸ ilt
      have g2 : i < ys.size := hsz ▸ g1
      rw [List.drop_eq_getElem_cons ilt] at hz
      injection hz with e1 e2
      have ey : y = xs[i] := by simpa using congrArg Prod.fst e1
      have ex : x = ys[i] := by simpa using congrArg Prod.snd e1
      subst ey ex
      refine wpAny_bind (he i g1 g2 _ _ ?_)
      wp_walk
      exact ⟨rfl, rfl, i + 1, e2⟩
    case fin =>
      rintro ⟨q1, q2⟩ s' ⟨hq, rfl, i, hz⟩
      simp only at hq
      subst hq
      wp_walk
      exact ⟨_, rfl, by simpa [Builtin.Tuple.tupleCompareSizes, bne, hsz] using h⟩
    case h =>
      exact ⟨rfl, rfl, 0, rfl⟩
theorem mpNeTuples {A : Around} {s : Shared} {E : Value → Shared → Prop} {l b : Addr} {xs ys : Array Value} {Q : Value → Shared → Prop} (hl : s.heap.IsTuple l xs) (hb : s.heap.IsTuple b ys) (hsz : xs.size = ys.size) (hu : A.units < cLine)
    (he : ∀ j (g1 : j < xs.size) (g2 : j < ys.size), EqP prog w A.in1 s xs[j] ys[j] true) (h : Q (.bool false) s) : wpAny (model prog w) A (richCompare .NotEq (.ref l) (.ref b)) Q E s := by
  obtain ⟨⟨c1, d1, t1, s1⟩, ho, hc, n, hd⟩ := id hl
  obtain ⟨⟨c2, d2, t2, s2⟩, ho2, hc2, n2, hd2⟩ := id hb
  simp only at hc hd hc2 hd2
  subst hc hd hc2 hd2
  exact wpAny_richCompare_same_room (T := "tuple") (op := .NotEq) ⟨_, ho, rfl⟩ ⟨_, ho2, rfl⟩ F.slot_tuple_ne (call_meetsIn F.slot_tuple_ne ⟨_, ho, rfl⟩ F.entry_tuple_ne (F.args_tuple_ne_2 _ _) (mpTupNe l b xs ys n n2 d1 d2 s1 s2 hsz)
    ⟨ho, ho2, he, show Value.bool false ≠ Value.notImplemented ∧ Q (.bool false) s from ⟨(fun z => nomatch z), h⟩⟩) hu
end
end PySem.SeqAt
namespace MP
open PySem PySem.Spec PyProof.Rows L2 PySem.W
def SameX (K : Frag) (H : Hp) : Nat → V → V → Prop
  | 0 => fun _ _ => False
  | n + 1 => fun x y => (∃ d e, Dp K H x d ∧ Dp K H y e ∧ SeqAt.shaped d = true ∧ SeqAt.shaped e = true ∧ PyData.eqv d e = true) ∨ SameT K H x y ∨
      ∃ a b xs ys, x = .ref a ∧ y = .ref b ∧ SqT K H a xs ∧ SqT K H b ys ∧ Paired (SameX K H n) xs ys
section
variable {X : Cx} {pins : List (Addr × Obj)} {σ : L2.St} {H : Hp} {s : Shared}
theorem sameT_rc (I : L2.Inv X pins σ H s) {A : Around} (hu : A.units + 70 < cLine) {x y : V} {v u : Value} (h : SameT X.K H x y) (rx : RelV x v) (ry : RelV y u) (E Q : Value → Shared → Prop) (q : Q (.bool true) s) :
    wpAny (model X.prog X.w) A (richCompare .Eq v u) Q E s := by
  obtain ⟨a, b, ks, ls, rfl, rfl, ea, eb, hlen, hp⟩ := h
  obtain rfl : v = Value.ref a := rx
  obtain rfl : u = Value.ref b := ry
  obtain ⟨_, ya, xs, ra, da⟩ := dt_rd I.hok ea
  obtain ⟨_, yb, ys, rb, db⟩ := dt_rd I.hok eb
  have hl : xs.length = ys.length := by rw [← Paired.length ra, ← Paired.length rb]; exact hlen
  have hu1 : A.in1.units = A.units + 1 := rfl
  exact eq_dictsH (tupleKind_room_in1 (by omega)) ya yb da db (by omega) hl (hitsT I (by omega) rb ra hp) q
theorem same_eqP (I : L2.Inv X pins σ H s) : ∀ (n : Nat) (A : Around), A.units + 70 + n < cLine → ∀ (x y : V) (v u : Value), SameX X.K H n x y → RelV x v → RelV y u → SeqAt.EqP X.prog X.w A s v u true
  | 0, _, _, _, _, _, _, h, _, _ => (show False from h).elim
  | n + 1, A, hu, x, y, v, u, h, rx, ry => by
    have refs : ∀ {a b : Addr}, x = .ref a → y = .ref b → (∀ (E Q : Value → Shared → Prop), Q (.bool true) s → wpAny (model X.prog X.w) A (richCompare .Eq v u) Q E s) → SeqAt.EqP X.prog X.w A s v u true := fun {a b} e1 e2 hh => by
      subst e1 e2
      cases (show v = Value.ref a from rx)
      cases (show u = Value.ref b from ry)
      by_cases e : a = b
      · subst e
        exact (SeqAt.EqAt.same _).eqP
      · exact SeqAt.eqP_refs e hh
    rcases h with ⟨d, e, h1, h2, h3, h4, h5⟩ | h | h
    · obtain ⟨as, r1⟩ := Dp.reads I d _ _ h1 rx
      obtain ⟨bs, r2⟩ := Dp.reads I e _ _ h2 ry
      have := SeqAt.eqAt_reads d e A s v u as bs r1 r2 (SeqAt.canLay_of_shaped h3) (SeqAt.canLay_of_shaped h4) (SeqAt.room_of_shaped h3 (by omega))
      rw [h5] at this
      exact this.eqP
    · obtain ⟨a, b, _, _, e1, e2, _⟩ := id h
      exact refs e1 e2 fun E Q q => sameT_rc I (by omega) h rx ry E Q q
    · obtain ⟨a, b, xs, ys, e1, e2, ha, hb, hp⟩ := h
      refine refs e1 e2 fun E Q q => ?_
      subst e1 e2
      cases (show v = Value.ref a from rx)
      cases (show u = Value.ref b from ry)
      obtain ⟨us, r1, p1, _⟩ := I.tuple ha
      obtain ⟨ws, r2, p2, _⟩ := I.tuple hb
      have hsz : us.toArray.size = ws.toArray.size := by
        rw [List.size_toArray, List.size_toArray, ← r1.length, ← r2.length]
        exact Paired.length hp
      refine SeqAt.rcIn_tuples (e := fun _ => true) p1 p2 (by omega) (fun j g1 g2 => ?_) ?_
      · have k := items_run (same_eqP I n A.in1 (by show A.units + 1 + 70 + n < cLine; omega)) hp r1 r2 j (by simpa using g1) (by simpa using g2)
        have k' : SeqAt.EqP X.prog X.w A.in1 s us.toArray[j] ws.toArray[j] true := by simpa using k
        exact k'
      · rw [hsz, show (ws.toArray.size == ws.toArray.size) = true from beq_self_eq_true _, Bool.and_true, show ((List.range (min ws.toArray.size ws.toArray.size)).all fun _ => true) = true from List.all_eq_true.mpr fun _ _ => rfl]
        exact q
end
section
variable {X : Cx}
def SameU (K : Frag) (H : Hp) (x y : V) : Prop := ∃ a b xs ys, x = .ref a ∧ y = .ref b ∧ SqT K H a xs ∧ SqT K H b ys ∧ Paired (SameX K H 8) xs ys
def rEqU (K : Frag) : R2 := fun x y H Q => SameU K H x y ∧ Q (.bl true) H
def rNeU (K : Frag) : R2 := fun x y H Q => SameU K H x y ∧ Q (.bl false) H
theorem op_eqU (hu : X.A.units + 85 < cLine) : OpR X (compareOp .Eq) (rEqU X.K) := by
  intro pins s σ H x y v u Q I rx ry h
  obtain ⟨⟨a, b, xs, ys, rfl, rfl, ha, hb, hp⟩, q⟩ := h
  cases (show v = Value.ref a from rx)
  cases (show u = Value.ref b from ry)
  obtain ⟨us, r1, p1, _⟩ := I.tuple ha
  obtain ⟨ws, r2, p2, _⟩ := I.tuple hb
  have hsz : us.toArray.size = ws.toArray.size := by
    rw [List.size_toArray, List.size_toArray, ← r1.length, ← r2.length]
    exact Paired.length hp
  refine SeqAt.rcIn_tuples (e := fun _ => true) p1 p2 (by omega) (fun j g1 g2 => ?_) ?_
  · have k := items_run (same_eqP I 8 X.A.in1 (by show X.A.units + 1 + 70 + 8 < cLine; omega)) hp r1 r2 j (by simpa using g1) (by simpa using g2)
    have k' : SeqAt.EqP X.prog X.w X.A.in1 s us.toArray[j] ws.toArray[j] true := by simpa using k
    exact k'
  · rw [hsz, show (ws.toArray.size == ws.toArray.size) = true from beq_self_eq_true _, Bool.and_true, show ((List.range (min ws.toArray.size ws.toArray.size)).all fun _ => true) = true from List.all_eq_true.mpr fun _ _ => rfl]
    exact ⟨.bl true, H, I, rfl, q⟩
theorem op_neU (hu : X.A.units + 85 < cLine) : OpR X (compareOp .NotEq) (rNeU X.K) := by
  intro pins s σ H x y v u Q I rx ry h
  obtain ⟨⟨a, b, xs, ys, rfl, rfl, ha, hb, hp⟩, q⟩ := h
  cases (show v = Value.ref a from rx)
  cases (show u = Value.ref b from ry)
  obtain ⟨us, r1, p1, _⟩ := I.tuple ha
  obtain ⟨ws, r2, p2, _⟩ := I.tuple hb
  have hsz : us.toArray.size = ws.toArray.size := by
    rw [List.size_toArray, List.size_toArray, ← r1.length, ← r2.length]
    exact Paired.length hp
  refine SeqAt.mpNeTuples p1 p2 hsz (by omega) (fun j g1 g2 => ?_) ⟨.bl false, H, I, rfl, q⟩
  have k := items_run (same_eqP I 8 X.A.in1 (by show X.A.units + 1 + 70 + 8 < cLine; omega)) hp r1 r2 j (by simpa using g1) (by simpa using g2)
  simpa using k
end
end MP
end
section
set_option maxRecDepth 100000
set_option maxHeartbeats 4000000
namespace MP
open PySem PySem.Spec PyProof.Rows L2

theorem OpR.or' {X : Cx} {f : Value → Value → Sem Value} {r r' : R2} (h : OpR X f r) (h' : OpR X f r') : OpR X f (fun x y H Q => r x y H Q ∨ r' x y H Q) := fun pins s σ H x y v u Q I rx ry q =>
  q.elim (h pins s σ H x y v u Q I rx ry) (h' pins s σ H x y v u Q I rx ry)
section
variable {X : Cx}
def rCatR : R2 := fun x y H Q => ∃ l b xs zs, x = .ref l ∧ y = .ref b ∧ Rd H l (.lst xs) ∧ Rd H b (.lst zs) ∧ xs.length + zs.length ≤ sizeLine ∧ ∀ p, H p = none → Q (.ref p) (upd H p (.lst (xs ++ zs)))
theorem op_catR : OpR X (binaryOp .Add) rCatR := by
  intro pins s σ H x y v u Q I rx ry h
  obtain ⟨l, b, xs, zs, rfl, rfl, hH, hB, hz, q⟩ := h
  cases rx
  cases ry
  obtain ⟨z, its, n, r, e⟩ := (show ObjOk X.prog X.w H s.heap l (.lst xs) from hH.ok I.hok)
  obtain ⟨z2, its2, n2, r2, e2⟩ := (show ObjOk X.prog X.w H s.heap b (.lst zs) from hB.ok I.hok)
  have hl := r.length
  have hl2 := r2.length
  refine PySem.P.add_list e e2 ?_ (by rw [List.size_toArray, List.size_toArray]; omega)
  have ea : its.toArray ++ its2.toArray = (its ++ its2).toArray := by simp
  rw [ea]
  exact ⟨.ref _, _, I.lnew (t' := s.toks) (r.append r2) (by rw [List.length_append]; omega), rfl, q _ I.fresh⟩
def rMulS : R2 := fun x y H Q => ∃ (z : Str) (n : Int), x = .str z ∧ y = .int n ∧ 0 ≤ n ∧ n < 1000000 ∧ z.length * n.toNat ≤ 16777216 ∧ Q (.str ⟨(List.replicate n.toNat z.cps.toList).flatten.toArray⟩) H
theorem foldl_app : ∀ (n : Nat) (a b : Array Nat), ((List.replicate n a).foldl (· ++ ·) b).toList = b.toList ++ (List.replicate n a.toList).flatten
  | 0, a, b => by simp
  | n + 1, a, b => by
    rw [List.replicate_succ, List.foldl_cons, foldl_app n a (b ++ a), List.replicate_succ, List.flatten_cons, Array.toList_append, List.append_assoc]
theorem op_mulS : OpR X (binaryOp .Mult) rMulS := by
  intro pins s σ H x y v u Q I rx ry h
  obtain ⟨z, n, rfl, rfl, h0, h1, hz, q⟩ := h
  obtain ⟨t, rfl⟩ := rx
  obtain ⟨t', rfl⟩ := ry
  have hl : Builtin.Str.tooLong (z.length * n.toNat) = false := by
    unfold Builtin.Str.tooLong
    exact decide_eq_false (by have : (sizeLine : Nat) = 16777216 := by decide
                              omega)
  refine PySem.P.mul_str (by rw [decide_eq_false (by omega), decide_eq_false (by omega)]; rfl) (fun h2 h3 => ?_) (fun _ _ => hl) ?_
  · have h5 : (z.length : Int) ≤ 16777216 := by
      have h6 : 1 ≤ n.toNat := by omega
      have h7 : z.length * 1 ≤ z.length * n.toNat := Nat.mul_le_mul_left _ h6
      omega
    have h8 : (16777216 : Int) ≤ (2 ^ 63 - 1) / n := by
      rw [Int.le_ediv_iff_mul_le (by omega)]
      have : (16777216 : Int) * n ≤ 16777216 * 1000000 := Int.mul_le_mul_of_nonneg_left (by omega) (by omega)
      omega
    omega
  · have fin : ∀ (y : Str) (t : Tok) (s' : Shared), y = ⟨(List.replicate n.toNat z.cps.toList).flatten.toArray⟩ → Inv X pins σ H s' → EP X pins σ Q (.str y t) s' := fun y t s' e I' => by subst e; exact ⟨.str _, H, I', ⟨t, rfl⟩, q⟩
    by_cases c1 : n < 1
    · rw [if_pos c1]
      refine ⟨by decide, fin _ _ _ ?_ (I.tok _)⟩
      have : n.toNat = 0 := by omega
      rw [this]
      rfl
    · rw [if_neg c1]
      by_cases c2 : (n == 1 || z.length == 0) = true
      · rw [if_pos c2]
        refine fin _ _ _ ?_ I
        rw [Bool.or_eq_true] at c2
        rcases c2 with c2 | c2
        · have : n = 1 := by simpa using c2
          subst this
          obtain ⟨c⟩ := z
          simp
        · have : z.length = 0 := by simpa using c2
          obtain ⟨c⟩ := z
          have hc : c = #[] := Array.eq_empty_of_size_eq_zero this
          subst hc
          simp
      · rw [if_neg c2]
        refine ⟨?_, fin _ _ _ ?_ (I.tok _)⟩
        · show (List.foldl (· ++ ·) #[] (List.replicate n.toNat z.cps)).size ≤ sizeLine
          rw [← Array.length_toList, foldl_app]
          simp only [List.nil_append, List.length_flatten, List.map_replicate, List.sum_replicate_nat, Array.length_toList, List.length_append, List.length_nil, Nat.zero_add]
          have e : z.length = z.cps.size := rfl
          have : (sizeLine : Nat) = 16777216 := by decide
          rw [e, Nat.mul_comm] at hz
          omega
        · congr 1
          apply Array.ext'
          rw [foldl_app]
          simp
end
def OpOk (K : PySem.W.Frag) (o : Op) (r : R2) : Prop := ∀ {ex : Addr → Prop} {H : Hp} {ρ : List Addr} {st : Store} {d1 d2 : D} {v1 v2 : V} {X : Ex → Hp → List Addr → Store → Prop} {Q : VK},
  Mem K ex H ρ st → Rep K ex H ρ d1 v1 → Rep K ex H ρ d2 v2 → PostV K ex H ρ (opF o d1 d2 st) X Q → r v1 v2 H Q
section
variable {K : PySem.W.Frag} {ex : Addr → Prop} {H : Hp} {ρ : List Addr} {st : Store} {X : Ex → Hp → List Addr → Store → Prop} {Q : VK}
theorem PostV.here {d : D} {v : V} (h : PostV K ex H ρ (.ok d st) X Q) (M : Mem K ex H ρ st) (r : Rep K ex H ρ d v) : Q v H := h v H ρ (Ext.refl _ _) M r
theorem PostV.newL {m : Bool} {xs : List D} {vs : List V} (M : Mem K ex H ρ st) (r : Reps K ex H ρ xs vs) (h : PostV K ex H ρ (mkL m xs st) X Q) (p : Addr) (hp : H p = none) : Q (.ref p) (upd H p (.lst vs)) := by
  unfold mkL at h
  cases m with
  | true =>
    simp only [if_true] at h
    have e : Ext ρ H (ρ ++ [p]) (upd H p (.lst vs)) := Ext.cell hp
    refine h (.ref p) _ (ρ ++ [p]) e (M.push hp ⟨vs, upd_same, r.ext e⟩) ⟨p, ?_, rfl⟩
    rw [← M.len, List.getElem?_append_right (Nat.le_refl _), Nat.sub_self]
    rfl
  | false =>
    simp only [Bool.false_eq_true, if_false] at h
    have e : Ext ρ H ρ (upd H p (.lst vs)) := Ext.laid hp
    exact h (.ref p) _ ρ e (M.laid hp) ⟨p, vs, rfl, .inl upd_same, (M.fresh hp).1, (M.fresh hp).2, r.ext e⟩
theorem PostV.newD {m : Bool} {xs : List (Pl × D)} {vs : List (List Key × V)} (M : Mem K ex H ρ st) (r : RepE K ex H ρ xs vs) (h : PostV K ex H ρ (mkD m xs st) X Q) (p : Addr) (hp : H p = none) : Q (.ref p) (upd H p (.dT vs)) := by
  unfold mkD at h
  cases m with
  | true =>
    simp only [if_true] at h
    have e : Ext ρ H (ρ ++ [p]) (upd H p (.dT vs)) := Ext.cell hp
    refine h (.ref p) _ (ρ ++ [p]) e (M.push hp ⟨vs, upd_same, r.ext e⟩) ⟨p, ?_, rfl⟩
    rw [← M.len, List.getElem?_append_right (Nat.le_refl _), Nat.sub_self]
    rfl
  | false =>
    simp only [Bool.false_eq_true, if_false] at h
    have e : Ext ρ H ρ (upd H p (.dT vs)) := Ext.laid hp
    exact h (.ref p) _ ρ e (M.laid hp) ⟨p, vs, rfl, .inl upd_same, (M.fresh hp).1, (M.fresh hp).2, r.ext e⟩
theorem rep_lstR (M : Mem K ex H ρ st) {d : D} {v : V} {xs : List D} (hs : ∀ ns, d ≠ .scr ns) (r : Rep K ex H ρ d v) (h : lstOf st d = some xs) : ∃ a vs, v = .ref a ∧ Rd H a (.lst vs) ∧ Reps K ex H ρ xs vs := by
  unfold lstOf at h
  split at h
  · cases h
    obtain ⟨a, vs, rfl, t, _, _, rs⟩ := r
    exact ⟨a, vs, rfl, t, rs⟩
  · rename_i ns
    exact absurd rfl (hs ns)
  · obtain ⟨a, ha, rfl⟩ := r
    split at h
    · rename_i hs
      cases h
      obtain ⟨b, vs, h1, h2, h3⟩ := M.lst hs
      rw [ha] at h1
      cases h1
      exact ⟨a, vs, rfl, .inl h2, h3⟩
    · rename_i hs
      cases h
      obtain ⟨b, h1, o, vs, h2, h3⟩ := M.at hs
      rw [ha] at h1
      cases h1
      exact ⟨a, vs, rfl, .inr ⟨o, h2⟩, h3⟩
    · cases h
  · cases h
theorem strOf_app (s t : Tx) : strOf (s ++ t) = strOf s ++ strOf t := by
  show (⟨(s ++ t).toArray⟩ : Str) = ⟨s.toArray ++ t.toArray⟩
  rw [List.append_toArray]
theorem strOf_len (s : Tx) : (strOf s).length = s.length := List.size_toArray
theorem txOk_app {s t : Tx} (h : txOk s) (g : txOk t) : txOk (s ++ t) := fun c m => (List.mem_append.mp m).elim (h c) (g c)
theorem lim_eq : (sizeLine : Nat) = lim := by decide
abbrev rAddM : R2 := fun x y H Q => rI0 (fun i j => .int (i + j)) x y H Q ∨ (∃ i j, x = .str i ∧ y = .str j ∧ i.length + j.length ≤ sizeLine ∧ Q (.str (i ++ j)) H) ∨ rCatR x y H Q
theorem op_addM {X : Cx} : OpR X (binaryOp .Add) rAddM := OpR.or' op_add (OpR.or' op_add_str op_catR)
theorem ok_add (m : Bool) : OpOk K (.add m) rAddM := by
  intro ex H ρ st d1 d2 v1 v2 X Q M r1 r2 h
  unfold opF at h
  simp only at h
  split at h
  · cases r1
    cases r2
    exact .inl ⟨_, _, rfl, rfl, h.here M rfl⟩
  · obtain ⟨rfl, o1⟩ := r1
    obtain ⟨rfl, o2⟩ := r2
    split at h
    · rename_i hl
      refine .inr (.inl ⟨_, _, rfl, rfl, by rw [strOf_len, strOf_len, lim_eq]; exact hl, ?_⟩)
      rw [← strOf_app]
      exact h.here M ⟨rfl, txOk_app o1 o2⟩
    · exact h.elim
  · split at h
    · rename_i xs ys h1 h2
      split at h
      · exact h.elim
      · exact h.elim
      · rename_i n1 n2
        split at h
        · rename_i hl
          obtain ⟨a, vs, rfl, ra, rs⟩ := rep_lstR M (fun ns e => n1 ns e) r1 h1
          obtain ⟨b, ws, rfl, rb, rt⟩ := rep_lstR M (fun ns e => n2 ns e) r2 h2
          refine .inr (.inr ⟨a, b, vs, ws, rfl, rfl, ra, rb, by rw [← rs.length, ← rt.length, lim_eq]; exact hl, fun p hp => ?_⟩)
          exact h.newL M (rs.append rt) p hp
        · exact h.elim
    · exact h.elim
theorem ok_sub : OpOk K .sub (rI0 fun i j => .int (i - j)) := by
  intro ex H ρ st d1 d2 v1 v2 X Q M r1 r2 h
  unfold opF at h
  simp only at h
  split at h
  · cases r1
    cases r2
    exact ⟨_, _, rfl, rfl, h.here M rfl⟩
  · exact h.elim
abbrev rMulM : R2 := fun x y H Q => rI CMulW (fun i j => .int (i * j)) x y H Q ∨ rI CMul (fun i j => .int (i * j)) x y H Q ∨ rMulS x y H Q ∨ rRep x y H Q
theorem op_mulM {X : Cx} : OpR X (binaryOp .Mult) rMulM := OpR.or' op_mulW (OpR.or' op_mul (OpR.or' op_mulS op_rep))
theorem txOk_rep {s : Tx} (h : txOk s) (n : Nat) : txOk (List.replicate n s).flatten := fun c m => by
  obtain ⟨l, hl, hc⟩ := List.mem_flatten.mp m
  rw [List.eq_of_mem_replicate hl] at hc
  exact h c hc
theorem Reps.rep {K : PySem.W.Frag} {ex : Addr → Prop} {H : Hp} {ρ : List Addr} {xs : List D} {vs : List V} (h : Reps K ex H ρ xs vs) : ∀ n : Nat, Reps K ex H ρ (List.replicate n xs).flatten (List.replicate n vs).flatten
  | 0 => rfl
  | n + 1 => by
    rw [List.replicate_succ, List.replicate_succ, List.flatten_cons, List.flatten_cons]
    exact h.append (h.rep n)
theorem ok_mul : OpOk K .mul rMulM := by
  intro ex H ρ st d1 d2 v1 v2 X Q M r1 r2 h
  unfold opF at h
  simp only at h
  split at h
  · cases r1
    cases r2
    split at h
    · rename_i hc
      exact .inl ⟨_, _, rfl, rfl, hc, h.here M rfl⟩
    · split at h
      · rename_i hc
        exact .inr (.inl ⟨_, _, rfl, rfl, .inr (by constructor <;> omega), h.here M rfl⟩)
      · split at h
        · rename_i hc
          exact .inr (.inl ⟨_, _, rfl, rfl, .inl (by constructor <;> omega), h.here M rfl⟩)
        · exact h.elim
  · obtain ⟨rfl, o1⟩ := r1
    cases r2
    split at h
    · rename_i hc
      refine .inr (.inr (.inl ⟨_, _, rfl, rfl, hc.1, hc.2.1, by rw [strOf_len]; exact hc.2.2, ?_⟩))
      exact h.here M ⟨rfl, txOk_rep o1 _⟩
    · exact h.elim
  · rename_i n j
    split at h
    · rename_i xs hs
      split at h
      · rename_i hc
        obtain ⟨a, ha, rfl⟩ := r1
        cases r2
        obtain ⟨vs, hv, rs⟩ := M.cell n a _ ha hs
        have hl := rs.length
        refine .inr (.inr (.inr ⟨a, _, vs, rfl, rfl, hv, by omega, by omega, ?_, fun p hp => ?_⟩))
        · have h1 : vs.length * j.toNat ≤ 1000 * 1000 := Nat.mul_le_mul (by omega) (by omega)
          have : (sizeLine : Nat) = 16777216 := by decide
          omega
        · exact h.newL M (rs.rep _) p hp
      · exact h.elim
    · exact h.elim
  · exact h.elim
def CDivM (_ j : Int) : Prop := j ≠ 0 ∧ j.natAbs.log2 < 9000
theorem op_fdivM {X : Cx} : OpR X (binaryOp .FloorDiv) (rI CDivM fun i j => .int (i.fdiv j)) := opI fun _ _ _ _ _ _ _ hc q => floordiv_int hc.1 q (.inl (PyProof.noPylong_of_log2 hc.2))
theorem ok_fdiv : OpOk K .fdiv (rI CDivM fun i j => .int (i.fdiv j)) := by
  intro ex H ρ st d1 d2 v1 v2 X Q M r1 r2 h
  unfold opF at h
  simp only at h
  split at h
  · cases r1
    cases r2
    split at h
    · rename_i hc
      exact ⟨_, _, rfl, rfl, hc, h.here M rfl⟩
    · exact h.elim
  · exact h.elim
theorem ok_mod : OpOk K .mod (rI (fun _ j => 0 < j) fun i j => .int (i % j)) := by
  intro ex H ρ st d1 d2 v1 v2 X Q M r1 r2 h
  unfold opF at h
  simp only at h
  split at h
  · cases r1
    cases r2
    split at h
    · rename_i hc
      exact ⟨_, _, rfl, rfl, hc, h.here M rfl⟩
    · exact h.elim
  · exact h.elim
theorem ok_pow : OpOk K .pow (rI CPow fun i j => .int (i ^ j.toNat)) := by
  intro ex H ρ st d1 d2 v1 v2 X Q M r1 r2 h
  unfold opF at h
  simp only at h
  split at h
  · cases r1
    cases r2
    split at h
    · rename_i hc
      exact ⟨_, _, rfl, rfl, hc, h.here M rfl⟩
    · exact h.elim
  · exact h.elim
theorem ok_le : OpOk K .le (rI0 fun i j => .bl (decide (i ≤ j))) := by
  intro ex H ρ st d1 d2 v1 v2 X Q M r1 r2 h
  unfold opF at h
  simp only at h
  split at h
  · cases r1
    cases r2
    exact ⟨_, _, rfl, rfl, h.here M rfl⟩
  · exact h.elim
theorem ok_gt : OpOk K .gt (rI0 fun i j => .bl (decide (j < i))) := by
  intro ex H ρ st d1 d2 v1 v2 X Q M r1 r2 h
  unfold opF at h
  simp only at h
  split at h
  · cases r1
    cases r2
    exact ⟨_, _, rfl, rfl, h.here M rfl⟩
  · exact h.elim
theorem ok_ge : OpOk K .ge (rI0 fun i j => .bl (decide (j ≤ i))) := by
  intro ex H ρ st d1 d2 v1 v2 X Q M r1 r2 h
  unfold opF at h
  simp only at h
  split at h
  · cases r1
    cases r2
    exact ⟨_, _, rfl, rfl, h.here M rfl⟩
  · exact h.elim
theorem scalar_cmp {d : D} (h : scalar d = true) : cmpD d = true ∧ dep d = 0 := by
  cases d <;> simp_all [scalar, cmpD, dep]
theorem RepE.memV {p : List Key × V} : ∀ {es : List (Pl × D)} {kvs : List (List Key × V)}, RepE K ex H ρ es kvs → p ∈ kvs → ∃ e ∈ es, p.1 = kP e.1 ∧ Rep K ex H ρ e.2 p.2
  | [], _, h, m => by cases h; simp at m
  | (k, d) :: es, kvs, ⟨v, r, e, h1, h2⟩, m => by
    subst e
    rcases List.mem_cons.mp m with rfl | m
    · exact ⟨(k, d), by simp, rfl, h1⟩
    · obtain ⟨e, he, h⟩ := RepE.memV h2 m
      exact ⟨e, by simp [he], h⟩
theorem eqE_same {es fs : List (Pl × D)} {v u : V} (r1 : Rep K ex H ρ (.dct es) v) (r2 : Rep K ex H ρ (.dct fs) u) (he : eqE es fs = true) : SameT K H v u := by
        obtain ⟨a, kvs, rfl, ra, _, _, rs⟩ := r1
        obtain ⟨b, lvs, rfl, rb, _, _, rt⟩ := r2
        unfold eqE at he
        rw [Bool.and_eq_true, decide_eq_true_eq, List.all_eq_true] at he
        refine ⟨a, b, kvs, lvs, rfl, rfl, ra, rb, by rw [← rs.length, ← rt.length]; exact he.1, fun p hp => ?_⟩
        obtain ⟨e, hem, hk, re⟩ := RepE.memV rs hp
        have h2 := he.2 e hem
        rcases rt.val e.1 with ⟨g1, g2⟩ | ⟨x, y2, g1, g2, r⟩
        · rw [g1] at h2; cases h2
        · rw [g1] at h2
          simp only [Bool.and_eq_true, decide_eq_true_eq] at h2
          obtain ⟨⟨⟨⟨c1, c2⟩, d1⟩, d2⟩, q⟩ := h2
          have q1 := rep_dp c1 re
          have q2 := rep_dp c2 r
          exact ⟨y2, by rw [hk]; exact g2, _, _, q1.1, q2.1, shaped_py c1 q1.2 (by omega), shaped_py c2 q2.2 (by omega), by rw [eqv_py _ _ c1 c2]; exact q⟩
mutual
theorem eqU_same : ∀ (n : Nat) {x y : D} {v u : V}, Rep K ex H ρ x v → Rep K ex H ρ y u → eqU n x y = true → SameX K H n v u
  | 0, _, _, _, _, _, _, h => by simp [eqU] at h
  | n + 1, x, y, v, u, r1, r2, h => by
    unfold eqU at h
    rw [Bool.or_eq_true] at h
    rcases h with h | h
    · simp only [Bool.and_eq_true, decide_eq_true_eq] at h
      obtain ⟨⟨⟨⟨c1, c2⟩, d1⟩, d2⟩, q⟩ := h
      have q1 := rep_dp c1 r1
      have q2 := rep_dp c2 r2
      exact .inl ⟨_, _, q1.1, q2.1, shaped_py c1 q1.2 (by omega), shaped_py c2 q2.2 (by omega), by rw [eqv_py _ _ c1 c2]; exact q⟩
    · split at h
      · exact .inr (.inl (eqE_same r1 r2 h))
      · obtain ⟨a, xs', rfl, ta, ra⟩ := r1
        obtain ⟨b, ys', rfl, tb, rb⟩ := r2
        exact .inr (.inr ⟨a, b, xs', ys', rfl, rfl, ta.sq, tb.sq, eqUs_same n ra rb h⟩)
      · cases h
theorem eqUs_same : ∀ (n : Nat) {xs ys : List D} {vs us : List V}, Reps K ex H ρ xs vs → Reps K ex H ρ ys us → eqUs n xs ys = true → Paired (SameX K H n) vs us
  | _, [], [], _, _, r1, r2, _ => by cases r1; cases r2; exact .nil
  | n, x :: xs, y :: ys, _, _, r1, r2, h => by
    obtain ⟨v, vs, rfl, rv, rvs⟩ := r1
    obtain ⟨u, us, rfl, ru, rus⟩ := r2
    rw [eqUs, Bool.and_eq_true] at h
    exact .cons (eqU_same n rv ru h.1) (eqUs_same n rvs rus h.2)
  | _, [], _ :: _, _, _, _, _, h => by simp [eqUs] at h
  | _, _ :: _, [], _, _, _, _, h => by simp [eqUs] at h
end
theorem eqX_same {x y : D} {v u : V} {k : Bool} (r1 : Rep K ex H ρ x v) (r2 : Rep K ex H ρ y u) (h : eqX x y = some k) : (SameT K H v u ∨ SameU K H v u) ∧ k = true := by
  unfold eqX at h
  split at h
  · split at h
    · rename_i he
      cases h
      exact ⟨.inl (eqE_same r1 r2 he), rfl⟩
    · cases h
  · split at h
    · rename_i he
      cases h
      obtain ⟨a, xs', rfl, ta, ra⟩ := r1
      obtain ⟨b, ys', rfl, tb, rb⟩ := r2
      exact ⟨.inr ⟨a, b, xs', ys', rfl, rfl, ta.sq, tb.sq, eqUs_same 8 ra rb he⟩, rfl⟩
    · cases h
  · cases h
theorem eqVal_dp (M : Mem K ex H ρ st) {a b : D} {v u : V} {k : Bool} (r1 : Rep K ex H ρ a v) (r2 : Rep K ex H ρ b u) (h : eqVal st a b = some k) :
    (∃ d e, Dp K H v d ∧ Dp K H u e ∧ SeqAt.shaped d = true ∧ SeqAt.shaped e = true ∧ PyData.eqv d e = k) ∨ ((SameT K H v u ∨ SameU K H v u) ∧ k = true) := by
  unfold eqVal at h
  split at h
  · rename_i hs
    rw [Bool.and_eq_true] at hs
    cases h
    have c1 := scalar_cmp hs.1
    have c2 := scalar_cmp hs.2
    have q1 := rep_dp c1.1 r1
    have q2 := rep_dp c2.1 r2
    exact .inl ⟨_, _, q1.1, q2.1, shaped_py c1.1 q1.2 (by rw [c1.2]; omega), shaped_py c2.1 q2.2 (by rw [c2.2]; omega), eqv_py _ _ c1.1 c2.1⟩
  · split at h
    · rename_i x y h1 h2
      have s1 : Rep K (fun _ => False) H [] x v := Rep.rsv M (fun _ _ q => q) (fun _ _ q => q) h1 r1
      have s2 : Rep K (fun _ => False) H [] y u := Rep.rsv M (fun _ _ q => q) (fun _ _ q => q) h2 r2
      split at h
      · rename_i hc
        simp only [Bool.and_eq_true, decide_eq_true_eq] at hc
        obtain ⟨⟨⟨c1, c2⟩, e1⟩, e2⟩ := hc
        cases h
        have q1 := rep_dp c1 s1
        have q2 := rep_dp c2 s2
        exact .inl ⟨_, _, q1.1, q2.1, shaped_py c1 q1.2 e1, shaped_py c2 q2.2 e2, eqv_py _ _ c1 c2⟩
      · exact .inr (eqX_same s1 s2 h)
    · cases h
theorem ok_eq : OpOk K .eq fun x y H Q => rEqD K x y H Q ∨ rEqT K x y H Q ∨ rEqU K x y H Q := by
  intro ex H ρ st d1 d2 v1 v2 X Q M r1 r2 h
  unfold opF at h
  simp only at h
  cases e : eqVal st d1 d2 with
  | none => rw [e] at h; exact h.elim
  | some k =>
    rw [e] at h
    rcases eqVal_dp M r1 r2 e with ⟨d, f, h1, h2, h3, h4, rfl⟩ | ⟨h1 | h1, rfl⟩
    · exact .inl ⟨d, f, h1, h2, h3, h4, h.here M rfl⟩
    · exact .inr (.inl ⟨h1, h.here M rfl⟩)
    · exact .inr (.inr ⟨h1, h.here M rfl⟩)
theorem ok_ne : OpOk K .ne fun x y H Q => rNeD K x y H Q ∨ rNeT K x y H Q ∨ rNeU K x y H Q := by
  intro ex H ρ st d1 d2 v1 v2 X Q M r1 r2 h
  unfold opF at h
  simp only at h
  cases e : eqVal st d1 d2 with
  | none => rw [e] at h; exact h.elim
  | some k =>
    rw [e] at h
    rcases eqVal_dp M r1 r2 e with ⟨d, f, h1, h2, h3, h4, rfl⟩ | ⟨h1 | h1, rfl⟩
    · exact .inl ⟨d, f, h1, h2, h3, h4, h.here M rfl⟩
    · exact .inr (.inl ⟨h1, h.here M rfl⟩)
    · exact .inr (.inr ⟨h1, h.here M rfl⟩)
end
end MP
end
section
set_option maxRecDepth 100000
set_option maxHeartbeats 4000000
namespace MP
open PySem PySem.Spec PyProof.Rows L2
section
variable {K : PySem.W.Frag} {ex : Addr → Prop} {H : Hp} {ρ : List Addr} {st : Store} {X : Ex → Hp → List Addr → Store → Prop} {Q : VK}
theorem rep_flatV {d : D} {v : V} (h : scalar d = true) (r : Rep K ex H ρ d v) : flatV v = true := by
  cases d with
  | non => cases r; rfl
  | bl b => cases r; rfl
  | int i => cases r; rfl
  | str s => obtain ⟨rfl, _⟩ := r; rfl
  | _ => simp [scalar] at h
theorem rep_flatVs : ∀ {ds : List D} {vs : List V}, ds.all scalar = true → Reps K ex H ρ ds vs → vs.all flatV = true
  | [], _, _, h => by cases h; rfl
  | d :: ds, _, c, ⟨v, r, e, h, t⟩ => by
    subst e
    rw [List.all_cons, Bool.and_eq_true] at c
    rw [List.all_cons, rep_flatV c.1 h, rep_flatVs c.2 t]
    rfl
theorem eqV_eqD {d e : D} {v u : V} (h1 : scalar d = true) (h2 : scalar e = true) (r1 : Rep K ex H ρ d v) (r2 : Rep K ex H ρ e u) : eqV v u = eqD d e := by
  cases d <;> cases e <;> simp_all [scalar, Rep, eqV, eqD, strOf_beq]
theorem inV_any {d : D} {v : V} (h1 : scalar d = true) (r1 : Rep K ex H ρ d v) : ∀ {ds : List D} {vs : List V}, ds.all scalar = true → Reps K ex H ρ ds vs → inV v vs = ds.any fun y => eqD y d
  | [], _, _, h => by cases h; rfl
  | d' :: ds, _, c, ⟨u, r, e, h, t⟩ => by
    subst e
    rw [List.all_cons, Bool.and_eq_true] at c
    have ih := inV_any h1 r1 c.2 t
    unfold inV at ih ⊢
    rw [List.any_cons, List.any_cons, ih, eqV_eqD c.1 h1 h r1]
theorem any_py {x : D} (hx : cmpD x = true) : ∀ {ys : List D}, cmpDs ys = true → ((pys ys).any fun z => PyData.eqv z (py x)) = ys.any fun z => eqD z x
  | [], _ => rfl
  | y :: ys, h => by
    have h' : cmpD y = true ∧ cmpDs ys = true := by simpa [cmpDs] using h
    rw [pys, List.any_cons, List.any_cons, any_py hx h'.2, eqv_py y x h'.1 hx]
def rIn0 (K : PySem.W.Frag) : R2 := fun x y H Q => (∃ (c : Nat) (z : Str), x = .str ⟨#[c]⟩ ∧ y = .str z ∧ Q (.bl (decide (c ∈ z.cps.toList))) H) ∨
  (∃ i j, x = .str i ∧ y = .str j ∧ Q (.bl (!(Builtin.Str.occurrences j i 0 j.length 1).isEmpty)) H) ∨ rIn K false x y H Q ∨ rInD K x y H Q
def rNi0 (K : PySem.W.Frag) : R2 := fun x y H Q => (∃ (c : Nat) (z : Str), x = .str ⟨#[c]⟩ ∧ y = .str z ∧ Q (.bl (!decide (c ∈ z.cps.toList))) H) ∨
  (∃ i j, x = .str i ∧ y = .str j ∧ Q (.bl (!(!(Builtin.Str.occurrences j i 0 j.length 1).isEmpty))) H) ∨ rIn K true x y H Q ∨ rNotInD K x y H Q
theorem op_in0 {X : Cx} (hu : X.A.units + 65 < cLine) : OpR X (compareOp .In) (rIn0 X.K) := OpR.or' op_in_sign (OpR.or' op_in_str (OpR.or' op_in_seq (op_inD hu)))
theorem op_ni0 {X : Cx} (hu : X.A.units + 65 < cLine) : OpR X (compareOp .NotIn) (rNi0 X.K) := OpR.or' op_notIn_sign (OpR.or' op_notIn_str (OpR.or' op_notIn_seq (op_notInD hu)))
def rDIn (neg : Bool) : R2 := fun x y H Q => ∃ a o, y = .ref a ∧ DGet H a x o ∧ Q (.bl (if neg then !o.isSome else o.isSome)) H
theorem DGet.of {a : Addr} {kvs : List (List Key × V)} {b : Addr} {p : Pl} (h : Rd H a (.dT kvs)) (hb : H b = some (.tup ((kP p).map kV))) : DGet H a (.ref b) (valV kvs (kP p)) := .inr ⟨kvs, kP p, b, h, rfl, hb, rfl⟩
theorem deps_eq : ∀ {ys : List D}, dep (.lst ys) = deps ys + 1 := fun {ys} => by simp only [dep]
theorem inVal_any (M : Mem K ex H ρ st) {a b : D} {v u : V} {k neg : Bool} {Q : VK} (r1 : Rep K ex H ρ a v) (r2 : Rep K ex H ρ b u) (h : inVal st a b = some k) (q : Q (.bl (if neg then !k else k)) H) :
    (if neg then rNi0 K else rIn0 K) v u H Q ∨ rDIn neg v u H Q := by
  unfold inVal at h
  split at h
  · rename_i t
    obtain ⟨rfl, _⟩ := r2
    refine .inl ?_
    split at h
    · rename_i c
      cases h
      obtain ⟨rfl, _⟩ := r1
      cases neg with
      | true => exact .inl ⟨c, _, rfl, rfl, q⟩
      | false => exact .inl ⟨c, _, rfl, rfl, q⟩
    · rename_i s _
      cases h
      obtain ⟨rfl, _⟩ := r1
      have e : (!(Builtin.Str.occurrences (strOf t) (strOf s) 0 (strOf t).length 1).isEmpty) = isSub s t := by
        unfold isSub
        rw [strOf_len]
        rfl
      cases neg with
      | true => exact .inr (.inl ⟨_, _, rfl, rfl, by rw [e]; exact q⟩)
      | false => exact .inr (.inl ⟨_, _, rfl, rfl, by rw [e]; exact q⟩)
    · cases h
  · split at h
    · rename_i es hd
      split at h
      · rename_i p hp
        cases h
        obtain ⟨d, kvs, rfl, rd, rs⟩ := rep_dct M r2 hd
        obtain ⟨b, rfl, hb⟩ := rep_pl r1 hp
        refine .inr ⟨d, _, rfl, DGet.of rd hb, ?_⟩
        rcases rs.val p with ⟨e1, e2⟩ | ⟨x, y, e1, e2, _⟩
        · rw [e2]; rw [e1] at q; exact q
        · rw [e2]; rw [e1] at q; exact q
      · cases h
    · split at h
      · rename_i xs hx
        split at h
        · rename_i hs
          rw [Bool.and_eq_true] at hs
          cases h
          obtain ⟨p, vs, rfl, hq, rs⟩ := rep_seq M r2 hx
          have e := inV_any hs.1 r1 hs.2 rs
          refine .inl ?_
          cases neg with
          | true => exact .inr (.inr (.inl ⟨p, vs, rfl, hq, rep_flatV hs.1 r1, rep_flatVs hs.2 rs, by rw [e]; exact q⟩))
          | false => exact .inr (.inr (.inl ⟨p, vs, rfl, hq, rep_flatV hs.1 r1, rep_flatVs hs.2 rs, by rw [e]; exact q⟩))
        · split at h
          · rename_i zs x ys h1 h2 h3
            split at h
            · rename_i hc
              simp only [Bool.and_eq_true, decide_eq_true_eq] at hc
              obtain ⟨⟨⟨c1, c2⟩, e1⟩, e2⟩ := hc
              cases h
              have s1 : Rep K (fun _ => False) H [] x v := Rep.rsv M (fun _ _ q => q) (fun _ _ q => q) h2 r1
              have q1 := rep_dp c1 s1
              have ez : zs = xs := by
                cases b <;> simp_all [seqOf, lstOf]
              subst ez
              obtain ⟨p, vs, rfl, hl, rs⟩ := rep_lst M r2 h1
              have s2 : Reps K (fun _ => False) H [] ys vs := Reps.rsv M (fun _ _ q => q) (fun _ _ q => q) h3 rs
              have q2 := rep_dps c2 s2
              have sl : SeqAt.shaped (.list (pys ys)) = true := by
                have := shaped_py (d := .lst ys) (by simpa [cmpD] using c2) (by simp only [py, PyData.canLay0]; exact q2.2) (by rw [deps_eq]; omega)
                simpa [py] using this
              have e := any_py c1 c2
              refine .inl ?_
              cases neg with
              | true => exact .inr (.inr (.inr ⟨_, _, q1.1, .lst hl q2.1, shaped_py c1 q1.2 e1, sl, by rw [e]; exact q⟩))
              | false => exact .inr (.inr (.inr ⟨_, _, q1.1, .lst hl q2.1, shaped_py c1 q1.2 e1, sl, by rw [e]; exact q⟩))
            · cases h
          · cases h
      · cases h
theorem ok_in (M : Mem K ex H ρ st) {a b : D} {v u : V} (r1 : Rep K ex H ρ a v) (r2 : Rep K ex H ρ b u) (h : PostV K ex H ρ (opF .isin a b st) X Q) : rIn0 K v u H Q ∨ rDIn false v u H Q := by
  unfold opF at h
  simp only at h
  cases e : inVal st a b with
  | none => rw [e] at h; exact h.elim
  | some k =>
    rw [e] at h
    have := inVal_any (neg := false) M r1 r2 e (Q := Q) (h.here M rfl)
    simpa using this
theorem ok_notin (M : Mem K ex H ρ st) {a b : D} {v u : V} (r1 : Rep K ex H ρ a v) (r2 : Rep K ex H ρ b u) (h : PostV K ex H ρ (opF .notin a b st) X Q) : rNi0 K v u H Q ∨ rDIn true v u H Q := by
  unfold opF at h
  simp only at h
  cases e : inVal st a b with
  | none => rw [e] at h; exact h.elim
  | some k =>
    rw [e] at h
    have := inVal_any (neg := true) M r1 r2 e (Q := Q) (h.here M rfl)
    simpa using this
theorem reps_at {xs : List D} {vs : List V} {i : Int} {d : D} (r : Reps K ex H ρ xs vs) (h : atL xs i = some d) : ∃ v, atI vs i = some v ∧ Rep K ex H ρ d v := by
  unfold atL at h
  unfold atI
  rw [← r.length]
  cases e : ixN xs.length i with
  | none => rw [e] at h; cases h
  | some j =>
    rw [e] at h
    exact r.get h
def rDIx : R2 := fun x y H Q => ∃ a v, x = .ref a ∧ DGet H a y (some v) ∧ Q v H
theorem txOk_one {s : Tx} (h : txOk s) {j : Int} {c : Nat} (e : atL s j = some c) : txOk [c] := fun x m => by
  rw [List.mem_singleton.mp m]
  unfold atL at e
  cases q : ixN s.length j with
  | none => rw [q] at e; cases e
  | some k => rw [q] at e; exact h c (mem_of_get e)
theorem ok_ix (M : Mem K ex H ρ st) {a i : D} {v u : V} (r1 : Rep K ex H ρ a v) (r2 : Rep K ex H ρ i u) (h : PostV K ex H ρ (prim2F .ix a i st) X Q) : rIx K v u H Q ∨ rDIx v u H Q := by
  unfold prim2F at h
  simp only at h
  split at h
  · rename_i s
    obtain ⟨rfl, o1⟩ := r1
    split at h
    · rename_i j
      cases r2
      split at h
      · rename_i hl
        cases e : atL s j with
        | none => rw [e] at h; exact h.elim
        | some c =>
          rw [e] at h
          exact .inl (.inr (.inr ⟨_, j, c, rfl, rfl, by rw [strOf_len, lim_eq]; exact hl, e, h.here M ⟨rfl, txOk_one o1 e⟩⟩))
      · exact h.elim
    · exact h.elim
  · split at h
    · rename_i es hd
      split at h
      · rename_i p hp
        obtain ⟨d, kvs, rfl, rd, rs⟩ := rep_dct M r1 hd
        obtain ⟨b, rfl, hb⟩ := rep_pl r2 hp
        rcases rs.val p with ⟨e1, e2⟩ | ⟨x, y, e1, e2, r⟩
        · rw [e1] at h; exact h.elim
        · rw [e1] at h
          refine .inr ⟨d, y, rfl, ?_, h.here M r⟩
          rw [← e2]
          exact DGet.of rd hb
      · exact h.elim
    · split at h
      · rename_i xs j hx
        cases r2
        cases e : atL xs j with
        | none => rw [e] at h; exact h.elim
        | some d =>
          rw [e] at h
          obtain ⟨p, vs, rfl, hq, rs⟩ := rep_seq M r1 hx
          obtain ⟨w, hw, rw'⟩ := reps_at rs e
          rcases hq with hq | hq
          · exact .inl (.inl ⟨p, vs, j, w, rfl, rfl, hq, hw, h.here M rw'⟩)
          · exact .inl (.inr (.inl ⟨p, vs, j, w, rfl, rfl, hq, hw, h.here M rw'⟩))
      · exact h.elim
theorem reps_cut {xs : List D} {vs : List V} (r : Reps K ex H ρ xs vs) (lo hi : Option Int) : Reps K ex H ρ (cutL xs lo hi) (cutV vs lo hi) := by
  unfold cutL cutV
  rw [r.length]
  exact (r.drop _).take _
def rSlM (K : PySem.W.Frag) : V → Option Int → Option Int → Hp → VK → Prop := fun x lo hi H Q => rSlS x lo hi H Q ∨ rSlA K x lo hi H Q ∨ rSlL K x lo hi H Q
theorem sl_M {X : Cx} : SlR X (rSlM X.K) := SlR.or sl_str (SlR.or sl_tupA sl_list)
theorem txOk_cut {s : Tx} (h : txOk s) (lo hi : Option Int) : txOk (cutL s lo hi) := fun c m => h c (List.mem_of_mem_drop (List.mem_of_mem_take m))
theorem ok_slc {m : Bool} (M : Mem K ex H ρ st) {a lo hi : D} {l u : Option Int} {v : V} (r1 : Rep K ex H ρ a v) (hl : partOf lo = some l) (hh : partOf hi = some u) (h : PostV K ex H ρ (slcF m a lo hi st) X Q) : rSlM K v l u H Q := by
  unfold slcF at h
  rw [hl, hh] at h
  simp only at h
  split at h
  · rename_i s
    obtain ⟨rfl, o1⟩ := r1
    split at h
    · rename_i hz
      refine .inl ⟨_, rfl, by rw [strOf_len, lim_eq]; exact hz, ?_⟩
      have e : cutS (strOf s) l u = strOf (cutL s l u) := by
        unfold cutS cutL
        rw [strOf_len]
        rfl
      rw [e]
      exact h.here M ⟨rfl, txOk_cut o1 _ _⟩
    · exact h.elim
  · rename_i xs
    obtain ⟨p, vs, rfl, t, rs⟩ := r1
    · refine .inr (.inl ⟨p, vs, rfl, t.sq, fun hw => ?_, fun hn q hq => ?_⟩)
      · have e0 : cutL xs l u = xs := by
          unfold cutL
          rw [← rs.length] at hw
          rw [hw.1, hw.2, List.drop_zero, Nat.sub_zero, List.take_length]
        rw [e0] at h
        exact h.here M ⟨p, vs, rfl, t, rs⟩
      have e : Ext ρ H ρ (upd H q (.tup (cutV vs l u))) := Ext.laid hq
      exact h (.ref q) _ ρ e (M.laid hq) ⟨q, _, rfl, .inl upd_same, (reps_cut rs l u).ext e⟩
  · split at h
    · rename_i xs hx
      obtain ⟨p, vs, rfl, hq, rs⟩ := rep_lst M r1 hx
      exact .inr (.inr ⟨p, vs, rfl, hq, fun q hq => h.newL M (reps_cut rs l u) q hq⟩)
    · exact h.elim
end
end MP
end
section
set_option maxRecDepth 100000
set_option maxHeartbeats 4000000
namespace MP
open PySem PySem.Spec PyProof.Rows L2
inductive TyM (K : PySem.W.Frag) (H : Hp) : V → String → Prop where
  | non : TyM K H .non "NoneType"
  | bl (b : Bool) : TyM K H (.bl b) "bool"
  | int (i : Int) : TyM K H (.int i) "int"
  | str (s : Str) : TyM K H (.str s) "str"
  | lst {a : Addr} {xs : List V} (h : SqL K H a xs) : TyM K H (.ref a) "list"
  | tup {a : Addr} {xs : List V} (h : SqT K H a xs) : TyM K H (.ref a) "tuple"
  | dct {a : Addr} {kvs : List (List Key × V)} (h : Rd H a (.dT kvs)) : TyM K H (.ref a) "dict"
theorem kit_ofM {X : Cx} {pins : List (Addr × Obj)} {σ : L2.St} {H : Hp} {s : Shared} {x : V} {u : Value} {t : String} (I : Inv X pins σ H s) (rx : RelV x u) (ty : TyM X.K H x t) : ∃ P : Heap → Prop, PySem.W.KitX X.K u (.type t) P ∧ P s.heap ∧ u ≠ .builtin "__main__.__loader__#opaque" := by
  cases ty with
  | non => cases (show u = Value.none from rx); exact ⟨_, PySem.W.kitx_none, True.intro, fun z => nomatch z⟩
  | bl y => cases (show u = Value.bool y from rx); exact ⟨_, PySem.W.kitx_bool, True.intro, fun z => nomatch z⟩
  | int i => obtain ⟨t, q⟩ := (show ∃ t, u = Value.int i t from rx); cases q; exact ⟨_, PySem.W.kitx_int, True.intro, fun z => nomatch z⟩
  | str y => obtain ⟨t, q⟩ := (show ∃ t, u = Value.str y t from rx); cases q; exact ⟨_, PySem.W.kitx_str, True.intro, fun z => nomatch z⟩
  | @lst a xs h =>
    cases (show u = Value.ref a from rx)
    obtain ⟨its, _, ⟨o, n, ho, hc, _⟩, _⟩ := I.list h
    exact ⟨_, PySem.W.kitx_list, ⟨o, ho, hc⟩, fun z => nomatch z⟩
  | @tup a xs h =>
    cases (show u = Value.ref a from rx)
    obtain ⟨its, _, ⟨o, ho, hc, _⟩, _⟩ := I.tuple h
    exact ⟨_, PySem.W.kitx_tuple, ⟨o, ho, hc⟩, fun z => nomatch z⟩
  | @dct a kvs h =>
    cases (show u = Value.ref a from rx)
    obtain ⟨_, _, xs, _, o, es, ep, h1, h2, _⟩ := (show ObjOk X.prog X.w H s.heap a (.dT kvs) from h.ok I.hok)
    exact ⟨_, PySem.W.kitx_dict, ⟨o, h1, h2.1⟩, fun z => nomatch z⟩
def rIsiM (K : PySem.W.Frag) : List V → Hp → VK → Prop := fun xs H Q => ∃ (x : V) (T U : String) (b : Bool), xs = [x, .ty U] ∧ TyM K H x T ∧ kitB T U = some b ∧ Q (.bl b) H
theorem call_isiM {X : Cx} : CallR X (.builtin "isinstance") (rIsiM X.K) := by
  intro pins s σ H xs us Q I r h
  obtain ⟨x, T, U, b, rfl, ty, e, q⟩ := h
  obtain ⟨u1, u2, rfl, r1, r2⟩ := vals2 r
  obtain rfl : u2 = Value.type U := r2
  obtain ⟨P, Z, p, hx⟩ := kit_ofM I r1 ty
  exact PySem.W.kia_one Z I.kIn p (kit_ty e) hx fun tk => ⟨.bl b, H, I.tok tk, rfl, q⟩
def tyName : Ty → String
  | .int => "int"
  | .bool => "bool"
  | .str => "str"
  | .tuple => "tuple"
  | .list => "list"
  | .dict => "dict"
theorem kitB_ty (a b : Ty) : kitB (tyName a) (tyName b) = some (decide (a = b) || (decide (a = .bool) && decide (b = .int))) := by
  cases a <;> cases b <;> decide +kernel
theorem kitB_none (b : Ty) : kitB "NoneType" (tyName b) = some false := by
  cases b <;> decide +kernel
section
variable {K : PySem.W.Frag} {ex : Addr → Prop} {H : Hp} {ρ : List Addr} {st : Store} {X : Ex → Hp → List Addr → Store → Prop} {Q : VK}
theorem rep_ty (M : Mem K ex H ρ st) {d : D} {v : V} {t : Ty} (r : Rep K ex H ρ d v) (h : tyOf st d = some t) : TyM K H v (tyName t) := by
  unfold tyOf at h
  split at h
  · cases h; cases r; exact .bl _
  · cases h; cases r; exact .int _
  · cases h; obtain ⟨rfl, _⟩ := r; exact .str _
  · cases h; obtain ⟨a, vs, rfl, t, _⟩ := r; exact .tup t.sq
  · cases h; obtain ⟨a, vs, rfl, t, _⟩ := r; exact .lst (.inl t)
  · cases h
    obtain ⟨a, rfl, ⟨t, _⟩ | t⟩ := r
    · exact .lst (.inl t)
    · exact .lst (.inr t)
  · cases h; obtain ⟨a, vs, rfl, t, _⟩ := r; exact .dct t
  · rename_i n
    obtain ⟨a, ha, rfl⟩ := r
    split at h
    · rename_i hs; cases h; obtain ⟨b, h1, vs, h2, h3⟩ := M.at hs; rw [ha] at h1; cases h1; exact .lst (.inl (.inl h2))
    · rename_i hs; cases h; obtain ⟨b, h1, o, vs, h2, h3⟩ := M.at hs; rw [ha] at h1; cases h1; exact .lst (.inl (.inr ⟨o, h2⟩))
    · rename_i hs; cases h; obtain ⟨b, h1, vs, h2, h3⟩ := M.at hs; rw [ha] at h1; cases h1; exact .dct (.inl h2)
    · rename_i hs; cases h; obtain ⟨b, h1, o, vs, h2, h3⟩ := M.at hs; rw [ha] at h1; cases h1; exact .dct (.inr ⟨o, h2⟩)
    · cases h
  · cases h
  · cases h
theorem ok_isi {t : Ty} (M : Mem K ex H ρ st) {d : D} {v : V} (r : Rep K ex H ρ d v) (h : PostV K ex H ρ (prim1F (.isi t) d st) X Q) : rIsiM K [v, .ty (tyName t)] H Q := by
  unfold prim1F at h
  simp only at h
  unfold isTy at h
  split at h
  · cases r
    exact ⟨_, _, _, _, rfl, .non, kitB_none t, h.here M rfl⟩
  · split at h
    · rename_i u hu
      exact ⟨_, _, _, _, rfl, rep_ty M r hu, kitB_ty u t, h.here M rfl⟩
    · exact h.elim
def P1 (K : PySem.W.Frag) (p : P) (r : List V → Hp → VK → Prop) : Prop := ∀ {ex : Addr → Prop} {H : Hp} {ρ : List Addr} {st : Store} {d : D} {v : V} {X : Ex → Hp → List Addr → Store → Prop} {Q : VK},
  Mem K ex H ρ st → Rep K ex H ρ d v → PostV K ex H ρ (prim1F p d st) X Q → r [v] H Q
def P2 (K : PySem.W.Frag) (p : P) (r : List V → Hp → VK → Prop) : Prop := ∀ {ex : Addr → Prop} {H : Hp} {ρ : List Addr} {st : Store} {d e : D} {v u : V} {X : Ex → Hp → List Addr → Store → Prop} {Q : VK},
  Mem K ex H ρ st → Rep K ex H ρ d v → Rep K ex H ρ e u → PostV K ex H ρ (prim2F p d e st) X Q → r [v, u] H Q
def rLenM (K : PySem.W.Frag) : List V → Hp → VK → Prop := fun xs H Q => (∃ x n, xs = [x] ∧ LenV K x H n ∧ Q (.int n) H) ∨ ∃ (p : Addr) (kvs : List (List Key × V)), xs = [.ref p] ∧ Rd H p (.dT kvs) ∧ Q (.int ((kvs.length : Nat) : Int)) H
theorem call_len_dR {X : Cx} : CallR X (.builtin "len") (fun xs H Q => ∃ (p : Addr) (kvs : List (List Key × V)), xs = [.ref p] ∧ Rd H p (.dT kvs) ∧ Q (.int ((kvs.length : Nat) : Int)) H) := by
  intro pins s σ H xs us Q I r h
  obtain ⟨p, kvs, rfl, hp, q⟩ := h
  obtain ⟨u, rfl, rx⟩ := vals1 r
  obtain rfl : u = .ref p := rx
  obtain ⟨z, hd, ys, rel, dd⟩ := dt_rd I.hok hp
  have hl : kvs.length = ys.length := Paired.length rel
  refine call_len_dictH hd dd (by rw [← hl]; rw [sizeLine_eq] at z; omega) ?_
  rw [← hl]
  exact ⟨.int ((kvs.length : Nat) : Int), H, I.tok _, ⟨_, rfl⟩, q⟩
theorem call_lenM {X : Cx} : CallR X (.builtin "len") (rLenM X.K) := CallR.or call_len call_len_dR
theorem ok_len : P1 K .len (rLenM K) := by
  intro ex H ρ st d v X Q M r h
  unfold prim1F at h
  simp only at h
  split at h
  · rename_i s
    obtain ⟨rfl, _⟩ := r
    split at h
    · rename_i hl
      exact .inl ⟨_, s.length, rfl, ⟨by rw [strOf_len, lim_eq]; exact hl, by rw [strOf_len]⟩, h.here M rfl⟩
    · exact h.elim
  · split at h
    · rename_i es hd
      obtain ⟨a, kvs, rfl, rd, rs⟩ := rep_dct M r hd
      exact .inr ⟨a, kvs, rfl, rd, by rw [← rs.length]; exact h.here M rfl⟩
    · split at h
      · rename_i xs hx
        obtain ⟨a, vs, rfl, hq, rs⟩ := rep_seq M r hx
        exact .inl ⟨_, vs.length, rfl, hq.elim (fun q => .inl ⟨vs, q, rfl⟩) (fun q => .inr ⟨vs, q, rfl⟩), by rw [← rs.length]; exact h.here M rfl⟩
      · exact h.elim
theorem ok_max2 : P2 K .max2 (fun xs H Q => ∃ i j, xs = [.int i, .int j] ∧ Q (.int (if j > i then j else i)) H) := by
  intro ex H ρ st d e v u X Q M r1 r2 h
  unfold prim2F at h
  simp only at h
  split at h
  · cases r1; cases r2
    exact ⟨_, _, rfl, h.here M rfl⟩
  · exact h.elim
theorem ok_min2 : P2 K .min2 (fun xs H Q => ∃ i j, xs = [.int i, .int j] ∧ Q (.int (if j < i then j else i)) H) := by
  intro ex H ρ st d e v u X Q M r1 r2 h
  unfold prim2F at h
  simp only at h
  split at h
  · cases r1; cases r2
    exact ⟨_, _, rfl, h.here M rfl⟩
  · exact h.elim
theorem intsOf_eq : ∀ {xs : List D} {ns : List Int}, intsOf xs = some ns → xs = ns.map .int
  | [], _, h => by cases h; rfl
  | .int i :: xs, _, h => by
    obtain ⟨ms, h1, rfl⟩ := Option.map_eq_some_iff.mp (show (intsOf xs).map (i :: ·) = some _ from h)
    rw [intsOf_eq h1]; rfl
  | .non :: _, _, h => by cases h
  | .bl _ :: _, _, h => by cases h
  | .str _ :: _, _, h => by cases h
  | .tup _ :: _, _, h => by cases h
  | .lst _ :: _, _, h => by cases h
  | .dct _ :: _, _, h => by cases h
  | .scr _ :: _, _, h => by cases h
  | .exc _ _ :: _, _, h => by cases h
  | .ref _ :: _, _, h => by cases h
theorem blsOf_eq : ∀ {xs : List D} {ns : List Bool}, blsOf xs = some ns → xs = ns.map .bl
  | [], _, h => by cases h; rfl
  | .bl i :: xs, _, h => by
    obtain ⟨ms, h1, rfl⟩ := Option.map_eq_some_iff.mp (show (blsOf xs).map (i :: ·) = some _ from h)
    rw [blsOf_eq h1]; rfl
  | .non :: _, _, h => by cases h
  | .int _ :: _, _, h => by cases h
  | .str _ :: _, _, h => by cases h
  | .tup _ :: _, _, h => by cases h
  | .lst _ :: _, _, h => by cases h
  | .dct _ :: _, _, h => by cases h
  | .scr _ :: _, _, h => by cases h
  | .exc _ _ :: _, _, h => by cases h
  | .ref _ :: _, _, h => by cases h
theorem txsOf_eq : ∀ {xs : List D} {ns : List Tx}, txsOf xs = some ns → xs = ns.map .str
  | [], _, h => by cases h; rfl
  | .str i :: xs, _, h => by
    obtain ⟨ms, h1, rfl⟩ := Option.map_eq_some_iff.mp (show (txsOf xs).map (i :: ·) = some _ from h)
    rw [txsOf_eq h1]; rfl
  | .non :: _, _, h => by cases h
  | .int _ :: _, _, h => by cases h
  | .bl _ :: _, _, h => by cases h
  | .tup _ :: _, _, h => by cases h
  | .lst _ :: _, _, h => by cases h
  | .dct _ :: _, _, h => by cases h
  | .scr _ :: _, _, h => by cases h
  | .exc _ _ :: _, _, h => by cases h
  | .ref _ :: _, _, h => by cases h
theorem plsOf_eq : ∀ {xs : List D} {ns : List Pl}, plsOf xs = some ns → xs = ns.map plD
  | [], _, h => by cases h; rfl
  | x :: xs, _, h => by
    rw [plsOf] at h
    split at h
    · rename_i p ps h1 h2
      cases h
      rw [plsOf_eq h2, plOf_eq h1]; rfl
    · cases h
theorem reps_ints : ∀ {ns : List Int} {vs : List V}, Reps K ex H ρ (ns.map .int) vs → vs = ns.map V.int
  | [], _, h => h
  | n :: ns, _, ⟨v, r, e, h, t⟩ => by subst e; cases h; rw [reps_ints t]; rfl
theorem reps_bls : ∀ {ns : List Bool} {vs : List V}, Reps K ex H ρ (ns.map .bl) vs → vs = ns.map V.bl
  | [], _, h => h
  | n :: ns, _, ⟨v, r, e, h, t⟩ => by subst e; cases h; rw [reps_bls t]; rfl
theorem reps_txs : ∀ {ns : List Tx} {vs : List V}, Reps K ex H ρ (ns.map .str) vs → vs = (ns.map strOf).map V.str ∧ ∀ t ∈ ns, txOk t
  | [], _, h => ⟨h, by simp⟩
  | n :: ns, _, ⟨v, r, e, h, t⟩ => by
    subst e
    obtain ⟨rfl, o⟩ := h
    obtain ⟨rfl, os⟩ := reps_txs t
    exact ⟨rfl, fun t m => by
      rcases List.mem_cons.mp m with rfl | m
      · exact o
      · exact os t m⟩
theorem mxL_spec {ns : List Int} {m : Int} (h1 : m ∈ ns) (h2 : ∀ y ∈ ns, y ≤ m) : mxL ns = some m := by
  cases ns with
  | nil => cases h1
  | cons x xs =>
    have key : ∀ (l : List Int) (a : Int), (l.foldl (fun a b => if b > a then b else a) a = a ∨ l.foldl (fun a b => if b > a then b else a) a ∈ l) ∧ a ≤ l.foldl (fun a b => if b > a then b else a) a ∧ ∀ y ∈ l, y ≤ l.foldl (fun a b => if b > a then b else a) a := by
      intro l
      induction l with
      | nil => intro a; simp
      | cons b l ih =>
        intro a
        obtain ⟨k1, k2, k3⟩ := ih (if b > a then b else a)
        simp only [List.foldl_cons]
        refine ⟨?_, ?_, fun y hy => ?_⟩
        · rcases k1 with k1 | k1
          · rw [k1]; split
            · exact .inr (by simp)
            · exact .inl rfl
          · exact .inr (List.mem_cons_of_mem _ k1)
        · refine Int.le_trans ?_ k2; split <;> omega
        · rcases List.mem_cons.mp hy with rfl | hy
          · refine Int.le_trans ?_ k2; split <;> omega
          · exact k3 y hy
    obtain ⟨k1, k2, k3⟩ := key xs x
    show some _ = some m
    congr 1
    apply Int.le_antisymm
    · rcases k1 with k1 | k1
      · rw [k1]; exact h2 x (by simp)
      · exact h2 _ (List.mem_cons_of_mem _ k1)
    · rcases List.mem_cons.mp h1 with rfl | h1
      · exact k2
      · exact k3 m h1
theorem mnL_spec {ns : List Int} {m : Int} (h1 : m ∈ ns) (h2 : ∀ y ∈ ns, m ≤ y) : mnL ns = some m := by
  cases ns with
  | nil => cases h1
  | cons x xs =>
    have key : ∀ (l : List Int) (a : Int), (l.foldl (fun a b => if b < a then b else a) a = a ∨ l.foldl (fun a b => if b < a then b else a) a ∈ l) ∧ l.foldl (fun a b => if b < a then b else a) a ≤ a ∧ ∀ y ∈ l, l.foldl (fun a b => if b < a then b else a) a ≤ y := by
      intro l
      induction l with
      | nil => intro a; simp
      | cons b l ih =>
        intro a
        obtain ⟨k1, k2, k3⟩ := ih (if b < a then b else a)
        simp only [List.foldl_cons]
        refine ⟨?_, ?_, fun y hy => ?_⟩
        · rcases k1 with k1 | k1
          · rw [k1]; split
            · exact .inr (by simp)
            · exact .inl rfl
          · exact .inr (List.mem_cons_of_mem _ k1)
        · refine Int.le_trans k2 ?_; split <;> omega
        · rcases List.mem_cons.mp hy with rfl | hy
          · refine Int.le_trans k2 ?_; split <;> omega
          · exact k3 y hy
    obtain ⟨k1, k2, k3⟩ := key xs x
    show some _ = some m
    congr 1
    apply Int.le_antisymm
    · rcases List.mem_cons.mp h1 with rfl | h1
      · exact k2
      · exact k3 m h1
    · rcases k1 with k1 | k1
      · rw [k1]; exact h2 x (by simp)
      · exact h2 _ (List.mem_cons_of_mem _ k1)
theorem ok_maxL : P1 K .maxL (rMax K) := by
  intro ex H ρ st d v X Q M r h
  unfold prim1F at h
  simp only at h
  split at h
  · rename_i xs hx
    cases e : intsOf xs with
    | none => rw [e] at h; exact h.elim
    | some ns =>
      rw [e] at h
      have e2 := intsOf_eq e
      subst e2
      obtain ⟨a, vs, rfl, hs, rs⟩ := rep_lst M r hx
      have := reps_ints rs
      subst this
      cases ns with
      | nil => exact h.elim
      | cons n ns =>
        refine ⟨a, n :: ns, rfl, hs, by simp, fun m h1 h2 => ?_⟩
        have q := mxL_spec h1 h2
        simp only [Option.bind_some] at h
        rw [q] at h
        exact h.here M rfl
  · exact h.elim
theorem ok_sum : P1 K .sum (rSum K) := by
  intro ex H ρ st d v X Q M r h
  unfold prim1F at h
  simp only at h
  split at h
  · rename_i xs hx
    cases e : intsOf xs with
    | none => rw [e] at h; exact h.elim
    | some ns =>
      rw [e] at h
      have e2 := intsOf_eq e
      subst e2
      obtain ⟨a, vs, rfl, hs, rs⟩ := rep_lst M r hx
      have := reps_ints rs
      subst this
      exact ⟨a, ns, rfl, hs, h.here M rfl⟩
  · exact h.elim
theorem ok_all : P1 K .all (rAll K) := by
  intro ex H ρ st d v X Q M r h
  unfold prim1F at h
  simp only at h
  split at h
  · rename_i xs hx
    cases e : blsOf xs with
    | none => rw [e] at h; exact h.elim
    | some ns =>
      rw [e] at h
      have e2 := blsOf_eq e
      subst e2
      obtain ⟨a, vs, rfl, hs, rs⟩ := rep_lst M r hx
      have := reps_bls rs
      subst this
      exact ⟨a, ns, rfl, hs, h.here M rfl⟩
  · exact h.elim
def rListM (K : PySem.W.Frag) : List V → Hp → VK → Prop := fun xs H Q => (∃ p ys, xs = [.ref p] ∧ (SqL K H p ys ∨ SqT K H p ys) ∧ ∀ l, H l = none → Q (.ref l) (upd H l (.lst ys))) ∨
  ∃ d kvs, xs = [V.ref d] ∧ Rd H d (.dT kvs) ∧ ∀ p bs, H p = none → IsKeys H kvs bs → Q (.ref p) (upd H p (.lst (bs.map V.ref)))
theorem call_listM {X : Cx} (hc : X.calm = true) : CallR X (.type "list") (rListM X.K) := CallR.or call_list_of (call_list_dT hc)
theorem reps_keys : ∀ {es : List (Pl × D)} {kvs : List (List Key × V)} {bs : List Addr}, RepE K ex H ρ es kvs → IsKeys H kvs bs → Reps K ex H ρ (es.map fun e => plD e.1) (bs.map V.ref)
  | [], _, _, h, g => by cases h; cases g; exact rfl
  | (p, d) :: es, _, _, ⟨v, r, e, h, t⟩, g => by
    subst e
    cases g with
    | cons g1 g2 => exact ⟨_, _, rfl, rep_plD g1, reps_keys t g2⟩
theorem ok_list (m : Bool) : P1 K (.list m) (rListM K) := by
  intro ex H ρ st d v X Q M r h
  unfold prim1F at h
  simp only at h
  split at h
  · rename_i es hd
    obtain ⟨a, kvs, rfl, rd, rs⟩ := rep_dct M r hd
    exact .inr ⟨a, kvs, rfl, rd, fun p bs hp hk => h.newL M (reps_keys rs hk) p hp⟩
  · split at h
    · rename_i xs hx
      obtain ⟨a, vs, rfl, hq, rs⟩ := rep_seq M r hx
      exact .inl ⟨a, vs, rfl, hq, fun p hp => h.newL M rs p hp⟩
    · exact h.elim
def rIntM : List V → Hp → VK → Prop := fun xs H Q => ((∃ i, xs = [.int i] ∧ Q (.int i) H) ∨ ∃ k, xs = [.bl k] ∧ Q (.int (if k then 1 else 0)) H) ∨ ∃ a n, xs = [.str a] ∧ PySem.intText? a = some n ∧ a.length ≤ 640 ∧ Q (.int n) H
theorem call_intM {X : Cx} : CallR X (.type "int") rIntM := CallR.or call_int1 call_int_str
theorem ok_int1 : P1 K .int1 rIntM := by
  intro ex H ρ st d v X Q M r h
  unfold prim1F at h
  simp only at h
  split at h
  · cases r; exact .inl (.inl ⟨_, rfl, h.here M rfl⟩)
  · cases r; exact .inl (.inr ⟨_, rfl, h.here M rfl⟩)
  · rename_i s
    obtain ⟨rfl, _⟩ := r
    split at h
    · rename_i hl
      cases e : PySem.intText? (strOf s) with
      | none =>
        have e' : PySem.intText? ⟨s.toArray⟩ = none := e
        rw [e'] at h; exact h.elim
      | some n =>
        have e' : PySem.intText? ⟨s.toArray⟩ = some n := e
        rw [e'] at h
        exact .inr ⟨_, n, rfl, e, by rw [strOf_len]; exact hl, h.here M rfl⟩
    · exact h.elim
  · exact h.elim
theorem ok_abs : P1 K .abs (fun xs H Q => ∃ i, xs = [.int i] ∧ Q (.int (if i < 0 then -i else i)) H) := by
  intro ex H ρ st d v X Q M r h
  unfold prim1F at h
  simp only at h
  split at h
  · cases r; exact ⟨_, rfl, h.here M rfl⟩
  · exact h.elim
end
end MP
end
section
set_option maxRecDepth 100000
set_option maxHeartbeats 4000000
namespace MP
open PySem PySem.Spec PyProof.Rows L2
section
variable {prog : Program} {w : World} {A : Around} {E : Value → Shared → Prop} {s : Shared}
theorem args_min3 (a b c : Value) : argsOk "min" ⟨[a, b, c], []⟩ := by unfold argsOk; kernel_rfl
theorem call_min_three {a b c : Value} {Q : Value → Shared → Prop}
    (h : wpAny (model prog w) A.in1 (pyIter (.ref s.heap.objs.size)) (fun it s₂ => ∃ I fp wr n P St bt, it = .ref I ∧ Walks prog w A.in1 I fp wr n P St ∧ St 0 s₂.heap ∧ (∀ b ∈ fp, b < s₂.heap.objs.size) ∧ 0 < n ∧ CmpOf prog w A.in1 .Lt P bt ∧
      ∀ v h' tk, P (argBest bt (n - 1)) v → (∀ b o, b ∉ wr → s₂.heap.get? b = some o → h'.get? b = some o) → Q v { s₂ with heap := h', toks := tk }) E
      { s with heap := s.heap.push { cls := .type "tuple", data := .seq #[a, b, c] } }) :
    wpAny (model prog w) A (call (.builtin "min") [a, b, c]) Q E s := by
  have hname : (toString "min" ++ toString ".loop" : String) = "min.loop" := by decide
  refine call_function_tree F.kind_min F.plain_min F.entry_min (args_min3 _ _ _) ?_
  show wpAny _ A.in1 (Builtin.Builtins.bindParams "min" ["key", "default"] 0 ⟨[], []⟩ >>= _) _ _ s
  refine wpAny_bind (wpAny_of_eq (show Builtin.Builtins.bindParams "min" ["key", "default"] 0 ⟨[], []⟩ = pure [none, none] from rfl) ?_)
  show wpAny _ A.in1 (newTuple [a, b, c] >>= _) _ _ s
  refine wpAny_bind (wpAny_newObj_type ?_)
  refine wpAny_bind (wpAny_mono h (fun it s₂ h₂ => ?_) fun _ _ e => e)
  obtain ⟨I, fp, wr, n, P, St, bt, rfl, W, hst, hfp, hn, hcmp, hQ⟩ := h₂
  refine wpAny_bind (wpAny_newObj_type ?_)
  have hSf : s₂.heap.objs.size ∉ fp := fun hm => Nat.lt_irrefl _ (hfp _ hm)
  rw [hname]
  refine wpAny_pure ⟨plainId_quiet F.plain_min_loop _, codeAny_min_loop_first W bt hcmp s₂.heap.objs.size hSf hn (W.frame _ _ _ hst fun b _ o e => Heap.get?_push_of_some _ e) (Heap.get?_push_size _ rfl) fun v h' tk hP hk => ?_⟩
  exact hQ v h' tk hP fun b o hbw e => hk b o hbw (Nat.ne_of_lt (Heap.lt_size e)) (Heap.get?_push_of_some _ e)
def min3 (i j k : Int) : Int := if k < (if j < i then j else i) then k else if j < i then j else i
theorem min_three_ints {a b c : Int} {t u x : Tok} {Q : Value → Shared → Prop} (hh : A.handled = none)
    (h : ∀ v h' tk, (∃ y, v = Value.int (min3 a b c) y) → (∀ c o, s.heap.get? c = some o → h'.get? c = some o) → Q v { s with heap := h', toks := tk }) :
    wpAny (model prog w) A (call (.builtin "min") [.int a t, .int b u, .int c x]) Q E s := by
  have hT : (s.heap.push { cls := .type "tuple", data := .seq #[.int a t, .int b u, .int c x] }).IsTuple s.heap.objs.size (intItems #[(a, t), (b, u), (c, x)]) := ⟨_, Heap.get?_push_size _ rfl, rfl, 0, by simp [intItems]⟩
  refine call_min_three (wpAny_pyIter_tuple hT ?_)
  have hsz : (s.heap.push { cls := .type "tuple", data := .seq #[.int a t, .int b u, .int c x] }).objs.size = s.heap.objs.size + 1 := Heap.size_push ..
  refine ⟨_, [_, s.heap.objs.size], [_], _, _, _, _, rfl, Walks.tuple (A := A.in1) hh _ s.heap.objs.size (by rw [hsz]; exact Nat.ne_of_lt (Nat.lt_succ_self _)) (intItems #[(a, t), (b, u), (c, x)]),
    ⟨⟨_, Heap.get?_push_size _ rfl, rfl, rfl⟩, hT.push _⟩, fun c hc => ?_, by simp [intItems], CmpOf.ints_lt (numAt #[(a, t), (b, u), (c, x)]) (fun _ _ => intItems_at), fun v h' tk hP hk => ?_⟩
  · show c < ((s.heap.push _).push _).objs.size
    rw [Heap.size_push, hsz]
    rcases List.mem_cons.mp hc with rfl | hc
    · rw [hsz]; exact Nat.lt_succ_self _
    · rcases List.mem_cons.mp hc with rfl | hc
      · exact Nat.lt_succ_of_lt (Nat.lt_succ_self _)
      · cases hc
  · have hold : ∀ c o, s.heap.get? c = some o → h'.get? c = some o := fun c o e => by
      refine hk c o (fun hm => ?_) (Heap.get?_push_of_some _ (Heap.get?_push_of_some _ e))
      rcases List.mem_cons.mp hm with e1 | hm
      · have := Heap.lt_size e; rw [e1, hsz] at this; exact Nat.lt_irrefl _ (Nat.lt_of_succ_lt this)
      · cases hm
    refine h v h' tk ?_ hold
    have hP' : (intItems #[(a, t), (b, u), (c, x)])[argBest (fun i j => decide (numAt #[(a, t), (b, u), (c, x)] i < numAt #[(a, t), (b, u), (c, x)] j)) 2]? = some v := by
      have hsz2 : (intItems #[(a, t), (b, u), (c, x)]).size - 1 = 2 := by simp [intItems]
      rw [← hsz2]; exact hP
    unfold min3
    by_cases hba : b < a
    · by_cases hcb : c < b
      · have e : argBest (fun i j => decide (numAt #[(a, t), (b, u), (c, x)] i < numAt #[(a, t), (b, u), (c, x)] j)) 2 = 2 := by simp [argBest, numAt, hba, hcb]
        rw [e] at hP'
        simp only [if_pos hba, if_pos hcb]
        exact ⟨x, by simpa [intItems] using hP'.symm⟩
      · have e : argBest (fun i j => decide (numAt #[(a, t), (b, u), (c, x)] i < numAt #[(a, t), (b, u), (c, x)] j)) 2 = 1 := by simp [argBest, numAt, hba, hcb]
        rw [e] at hP'
        simp only [if_pos hba, if_neg hcb]
        exact ⟨u, by simpa [intItems] using hP'.symm⟩
    · by_cases hca : c < a
      · have e : argBest (fun i j => decide (numAt #[(a, t), (b, u), (c, x)] i < numAt #[(a, t), (b, u), (c, x)] j)) 2 = 2 := by simp [argBest, numAt, hba, hca]
        rw [e] at hP'
        simp only [if_neg hba, if_pos hca]
        exact ⟨x, by simpa [intItems] using hP'.symm⟩
      · have e : argBest (fun i j => decide (numAt #[(a, t), (b, u), (c, x)] i < numAt #[(a, t), (b, u), (c, x)] j)) 2 = 0 := by simp [argBest, numAt, hba, hca]
        rw [e] at hP'
        simp only [if_neg hba, if_neg hca]
        exact ⟨t, by simpa [intItems] using hP'.symm⟩
end
theorem vals3 {x y z : V} {us : List Value} (r : Vals [x, y, z] us) : ∃ u w' q', us = [u, w', q'] ∧ RelV x u ∧ RelV y w' ∧ RelV z q' := by
  cases r with
  | cons r1 r2 =>
    cases r2 with
    | cons r3 r4 =>
      cases r4 with
      | cons r5 r6 => cases r6; exact ⟨_, _, _, rfl, r1, r3, r5⟩
theorem call_min3 {X : Cx} (hc : X.calm = true) : CallR X (.builtin "min") (fun xs H Q => ∃ i j k, xs = [.int i, .int j, .int k] ∧ Q (.int (min3 i j k)) H) := by
  intro pins s σ H xs us Q I r h
  obtain ⟨i, j, k, rfl, q⟩ := h
  obtain ⟨u, w', q', rfl, ⟨t, rfl⟩, ⟨t', rfl⟩, ⟨t'', rfl⟩⟩ := vals3 r
  refine min_three_ints (I.ok.hd hc) fun v h' tk e k => ⟨_, H, I.kept k, ?_, q⟩
  obtain ⟨y, rfl⟩ := e
  exact ⟨_, rfl⟩
def P3 (K : PySem.W.Frag) (p : P) (r : List V → Hp → VK → Prop) : Prop := ∀ {ex : Addr → Prop} {H : Hp} {ρ : List Addr} {st : Store} {d e f : D} {v u x : V} {X : Ex → Hp → List Addr → Store → Prop} {Q : VK},
  Mem K ex H ρ st → Rep K ex H ρ d v → Rep K ex H ρ e u → Rep K ex H ρ f x → PostV K ex H ρ (prim3F p d e f st) X Q → r [v, u, x] H Q
theorem ok_min3 {K : PySem.W.Frag} : P3 K .min3 (fun xs H Q => ∃ i j k, xs = [.int i, .int j, .int k] ∧ Q (.int (min3 i j k)) H) := by
  intro ex H ρ st d e f v u x X Q M r1 r2 r3 h
  unfold prim3F at h
  simp only at h
  split at h
  · cases r1; cases r2; cases r3
    exact ⟨_, _, _, rfl, h.here M rfl⟩
  · exact h.elim
end MP
end
section
set_option maxRecDepth 100000
set_option maxHeartbeats 4000000
namespace MP
open PySem PySem.Spec PyProof.Rows L2 PySem.W
def pyP (p : Pl) : PyData := .tuple [.int p.1, .int p.2]
theorem py_pl {d : D} {p : Pl} (h : plOf d = some p) : py d = pyP p ∧ cmpD d = true := by
  unfold plOf at h
  split at h
  · cases h
    exact ⟨by simp [py, pys, pyP], by simp [cmpD, cmpDs]⟩
  · cases h
theorem alike_pl (p q : Pl) : alike (pyP p) (pyP q) = true := by simp [pyP, alike, alikeAll]
theorem depth_pl (p : Pl) : (pyP p).depth ≤ 2 := by simp [pyP, PyData.depth, PyData.depthAll]
section
variable {X : Cx}
def rLtP (K : PySem.W.Frag) (f : Pl → Pl → Bool) : R2 := fun x y H Q => ∃ p q, Dp K H x (pyP p) ∧ Dp K H y (pyP q) ∧ Q (.bl (f p q)) H
theorem op_ltP (hu : X.A.units + 65 < cLine) : OpR X (compareOp .Lt) (rLtP X.K plLt) := by
  intro pins s σ H x y v u Q I rx ry ⟨p, q, h1, h2, k⟩
  obtain ⟨as, r1⟩ := Dp.reads I _ _ _ h1 rx
  obtain ⟨bs, r2⟩ := Dp.reads I _ _ _ h2 ry
  have d1 := depth_pl p
  have d2 := Nat.min_le_left (pyP p).depth (pyP q).depth
  refine lt_data r1 r2 (alike_pl p q) (by simp [pyP]) (by omega) ?_
  refine ⟨.bl (plLt p q), H, I, ?_, k⟩
  show Value.bool (dataLt (pyP p) (pyP q)) = Value.bool _
  rw [pyP, pyP, dataLt_ii]
  rfl
end
section
variable {K : PySem.W.Frag}
theorem ok_ltM : OpOk K .lt (fun x y H Q => rI0 (fun i j => .bl (decide (i < j))) x y H Q ∨ rLtP K plLt x y H Q) := by
  intro ex H ρ st d1 d2 v1 v2 X Q M r1 r2 h
  unfold opF at h
  simp only at h
  split at h
  · cases r1
    cases r2
    exact .inl ⟨_, _, rfl, rfl, h.here M rfl⟩
  · split at h
    · rename_i p q hp hq
      obtain ⟨e1, c1⟩ := py_pl hp
      obtain ⟨e2, c2⟩ := py_pl hq
      exact .inr ⟨p, q, by rw [← e1]; exact (rep_dp c1 r1).1, by rw [← e2]; exact (rep_dp c2 r2).1, h.here M rfl⟩
    · exact h.elim
end
end MP
end
section
set_option maxRecDepth 100000
set_option maxHeartbeats 4000000
namespace MP
open PySem PySem.Spec PyProof.Rows L2
abbrev XA := Ex → Value → Option Addr → Hp → Prop
def Slots (K : PySem.W.Frag) (ex : Addr → Prop) (H : Hp) (ρ : List Addr) (σ : L2.St) (ds : DS) : Prop :=
  σ.length = ds.length ∧ ∀ (i : Nat) (d : D), ds[i]? = some (some d) → ∃ v, σ[i]? = some (some v) ∧ Rep K ex H ρ d v
def xOf (xa : XA) (W : WX) (σ : L2.St) : Ex → Hp → List Addr → Store → Prop := fun e H' _ _ => ∀ cls dd, xa e cls dd H' → W cls dd σ H'
def denE (K : PySem.W.Frag) (xa : XA) (W : WX) (f : DS → Store → RE) : TE := fun σ H Q => ∃ ex ρ ds st, Mem K ex H ρ st ∧ Slots K ex H ρ σ ds ∧ PostV K ex H ρ (f ds st) (xOf xa W σ) Q
def denT (K : PySem.W.Frag) (xa : XA) (W : WX) (f : DS → Store → RE) : TT := fun σ H Q => denE K xa W f σ H fun v H' => ∃ c, v = .bl c ∧ Q c H'
section
variable {K : PySem.W.Frag} {ex : Addr → Prop} {H H' : Hp} {ρ ρ' : List Addr} {st : Store} {σ : L2.St} {ds : DS} {Xe : Ex → Hp → List Addr → Store → Prop} {Q Q' : VK}
theorem Slots.ext (e : Ext ρ H ρ' H') (s : Slots K ex H ρ σ ds) : Slots K ex H' ρ' σ ds := ⟨s.1, fun i d h => let ⟨v, h1, h2⟩ := s.2 i d h; ⟨v, h1, h2.ext e⟩⟩
theorem Slots.set (s : Slots K ex H ρ σ ds) (i : Nat) {d : D} {v : V} (r : Rep K ex H ρ d v) : Slots K ex H ρ (σ.set i (some v)) (ds.set i (some d)) := by
  refine ⟨by rw [List.length_set, List.length_set]; exact s.1, fun j e h => ?_⟩
  by_cases hj : j = i
  · subst hj
    have hl : j < ds.length := by have := (List.getElem?_eq_some_iff.mp h).1; rwa [List.length_set] at this
    rw [List.getElem?_set_self hl] at h
    cases h
    exact ⟨v, List.getElem?_set_self (by rw [s.1]; exact hl), r⟩
  · rw [List.getElem?_set_ne (Ne.symm hj)] at h
    rw [List.getElem?_set_ne (Ne.symm hj)]
    exact s.2 j e h
theorem PostV.step {x : RE} (e : Ext ρ H ρ' H') (h : PostV K ex H ρ x Xe Q) : PostV K ex H' ρ' x Xe Q := by
  cases x with
  | ok d s => exact fun v H2 ρ2 e2 M r => h v H2 ρ2 (e.trans e2) M r
  | exc x s => exact fun H2 ρ2 e2 M => h H2 ρ2 (e.trans e2) M
  | no => exact h
theorem PostV.imp {x : RE} (h : PostV K ex H ρ x Xe Q) (q : ∀ v H', Q v H' → Q' v H') : PostV K ex H ρ x Xe Q' := by
  cases x with
  | ok d s => exact fun v H2 ρ2 e2 M r => q _ _ (h v H2 ρ2 e2 M r)
  | exc x s => exact h
  | no => exact h
theorem PostV.bind {x : RE} {g : D → Store → RE} (h : PostV K ex H ρ (x.bind g) Xe Q) :
    PostV K ex H ρ x Xe fun v H1 => ∃ d st1 ρ1, Ext ρ H ρ1 H1 ∧ Mem K ex H1 ρ1 st1 ∧ Rep K ex H1 ρ1 d v ∧ PostV K ex H1 ρ1 (g d st1) Xe Q := by
  cases x with
  | ok d s => exact fun v H2 ρ2 e2 M r => ⟨d, s, ρ2, e2, M, r, PostV.step e2 (show PostV K ex H ρ (g d s) Xe Q from h)⟩
  | exc x s => exact h
  | no => exact h
def PostL (K : PySem.W.Frag) (ex : Addr → Prop) (H : Hp) (ρ : List Addr) (res : R (List D)) (X : Ex → Hp → List Addr → Store → Prop) (Q : List V → Hp → Prop) : Prop := match res with
  | .ok d st' => ∀ v H' ρ', Ext ρ H ρ' H' → Mem K ex H' ρ' st' → Reps K ex H' ρ' d v → Q v H'
  | .exc e st' => ∀ H' ρ', Ext ρ H ρ' H' → Mem K ex H' ρ' st' → X e H' ρ' st'
  | .no => False
def denL (K : PySem.W.Frag) (xa : XA) (W : WX) (f : DS → Store → R (List D)) : TA := fun σ H Q => ∃ ex ρ ds st, Mem K ex H ρ st ∧ Slots K ex H ρ σ ds ∧ PostL K ex H ρ (f ds st) (xOf xa W σ) Q
theorem PostL.bind {x : R (List D)} {g : List D → Store → RE} (h : PostV K ex H ρ (x.bind g) Xe Q) :
    PostL K ex H ρ x Xe fun v H1 => ∃ d st1 ρ1, Ext ρ H ρ1 H1 ∧ Mem K ex H1 ρ1 st1 ∧ Reps K ex H1 ρ1 d v ∧ PostV K ex H1 ρ1 (g d st1) Xe Q := by
  cases x with
  | ok d s => exact fun v H2 ρ2 e2 M r => ⟨d, s, ρ2, e2, M, r, PostV.step e2 (show PostV K ex H ρ (g d s) Xe Q from h)⟩
  | exc x s => exact h
  | no => exact h
end
theorem _root_.L2.PE.imp {X : Cx} {e : Expr} {t t' : TE} (h : PE X e t) (i : ∀ σ H Q, t' σ H Q → t σ H Q) : PE X e t' := ⟨fun pins s σ H Q I q => h.run pins s σ H Q I (i σ H Q q)⟩
theorem _root_.L2.PE.or {X : Cx} {e : Expr} {t t' : TE} (h : PE X e t) (h' : PE X e t') : PE X e (fun σ H Q => t σ H Q ∨ t' σ H Q) := ⟨fun pins s σ H Q I q => q.elim (h.run pins s σ H Q I) (h'.run pins s σ H Q I)⟩
theorem _root_.L2.PT.imp {X : Cx} {e : Expr} {t t' : TT} (h : PT X e t) (i : ∀ σ H Q, t' σ H Q → t σ H Q) : PT X e t' := ⟨fun pins s σ H Q I q => h.run pins s σ H Q I (i σ H Q q)⟩
theorem _root_.L2.PW.imp {X : Cx} {e : Expr} {t t' : TT} (h : PW X e t) (i : ∀ σ H Q, t' σ H Q → t σ H Q) : PW X e t' := ⟨fun wh pins s σ H Q I q => h.run wh pins s σ H Q I (i σ H Q q)⟩
theorem _root_.L2.PA.imp {X : Cx} {e : List Expr} {t t' : TA} (h : PA X e t) (i : ∀ σ H Q, t' σ H Q → t σ H Q) : PA X e t' := ⟨fun ps pins s σ H Q I q => h.run ps pins s σ H Q I (i σ H Q q)⟩
theorem _root_.L2.PS.imp {X : Cx} {e : Stmt} {t t' : TS} (h : PS X e t) (i : ∀ D σ H, t' D σ H → t D σ H) : PS X e t' := ⟨fun pins s σ H D I q => h.run pins s σ H D I (i D σ H q)⟩
theorem _root_.L2.PSs.imp {X : Cx} {e : List Stmt} {t t' : TS} (h : PSs X e t) (i : ∀ D σ H, t' D σ H → t D σ H) : PSs X e t' := ⟨fun pins s σ H D I q => h.run pins s σ H D I (i D σ H q)⟩
section
variable {X : Cx} {xa : XA} {W : WX} {pos : Pos} {a b c : Expr} {fa fb fc : DS → Store → RE}
theorem den_val {e : Expr} {d : D} {v : V} (h : PE X e (tC v)) (r : ∀ ex H ρ, Rep X.K ex H ρ d v) : PE X e (denE X.K xa W fun _ st => .ok d st) :=
  h.imp fun σ H Q ⟨ex, ρ, ds, st, M, S, q⟩ => q v H ρ (Ext.refl _ _) M (r ex H ρ)
theorem den_var {i : Nat} {x : Str} (h : PE X (.Name x pos) (tVar i)) : PE X (.Name x pos) (denE X.K xa W fun ds st => match ds[i]? with | some (some d) => .ok d st | _ => .no) := by
  refine h.imp fun σ H Q ⟨ex, ρ, ds, st, M, S, q⟩ => ?_
  simp only at q
  split at q
  · rename_i d hd
    obtain ⟨v, h1, h2⟩ := S.2 i d hd
    exact ⟨v, h1, q v H ρ (Ext.refl _ _) M h2⟩
  · exact q.elim
theorem den_two {σ : L2.St} {H : Hp} {Q : VK} {R : V → V → Hp → Prop} {g : D → D → Store → RE}
    (h : denE X.K xa W (fun ds st => (fa ds st).bind fun x st1 => (fb ds st1).bind fun y st2 => g x y st2) σ H Q)
    (k : ∀ ex H2 ρ2 st2 x y v u, Mem X.K ex H2 ρ2 st2 → Rep X.K ex H2 ρ2 x v → Rep X.K ex H2 ρ2 y u → PostV X.K ex H2 ρ2 (g x y st2) (xOf xa W σ) Q → R v u H2) :
    denE X.K xa W fa σ H fun v H1 => denE X.K xa W fb σ H1 fun u H2 => R v u H2 := by
  obtain ⟨ex, ρ, ds, st, M, S, q⟩ := h
  refine ⟨ex, ρ, ds, st, M, S, (PostV.bind q).imp fun v H1 ⟨x, st1, ρ1, e1, M1, r1, q1⟩ => ?_⟩
  refine ⟨ex, ρ1, ds, st1, M1, S.ext e1, (PostV.bind q1).imp fun u H2 ⟨y, st2, ρ2, e2, M2, r2, q2⟩ => ?_⟩
  exact k ex H2 ρ2 st2 x y v u M2 (r1.ext e2) r2 q2
theorem den_one {σ : L2.St} {H : Hp} {Q : VK} {R : V → Hp → Prop} {g : D → Store → RE}
    (h : denE X.K xa W (fun ds st => (fa ds st).bind fun x st1 => g x st1) σ H Q)
    (k : ∀ ex H2 ρ2 st2 x v, Mem X.K ex H2 ρ2 st2 → Rep X.K ex H2 ρ2 x v → PostV X.K ex H2 ρ2 (g x st2) (xOf xa W σ) Q → R v H2) :
    denE X.K xa W fa σ H fun v H1 => R v H1 := by
  obtain ⟨ex, ρ, ds, st, M, S, q⟩ := h
  exact ⟨ex, ρ, ds, st, M, S, (PostV.bind q).imp fun v H1 ⟨x, st1, ρ1, e1, M1, r1, q1⟩ => k ex H1 ρ1 st1 x v M1 r1 q1⟩
theorem den_op {op : Operator} {o : Op} {r : R2} (ho : OpR X (binaryOp op) r) (ok : OpOk X.K o r) (ha : PE X a (denE X.K xa W fa)) (hb : PE X b (denE X.K xa W fb)) :
    PE X (.BinOp a op b pos) (denE X.K xa W fun ds st => (fa ds st).bind fun x st1 => (fb ds st1).bind fun y st2 => opF o x y st2) :=
  (pe_op ho ha hb).imp fun σ H Q h => den_two h fun ex H2 ρ2 st2 x y v u M r1 r2 q => ok M r1 r2 q
theorem den_cmp {op : CmpOp} {o : Op} {r : R2} (ho : OpR X (compareOp op) r) (ok : OpOk X.K o r) (ha : PE X a (denE X.K xa W fa)) (hb : PE X b (denE X.K xa W fb)) (hm : behindInMarks op b = false) :
    PE X (.Compare a [op] [b] pos) (denE X.K xa W fun ds st => (fa ds st).bind fun x st1 => (fb ds st1).bind fun y st2 => opF o x y st2) :=
  (pe_cmpR ho ha hb hm).imp fun σ H Q h => den_two h fun ex H2 ρ2 st2 x y v u M r1 r2 q => ok M r1 r2 q
theorem op_dinM (hu : X.A.units + 65 < cLine) : OpR X (compareOp .In) (rDIn false) := by
  intro pins s σ H x y v u Q I rx ry ⟨a, o, e, g, q⟩
  subst e
  obtain rfl : u = Value.ref a := ry
  exact d_in (by omega) I g rx fun s3 I3 => ⟨.bl o.isSome, H, I3, rfl, q⟩
theorem op_dniM (hu : X.A.units + 65 < cLine) : OpR X (compareOp .NotIn) (rDIn true) := by
  intro pins s σ H x y v u Q I rx ry ⟨a, o, e, g, q⟩
  subst e
  obtain rfl : u = Value.ref a := ry
  exact d_notIn (by omega) I g rx fun s3 I3 => ⟨.bl (!o.isSome), H, I3, rfl, q⟩
def rNilK (K : PySem.W.Frag) (k : Bool → Bool) : R2 := fun x y H Q => ∃ (a b : Addr) (xs : List V), x = .ref a ∧ y = .ref b ∧ SqL K H a xs ∧ SqL K H b [] ∧ Q (.bl (k xs.isEmpty)) H
theorem op_eqE (hu : X.A.units + 65 < cLine) : OpR X (compareOp .Eq) (rNilK X.K fun k => k) := by
  intro pins s σ H x y v u Q I rx ry ⟨a, b, xs, e1, e2, ha, hb, q⟩
  subst e1 e2
  cases (show v = Value.ref a from rx)
  cases (show u = Value.ref b from ry)
  obtain ⟨us, r1, p1, _⟩ := I.list ha
  obtain ⟨ws, r2, p2, _⟩ := I.list hb
  cases r2
  cases r1 with
  | nil => exact PySem.SeqAt.RcAt.lists (e := fun _ => true) p1.isList p2.isList rfl (by omega) (fun j h1 h2 => absurd h1 (by simp)) X.prog X.w _ _ ⟨.bl true, H, I, rfl, q⟩
  | cons r rs => exact PySem.SeqAt.RcAt.lists_lengths p1.isList p2.isList (by simp) (by omega) X.prog X.w _ _ ⟨.bl false, H, I, rfl, q⟩
theorem op_neE (hu : X.A.units + 65 < cLine) : OpR X (compareOp .NotEq) (rNilK X.K fun k => !k) := by
  intro pins s σ H x y v u Q I rx ry ⟨a, b, xs, e1, e2, ha, hb, q⟩
  subst e1 e2
  cases (show v = Value.ref a from rx)
  cases (show u = Value.ref b from ry)
  obtain ⟨us, r1, p1, _⟩ := I.list ha
  obtain ⟨ws, r2, p2, _⟩ := I.list hb
  cases r2
  cases r1 with
  | nil => exact PySem.SeqAt.RcNeAt.lists (e := fun _ => true) p1.isList p2.isList rfl (by omega) (fun j h1 h2 => absurd h1 (by simp)) X.prog X.w _ _ ⟨.bl false, H, I, rfl, q⟩
  | cons r rs => exact PySem.SeqAt.RcNeAt.lists_lengths p1.isList p2.isList (by simp) (by omega) X.prog X.w _ _ ⟨.bl true, H, I, rfl, q⟩
theorem ok_eqE : OpOk X.K .eqE (rNilK X.K fun k => k) := by
  intro ex H ρ st d1 d2 v1 v2 Xe Q M r1 r2 h
  simp only [opF] at h
  split at h
  · rename_i xs hx
    obtain ⟨a, vs, rfl, h1, h2⟩ := rep_lst M r1 hx
    obtain ⟨b, us, rfl, h3, h4⟩ := rep_lst M r2 (xs := []) rfl
    have e : us = [] := List.eq_nil_of_length_eq_zero (by rw [← h4.length]; rfl)
    subst e
    refine ⟨a, b, vs, rfl, rfl, h1, h3, ?_⟩
    have e2 : vs.isEmpty = xs.isEmpty := by
      have := h2.length
      cases vs <;> cases xs <;> simp_all
    rw [e2]
    exact h _ _ _ (Ext.refl _ _) M rfl
  · exact h.elim
theorem ok_neE : OpOk X.K .neE (rNilK X.K fun k => !k) := by
  intro ex H ρ st d1 d2 v1 v2 Xe Q M r1 r2 h
  simp only [opF] at h
  split at h
  · rename_i xs hx
    obtain ⟨a, vs, rfl, h1, h2⟩ := rep_lst M r1 hx
    obtain ⟨b, us, rfl, h3, h4⟩ := rep_lst M r2 (xs := []) rfl
    have e : us = [] := List.eq_nil_of_length_eq_zero (by rw [← h4.length]; rfl)
    subst e
    refine ⟨a, b, vs, rfl, rfl, h1, h3, ?_⟩
    have e2 : vs.isEmpty = xs.isEmpty := by
      have := h2.length
      cases vs <;> cases xs <;> simp_all
    rw [e2]
    exact h _ _ _ (Ext.refl _ _) M rfl
  · exact h.elim
def binOf : Op → Option Operator
  | .add _ => some .Add
  | .sub => some .Sub
  | .mul => some .Mult
  | .fdiv => some .FloorDiv
  | .mod => some .Mod
  | .pow => some .Pow
  | _ => none
def cmpOf : Op → Option CmpOp
  | .eq => some .Eq
  | .ne => some .NotEq
  | .lt => some .Lt
  | .le => some .LtE
  | .gt => some .Gt
  | .ge => some .GtE
  | .isin => some .In
  | .notin => some .NotIn
  | .eqE => some .Eq
  | .neE => some .NotEq
  | _ => none
theorem bin_ok {o : Op} {op : Operator} (h : binOf o = some op) : ∃ r, OpR X (binaryOp op) r ∧ OpOk X.K o r := by
  cases o <;> simp only [binOf, Option.some.injEq, reduceCtorEq] at h <;> subst h
  · exact ⟨_, op_addM, ok_add _⟩
  · exact ⟨_, op_sub, ok_sub⟩
  · exact ⟨_, op_mulM, ok_mul⟩
  · exact ⟨_, op_fdivM, ok_fdiv⟩
  · exact ⟨_, op_mod, ok_mod⟩
  · exact ⟨_, op_pow, ok_pow⟩
theorem cmp_ok (hu : X.A.units + 90 < cLine) {o : Op} {op : CmpOp} (h : cmpOf o = some op) : ∃ r, OpR X (compareOp op) r ∧ OpOk X.K o r := by
  cases o <;> simp only [cmpOf, Option.some.injEq, reduceCtorEq] at h <;> subst h
  · exact ⟨_, opr_or (op_eqD (by omega)) (opr_or (op_eqT (by omega)) (op_eqU (by omega))), ok_eq⟩
  · exact ⟨_, opr_or (op_neD (by omega)) (opr_or (op_neT (by omega)) (op_neU (by omega))), ok_ne⟩
  · exact ⟨_, opr_or op_lt (op_ltP (by omega)), ok_ltM⟩
  · exact ⟨_, op_le, ok_le⟩
  · exact ⟨_, op_gt, ok_gt⟩
  · exact ⟨_, op_ge, ok_ge⟩
  · exact ⟨_, OpR.or' (op_in0 (by omega)) (op_dinM (by omega)), fun M r1 r2 h => ok_in M r1 r2 h⟩
  · exact ⟨_, OpR.or' (op_ni0 (by omega)) (op_dniM (by omega)), fun M r1 r2 h => ok_notin M r1 r2 h⟩
  · exact ⟨_, op_eqE (by omega), ok_eqE⟩
  · exact ⟨_, op_neE (by omega), ok_neE⟩
theorem den_chain {op op' : CmpOp} {o o' : Op} {r r' : R2} (ho : OpR X (compareOp op) r) (ho' : OpR X (compareOp op') r') (ok : OpOk X.K o r) (ok' : OpOk X.K o' r')
    (ha : PE X a (denE X.K xa W fa)) (hb : PE X b (denE X.K xa W fb)) (hc : PE X c (denE X.K xa W fc)) (hm : lastMarks [op, op'] [b, c] = false) :
    PE X (.Compare a [op, op'] [b, c] pos) (denE X.K xa W fun ds st => (fa ds st).bind fun x st1 => (fb ds st1).bind fun y st2 => (opF o x y st2).bind fun z st3 => match z with
    | .bl true => (fc ds st3).bind fun w st4 => opF o' y w st4
    | .bl false => .ok (.bl false) st3
    | _ => .no) := by
  refine (pe_chain ho ho' ha hb hc hm).imp fun σ H Q h => ?_
  obtain ⟨ex, ρ, ds, st, M, S, q⟩ := h
  refine ⟨ex, ρ, ds, st, M, S, (PostV.bind q).imp fun v H1 ⟨x, st1, ρ1, e1, M1, r1, q1⟩ => ?_⟩
  refine ⟨ex, ρ1, ds, st1, M1, S.ext e1, (PostV.bind q1).imp fun u H2 ⟨y, st2, ρ2, e2, M2, r2, q2⟩ => ?_⟩
  refine ok M2 (r1.ext e2) r2 ((PostV.bind q2).imp fun z H3 ⟨k, st3, ρ3, e3, M3, r3, q3⟩ => ?_)
  split at q3
  · cases r3
    refine ⟨true, rfl, ?_⟩
    rw [if_pos rfl]
    exact ⟨ex, ρ3, ds, st3, M3, ((S.ext e1).ext e2).ext e3, (PostV.bind q3).imp fun w H4 ⟨l, st4, ρ4, e4, M4, r4, q4⟩ => ok' M4 ((r2.ext e3).ext e4) r4 q4⟩
  · cases r3
    refine ⟨false, rfl, ?_⟩
    rw [if_neg Bool.false_ne_true]
    exact q3 (.bl false) H3 ρ3 (Ext.refl _ _) M3 rfl
  · exact q3.elim
theorem den_isn {neg : Bool} (ha : PE X a (denE X.K xa W fa)) {j : Nat} {p2 : Pos} :
    PE X (.Compare a [if neg then .IsNot else .Is] [.Constant .none j p2] pos) (denE X.K xa W fun ds st => (fa ds st).bind fun x st1 => prim1F (if neg then .notn else .isn) x st1) := by
  cases neg with
  | false =>
    refine (pe_cmp (pc_isN ha) rfl).imp fun σ H Q h => ?_
    refine den_one (g := fun x st1 => prim1F .isn x st1) h fun ex H2 ρ2 st2 x v M r q => ?_
    cases x with
    | non => cases r; exact q _ _ _ (Ext.refl _ _) M rfl
    | bl k => cases r; exact q _ _ _ (Ext.refl _ _) M rfl
    | int k => cases r; exact q _ _ _ (Ext.refl _ _) M rfl
    | str k => obtain ⟨rfl, _⟩ := r; exact q _ _ _ (Ext.refl _ _) M rfl
    | tup k => obtain ⟨p, vs, rfl, _⟩ := r; exact q _ _ _ (Ext.refl _ _) M rfl
    | lst k => obtain ⟨p, vs, rfl, _⟩ := r; exact q _ _ _ (Ext.refl _ _) M rfl
    | dct k => obtain ⟨p, vs, rfl, _⟩ := r; exact q _ _ _ (Ext.refl _ _) M rfl
    | scr k => obtain ⟨p, rfl, _⟩ := r; exact q _ _ _ (Ext.refl _ _) M rfl
    | exc k j => obtain ⟨p, oe, rfl, _⟩ := r; exact q _ _ _ (Ext.refl _ _) M rfl
    | ref k => obtain ⟨p, _, rfl⟩ := r; exact q _ _ _ (Ext.refl _ _) M rfl
  | true =>
    refine (pe_cmp (pc_notN ha) rfl).imp fun σ H Q h => ?_
    refine den_one (g := fun x st1 => prim1F .notn x st1) h fun ex H2 ρ2 st2 x v M r q => ?_
    cases x with
    | non => cases r; exact q _ _ _ (Ext.refl _ _) M rfl
    | bl k => cases r; exact q _ _ _ (Ext.refl _ _) M rfl
    | int k => cases r; exact q _ _ _ (Ext.refl _ _) M rfl
    | str k => obtain ⟨rfl, _⟩ := r; exact q _ _ _ (Ext.refl _ _) M rfl
    | tup k => obtain ⟨p, vs, rfl, _⟩ := r; exact q _ _ _ (Ext.refl _ _) M rfl
    | lst k => obtain ⟨p, vs, rfl, _⟩ := r; exact q _ _ _ (Ext.refl _ _) M rfl
    | dct k => obtain ⟨p, vs, rfl, _⟩ := r; exact q _ _ _ (Ext.refl _ _) M rfl
    | scr k => obtain ⟨p, rfl, _⟩ := r; exact q _ _ _ (Ext.refl _ _) M rfl
    | exc k j => obtain ⟨p, oe, rfl, _⟩ := r; exact q _ _ _ (Ext.refl _ _) M rfl
    | ref k => obtain ⟨p, _, rfl⟩ := r; exact q _ _ _ (Ext.refl _ _) M rfl
theorem den_neg (ha : PE X a (denE X.K xa W fa)) : PE X (.UnaryOp .USub a pos) (denE X.K xa W fun ds st => (fa ds st).bind fun x st1 => prim1F .neg x st1) := by
  refine (pe_un un_neg ha).imp fun σ H Q h => ?_
  refine den_one (g := fun x st1 => prim1F .neg x st1) h fun ex H2 ρ2 st2 x v M r q => ?_
  unfold prim1F at q
  simp only at q
  split at q
  · cases r; exact ⟨_, rfl, q.here M rfl⟩
  · exact q.elim
theorem ix_dM (hu : X.A.units + 65 < cLine) : IxR X rDIx := by
  intro value slice pins s σ H x y v u Q I rx ry ⟨a, z, e, g, q⟩ hs
  subst e
  obtain rfl : v = Value.ref a := rx
  exact tail_any (dict_typeIs I g) PySem.F.slot_dict_getitem.lookup (d_getItem (by omega) I g ry fun w' s3 I3 rw' => ⟨z, H, I3, rw', q⟩) hs
theorem den_ix (hu : X.A.units + 65 < cLine) (ha : PE X a (denE X.K xa W fa)) (hb : PE X b (denE X.K xa W fb)) (hs : PlainIx b) :
    PE X (.Subscript a b pos) (denE X.K xa W fun ds st => (fa ds st).bind fun x st1 => (fb ds st1).bind fun y st2 => prim2F .ix x y st2) :=
  (pe_ix (IxR.or ix_seq (ix_dM hu)) ha hb hs).imp fun σ H Q h => den_two h fun ex H2 ρ2 st2 x y v u M r1 r2 q => ok_ix M r1 r2 q
def PartOk (X : Cx) (xa : XA) (W : WX) (h : Bool) (oe : Option Expr) (f : DS → Store → RE) : Prop := ∃ t : TO, PO X oe t ∧ ∀ {ex : Addr → Prop} {ρ : List Addr} {ds : DS} {st : Store} {σ : L2.St} {H : Hp} {Q : Option Int → Hp → Prop},
  Mem X.K ex H ρ st → Slots X.K ex H ρ σ ds → PostV X.K ex H ρ (partR h (f ds st) st) (xOf xa W σ) (fun v H' => ∀ o, (v = .non ∧ o = none ∨ ∃ i, v = .int i ∧ o = some i) → Q o H') → t σ H Q
theorem part_none {f : DS → Store → RE} : PartOk X xa W false none f :=
  ⟨tNoPart, po_none, fun M S q => q .non _ _ (Ext.refl _ _) M rfl none (.inl ⟨rfl, rfl⟩)⟩
theorem part_some (ha : PE X a (denE X.K xa W fa)) : PartOk X xa W true (some a) fa := by
  refine ⟨_, po_some ha, fun {ex ρ ds st σ H Q} M S q => ?_⟩
  refine ⟨ex, ρ, ds, st, M, S, ?_⟩
  unfold partR at q
  rw [if_pos rfl] at q
  refine (PostV.bind q).imp fun v H1 ⟨x, st1, ρ1, e1, M1, r1, q1⟩ => ?_
  cases x with
  | int i => cases r1; exact ⟨i, rfl, q1 (.int i) _ _ (Ext.refl _ _) M1 rfl (some i) (.inr ⟨i, rfl, rfl⟩)⟩
  | _ => exact q1.elim
theorem partR_kind {h : Bool} {r : RE} {st st' : Store} {d : D} (e : partR h r st = .ok d st') : ∃ o, partOf d = some o := by
  unfold partR at e
  cases h with
  | false => simp at e; rw [← e.1]; exact ⟨none, rfl⟩
  | true =>
    simp only [if_true] at e
    cases r with
    | ok x s =>
      cases x with
      | int i => simp [R.bind] at e; rw [← e.1]; exact ⟨some i, rfl⟩
      | _ => simp [R.bind] at e
    | exc _ _ => simp [R.bind] at e
    | no => simp [R.bind] at e
theorem part_rel {ex : Addr → Prop} {H : Hp} {ρ : List Addr} {d : D} {v : V} {o : Option Int} (r : Rep X.K ex H ρ d v) (h : v = .non ∧ o = none ∨ ∃ i, v = .int i ∧ o = some i) (k : ∃ o', partOf d = some o') : partOf d = some o := by
  obtain ⟨o', k⟩ := k
  cases d with
  | non => cases r; rcases h with ⟨_, rfl⟩ | ⟨i, e, _⟩; rfl; cases e
  | int j => cases r; rcases h with ⟨e, _⟩ | ⟨i, e, rfl⟩; cases e; cases e; rfl
  | _ => simp [partOf] at k
theorem den_slc {m hl hh : Bool} {lo hi : Option Expr} {p2 : Pos} (ha : PE X a (denE X.K xa W fa)) (hb : PartOk X xa W hl lo fb) (hc : PartOk X xa W hh hi fc) :
    PE X (.Subscript a (.Slice lo hi none p2) pos) (denE X.K xa W fun ds st => (fa ds st).bind fun x st1 => (partR hl (fb ds st1) st1).bind fun l st2 => (partR hh (fc ds st2) st2).bind fun h st3 => slcF m x l h st3) := by
  obtain ⟨tl, pl, ql⟩ := hb
  obtain ⟨th, ph, qh⟩ := hc
  refine (pe_slice sl_M ha pl ph).imp fun σ H Q h => ?_
  obtain ⟨ex, ρ, ds, st, M, S, q⟩ := h
  refine ⟨ex, ρ, ds, st, M, S, (PostV.bind q).imp fun v H1 ⟨x, st1, ρ1, e1, M1, r1, q1⟩ => ?_⟩
  refine ql M1 (S.ext e1) ?_
  cases el : partR hl (fb ds st1) st1 with
  | no => rw [el] at q1; exact q1
  | exc e s => rw [el] at q1; exact q1
  | ok l st2 =>
    rw [el] at q1
    intro u H2 ρ2 e2 M2 r2 o ho
    refine qh M2 ((S.ext e1).ext e2) ?_
    have q2 := PostV.step e2 (show PostV X.K ex H1 ρ1 ((partR hh (fc ds st2) st2).bind fun h st3 => slcF m x l h st3) _ Q from q1)
    cases eh : partR hh (fc ds st2) st2 with
    | no => rw [eh] at q2; exact q2
    | exc e s => rw [eh] at q2; exact q2
    | ok h' st3 =>
      rw [eh] at q2
      intro w H3 ρ3 e3 M3 r3 o' ho'
      exact ok_slc M3 ((r1.ext e2).ext e3) (part_rel r2 ho (partR_kind el)) (part_rel r3 ho' (partR_kind eh)) (PostV.step e3 q2)
theorem den_tests (ha : PE X a (denE X.K xa W fa)) (he : ∀ whole, isTrue a X.env whole = (do let v ← whole; standAt a.pos; holding [v] (truthy v))) : PT X a (denT X.K xa W fa) := (pt_val ha he).imp fun σ H Q h => h
theorem den_and {rest : List Expr} (ha : PE X a (denE X.K xa W fa)) (hb : PE X (.BoolOp .And (b :: rest) pos) (denE X.K xa W fb)) :
    PE X (.BoolOp .And (a :: b :: rest) pos) (denE X.K xa W fun ds st => (fa ds st).bind fun x st1 => match x with
    | .bl true => fb ds st1
    | .bl false => .ok (.bl false) st1
    | _ => .no) := by
  refine (pe_and ha hb).imp fun σ H Q h => ?_
  obtain ⟨ex, ρ, ds, st, M, S, q⟩ := h
  refine ⟨ex, ρ, ds, st, M, S, (PostV.bind q).imp fun v H1 ⟨x, st1, ρ1, e1, M1, r1, q1⟩ => ?_⟩
  split at q1
  · cases r1
    exact ⟨true, rfl, iteT (⟨ex, ρ1, ds, st1, M1, S.ext e1, q1⟩)⟩
  · cases r1
    exact ⟨false, rfl, iteF (q1.here M1 rfl)⟩
  · exact q1.elim
theorem den_or {rest : List Expr} (ha : PE X a (denE X.K xa W fa)) (hb : PE X (.BoolOp .Or (b :: rest) pos) (denE X.K xa W fb)) :
    PE X (.BoolOp .Or (a :: b :: rest) pos) (denE X.K xa W fun ds st => (fa ds st).bind fun x st1 => match x with
    | .bl true => .ok (.bl true) st1
    | .bl false => fb ds st1
    | _ => .no) := by
  refine (pe_or ha hb).imp fun σ H Q h => ?_
  obtain ⟨ex, ρ, ds, st, M, S, q⟩ := h
  refine ⟨ex, ρ, ds, st, M, S, (PostV.bind q).imp fun v H1 ⟨x, st1, ρ1, e1, M1, r1, q1⟩ => ?_⟩
  split at q1
  · cases r1
    exact ⟨true, rfl, iteT (q1.here M1 rfl)⟩
  · cases r1
    exact ⟨false, rfl, iteF (⟨ex, ρ1, ds, st1, M1, S.ext e1, q1⟩)⟩
  · exact q1.elim
theorem den_not (ha : PE X a (denE X.K xa W fa)) : PE X (.UnaryOp .Not a pos) (denE X.K xa W fun ds st => (fa ds st).bind fun x st1 => match x with
    | .bl b => .ok (.bl (!b)) st1
    | _ => .no) := by
  refine (pe_not ha).imp fun σ H Q h => ?_
  obtain ⟨ex, ρ, ds, st, M, S, q⟩ := h
  refine ⟨ex, ρ, ds, st, M, S, (PostV.bind q).imp fun v H1 ⟨x, st1, ρ1, e1, M1, r1, q1⟩ => ?_⟩
  split at q1
  · cases r1
    exact ⟨_, rfl, q1.here M1 rfl⟩
  · exact q1.elim
theorem pt_den_and {rest : List Expr} (ha : PT X a (denT X.K xa W fa)) (hb : PW X (.BoolOp .And (b :: rest) pos) (denT X.K xa W fb)) :
    PW X (.BoolOp .And (a :: b :: rest) pos) (denT X.K xa W fun ds st => (fa ds st).bind fun x st1 => match x with
    | .bl true => fb ds st1
    | .bl false => .ok (.bl false) st1
    | _ => .no) := by
  refine (pw_and ha hb).imp fun σ H Q h => ?_
  obtain ⟨ex, ρ, ds, st, M, S, q⟩ := h
  refine ⟨ex, ρ, ds, st, M, S, (PostV.bind q).imp fun v H1 ⟨x, st1, ρ1, e1, M1, r1, q1⟩ => ?_⟩
  split at q1
  · cases r1
    exact ⟨true, rfl, iteT (⟨ex, ρ1, ds, st1, M1, S.ext e1, q1⟩)⟩
  · cases r1
    obtain ⟨c, e, q1⟩ := q1.here M1 rfl
    cases e
    exact ⟨false, rfl, iteF (q1)⟩
  · exact q1.elim
theorem pt_den_or {rest : List Expr} (ha : PT X a (denT X.K xa W fa)) (hb : PW X (.BoolOp .Or (b :: rest) pos) (denT X.K xa W fb)) :
    PW X (.BoolOp .Or (a :: b :: rest) pos) (denT X.K xa W fun ds st => (fa ds st).bind fun x st1 => match x with
    | .bl true => .ok (.bl true) st1
    | .bl false => fb ds st1
    | _ => .no) := by
  refine (pw_or ha hb).imp fun σ H Q h => ?_
  obtain ⟨ex, ρ, ds, st, M, S, q⟩ := h
  refine ⟨ex, ρ, ds, st, M, S, (PostV.bind q).imp fun v H1 ⟨x, st1, ρ1, e1, M1, r1, q1⟩ => ?_⟩
  split at q1
  · cases r1
    obtain ⟨c, e, q1⟩ := q1.here M1 rfl
    cases e
    exact ⟨true, rfl, iteT (q1)⟩
  · cases r1
    exact ⟨false, rfl, iteF (⟨ex, ρ1, ds, st1, M1, S.ext e1, q1⟩)⟩
  · exact q1.elim
theorem pt_den_not (ha : PT X a (denT X.K xa W fa)) : PT X (.UnaryOp .Not a pos) (denT X.K xa W fun ds st => (fa ds st).bind fun x st1 => match x with
    | .bl b => .ok (.bl (!b)) st1
    | _ => .no) := by
  refine (pt_not ha).imp fun σ H Q h => ?_
  obtain ⟨ex, ρ, ds, st, M, S, q⟩ := h
  refine ⟨ex, ρ, ds, st, M, S, (PostV.bind q).imp fun v H1 ⟨x, st1, ρ1, e1, M1, r1, q1⟩ => ?_⟩
  split at q1
  · cases r1
    obtain ⟨c, e, q1⟩ := q1.here M1 rfl
    cases e
    exact ⟨_, rfl, q1⟩
  · exact q1.elim
theorem den_ife (hc : PT X c (denT X.K xa W fc)) (ha : PE X a (denE X.K xa W fa)) (hb : PE X b (denE X.K xa W fb)) :
    PE X (.IfExp c a b pos) (denE X.K xa W fun ds st => (fc ds st).bind fun x st1 => match x with
    | .bl true => fa ds st1
    | .bl false => fb ds st1
    | _ => .no) := by
  refine (pe_ifExp hc ha hb).imp fun σ H Q h => ?_
  obtain ⟨ex, ρ, ds, st, M, S, q⟩ := h
  refine ⟨ex, ρ, ds, st, M, S, (PostV.bind q).imp fun v H1 ⟨x, st1, ρ1, e1, M1, r1, q1⟩ => ?_⟩
  split at q1
  · cases r1
    exact ⟨true, rfl, iteT (⟨ex, ρ1, ds, st1, M1, S.ext e1, q1⟩)⟩
  · cases r1
    exact ⟨false, rfl, iteF (⟨ex, ρ1, ds, st1, M1, S.ext e1, q1⟩)⟩
  · exact q1.elim
variable {es : List Expr} {fs : DS → Store → R (List D)}
theorem den_nil : PA X [] (denL X.K xa W fun _ st => .ok [] st) := pa_nil.imp fun σ H Q ⟨ex, ρ, ds, st, M, S, q⟩ => q [] H ρ (Ext.refl _ _) M rfl
theorem den_cons (ha : PE X a (denE X.K xa W fa)) (hr : PA X es (denL X.K xa W fs)) (hs : starEach (a :: es) X.env = (false, eval a X.env) :: starEach es X.env) :
    PA X (a :: es) (denL X.K xa W fun ds st => (fa ds st).bind fun x st1 => (fs ds st1).bind fun xs st2 => .ok (x :: xs) st2) := by
  refine (pa_cons ha hr hs).imp fun σ H Q h => ?_
  obtain ⟨ex, ρ, ds, st, M, S, q⟩ := h
  refine ⟨ex, ρ, ds, st, M, S, ?_⟩
  simp only at q
  cases e : fa ds st with
  | no => rw [e] at q; exact q
  | exc x s => rw [e] at q; exact q
  | ok x st1 =>
    rw [e] at q
    intro v H1 ρ1 e1 M1 r1
    refine ⟨ex, ρ1, ds, st1, M1, S.ext e1, ?_⟩
    simp only [R.bind] at q
    cases e2 : fs ds st1 with
    | no => rw [e2] at q; exact q
    | exc x s => rw [e2] at q; exact fun H' ρ' e' M' => q H' ρ' (e1.trans e') M'
    | ok xs st2 =>
      rw [e2] at q
      exact fun vs H2 ρ2 e3 M2 r2 => q (v :: vs) H2 ρ2 (e1.trans e3) M2 ⟨v, vs, rfl, r1.ext e3, r2⟩
end
end MP
end
section
set_option maxRecDepth 100000
set_option maxHeartbeats 4000000
namespace MP
open PySem PySem.Spec PyProof.Rows L2
section
variable {X : Cx} {xa : XA} {W : WX} {pos p1 p2 : Pos} {a b c : Expr} {fa fb fc : DS → Store → RE} {x : Str}
def plainArg (e : Expr) : Bool := match e with
  | .Starred _ _ => false
  | _ => true
theorem star_cons {e : Expr} (h : plainArg e = true) (es : List Expr) (env : Env) : starEach (e :: es) env = (false, eval e env) :: starEach es env := by
  cases e <;> first | rfl | simp [plainArg] at h
theorem back_any {p : Pos} : ∀ {es : List Expr} {env : Env}, es.all plainArg = true → (backTo p (starEach es env)).any (·.1) = false
  | [], _, _ => rfl
  | e :: es, env, h => by
    rw [List.all_cons, Bool.and_eq_true] at h
    rw [star_cons h.1]
    exact back_any (es := es) (env := env) h.2
theorem den_B1 {id : String} {r : List V → Hp → VK → Prop} {p : P} (hc : CallR X (.builtin id) r) (ok : P1 X.K p r) (hg : Gl X x) (hm : X.mg x = none) (hv : bootBuiltins x = some (.builtin id)) (hn : x ≠ "__name__") (hd : (x == ("__debug__" : Str)) = false)
    (pa : plainArg a = true) (ha : PE X a (denE X.K xa W fa)) : PE X (.Call (.Name x p1) [a] [] pos) (denE X.K xa W fun ds st => (fa ds st).bind fun v st1 => prim1F p v st1) := by
  refine (pe_callB hc hg hm hv (pa_cons ha pa_nil (star_cons pa _ _)) hn hd (star_cons pa _ _) rfl).imp fun σ H Q h => ?_
  exact den_one (g := fun v st1 => prim1F p v st1) h fun ex H2 ρ2 st2 y v M r q => ok M r q
theorem den_T1 {id : String} {r : List V → Hp → VK → Prop} {p : P} (hc : CallR X (.type id) r) (ok : P1 X.K p r) (hg : Gl X x) (hm : X.mg x = none) (hv : bootBuiltins x = some (.type id)) (hn : x ≠ "__name__") (hd : (x == ("__debug__" : Str)) = false)
    (pa : plainArg a = true) (ha : PE X a (denE X.K xa W fa)) : PE X (.Call (.Name x p1) [a] [] pos) (denE X.K xa W fun ds st => (fa ds st).bind fun v st1 => prim1F p v st1) := by
  refine (pe_callTy hc hg hm hv (pa_cons ha pa_nil (star_cons pa _ _)) hn hd (star_cons pa _ _) rfl).imp fun σ H Q h => ?_
  exact den_one (g := fun v st1 => prim1F p v st1) h fun ex H2 ρ2 st2 y v M r q => ok M r q
theorem den_B2 {id : String} {r : List V → Hp → VK → Prop} {p : P} (hc : CallR X (.builtin id) r) (ok : P2 X.K p r) (hg : Gl X x) (hm : X.mg x = none) (hv : bootBuiltins x = some (.builtin id)) (hn : x ≠ "__name__") (hd : (x == ("__debug__" : Str)) = false)
    (pa : plainArg a = true) (pb : plainArg b = true) (ha : PE X a (denE X.K xa W fa)) (hb : PE X b (denE X.K xa W fb)) :
    PE X (.Call (.Name x p1) [a, b] [] pos) (denE X.K xa W fun ds st => (fa ds st).bind fun v st1 => (fb ds st1).bind fun u st2 => prim2F p v u st2) := by
  refine (pe_callB hc hg hm hv (pa_cons ha (pa_cons hb pa_nil (star_cons pb _ _)) (star_cons pa _ _)) hn hd (star_cons pa _ _) (back_any (es := [b]) (by simp [pb]))).imp fun σ H Q h => ?_
  exact den_two (g := fun v u st2 => prim2F p v u st2) h fun ex H2 ρ2 st2 y z v u M r1 r2 q => ok M r1 r2 q
theorem den_three {σ : L2.St} {H : Hp} {Q : VK} {R : V → V → V → Hp → Prop} {g : D → D → D → Store → RE}
    (h : denE X.K xa W (fun ds st => (fa ds st).bind fun x st1 => (fb ds st1).bind fun y st2 => (fc ds st2).bind fun z st3 => g x y z st3) σ H Q)
    (k : ∀ ex H2 ρ2 st2 x y z v u q, Mem X.K ex H2 ρ2 st2 → Rep X.K ex H2 ρ2 x v → Rep X.K ex H2 ρ2 y u → Rep X.K ex H2 ρ2 z q → PostV X.K ex H2 ρ2 (g x y z st2) (xOf xa W σ) Q → R v u q H2) :
    denE X.K xa W fa σ H fun v H1 => denE X.K xa W fb σ H1 fun u H2 => denE X.K xa W fc σ H2 fun q H3 => R v u q H3 := by
  obtain ⟨ex, ρ, ds, st, M, S, q⟩ := h
  refine ⟨ex, ρ, ds, st, M, S, (PostV.bind q).imp fun v H1 ⟨x, st1, ρ1, e1, M1, r1, q1⟩ => ?_⟩
  refine ⟨ex, ρ1, ds, st1, M1, S.ext e1, (PostV.bind q1).imp fun u H2 ⟨y, st2, ρ2, e2, M2, r2, q2⟩ => ?_⟩
  refine ⟨ex, ρ2, ds, st2, M2, (S.ext e1).ext e2, (PostV.bind q2).imp fun u' H3 ⟨z, st3, ρ3, e3, M3, r3, q3⟩ => ?_⟩
  exact k ex H3 ρ3 st3 x y z v u u' M3 ((r1.ext e2).ext e3) (r2.ext e3) r3 q3
theorem den_B3 {id : String} {r : List V → Hp → VK → Prop} {p : P} (hc : CallR X (.builtin id) r) (ok : P3 X.K p r) (hg : Gl X x) (hm : X.mg x = none) (hv : bootBuiltins x = some (.builtin id)) (hn : x ≠ "__name__") (hd : (x == ("__debug__" : Str)) = false)
    (pa : plainArg a = true) (pb : plainArg b = true) (pc : plainArg c = true) (ha : PE X a (denE X.K xa W fa)) (hb : PE X b (denE X.K xa W fb)) (hcc : PE X c (denE X.K xa W fc)) :
    PE X (.Call (.Name x p1) [a, b, c] [] pos) (denE X.K xa W fun ds st => (fa ds st).bind fun v st1 => (fb ds st1).bind fun u st2 => (fc ds st2).bind fun y st3 => prim3F p v u y st3) := by
  refine (pe_callB hc hg hm hv (pa_cons ha (pa_cons hb (pa_cons hcc pa_nil (star_cons pc _ _)) (star_cons pb _ _)) (star_cons pa _ _)) hn hd (star_cons pa _ _) (back_any (es := [b, c]) (by simp [pb, pc]))).imp fun σ H Q h => ?_
  exact den_three (g := fun v u y st2 => prim3F p v u y st2) h fun ex H2 ρ2 st2 y z y2 v u q M r1 r2 r3 q' => ok M r1 r2 r3 q'
theorem den_isi {t : Ty} {y : Str} (hg : Gl X "isinstance") (hm : X.mg "isinstance" = none) (hg2 : Gl X y) (hm2 : X.mg y = none) (hv2 : bootBuiltins y = some (.type (tyName t))) (hn2 : y ≠ "__name__") (hd2 : (y == ("__debug__" : Str)) = false)
    (pa : plainArg a = true) (ha : PE X a (denE X.K xa W fa)) : PE X (.Call (.Name "isinstance" p1) [a, .Name y p2] [] pos) (denE X.K xa W fun ds st => (fa ds st).bind fun v st1 => prim1F (.isi t) v st1) := by
  refine (pe_callB call_isiM hg hm boot_isinstance (pa_cons ha (pa_cons (pe_bltn (v := .ty (tyName t)) hg2 hm2 hv2 rfl hn2 hd2) pa_nil rfl) (star_cons pa _ _)) (by decide) (by decide) (star_cons pa _ _) rfl).imp fun σ H Q h => ?_
  exact den_one (g := fun v st1 => prim1F (.isi t) v st1) h fun ex H2 ρ2 st2 y v M r q => ok_isi M r q
theorem den_lift {es : List Expr} {fs : DS → Store → R (List D)} {R : List V → Hp → Prop} {σ : L2.St} {H : Hp} {Q : VK} {g : List D → Store → RE} (h : denE X.K xa W (fun ds st => (fs ds st).bind fun xs st1 => g xs st1) σ H Q)
    (k : ∀ ex H2 ρ2 st2 xs vs, Mem X.K ex H2 ρ2 st2 → Reps X.K ex H2 ρ2 xs vs → PostV X.K ex H2 ρ2 (g xs st2) (xOf xa W σ) Q → R vs H2) : denL X.K xa W fs σ H R := by
  obtain ⟨ex, ρ, ds, st, M, S, q⟩ := h
  refine ⟨ex, ρ, ds, st, M, S, ?_⟩
  have q' := PostL.bind q
  cases e : fs ds st with
  | no => rw [e] at q'; exact q'
  | exc z s => rw [e] at q'; exact q'
  | ok xs s =>
    rw [e] at q'
    intro vs H1 ρ1 e1 M1 r1
    obtain ⟨ys, st2, ρ2, e2, M2, r2, q2⟩ := q' vs H1 ρ1 e1 M1 r1
    exact k ex H1 ρ2 st2 ys vs M2 r2 q2
theorem den_tup {es : List Expr} {fs : DS → Store → R (List D)} {k : Nat} (h : PA X es (denL X.K xa W fs)) : PE X (.Tuple es k pos) (denE X.K xa W fun ds st => (fs ds st).bind fun xs st1 => primF .tup xs st1) := by
  refine (pe_tup h).imp fun σ H Q h => ?_
  refine den_lift (es := es) (g := fun xs st1 => primF .tup xs st1) h fun ex H2 ρ2 st2 xs vs M r q => ?_
  simp only [primF] at q
  split at q
  · rename_i hl
    refine ⟨by rw [← r.length]; exact Nat.le_trans hl (by decide), fun p hp => ?_⟩
    have e : Ext ρ2 H2 ρ2 (upd H2 p (.tup vs)) := Ext.laid hp
    exact q (.ref p) _ ρ2 e (M.laid hp) ⟨p, vs, rfl, .inl upd_same, r.ext e⟩
  · exact q.elim
theorem den_lst {m : Bool} {es : List Expr} {fs : DS → Store → R (List D)} (h : PA X es (denL X.K xa W fs)) : PE X (.List es pos) (denE X.K xa W fun ds st => (fs ds st).bind fun xs st1 => primF (.lst m) xs st1) := by
  refine (pe_lst h).imp fun σ H Q h => ?_
  refine den_lift (es := es) (g := fun xs st1 => primF (.lst m) xs st1) h fun ex H2 ρ2 st2 xs vs M r q => ?_
  simp only [primF] at q
  split at q
  · rename_i hl
    exact ⟨by rw [← r.length]; exact Nat.le_trans hl (by decide), fun p hp => q.newL M r p hp⟩
  · exact q.elim
theorem den_dnew : PE X (.Dict [] [] pos) (denE X.K xa W fun _ st => mkD true [] st) := by
  refine pe_dnewT.imp fun σ H Q ⟨ex, ρ, ds, st, M, S, q⟩ p hp => ?_
  have r0 : RepE X.K ex H ρ [] [] := by unfold RepE; rfl
  exact q.newD M r0 p hp
theorem base_of {o : Expr} {m : Str} (h : match o with | .Call _ as _ _ => !as.isEmpty | _ => true) (env : Env) (w : Sem Value) : attributeBase o m env w = w := by
  cases o with
  | Call f as ks p =>
    cases as with
    | nil => simp at h
    | cons x as => unfold attributeBase; split <;> first | rfl | (rename_i e; cases e)
  | _ => rfl
theorem okRecv_lst {K : PySem.W.Frag} {ex : Addr → Prop} {H : Hp} {ρ : List Addr} {st : Store} {d : D} {v : V} (M : Mem K ex H ρ st) (r : Rep K ex H ρ d v) (h : (lstOf st d).isSome = true) : tyV K "list" v H := by
  obtain ⟨xs, hx⟩ := Option.isSome_iff_exists.mp h
  obtain ⟨a, vs, rfl, hs, _⟩ := rep_lst M r hx
  exact .inl ⟨rfl, vs, hs⟩
theorem den_mth1 {T : String} {name : Str} {id : String} {apos : Pos} {r : V → List V → Hp → VK → Prop} {p : P} (pa : PlainAttrs T) (slot : Slot T name id) (hty : typeOf (.builtin id) = pure (.type "method_descriptor")) (hm : MtR X id r)
    (ok1 : ∀ {ex H ρ st d v}, Mem X.K ex H ρ st → Rep X.K ex H ρ d v → okRecv p d st = true → tyV X.K T v H)
    (ok2 : ∀ {ex H ρ st d v e u Q Xe}, Mem X.K ex H ρ st → Rep X.K ex H ρ d v → Rep X.K ex H ρ e u → PostV X.K ex H ρ (prim2F p d e st) Xe Q → r v [u] H Q)
    (hb : ∀ w, attributeBase a name X.env w = w) (pb : plainArg b = true) (hl : (apos.endLine == pos.line) = true)
    (ha : PE X a (denE X.K xa W fa)) (hbb : PE X b (denE X.K xa W fb)) :
    PE X (.Call (.Attribute a name apos) [b] [] pos) (denE X.K xa W fun ds st => (fa ds st).bind fun v st1 => if okRecv p v st1 then (fb ds st1).bind fun u st2 => prim2F p v u st2 else .no) := by
  refine (pe_bm pa slot hty hm ha (pa_cons hbb pa_nil (star_cons pb _ _)) (hb _) (by rw [star_cons pb]; rfl) hl (star_cons pb _ _)).imp fun σ H Q h => ?_
  obtain ⟨ex, ρ, ds, st, M, S, q⟩ := h
  refine ⟨ex, ρ, ds, st, M, S, (PostV.bind q).imp fun v H1 ⟨y, st1, ρ1, e1, M1, r1, q1⟩ => ?_⟩
  split at q1
  · rename_i hk
    refine ⟨ok1 M1 r1 hk, ?_⟩
    exact ⟨ex, ρ1, ds, st1, M1, S.ext e1, (PostV.bind q1).imp fun u H2 ⟨z, st2, ρ2, e2, M2, r2, q2⟩ => ok2 M2 (r1.ext e2) r2 q2⟩
  · exact q1.elim
theorem den_mth0 {T : String} {name : Str} {id : String} {apos : Pos} {r : V → List V → Hp → VK → Prop} {p : P} (pa : PlainAttrs T) (slot : Slot T name id) (hty : typeOf (.builtin id) = pure (.type "method_descriptor")) (hm : MtR X id r)
    (ok1 : ∀ {ex H ρ st d v}, Mem X.K ex H ρ st → Rep X.K ex H ρ d v → okRecv p d st = true → tyV X.K T v H)
    (ok2 : ∀ {ex H ρ st d v Q Xe}, Mem X.K ex H ρ st → Rep X.K ex H ρ d v → PostV X.K ex H ρ (prim1F p d st) Xe Q → r v [] H Q)
    (hb : ∀ w, attributeBase a name X.env w = w) (hl : (apos.endLine == pos.line) = true)
    (ha : PE X a (denE X.K xa W fa)) :
    PE X (.Call (.Attribute a name apos) [] [] pos) (denE X.K xa W fun ds st => (fa ds st).bind fun v st1 => if okRecv p v st1 then prim1F p v st1 else .no) := by
  refine (pe_bm0 pa slot hty hm ha (hb _) hl).imp fun σ H Q h => ?_
  obtain ⟨ex, ρ, ds, st, M, S, q⟩ := h
  refine ⟨ex, ρ, ds, st, M, S, (PostV.bind q).imp fun v H1 ⟨y, st1, ρ1, e1, M1, r1, q1⟩ => ?_⟩
  split at q1
  · rename_i hk
    exact ⟨ok1 M1 r1 hk, ok2 M1 r1 q1⟩
  · exact q1.elim
theorem Reps.one {K : PySem.W.Frag} {ex : Addr → Prop} {H : Hp} {ρ : List Addr} {d : D} {v : V} (r : Rep K ex H ρ d v) : Reps K ex H ρ [d] [v] := ⟨v, [], rfl, r, rfl⟩
theorem ok_append {ex : Addr → Prop} {H : Hp} {ρ : List Addr} {st : Store} {d e : D} {v u : V} {Q : VK} {Xe : Ex → Hp → List Addr → Store → Prop} (M : Mem X.K ex H ρ st) (r1 : Rep X.K ex H ρ d v) (r2 : Rep X.K ex H ρ e u) (h : PostV X.K ex H ρ (prim2F .append d e st) Xe Q) : rAppend v [u] H Q := by
  unfold prim2F at h
  simp only at h
  split at h
  · rename_i n
    obtain ⟨a, ha, rfl⟩ := r1
    split at h
    · rename_i xs hs
      obtain ⟨b, vs, h1, h2, h3⟩ := M.lst hs
      rw [ha] at h1
      cases h1
      split at h
      · rename_i hl
        refine ⟨a, vs, u, rfl, rfl, h2, by rw [← h3.length, lim_eq]; exact hl, ?_⟩
        have e : Ext ρ H ρ (upd H a (.lst (vs ++ [u]))) := Ext.write ha (fun vs => by rw [h2]; simp) (fun ob u => by rw [h2]; simp)
        exact h .non _ ρ e (M.write ha e ⟨_, upd_same, (h3.append (Reps.one r2)).ext e⟩) rfl
      · exact h.elim
    · exact h.elim
  · exact h.elim
theorem ok_pop {ex : Addr → Prop} {H : Hp} {ρ : List Addr} {st : Store} {d : D} {v : V} {Q : VK} {Xe : Ex → Hp → List Addr → Store → Prop} (M : Mem X.K ex H ρ st) (r1 : Rep X.K ex H ρ d v) (h : PostV X.K ex H ρ (prim1F .pop d st) Xe Q) : rPop v [] H Q := by
  unfold prim1F at h
  simp only at h
  split at h
  · rename_i n
    obtain ⟨a, ha, rfl⟩ := r1
    split at h
    · rename_i xs hs
      obtain ⟨b, vs, h1, h2, h3⟩ := M.lst hs
      rw [ha] at h1
      cases h1
      split at h
      · rename_i y hy
        obtain ⟨z, hz, rz⟩ := h3.get hy
        refine ⟨a, vs, z, rfl, rfl, h2, by rw [← h3.length]; exact hz, ?_⟩
        have e : Ext ρ H ρ (upd H a (.lst vs.dropLast)) := Ext.write ha (fun vs => by rw [h2]; simp) (fun ob u => by rw [h2]; simp)
        exact h z _ ρ e (M.write ha e ⟨_, upd_same, h3.dropLast.ext e⟩) (rz.ext e)
      · exact h.elim
    · exact h.elim
  · exact h.elim
theorem ok_clear {ex : Addr → Prop} {H : Hp} {ρ : List Addr} {st : Store} {d : D} {v : V} {Q : VK} {Xe : Ex → Hp → List Addr → Store → Prop} (M : Mem X.K ex H ρ st) (r1 : Rep X.K ex H ρ d v) (h : PostV X.K ex H ρ (prim1F .clear d st) Xe Q) : rClear v [] H Q := by
  unfold prim1F at h
  simp only at h
  split at h
  · rename_i n
    obtain ⟨a, ha, rfl⟩ := r1
    split at h
    · rename_i xs hs
      obtain ⟨b, vs, h1, h2, h3⟩ := M.lst hs
      rw [ha] at h1
      cases h1
      refine ⟨a, vs, rfl, rfl, h2, ?_⟩
      have e : Ext ρ H ρ (upd H a (.lst [])) := Ext.write ha (fun vs => by rw [h2]; simp) (fun ob u => by rw [h2]; simp)
      exact h .non _ ρ e (M.write ha e ⟨[], upd_same, rfl⟩) rfl
    · exact h.elim
  · exact h.elim
end
end MP
end
section
set_option maxRecDepth 100000
set_option maxHeartbeats 4000000
namespace MP
open PySem PySem.Spec PyProof.Rows L2
def spC (K : PySem.W.Frag) (xa : XA) (cl : Cl) (f np : Nat) : Sp := fun vs H Q E => vs.length = np ∧ CallOk K cl f vs H Q (fun e H' => ∀ cls dd, xa e cls dd H' → E cls dd H')
structure CallFacts (X : Cx) (xa : XA) (cl : Cl) (f np : Nat) (x : Str) : Prop where
  ex : ∃ (k : Nat) (a : Addr) (fd : FuncData) (ps : List Str), FnOk X.prog X.w X.K X.mg X.base (L2N.CX X.prog X.w) k a fd ps (spC X.K xa cl f np) ∧ Room k X.A ∧ X.mg x = some (.ref a) ∧ PySem.W.keepIn X.K (.ref a) = true ∧ Binds X.K fd ps []
theorem CallOk.imp {K : PySem.W.Frag} {cl : Cl} {f : Nat} {vs : List V} {H : Hp} {Q : VK} {X X' : Ex → Hp → Prop} (h : CallOk K cl f vs H Q X) (i : ∀ e H', X e H' → X' e H') : CallOk K cl f vs H Q X' := by
  obtain ⟨ex, ρ, st, args, M, r, q⟩ := h
  refine ⟨ex, ρ, st, args, M, r, ?_⟩
  cases e : cl f args st with
  | ok d s => rw [e] at q; exact q
  | exc z s => rw [e] at q; exact fun H' ρ' e1 M1 => i _ _ (q H' ρ' e1 M1)
  | no => rw [e] at q; exact q
section
variable {X : Cx} {xa : XA} {W : WX} {pos p1 p2 : Pos} {a b c : Expr} {fa fb fc : DS → Store → RE} {x : Str} {es : List Expr} {fs : DS → Store → R (List D)} {cl : Cl} {f np : Nat} {raw : Bool}
theorem den_call0 {g : Store → RE} (F : CallFacts X xa cl f np x) (tk : L2N.Takes X W) (hg : Gl X x) (hd : (x == ("__debug__" : Str)) = false) (h0 : np = 0)
    (hq : ∀ {ex : Addr → Prop} {H : Hp} {ρ : List Addr} {st : Store} {σ : L2.St} {Q : VK}, Mem X.K ex H ρ st → PostV X.K ex H ρ (g st) (xOf xa W σ) Q → CallOk X.K cl f [] H Q (fun e H' => ∀ cls dd, xa e cls dd H' → W cls dd σ H')) :
    PE X (.Call (.Name x p1) [] [] pos) (denE X.K xa W fun _ st => g st) := by
  obtain ⟨k, a, fd, ps, FF, hr, hm, hk, hb⟩ := F.ex
  refine ⟨fun pins s σ H Q I h => ?_⟩
  refine wpAny_Call_Name_kw (ld_glob I hg hm ?_ hd)
  obtain ⟨ex, ρ, ds, st, M, S, q⟩ := h
  exact PySem.W.callWith_K0 I.kIn hk (run_fnSD (E := WE W) (us := []) (dvs := []) FF hr hb .nil (L2N.passAt tk σ) I .nil ⟨by rw [h0]; rfl, hq M q⟩)
theorem den_callN {g : List D → Store → RE} (F : CallFacts X xa cl f np x) (tk : L2N.Takes X W) (hg : Gl X x) (hd : (x == ("__debug__" : Str)) = false) (hn : (a :: es).length = np) (pa : (a :: es).all plainArg = true)
    (ha : PA X (a :: es) (denL X.K xa W fs)) (hl : ∀ ds st xs st', fs ds st = .ok xs st' → xs.length = np)
    (hq : ∀ {ex : Addr → Prop} {H : Hp} {ρ : List Addr} {st : Store} {σ : L2.St} {Q : VK} {xs : List D} {vs : List V}, Mem X.K ex H ρ st → Reps X.K ex H ρ xs vs → PostV X.K ex H ρ (g xs st) (xOf xa W σ) Q → CallOk X.K cl f vs H Q (fun e H' => ∀ cls dd, xa e cls dd H' → W cls dd σ H')) :
    PE X (.Call (.Name x p1) (a :: es) [] pos) (denE X.K xa W fun ds st => (fs ds st).bind fun xs st1 => g xs st1) := by
  obtain ⟨k, ad, fd, ps, FF, hr, hm, hk, hb⟩ := F.ex
  rw [List.all_cons, Bool.and_eq_true] at pa
  refine (pe_callSD (E := WE W) (dvs := []) FF hr hg hm hk hb .nil (fun σ => L2N.passAt tk σ) ha hd (star_cons pa.1 _ _) (back_any pa.2)).imp fun σ H Q h => ?_
  obtain ⟨ex, ρ, ds, st, M, S, q⟩ := h
  refine ⟨ex, ρ, ds, st, M, S, ?_⟩
  have q' := PostL.bind q
  simp only at q
  cases e : fs ds st with
  | no => rw [e] at q'; exact q'
  | exc z s => rw [e] at q'; exact q'
  | ok xs s =>
    rw [e] at q q'
    intro vs H1 ρ1 e1 M1 r1
    rw [List.append_nil]
    refine ⟨by rw [← r1.length]; exact hl ds st xs s e, ?_⟩
    exact hq M1 r1 (PostV.step e1 (show PostV X.K ex H ρ (g xs s) _ Q from q))
def JOk (K : PySem.W.Frag) (ex : Addr → Prop) (J : It) (ρ : List Addr) (H : Hp) (xs : List D) : Prop :=
  ∀ ρ' H' (ex2 : Addr → Prop), Ext ρ H ρ' H' → (∀ a, H a ≠ none → ¬ ex a → ¬ ex2 a) → ∀ i, (∀ d, xs[i]? = some d → J.go i H' ∧ ∀ v H'', J.yld i H' v H'' → H'' = H' ∧ Rep K ex2 H' ρ' d v) ∧ (xs.length ≤ i → J.stop i H')
def SrcOk (X : Cx) (xa : XA) (W : WX) (tg iter : Expr) (k : SK) (fs : DS → Store → R (List D)) : Prop := ∃ wi : TI, PI X tg iter wi ∧
  (∀ {ex : Addr → Prop} {H : Hp} {ρ : List Addr} {st : Store} {σ : L2.St} {ds : DS} {xs : List D} {items : List D} {st1 : Store} {R : It → Hp → Prop}, Mem X.K ex H ρ st → Slots X.K ex H ρ σ ds → fs ds st = .ok xs st1 → srcF k xs st1 = some (none, items) →
    (∀ J H1 ρ1, Ext ρ H ρ1 H1 → Mem X.K ex H1 ρ1 st1 → JOk X.K ex J ρ1 H1 items → R J H1) → wi σ H R) ∧
  (∀ {ex : Addr → Prop} {H : Hp} {ρ : List Addr} {st : Store} {σ : L2.St} {ds : DS} {e : Ex} {st1 : Store} {R : It → Hp → Prop}, Mem X.K ex H ρ st → Slots X.K ex H ρ σ ds → fs ds st = .exc e st1 →
    PostL X.K ex H ρ (.exc e st1) (xOf xa W σ) (fun _ _ => False) → wi σ H R)
theorem range_at {lo : Int} {n i : Nat} {d : D} (h : ((List.range n).map fun (i : Nat) => D.int (lo + i))[i]? = some d) : i < n ∧ d = .int (lo + i) := by
  rw [List.getElem?_map] at h
  obtain ⟨j, hj, rfl⟩ := Option.map_eq_some_iff.mp h
  have := List.getElem?_eq_some_iff.mp hj
  obtain ⟨h1, h2⟩ := this
  rw [List.length_range] at h1
  rw [List.getElem_range] at h2
  subst h2
  exact ⟨h1, rfl⟩
theorem jok_range {K : PySem.W.Frag} {ex : Addr → Prop} {ρ : List Addr} {H : Hp} (lo : Int) (n : Nat) : JOk K ex (Itr lo n) ρ H ((List.range n).map fun (i : Nat) => D.int (lo + i)) := by
  intro ρ' H' ex2 e hx i
  refine ⟨fun d h => ?_, fun h => ?_⟩
  · obtain ⟨h1, rfl⟩ := range_at h
    refine ⟨h1, fun v H'' hy => ?_⟩
    obtain ⟨rfl, rfl⟩ := hy
    exact ⟨rfl, rfl⟩
  · rw [List.length_map, List.length_range] at h
    exact h
theorem SqL.ext {K : PySem.W.Frag} {H H' : Hp} {ρ ρ' : List Addr} {a : Addr} {vs : List V} (e : Ext ρ H ρ' H') (n : a ∉ ρ ∨ ∃ o, H a = some (.frz o (.lst vs))) (h : SqL K H a vs) : SqL K H' a vs := by
  rcases n with n | ⟨o, n⟩
  · rcases h with h | h
    · exact .inl (Rd.ext e h n)
    · exact .inr h
  · exact .inl (.inr ⟨o, e.frzs a o _ n⟩)
theorem _root_.L2.PI.or {X : Cx} {tg e : Expr} {w w' : TI} (h : PI X tg e w) (h' : PI X tg e w') : PI X tg e (fun σ H R => w σ H R ∨ w' σ H R) := ⟨fun pins s σ H R I q => q.elim (h.run pins s σ H R I) (h'.run pins s σ H R I)⟩
theorem jok_list {K : PySem.W.Frag} {ex : Addr → Prop} {ρ : List Addr} {H : Hp} {a : Addr} {xs : List D} {vs : List V} (h : ∀ ρ' H', Ext ρ H ρ' H' → SqL K H' a vs) (r : Reps K ex H ρ xs vs) : JOk K ex (Itl K a) ρ H xs := by
  intro ρ' H' ex2 e hx i
  have hr := h ρ' H' e
  have r' := r.ext2 e hx
  refine ⟨fun d hd => ?_, fun hi => ⟨vs, hr, by rw [← r'.length]; exact hi⟩⟩
  obtain ⟨v, hv, rv⟩ := r'.get hd
  refine ⟨⟨vs, v, hr, hv⟩, fun w H'' hy => ?_⟩
  obtain ⟨rfl, hy⟩ := hy
  have := hy vs hr
  rw [hv] at this
  cases this
  exact ⟨rfl, rv⟩
theorem jok_tup {K : PySem.W.Frag} {ex : Addr → Prop} {ρ : List Addr} {H : Hp} {a : Addr} {xs : List D} {vs : List V} (h : TupAt K H a vs) (r : Reps K ex H ρ xs vs) : JOk K ex (Itt K a) ρ H xs := by
  intro ρ' H' ex2 e hx i
  have hr := (h.ext e).sq
  have r' := r.ext2 e hx
  refine ⟨fun d hd => ?_, fun hi => ⟨vs, hr, by rw [← r'.length]; exact hi⟩⟩
  obtain ⟨v, hv, rv⟩ := r'.get hd
  refine ⟨⟨vs, v, hr, hv⟩, fun w H'' hy => ?_⟩
  obtain ⟨rfl, hy⟩ := hy
  have := hy vs hr
  rw [hv] at this
  cases this
  exact ⟨rfl, rv⟩
theorem jok_str {K : PySem.W.Frag} {ex : Addr → Prop} {ρ : List Addr} {H : Hp} {s : Tx} (ok : txOk s) : JOk K ex (Its (strOf s)) ρ H (s.map oneS) := by
  intro ρ' H' ex2 e hx i
  refine ⟨fun d hd => ?_, fun hi => ?_⟩
  · rw [List.getElem?_map] at hd
    obtain ⟨c, hc, rfl⟩ := Option.map_eq_some_iff.mp hd
    have hl := (List.getElem?_eq_some_iff.mp hc).1
    refine ⟨by show i < (strOf s).cps.size; rw [show (strOf s).cps.size = s.length from strOf_len s]; exact hl, fun w H'' hy => ?_⟩
    obtain ⟨rfl, c', hc', rfl⟩ := hy
    have e2 : (strOf s).cps[i]? = s[i]? := by
      show s.toArray[i]? = s[i]?
      simp
    rw [e2, hc] at hc'
    cases hc'
    exact ⟨rfl, rfl, fun x m => by rw [List.mem_singleton.mp m]; exact ok c (mem_of_get hc)⟩
  · rw [List.length_map] at hi
    show (strOf s).cps.size ≤ i
    rw [show (strOf s).cps.size = s.length from strOf_len s]
    exact hi
theorem keys_get {K : PySem.W.Frag} {ex : Addr → Prop} {ρ : List Addr} {H : Hp} : ∀ {es : List (Pl × D)} {kvs : List (List Key × V)} {i : Nat} {e : Pl × D}, RepE K ex H ρ es kvs → es[i]? = some e → ∃ v, kvs[i]? = some (kP e.1, v)
  | [], _, _, _, _, h => by simp at h
  | (p, d) :: es, _, 0, _, ⟨v, r, e1, h, t⟩, q => by cases q; subst e1; exact ⟨v, rfl⟩
  | (p, d) :: es, _, i + 1, _, ⟨v, r, e1, h, t⟩, q => by
    subst e1
    obtain ⟨w, hw⟩ := keys_get (i := i) t (by simpa using q)
    exact ⟨w, by simpa using hw⟩
theorem jok_keys {K : PySem.W.Frag} {ex : Addr → Prop} {ρ : List Addr} {H : Hp} {a : Addr} {o : Obj} {es : List (Pl × D)} {kvs : List (List Key × V)} (h : H a = some (.frz o (.dT kvs))) (r : RepE K ex H ρ es kvs) : JOk K ex (Itkt a o kvs) ρ H (es.map fun e => plD e.1) := by
  intro ρ' H' ex2 e hx i
  have hr := e.frzs a o _ h
  have r' := r.ext2 e hx
  refine ⟨fun d hd => ?_, fun hi => ⟨hr, by rw [← r'.length]; rw [List.length_map] at hi; exact hi⟩⟩
  rw [List.getElem?_map] at hd
  obtain ⟨en, hen, rfl⟩ := Option.map_eq_some_iff.mp hd
  obtain ⟨v, hv⟩ := keys_get r' hen
  refine ⟨⟨hr, (List.getElem?_eq_some_iff.mp hv).1⟩, fun w H'' hy => ?_⟩
  obtain ⟨rfl, k, u, q, hk, rfl, hq⟩ := hy
  rw [hv] at hk
  cases hk
  exact ⟨rfl, rep_plD hq⟩
def one (fe : DS → Store → RE) : DS → Store → R (List D) := fun ds st => (fe ds st).bind fun x st1 => .ok [x] st1
theorem one_ok {ds : DS} {st st1 : Store} {xs : List D} (h : one fa ds st = .ok xs st1) : ∃ d, fa ds st = .ok d st1 ∧ xs = [d] := by
  unfold one at h
  cases e : fa ds st with
  | ok d s => rw [e] at h; cases h; exact ⟨d, rfl, rfl⟩
  | exc _ _ => rw [e] at h; cases h
  | no => rw [e] at h; cases h
theorem one_exc {ds : DS} {st st1 : Store} {z : Ex} (h : one fa ds st = .exc z st1) : fa ds st = .exc z st1 := by
  unfold one at h
  cases e : fa ds st with
  | ok d s => rw [e] at h; cases h
  | exc _ _ => rw [e] at h; cases h; rfl
  | no => rw [e] at h; cases h
theorem src_rng1 {tg : Expr} (hg : Gl X "range") (hm : X.mg "range" = none) (pa : plainArg a = true) (ha : PE X a (denE X.K xa W fa)) : SrcOk X xa W tg (.Call (.Name "range" p1) [a] [] pos) .rng1 (one fa) := by
  refine ⟨_, pi_range1 hg hm (pa_cons ha pa_nil (star_cons pa _ _)) (star_cons pa _ _), ?_, ?_⟩
  · intro ex H ρ st σ ds xs items st1 R M S h hs q
    obtain ⟨d, e, rfl⟩ := one_ok h
    refine ⟨ex, ρ, ds, st, M, S, ?_⟩
    rw [e]
    intro v H1 ρ1 e1 M1 r1
    cases d with
    | int n =>
      cases r1
      simp only [srcF] at hs
      split at hs
      · rename_i hn
        cases hs
        refine ⟨n, rfl, hn.1, hn.2, q _ H1 ρ1 e1 M1 ?_⟩
        have := jok_range (K := X.K) (ex := ex) (ρ := ρ1) (H := H1) 0 n.toNat
        unfold rangeD
        rw [Int.sub_zero]
        exact this
      · cases hs
    | _ => simp [srcF] at hs
  · intro ex H ρ st σ ds e st1 R M S h q
    refine ⟨ex, ρ, ds, st, M, S, ?_⟩
    rw [one_exc h]
    exact q
def two (fe fg : DS → Store → RE) : DS → Store → R (List D) := fun ds st => (fe ds st).bind fun x st1 => (fg ds st1).bind fun y st2 => .ok [x, y] st2
theorem two_ok {ds : DS} {st st2 : Store} {xs : List D} (h : two fa fb ds st = .ok xs st2) : ∃ d e st1, fa ds st = .ok d st1 ∧ fb ds st1 = .ok e st2 ∧ xs = [d, e] := by
  unfold two at h
  cases e : fa ds st with
  | ok d s =>
    rw [e] at h
    simp only [R.bind] at h
    cases e2 : fb ds s with
    | ok y s2 => rw [e2] at h; cases h; exact ⟨d, y, s, rfl, e2, rfl⟩
    | exc _ _ => rw [e2] at h; cases h
    | no => rw [e2] at h; cases h
  | exc _ _ => rw [e] at h; cases h
  | no => rw [e] at h; cases h
theorem two_exc {ds : DS} {st st2 : Store} {z : Ex} (h : two fa fb ds st = .exc z st2) : fa ds st = .exc z st2 ∨ ∃ d st1, fa ds st = .ok d st1 ∧ fb ds st1 = .exc z st2 := by
  unfold two at h
  cases e : fa ds st with
  | ok d s =>
    rw [e] at h
    simp only [R.bind] at h
    cases e2 : fb ds s with
    | ok y s2 => rw [e2] at h; cases h
    | exc _ _ => rw [e2] at h; cases h; exact .inr ⟨d, s, rfl, e2⟩
    | no => rw [e2] at h; cases h
  | exc _ _ => rw [e] at h; cases h; exact .inl rfl
  | no => rw [e] at h; cases h
theorem src_rng2 {tg : Expr} (hg : Gl X "range") (hm : X.mg "range" = none) (pa : plainArg a = true) (pb : plainArg b = true) (ha : PE X a (denE X.K xa W fa)) (hb : PE X b (denE X.K xa W fb)) :
    SrcOk X xa W tg (.Call (.Name "range" p1) [a, b] [] pos) .rng2 (two fa fb) := by
  refine ⟨_, pi_range2 hg hm (pa_cons ha (pa_cons hb pa_nil (star_cons pb _ _)) (star_cons pa _ _)) (by rw [star_cons pa, star_cons pb]; rfl) (by rw [star_cons pb]; rfl), ?_, ?_⟩
  · intro ex H ρ st σ ds xs items st1 R M S h hs q
    obtain ⟨x, y, s, e, e2, rfl⟩ := two_ok h
    refine ⟨ex, ρ, ds, st, M, S, ?_⟩
    rw [e]
    intro v H1 ρ1 e1 M1 r1
    refine ⟨ex, ρ1, ds, s, M1, S.ext e1, ?_⟩
    rw [e2]
    intro u H2 ρ2 e3 M2 r2
    cases x with
    | int i =>
      cases y with
      | int j =>
        cases r1
        cases r2
        simp only [srcF] at hs
        split at hs
        · rename_i hn
          cases hs
          exact ⟨i, j, rfl, ⟨hn.1.1, hn.1.2, hn.2.1, hn.2.2⟩, q _ H2 ρ2 (e1.trans e3) M2 (jok_range i (j - i).toNat)⟩
        · cases hs
      | _ => simp [srcF] at hs
    | _ => simp [srcF] at hs
  · intro ex H ρ st σ ds z st1 R M S h q
    refine ⟨ex, ρ, ds, st, M, S, ?_⟩
    rcases two_exc h with e | ⟨x, s, e, e2⟩
    · rw [e]; exact q
    · rw [e]
      intro v H1 ρ1 e1 M1 r1
      refine ⟨ex, ρ1, ds, s, M1, S.ext e1, ?_⟩
      rw [e2]
      exact fun H' ρ' e' M' => q H' ρ' (e1.trans e') M'
theorem range_sz (a b : Int) (c : Nat) (hc : 0 < c) : Builtin.Range.rangeSize a b c = ((if a < b then ((b - a - 1) / c + 1).toNat else 0 : Nat) : Int) := by
  have h : (0 : Int) < c := by omega
  unfold Builtin.Range.rangeSize
  simp only [gt_iff_lt, h, if_true]
  split
  · have : 0 ≤ (b - a - 1) / (c : Int) := Int.ediv_nonneg (by omega) (by omega)
    omega
  · rfl
theorem jok_rangeC {K : PySem.W.Frag} {ex : Addr → Prop} {ρ : List Addr} {H : Hp} (lo c : Int) (n : Nat) : JOk K ex (Itc lo c n) ρ H ((List.range n).map fun (i : Nat) => D.int (lo + i * c)) := by
  intro ρ' H' ex2 e hx i
  refine ⟨fun d h => ?_, fun h => ?_⟩
  · rw [List.getElem?_map] at h
    obtain ⟨j, hj, rfl⟩ := Option.map_eq_some_iff.mp h
    obtain ⟨h1, h2⟩ := List.getElem?_eq_some_iff.mp hj
    rw [List.getElem_range] at h2
    subst h2
    refine ⟨(by simpa using h1 : i < n), fun v H'' hy => ?_⟩
    obtain ⟨rfl, rfl⟩ := hy
    exact ⟨rfl, rfl⟩
  · rw [List.length_map, List.length_range] at h
    exact h
theorem src_rngc {tg : Expr} {c : Nat} {i : Int} {k : Nat} {p2 : Pos} (hi : i = (c : Int)) (hg : Gl X "range") (hm : X.mg "range" = none) (pa : plainArg a = true) (pb : plainArg b = true) (ha : PE X a (denE X.K xa W fa)) (hb : PE X b (denE X.K xa W fb)) :
    SrcOk X xa W tg (.Call (.Name "range" p1) [a, b, .Constant (.int i) k p2] [] pos) (.rngc c) (two fa fb) := by
  subst hi
  refine ⟨_, pi_range3 hg hm (pa_cons ha (pa_cons hb (pa_cons pe_int pa_nil (star_cons rfl _ _)) (star_cons pb _ _)) (star_cons pa _ _)) (by rw [star_cons pa, star_cons pb]) (by rw [star_cons pb, star_cons rfl]; rfl), ?_, ?_⟩
  · intro ex H ρ st σ ds xs items st1 R M S h hs q
    obtain ⟨x, y, s, e, e2, rfl⟩ := two_ok h
    refine ⟨ex, ρ, ds, st, M, S, ?_⟩
    rw [e]
    intro v H1 ρ1 e1 M1 r1
    refine ⟨ex, ρ1, ds, s, M1, S.ext e1, ?_⟩
    rw [e2]
    intro u H2 ρ2 e3 M2 r2
    cases x with
    | int i =>
      cases y with
      | int j =>
        cases r1
        cases r2
        simp only [srcF] at hs
        split at hs
        · rename_i hn
          obtain ⟨⟨⟨n1, n2⟩, n3, n4⟩, n5, n6⟩ := hn
          cases hs
          refine ⟨i, j, c, _, rfl, ⟨by omega, by omega, ?_, range_sz i j c n5⟩, q _ H2 ρ2 (e1.trans e3) M2 (jok_rangeC i c _)⟩
          have hc : (0 : Int) < c := by omega
          have hsz := range_sz i j c n5
          have hle : Builtin.Range.rangeSize i j c ≤ 2 ^ 63 - 1 := by
            unfold Builtin.Range.rangeSize
            simp only [gt_iff_lt, hc, if_true]
            split
            · have : (j - i - 1) / (c : Int) ≤ j - i - 1 := Int.ediv_le_self _ (by omega)
              omega
            · omega
          have hge : 0 ≤ Builtin.Range.rangeSize i j c := by rw [hsz]; exact Int.natCast_nonneg _
          simp only [Builtin.Range.small, Builtin.Range.rangeFitsLong, Bool.and_eq_true, Bool.or_eq_true, decide_eq_true_eq, beq_iff_eq, gt_iff_lt, hc, if_true]
          generalize Builtin.Range.rangeSize i j c = z at hle hge
          omega
        · cases hs
      | _ => simp [srcF] at hs
    | _ => simp [srcF] at hs
  · intro ex H ρ st σ ds z st1 R M S h q
    refine ⟨ex, ρ, ds, st, M, S, ?_⟩
    rcases two_exc h with e | ⟨x, s, e, e2⟩
    · rw [e]; exact q
    · rw [e]
      intro v H1 ρ1 e1 M1 r1
      refine ⟨ex, ρ1, ds, s, M1, S.ext e1, ?_⟩
      rw [e2]
      exact fun H' ρ' e' M' => q H' ρ' (e1.trans e') M'
def iM (K : PySem.W.Frag) (te : TE) : TI := fun σ H R => iList K te σ H R ∨ iTup K te σ H R ∨ iStr te σ H R ∨ iKeys te σ H R
theorem pi_M {tg : Expr} {te : TE} (ha : PE X a te) : PI X tg a (iM X.K te) := PI.or (pi_list ha) (PI.or (pi_tup ha) (PI.or (pi_str ha) (pi_keys ha)))
theorem walk_it {ex : Addr → Prop} {H : Hp} {ρ : List Addr} {st st1 : Store} {σ : L2.St} {ds : DS} {d : D} {items : List D} {R : It → Hp → Prop} (M : Mem X.K ex H ρ st) (S : Slots X.K ex H ρ σ ds) (e : fa ds st = .ok d st1) (hs : srcF .it [d] st1 = some (none, items))
    (q : ∀ J H1 ρ1, Ext ρ H ρ1 H1 → Mem X.K ex H1 ρ1 st1 → JOk X.K ex J ρ1 H1 items → R J H1) : iM X.K (denE X.K xa W fa) σ H R := by
  cases d with
  | lst xs =>
    cases hs
    refine .inl ⟨ex, ρ, ds, st, M, S, ?_⟩
    rw [e]
    intro v H1 ρ1 e1 M1 ⟨p, vs, hv, t, n, x, rs⟩
    exact ⟨p, hv, ⟨vs, .inl t⟩, q _ H1 ρ1 e1 M1 (jok_list (fun ρ' H' e' => .inl (Rd.ext e' t n)) rs)⟩
  | scr ns =>
    cases hs
    refine .inl ⟨ex, ρ, ds, st, M, S, ?_⟩
    rw [e]
    intro v H1 ρ1 e1 M1 ⟨p, hv, r⟩
    rcases r with ⟨t, n, x⟩ | t
    · exact ⟨p, hv, ⟨_, .inl t⟩, q _ H1 ρ1 e1 M1 (jok_list (fun ρ' H' e' => .inl (Rd.ext e' t n)) (Reps.ints ns))⟩
    · exact ⟨p, hv, ⟨_, .inr t⟩, q _ H1 ρ1 e1 M1 (jok_list (fun ρ' H' e' => .inr t) (Reps.ints ns))⟩
  | tup xs =>
    cases hs
    refine .inr (.inl ⟨ex, ρ, ds, st, M, S, ?_⟩)
    rw [e]
    intro v H1 ρ1 e1 M1 ⟨p, vs, hv, t, rs⟩
    exact ⟨p, hv, ⟨vs, t.sq⟩, q _ H1 ρ1 e1 M1 (jok_tup t rs)⟩
  | str s =>
    cases hs
    refine .inr (.inr (.inl ⟨ex, ρ, ds, st, M, S, ?_⟩))
    rw [e]
    intro v H1 ρ1 e1 M1 ⟨hv, ok⟩
    exact ⟨_, hv, q _ H1 ρ1 e1 M1 (jok_str ok)⟩
  | _ => simp [srcF] at hs
theorem src_it {tg : Expr} (ha : PE X a (denE X.K xa W fa)) : SrcOk X xa W tg a .it (one fa) := by
  refine ⟨_, pi_M ha, ?_, ?_⟩
  · intro ex H ρ st σ ds xs items st1 R M S h hs q
    obtain ⟨d, e, rfl⟩ := one_ok h
    exact walk_it M S e hs q
  · intro ex H ρ st σ ds e st1 R M S h q
    refine .inl ⟨ex, ρ, ds, st, M, S, ?_⟩
    rw [one_exc h]
    exact q
end
end MP
end
section
set_option maxRecDepth 100000
set_option maxHeartbeats 4000000
namespace MP
open PySem PySem.Spec PyProof.Rows L2
def dictB : List (Tx × Int) → List (Option Expr) → List Expr → Bool
  | [], [], [] => true
  | (s, i) :: r, some (.Constant (.str t) _ _) :: ks, .Constant (.int j) _ _ :: vs => decide (s = t.cps.toList) && decide (i = j) && dictB r ks vs
  | _, _, _ => false
def kvsOfK (ks : List (Tx × Int)) : List (Key × V) := ks.map fun p => (Sum.inr (strOf p.1), V.int p.2)
theorem pps_dict {X : Cx} {pos : Pos} : ∀ {ks : List (Tx × Int)} {keys : List (Option Expr)} {values : List Expr}, dictB ks keys values = true →
    ∃ trs, PPs X pos keys values trs ∧ keys.all (·.isSome) = true ∧ keys.length = values.length ∧ keys.length = ks.length ∧ ∀ σ H Q, Q ((kvsOfK ks).map fun kv => (kV kv.1, kv.2)) H → tPairs trs σ H Q
  | [], keys, values, h => by
    unfold dictB at h
    split at h
    · exact ⟨[], pps_nil, rfl, rfl, rfl, fun σ H Q q => q⟩
    · rename_i h1
      cases h1
    · cases h
  | (s, i) :: ks, keys, values, h => by
    unfold dictB at h
    split at h
    · rename_i h1
      cases h1
    · rename_i s' i' r t a b ks' j c d vs' h1
      cases h1
      simp only [Bool.and_eq_true, decide_eq_true_eq] at h
      obtain ⟨⟨rfl, rfl⟩, h⟩ := h
      obtain ⟨trs, h1, h2, h3, h4, h5⟩ := pps_dict (X := X) (pos := pos) h
      refine ⟨_, pps_cons pe_str pe_int h1, by simpa using h2, by simp [h3], by simp [h4], fun σ H Q q => ?_⟩
      show tPairs _ σ H _
      refine h5 σ H _ ?_
      have e : strOf t.cps.toList = t := by show (⟨t.cps.toList.toArray⟩ : Str) = t; rw [Array.toArray_toList]
      simp only [kvsOfK, List.map_cons, e] at q
      exact q
    · cases h
theorem val_merge (ks : List (Tx × Int)) (s : Tx) : ∀ acc : List (Key × V), valV (mergeK acc (kvsOfK ks)) (Sum.inr (strOf s)) = ks.foldl (fun o p => if p.1 = s then some (V.int p.2) else o) (valV acc (Sum.inr (strOf s))) := by
  induction ks with
  | nil => intro acc; rfl
  | cons p ks ih =>
    intro acc
    show valV (mergeK (putK acc (Sum.inr (strOf p.1)) (V.int p.2)) (kvsOfK ks)) _ = _
    rw [ih, List.foldl_cons, valV_put]
    congr 1
    by_cases h : p.1 = s
    · subst h; simp
    · have h2 : ¬ ((Sum.inr (strOf s) : Key) = Sum.inr (strOf p.1)) := by
        intro e
        injection e with e
        have := congrArg (fun x : Str => x.cps.toList) e
        exact h (by simpa [strOf] using this.symm)
      rw [if_neg h2, if_neg h]
theorem fold_look (ks : List (Tx × Int)) (s : Tx) : ∀ o : Option Int, ks.foldl (fun o p => if p.1 = s then some (V.int p.2) else o) (o.map V.int) = (ks.foldl (fun o p => if p.1 = s then some p.2 else o) o).map V.int := by
  induction ks with
  | nil => intro o; rfl
  | cons p ks ih =>
    intro o
    rw [List.foldl_cons, List.foldl_cons, ← ih]
    congr 1
    split <;> rfl
theorem den_kix {X : Cx} {xa : XA} {W : WX} {pos p1 : Pos} {e : Expr} {fe : DS → Store → RE} {ks : List (Tx × Int)} {keys : List (Option Expr)} {values : List Expr} (hu : X.A.units + 65 < cLine) (hd : dictB ks keys values = true) (h0 : ks ≠ []) (h15 : ks.length ≤ 15) (hs : NoSl e)
    (he : PE X e (denE X.K xa W fe)) : PE X (.Subscript (.Dict keys values p1) e pos) (denE X.K xa W fun ds st => (fe ds st).bind fun x st1 => prim1F (.kix ks) x st1) := by
  obtain ⟨trs, h1, h2, h3, h4, h5⟩ := pps_dict (X := X) (pos := p1) hd
  have hk : keys ≠ [] := by intro z; rw [z] at h4; exact h0 (List.length_eq_zero_iff.mp h4.symm)
  refine (pe_dget (by omega) (pe_disp h1 h2 h3 hk (by omega)) he hs).imp fun σ H Q h => ?_
  obtain ⟨ex, ρ, ds, st, M, S, q⟩ := h
  intro p hp
  refine h5 σ _ _ ⟨upd_same, kvsOfK ks, rfl, by unfold kvsOfK; rw [List.length_map]; omega, ?_⟩
  rw [upd_upd]
  have ee : Ext ρ H ρ (upd H p (.dK (mergeK [] (kvsOfK ks)))) := Ext.laid hp
  have hpr : p ∉ ρ := (M.fresh hp).1
  refine ⟨ex, ρ, ds, st, M.laid hp, S.ext ee, (PostV.bind (PostV.step ee q)).imp fun v H2 ⟨x, st1, ρ1, e1, M1, r1, q1⟩ => ?_⟩
  have hrd : Rd H2 p (.dK (mergeK [] (kvsOfK ks))) := Rd.ext e1 (.inl upd_same) hpr
  unfold prim1F at q1
  simp only at q1
  split at q1
  · rename_i s
    obtain ⟨rfl, _⟩ := r1
    have hv := val_merge ks s []
    rw [show valV ([] : List (Key × V)) (Sum.inr (strOf s)) = (none : Option Int).map V.int from rfl, fold_look] at hv
    cases hl : ks.foldl (fun o p => if p.1 = s then some p.2 else o) (none : Option Int) with
    | none => rw [hl] at q1; exact q1.elim
    | some i =>
      rw [hl] at q1 hv
      exact ⟨p, V.int i, rfl, .inl ⟨_, Sum.inr (strOf s), hrd, rfl, hv.symm⟩, q1.here M1 rfl⟩
  · exact q1.elim
end MP
end
section
set_option maxRecDepth 100000
set_option maxHeartbeats 4000000
namespace MP
open PySem PySem.Spec PyProof.Rows L2
section
variable {X : Cx} {xa : XA} {W : WX} {pos p1 p2 : Pos} {a b c : Expr} {fa fb fc : DS → Store → RE} {x : Str}
theorem den_mth2 {T : String} {name : Str} {id : String} {apos : Pos} {r : V → List V → Hp → VK → Prop} {p : P} (pa : PlainAttrs T) (slot : Slot T name id) (hty : typeOf (.builtin id) = pure (.type "method_descriptor")) (hm : MtR X id r)
    (ok1 : ∀ {ex H ρ st d v}, Mem X.K ex H ρ st → Rep X.K ex H ρ d v → okRecv p d st = true → tyV X.K T v H)
    (ok2 : ∀ {ex H ρ st d v e u f w Q Xe}, Mem X.K ex H ρ st → Rep X.K ex H ρ d v → Rep X.K ex H ρ e u → Rep X.K ex H ρ f w → PostV X.K ex H ρ (prim3F p d e f st) Xe Q → r v [u, w] H Q)
    (hb : ∀ w, attributeBase a name X.env w = w) (pb : plainArg b = true) (pc : plainArg c = true) (hl : (apos.endLine == pos.line) = true)
    (ha : PE X a (denE X.K xa W fa)) (hbb : PE X b (denE X.K xa W fb)) (hcc : PE X c (denE X.K xa W fc)) :
    PE X (.Call (.Attribute a name apos) [b, c] [] pos) (denE X.K xa W fun ds st => (fa ds st).bind fun v st1 => if okRecv p v st1 then (fb ds st1).bind fun u st2 => (fc ds st2).bind fun w st3 => prim3F p v u w st3 else .no) := by
  refine (pe_bm pa slot hty hm ha (pa_cons hbb (pa_cons hcc pa_nil (star_cons pc _ _)) (star_cons pb _ _)) (hb _) (by rw [star_cons pb, star_cons pc]; rfl) hl (star_cons pb _ _) (by rw [star_cons pc]; rfl)).imp fun σ H Q h => ?_
  obtain ⟨ex, ρ, ds, st, M, S, q⟩ := h
  refine ⟨ex, ρ, ds, st, M, S, (PostV.bind q).imp fun v H1 ⟨y, st1, ρ1, e1, M1, r1, q1⟩ => ?_⟩
  split at q1
  · rename_i hk
    refine ⟨ok1 M1 r1 hk, ?_⟩
    refine ⟨ex, ρ1, ds, st1, M1, S.ext e1, (PostV.bind q1).imp fun u H2 ⟨z, st2, ρ2, e2, M2, r2, q2⟩ => ?_⟩
    exact ⟨ex, ρ2, ds, st2, M2, (S.ext e1).ext e2, (PostV.bind q2).imp fun w H3 ⟨z', st3, ρ3, e3, M3, r3, q3⟩ => ok2 M3 ((r1.ext e2).ext e3) (r2.ext e3) r3 q3⟩
  · exact q1.elim
end
section
variable {K : PySem.W.Frag} {ex : Addr → Prop} {H : Hp} {ρ : List Addr} {st : Store} {Xe : Ex → Hp → List Addr → Store → Prop} {Q : VK}
def rInsertM : V → List V → Hp → VK → Prop := fun x vs H Q => ∃ (l : Addr) (xs : List V) (i : Int) (y : V), x = .ref l ∧ vs = [.int i, y] ∧ H l = some (.lst xs) ∧ xs.length < sizeLine ∧ 0 ≤ i ∧ i < 2 ^ 63 ∧
    Q .non (upd H l (.lst (xs.take i.toNat ++ [y] ++ xs.drop i.toNat)))
theorem ok_insert {d e f : D} {v u w : V} (M : Mem K ex H ρ st) (r1 : Rep K ex H ρ d v) (r2 : Rep K ex H ρ e u) (r3 : Rep K ex H ρ f w) (h : PostV K ex H ρ (prim3F .insert d e f st) Xe Q) : rInsertM v [u, w] H Q := by
  unfold prim3F at h
  simp only at h
  split at h
  · rename_i n i
    obtain ⟨a, ha, rfl⟩ := r1
    cases r2
    split at h
    · rename_i xs hs
      obtain ⟨b, vs, h1, h2, h3⟩ := M.lst hs
      rw [ha] at h1
      cases h1
      split at h
      · rename_i hl
        refine ⟨a, vs, i, w, rfl, rfl, h2, by rw [← h3.length, lim_eq]; exact hl.1, hl.2.1, hl.2.2, ?_⟩
        have e : Ext ρ H ρ (upd H a (.lst (vs.take i.toNat ++ [w] ++ vs.drop i.toNat))) := Ext.write ha (fun vs => by rw [h2]; simp) (fun ob u => by rw [h2]; simp)
        exact h .non _ ρ e (M.write ha e ⟨_, upd_same, (((h3.take _).append (Reps.one r3)).append (h3.drop _)).ext e⟩) rfl
      · exact h.elim
    · exact h.elim
  · exact h.elim
theorem okRecv_join {d : D} {v : V} (M : Mem K ex H ρ st) (r : Rep K ex H ρ d v) (h : okRecv .join d st = true) : ∃ s, d = .str s ∧ v = .str (strOf s) ∧ txOk s := by
  cases d with
  | str s => exact ⟨s, rfl, r.1, r.2⟩
  | _ => simp [okRecv] at h
theorem joinT_eq (s : Tx) : ∀ ts : List Tx, strOf (joinT s ts) = Txt.join (strOf s) (ts.map strOf)
  | ts => by
    rw [TL.join_eq]
    have e : ∀ ts : List Tx, joinT s ts = TL.joinL s ts := by
      intro ts
      induction ts with
      | nil => rfl
      | cons p r ih =>
        cases r with
        | nil => rfl
        | cons q r => rw [joinT, TL.joinL, ih, List.append_assoc]; intro z; cases z
    have := TL.tl_join (strOf s) (ts.map strOf)
    have e2 : (ts.map strOf).map TL.tl = ts := by rw [List.map_map]; exact (List.map_congr_left fun t _ => by show (strOf t).cps.toList = t; rfl).trans (List.map_id _)
    rw [e2, show TL.tl (strOf s) = s from rfl, ← e] at this
    show (⟨(joinT s ts).toArray⟩ : Str) = _
    rw [← this]
theorem txOk_join {s : Tx} (hs : txOk s) : ∀ {ts : List Tx}, (∀ t ∈ ts, txOk t) → txOk (joinT s ts)
  | [], _ => fun c m => by simp [joinT] at m
  | [t], h => h t (by simp)
  | t :: t' :: ts, h => fun c m => by
    simp only [joinT, List.mem_append] at m
    rcases m with (m | m) | m
    · exact h t (by simp) c m
    · exact hs c m
    · exact txOk_join hs (ts := t' :: ts) (fun u hu => h u (List.mem_cons_of_mem _ hu)) c m
def rJoinM (K : PySem.W.Frag) : V → List V → Hp → VK → Prop := fun x xs H Q => ∃ a p, ∃ ys : List Str, x = .str a ∧ xs = [.ref p] ∧ (SqL K H p (ys.map V.str) ∨ SqT K H p (ys.map V.str)) ∧
    (ys.map (·.length)).sum + ys.length * a.length ≤ 16777216 ∧ Q (.str (Txt.join a ys)) H
theorem ok_join {d e : D} {v u : V} (M : Mem K ex H ρ st) (r1 : Rep K ex H ρ d v) (r2 : Rep K ex H ρ e u) (h : PostV K ex H ρ (prim2F .join d e st) Xe Q) : rJoinM K v [u] H Q := by
  unfold prim2F at h
  simp only at h
  split at h
  · rename_i s
    obtain ⟨rfl, hs⟩ := r1
    split at h
    · rename_i xs hx
      split at h
      · rename_i ts ht
        split at h
        · rename_i hl
          obtain ⟨p, vs, rfl, hq, rs⟩ := rep_lst M r2 hx
          rw [txsOf_eq ht] at rs
          obtain ⟨rfl, ok⟩ := reps_txs rs
          refine ⟨_, p, ts.map strOf, rfl, rfl, .inl hq, ?_, ?_⟩
          · rw [List.map_map, List.length_map, strOf_len]
            have : (ts.map ((fun x : Str => x.length) ∘ strOf)) = ts.map List.length := List.map_congr_left fun t _ => strOf_len t
            rw [this]
            exact hl
          · rw [← joinT_eq]
            exact h.here M ⟨rfl, txOk_join hs ok⟩
        · exact h.elim
      · exact h.elim
    · exact h.elim
  · exact h.elim
def rFindM : V → List V → Hp → VK → Prop := fun x xs H Q => ∃ a b, x = .str a ∧ xs = [.str b] ∧ Q (.int (Txt.find a b)) H
theorem ok_find {d e : D} {v u : V} (M : Mem K ex H ρ st) (r1 : Rep K ex H ρ d v) (r2 : Rep K ex H ρ e u) (h : PostV K ex H ρ (prim2F .find d e st) Xe Q) : rFindM v [u] H Q := by
  unfold prim2F at h
  simp only at h
  split at h
  · rename_i s t
    obtain ⟨rfl, hs⟩ := r1
    obtain ⟨rfl, ht⟩ := r2
    refine ⟨_, _, rfl, rfl, ?_⟩
    have e : Txt.find (strOf s) (strOf t) = findT s t := by
      unfold Txt.find findT
      rw [strOf_len]
      rfl
    rw [e]
    exact h.here M rfl
  · exact h.elim
theorem okRecv_find {d : D} {v : V} (M : Mem K ex H ρ st) (r : Rep K ex H ρ d v) (h : okRecv .find d st = true) : ∃ s, d = .str s ∧ v = .str (strOf s) ∧ txOk s := by
  cases d with
  | str s => exact ⟨s, rfl, r.1, r.2⟩
  | _ => simp [okRecv] at h
theorem perm_eq : ∀ {l m : List Pl}, l.Perm m → l.Pairwise (fun a b => plLe a b = true) → m.Pairwise (fun a b => plLe a b = true) → l = m
  | [], m, p, _, _ => (List.nil_perm.mp p).symm
  | a :: l, [], p, _, _ => absurd p.length_eq (by simp)
  | a :: l, b :: m, p, hl, hm => by
    have hab : a = b := by
      rcases List.mem_cons.mp (p.mem_iff.mp (List.mem_cons_self (a := a) (l := l))) with e | e
      · exact e
      · rcases List.mem_cons.mp (p.symm.mem_iff.mp (List.mem_cons_self (a := b) (l := m))) with e2 | e2
        · exact e2.symm
        · have h1 := (List.pairwise_cons.mp hl).1 b e2
          have h2 := (List.pairwise_cons.mp hm).1 a e
          unfold plLe at h1 h2
          simp only [Bool.or_eq_true, Bool.and_eq_true, decide_eq_true_eq] at h1 h2
          exact Prod.ext (by omega) (by omega)
    subst hab
    rw [perm_eq p.cons_inv (List.pairwise_cons.mp hl).2 (List.pairwise_cons.mp hm).2]
theorem sortP_perm (ps : List Pl) : (sortP ps).Perm ps := List.mergeSort_perm ps plLe
theorem plLe_trans (a b c : Pl) (h1 : plLe a b = true) (h2 : plLe b c = true) : plLe a c = true := by
  unfold plLe at *
  simp only [Bool.or_eq_true, Bool.and_eq_true, decide_eq_true_eq] at *
  omega
theorem plLe_total (a b : Pl) : (plLe a b || plLe b a) = true := by
  unfold plLe
  simp only [Bool.or_eq_true, Bool.and_eq_true, decide_eq_true_eq]
  omega
theorem sortP_sorted (ps : List Pl) : (sortP ps).Pairwise fun a b => plLe a b = true := List.pairwise_mergeSort plLe_trans plLe_total ps
def pairAt (H : Hp) (v : V) : Int × Int := match v with
  | .ref a => match H a with
    | some (.tup [.int i, .int j]) => (i, j)
    | _ => (0, 0)
  | _ => (0, 0)
theorem reps_pls : ∀ {ps : List Pl} {vs : List V}, Reps K ex H ρ (ps.map plD) vs → (∀ x ∈ vs, ∃ t, x = V.ref t ∧ H t = some (.tup [.int (pairAt H x).1, .int (pairAt H x).2])) ∧ vs.map (pairAt H) = ps
  | [], _, h => by cases h; exact ⟨fun x m => by simp at m, rfl⟩
  | p :: ps, _, ⟨v, r, e, hv, hr⟩ => by
    subst e
    obtain ⟨b, rfl, hb⟩ := rep_pl hv (p := p) rfl
    have hb' : H b = some (.tup [.int p.1, .int p.2]) := hb
    have hp : pairAt H (.ref b) = p := by simp only [pairAt, hb']
    obtain ⟨h1, h2⟩ := reps_pls hr
    refine ⟨fun x m => ?_, by rw [List.map_cons, hp, h2]⟩
    rcases List.mem_cons.mp m with rfl | m
    · exact ⟨b, rfl, by rw [hp]; exact hb'⟩
    · exact h1 x m
theorem reps_of_pairs : ∀ {ys : List V}, (∀ x ∈ ys, ∃ t, x = V.ref t ∧ H t = some (.tup [.int (pairAt H x).1, .int (pairAt H x).2])) → Reps K ex H ρ ((ys.map (pairAt H)).map plD) ys
  | [], _ => rfl
  | y :: ys, h => by
    obtain ⟨t, rfl, ht⟩ := h y List.mem_cons_self
    exact ⟨_, _, rfl, rep_plD ht, reps_of_pairs fun x m => h x (List.mem_cons_of_mem _ m)⟩
theorem ok_sortedL (m : Bool) {ex : Addr → Prop} {H : Hp} {ρ : List Addr} {st : Store} {d : D} {v : V} {Xe : Ex → Hp → List Addr → Store → Prop} {Q : VK} (M : Mem K ex H ρ st) (r : Rep K ex H ρ d v) (hnd : dctOf st d = none) (h : PostV K ex H ρ (prim1F (.sorted m) d st) Xe Q) : rSortedPO K [v] H Q := by
  unfold prim1F at h
  simp only [hnd] at h
  split at h
  · rename_i xs hx
    split at h
    · rename_i ps hp
      obtain ⟨a, vs, rfl, hq, rs⟩ := rep_lst M r hx
      rw [plsOf_eq hp] at rs
      obtain ⟨h1, h2⟩ := reps_pls rs
      refine ⟨a, vs, pairAt H, rfl, hq, h1, fun ys p hs hb hn => ?_⟩
      have hy : ∀ x ∈ ys, ∃ t, x = V.ref t ∧ H t = some (.tup [.int (pairAt H x).1, .int (pairAt H x).2]) := fun x m => h1 x (hb.perm.mem_iff.mp m)
      have es : ys.map (pairAt H) = sortP ps := by
        refine perm_eq ?_ ?_ (sortP_sorted ps)
        · rw [← h2]
          exact (hb.perm.map _).trans (sortP_perm _).symm
        · rw [List.pairwise_map]
          refine hs.imp fun {x y} hxy => ?_
          have := SrtO.lexB_no.mp hxy
          unfold plLe
          simp only [Bool.or_eq_true, Bool.and_eq_true, decide_eq_true_eq]
          omega
      have rr : Reps K ex H ρ ((sortP ps).map plD) ys := by rw [← es]; exact reps_of_pairs hy
      exact h.newL M rr p hn
    · exact h.elim
  · exact h.elim
def rStrM : List V → Hp → VK → Prop := fun xs H Q => (∃ i : Int, xs = [.int i] ∧ i.natAbs.log2 < 1920 ∧ Q (.str (toString i)) H) ∨ (∃ a : Str, xs = [.str a] ∧ Q (.str a) H) ∨ (xs = [.non] ∧ Q (.str (Str.ofString "None")) H)
theorem call_str_noneM {X : Cx} : CallR X (.type "str") (fun xs H Q => xs = [.non] ∧ Q (.str (Str.ofString "None")) H) := by
  intro pins s σ H xs us Q I r h
  obtain ⟨rfl, q⟩ := h
  obtain ⟨u, rfl, t⟩ := vals1 r
  cases t
  exact PySem.P.str_of_none ⟨.str _, H, I.tok _, ⟨_, rfl⟩, q⟩
theorem call_strM {X : Cx} : CallR X (.type "str") rStrM := CallR.or call_str_int (CallR.or SkE.call_str_str call_str_noneM)
theorem ok_str1 : P1 K .str1 rStrM := by
  intro ex H ρ st d v Xe Q M r h
  unfold prim1F at h
  simp only at h
  split at h
  · rename_i i
    cases r
    split at h
    · rename_i hl
      refine .inl ⟨i, rfl, hl, h.here M ⟨?_, ?_⟩⟩
      · show V.str (Str.ofString (toString i)) = V.str ⟨(Str.ofString (toString i)).cps.toList.toArray⟩
        rw [Array.toArray_toList]
      · intro c hc
        have : c ∈ (Str.ofString (toString i)).cps := by simpa using hc
        rw [Str.ofString_eq_toList] at this
        simp only [List.mem_toArray, List.mem_map] at this
        obtain ⟨ch, _, rfl⟩ := this
        have := ch.valid
        have e : ch.toNat = ch.val.toNat := rfl
        rw [e]
        rcases this with h | ⟨_, h⟩
        · exact Nat.lt_trans h (by decide)
        · exact h
    · exact h.elim
  · rename_i s
    exact .inr (.inl ⟨_, by rw [r.1], h.here M ⟨rfl, r.2⟩⟩)
  · cases r
    exact .inr (.inr ⟨rfl, h.here M ⟨by show V.str (Str.ofString "None") = V.str ⟨#[78, 111, 110, 101]⟩; rfl, fun c hc => by simp at hc; omega⟩⟩)
  · exact h.elim
end
theorem den_dget {X : Cx} {xa : XA} {W : WX} {pos apos : Pos} {a b : Expr} {fa fb : DS → Store → RE} (hu : X.A.units + 65 < cLine) (hb : ∀ w, attributeBase a "get" X.env w = w) (pb : plainArg b = true) (hl : (apos.endLine == pos.line) = true)
    (ha : PE X a (denE X.K xa W fa)) (hbb : PE X b (denE X.K xa W fb)) :
    PE X (.Call (.Attribute a "get" apos) [b] [] pos) (denE X.K xa W fun ds st => (fa ds st).bind fun v st1 => if okRecv .dget v st1 then (fb ds st1).bind fun u st2 => prim2F .dget v u st2 else .no) := by
  refine (pe_dget1 (by omega) ha hbb ⟨hb _, by rw [star_cons pb]; rfl, hl, by rw [star_cons pb]; rfl⟩).imp fun σ H Q h => ?_
  obtain ⟨ex, ρ, ds, st, M, S, q⟩ := h
  refine ⟨ex, ρ, ds, st, M, S, (PostV.bind q).imp fun v H1 ⟨y, st1, ρ1, e1, M1, r1, q1⟩ => ?_⟩
  split at q1
  · rename_i hk
    obtain ⟨es, he⟩ := Option.isSome_iff_exists.mp (show (dctOf st1 y).isSome = true from hk)
    obtain ⟨ad, kvs, rfl, rd, _⟩ := rep_dct M1 r1 he
    refine ⟨ad, rfl, .inr ⟨kvs, rd⟩, ?_⟩
    refine ⟨ex, ρ1, ds, st1, M1, S.ext e1, (PostV.bind q1).imp fun u H2 ⟨z, st2, ρ2, e2, M2, r2, q2⟩ => ?_⟩
    unfold prim2F at q2
    simp only at q2
    split at q2
    · rename_i es2 p h1 h2
      obtain ⟨ad2, kvs2, e3, rd2, rs⟩ := rep_dct M2 (r1.ext e2) h1
      cases e3
      obtain ⟨bb, rfl, hbb⟩ := rep_pl r2 h2
      refine ⟨_, DGet.of rd2 hbb, ?_⟩
      rcases rs.val p with ⟨g1, g2⟩ | ⟨x, y2, g1, g2, r⟩
      · rw [g1] at q2
        rw [g2]
        exact q2.here M2 rfl
      · rw [g1] at q2
        rw [g2]
        exact q2.here M2 r
    · exact q2.elim
  · exact q1.elim
end MP
end
section
set_option maxRecDepth 100000
set_option maxHeartbeats 4000000
namespace MP
open PySem PySem.Spec PyProof.Rows L2
section
variable {K : PySem.W.Frag} {ex : Addr → Prop} {H : Hp} {ρ : List Addr}
theorem reps_rg (a b : Int) : Reps K ex H ρ (rangeD a b) (rgV a b) := by
  unfold rangeD rgV
  induction List.range (b - a).toNat with
  | nil => rfl
  | cons i r ih => exact ⟨_, _, rfl, rfl, ih⟩
theorem Reps.rev : ∀ {ds : List D} {vs : List V}, Reps K ex H ρ ds vs → Reps K ex H ρ ds.reverse vs.reverse
  | [], vs, h => by cases h; rfl
  | d :: ds, vs, h => by
    obtain ⟨v, r, e1, h1, t⟩ := h
    subst e1
    rw [List.reverse_cons, List.reverse_cons]
    exact (Reps.rev t).append ⟨v, [], rfl, h1, rfl⟩
theorem ok_lrng {m : Bool} {st : Store} {Xe : Ex → Hp → List Addr → Store → Prop} {Q : VK} {d e : D} {v u : V} (M : Mem K ex H ρ st) (r1 : Rep K ex H ρ d v) (r2 : Rep K ex H ρ e u) (h : PostV K ex H ρ (prim2F (.lrng m) d e st) Xe Q) :
    ∃ i j, v = .int i ∧ u = .int j ∧ RgOk i j ∧ ∀ q, H q = none → Q (.ref q) (upd H q (.lst (rgV i j))) := by
  unfold prim2F at h
  simp only at h
  split at h
  · rename_i i j
    cases r1
    cases r2
    split at h
    · rename_i hk
      obtain ⟨⟨⟨k1, k2⟩, k3, k4⟩, k5⟩ := hk
      exact ⟨i, j, rfl, rfl, ⟨k1, k2, k3, k4, k5⟩, fun p hp => h.newL M (reps_rg i j) p hp⟩
    · exact h.elim
  · exact h.elim
end
section
variable {X : Cx} {xa : XA} {W : WX} {pos p1 p2 p3 : Pos} {a b : Expr} {fa fb : DS → Store → RE} {m : Bool}
theorem den_lrng (hc : X.calm = true) (hg : Gl X "list") (hm : X.mg "list" = none) (hg2 : Gl X "range") (hm2 : X.mg "range" = none) (pa : plainArg a = true) (pb : plainArg b = true)
    (ha : PE X a (denE X.K xa W fa)) (hb : PE X b (denE X.K xa W fb)) :
    PE X (.Call (.Name "list" p1) [.Call (.Name "range" p2) [a, b] [] p3] [] pos) (denE X.K xa W fun ds st => (fa ds st).bind fun x st1 => (fb ds st1).bind fun y st2 => primF (.lrng m) [x, y] st2) := by
  refine (pe_listRg hc hg hm (prg_2 hg2 hm2 ha hb (star_cons pa _ _) (star_cons pb _ _) (by rw [star_cons pb]; rfl))).imp fun σ H Q h => ?_
  obtain ⟨ex, ρ, ds, st, M, S, q⟩ := h
  refine ⟨ex, ρ, ds, st, M, S, (PostV.bind q).imp fun v H1 ⟨x, st1, ρ1, e1, M1, r1, q1⟩ => ?_⟩
  refine ⟨ex, ρ1, ds, st1, M1, S.ext e1, (PostV.bind q1).imp fun u H2 ⟨y, st2, ρ2, e2, M2, r2, q2⟩ => ?_⟩
  exact ok_lrng M2 (r1.ext e2) r2 q2
theorem den_revs {k : Nat} (ha : PE X a (denE X.K xa W fa)) : PE X (.Subscript a (.Slice none none (some (.UnaryOp .USub (.Constant (.int 1) k p1) p2)) p3) pos) (denE X.K xa W fun ds st => (fa ds st).bind fun x st1 => prim1F (.revs m) x st1) := by
  refine (pe_revL ha).imp fun σ H Q h => ?_
  refine den_one (g := fun x st1 => prim1F (.revs m) x st1) h fun ex H2 ρ2 st2 x v M r q => ?_
  unfold prim1F at q
  simp only at q
  split at q
  · rename_i xs hx
    obtain ⟨p, vs, rfl, hq, rs⟩ := rep_lst M r hx
    exact ⟨p, vs, rfl, hq, fun p' hp' => q.newL M rs.rev p' hp'⟩
  · exact q.elim
end
end MP
end
section
set_option maxRecDepth 100000
set_option maxHeartbeats 4000000
namespace MP
open PySem PySem.Spec PyProof.Rows L2 PySem.W
def apart : Nat → List Nat → Bool
  | 0, xs => match xs with
    | [] => true
    | [_] => true
    | _ => false
  | k + 1, xs => match xs with
    | [] => true
    | [_] => true
    | _ => apart k ((xs.filter fun n => n % 2 == 0).map (· / 2)) && apart k ((xs.filter fun n => !(n % 2 == 0)).map (· / 2))
theorem nodup_parts {p : Nat → Bool} : ∀ {xs : List Nat}, (xs.filter p).Nodup → (xs.filter fun n => !p n).Nodup → xs.Nodup
  | [], _, _ => List.nodup_nil
  | x :: xs, h1, h2 => by
    rw [List.nodup_cons]
    cases hp : p x with
    | true =>
      rw [List.filter_cons_of_pos hp, List.nodup_cons] at h1
      rw [List.filter_cons_of_neg (by simp [hp])] at h2
      exact ⟨fun m => h1.1 (List.mem_filter.mpr ⟨m, hp⟩), nodup_parts h1.2 h2⟩
    | false =>
      rw [List.filter_cons_of_neg (by simp [hp])] at h1
      rw [List.filter_cons_of_pos (by simp [hp]), List.nodup_cons] at h2
      exact ⟨fun m => h2.1 (List.mem_filter.mpr ⟨m, by simp [hp]⟩), nodup_parts h1 h2.2⟩
theorem nodup_of_map {α β : Type} (f : α → β) {l : List α} (h : (l.map f).Nodup) : l.Nodup := by
  unfold List.Nodup at *
  rw [List.pairwise_map] at h
  exact h.imp fun hab e => hab (congrArg f e)
theorem apart_nodup : ∀ (k : Nat) (xs : List Nat), apart k xs = true → xs.Nodup
  | 0, [], _ => List.nodup_nil
  | 0, [_], _ => by simp
  | 0, _ :: _ :: _, h => by simp [apart] at h
  | k + 1, [], _ => List.nodup_nil
  | k + 1, [_], _ => by simp
  | k + 1, x :: y :: r, h => by
    unfold apart at h
    simp only [Bool.and_eq_true] at h
    exact nodup_parts (nodup_of_map _ (apart_nodup k _ h.1)) (nodup_of_map _ (apart_nodup k _ h.2))
theorem inj_of {α β : Type} {f : α → β} : ∀ {l : List α} {a b : α}, (l.map f).Nodup → a ∈ l → b ∈ l → f a = f b → a = b
  | x :: l, a, b, h, ha, hb, e => by
    rw [List.map_cons, List.nodup_cons] at h
    rcases List.mem_cons.mp ha with ea | ha'
    · rcases List.mem_cons.mp hb with eb | hb'
      · rw [ea, eb]
      · exact absurd (List.mem_map.mpr ⟨b, hb', by rw [← e, ea]⟩) h.1
    · rcases List.mem_cons.mp hb with eb | hb'
      · exact absurd (List.mem_map.mpr ⟨a, ha', by rw [e, eb]⟩) h.1
      · exact inj_of h.2 ha' hb' e
def hv (p : Nat × Nat) : Nat := (reduceHash (Builtin.Tuple.tupleHashOf [(p.1 : Int), (p.2 : Int)]) + 2 ^ 63).toNat
def smallKeys : List (Nat × Nat) := (List.range 104).flatMap fun r => (List.range 32).map fun c => (r, c)
theorem hashes_apart : apart 64 (smallKeys.map hv) = true := by decide +kernel
theorem hv_inj {a b : Nat × Nat} (ha : a.1 < 104 ∧ a.2 < 32) (hb : b.1 < 104 ∧ b.2 < 32) (h : hv a = hv b) : a = b := by
  have m : ∀ a : Nat × Nat, a.1 < 104 ∧ a.2 < 32 → a ∈ smallKeys := fun a ha => by
    unfold smallKeys
    rw [List.mem_flatMap]
    exact ⟨a.1, List.mem_range.mpr ha.1, List.mem_map.mpr ⟨a.2, List.mem_range.mpr ha.2, rfl⟩⟩
  exact inj_of (apart_nodup _ _ hashes_apart) (m a ha) (m b hb) h
theorem rawHash_small {n : Nat} (h : n < 104) : rawHash (n : Int) = n := by
  unfold rawHash
  have e : (((n : Int).natAbs : Nat) : Int) % ((2 ^ 61 - 1 : Nat) : Int) = n := by
    rw [Int.natAbs_natCast]
    exact Int.emod_eq_of_lt (by omega) (by omega)
  have e2 : ¬ ((n : Int) < 0) := by omega
  have e3 : ((n : Int) == -1) = false := by
    rw [beq_eq_false_iff_ne]; omega
  simp only [e, e2, if_false, e3, Bool.false_eq_true]
theorem hashInt_small {n : Nat} (h : n < 104) : hashInt (n : Int) = n := by
  unfold hashInt
  rw [rawHash_small h]
  have e3 : ((n : Int) == -1) = false := by
    rw [beq_eq_false_iff_ne]; omega
  simp [e3]
theorem keyHash_small {P : Program} {w : World} {p : Pl} (h : smallK p = true) : (tupleKind (mixKind P w)).hash (kP p) = reduceHash (Builtin.Tuple.tupleHashOf [((p.1.toNat : Nat) : Int), ((p.2.toNat : Nat) : Int)]) := by
  unfold smallK at h
  simp only [Bool.and_eq_true, decide_eq_true_eq] at h
  show reduceHash (Builtin.Tuple.tupleHashOf [hashInt p.1, hashInt p.2]) = _
  have e1 : p.1 = ((p.1.toNat : Nat) : Int) := by omega
  have e2 : p.2 = ((p.2.toNat : Nat) : Int) := by omega
  have h1 : hashInt p.1 = ((p.1.toNat : Nat) : Int) := by
    conv => lhs; rw [e1]
    exact hashInt_small (by omega)
  have h2 : hashInt p.2 = ((p.2.toNat : Nat) : Int) := by
    conv => lhs; rw [e2]
    exact hashInt_small (by omega)
  rw [h1, h2]
theorem keyHash_inj {P : Program} {w : World} {p q : Pl} (hp : smallK p = true) (hq : smallK q = true) (h : (tupleKind (mixKind P w)).hash (kP p) = (tupleKind (mixKind P w)).hash (kP q)) : p = q := by
  rw [keyHash_small hp, keyHash_small hq] at h
  unfold smallK at hp hq
  simp only [Bool.and_eq_true, decide_eq_true_eq] at hp hq
  have := hv_inj (a := (p.1.toNat, p.2.toNat)) (b := (q.1.toNat, q.2.toNat)) ⟨by omega, by omega⟩ ⟨by omega, by omega⟩ (by unfold hv; rw [h])
  have e1 := congrArg Prod.fst this
  have e2 := congrArg Prod.snd this
  simp only at e1 e2
  exact Prod.ext (by omega) (by omega)
section
variable {prog : Program} {w : World} {K : Type} [DecidableEq K] {knd : KeyKind prog w K} {A : Around} {E : Value → Shared → Prop} {s : Shared}
theorem kt_call_dictH {o : Addr} {more : List (List K × Addr × Value)} {Q : Value → Shared → Prop} (hu : A.units + 2 < cLine) (hoS : (o == sysModules) = false) (ho : s.heap.DictOfH (tupleKind knd) o more) (hsz : more.length ≤ sizeLine)
    (hap : (more.map fun x => (tupleKind knd).hash x.1).Nodup)
    (h : ∀ h', h'.DictOfH (tupleKind knd) s.heap.objs.size more → Heap.SameBut s.heap.objs.size (s.heap.push { cls := .type "dict", data := .dict #[] }) h' → Q (.ref s.heap.objs.size) { s with heap := h' }) :
    wpAny (model prog w) A (call (.type "dict") [.ref o]) Q E s := by
  refine callType_codes (Q₁ := fun obj s₁ => obj = .ref s.heap.objs.size ∧ s₁ = { s with heap := s.heap.push { cls := .type "dict", data := .dict #[] } }) F.kt_called_dict (F.kt_typeCall_dict_1 _) F.entry_dict_init (kt_code_dict_new _ ⟨rfl, rfl⟩) ?_
  rintro obj s₁ ⟨rfl, rfl⟩
  have hnew : (s.heap.push { cls := .type "dict", data := .dict #[] }).DictOfH (tupleKind knd) s.heap.objs.size [] := Heap.DictOfH.new s.heap
  have kp : ∀ b o', s.heap.get? b = some o' → (s.heap.push { cls := .type "dict", data := .dict #[] }).get? b = some o' := fun b o' e => Heap.get?_push_of_some _ e
  have ho' : (s.heap.push { cls := .type "dict", data := .dict #[] }).DictOfH (tupleKind knd) o more := by
    obtain ⟨oo, es, ep, h1, h2, h3, h4, h5, h6⟩ := ho
    exact ⟨oo, es, ep, kp _ _ h1, h2, h3, h4, fun y hy => tupleKind_stays.stays (fun b o' vs n e _ => kp b o' e) (h5 y hy), h6⟩
  have hn : (more.map (·.1)).Nodup := let ⟨_, _, _, _, _, _, _, _, hn⟩ := ho; hn
  have hdo : s.heap.objs.size ≠ o := by
    obtain ⟨_, _, _, hg, _⟩ := ho
    exact fun e => absurd (Heap.lt_size hg) (by rw [e]; exact Nat.lt_irrefl _)
  refine ⟨hnew.typeIs, F.args_dict_init_2 _ _, ?_⟩
  unfold Builtin.«dict.__init__»
  refine wpAny_bind ?_
  unfold Builtin.Dict.selfAndRest
  refine wpAny_bind (wpAny_notOrdered_dict hnew.typeIs ?_)
  show wpAny _ _ (pure (s.heap.objs.size, [Value.ref o])) _ _ _
  refine wpAny_pure ?_
  show wpAny _ _ (Builtin.Dict.updateFrom "dict.__init__" s.heap.objs.size (.ref o) [] .none) _ _ _
  have hty : ∀ x ∈ more, Shared.TypeIs { s with heap := s.heap.push { cls := .type "dict", data := .dict #[] } } (.ref x.2.1) "tuple" := fun x hx => by
    obtain ⟨oo, es, ep, h1, h2, h3, h4, h5, h6⟩ := ho'
    exact tupleKind_stays.tuple (s := { s with heap := s.heap.push { cls := .type "dict", data := .dict #[] } }) (h5 x hx)
  refine updateFrom_dictH .none ?_ hdo hoS hnew ho' (.inr ⟨hty, hap⟩) (by simpa using hsz) fun h' hd' _ hs' => ?_
  · exact hu
  · rw [storedAllH_nil_of_nodup more hn] at hd'
    exact ⟨rfl, h h' hd' hs'⟩
end
section
variable {X : Cx}
def rDictT : List V → Hp → VK → Prop := fun xs H Q => ∃ (a : Addr) (ks : List (Pl × V)), xs = [.ref a] ∧ Rd H a (.dT (ks.map fun p => (kP p.1, p.2))) ∧ ks.all (fun p => smallK p.1) = true ∧ ks.length ≤ sizeLine ∧ ∀ p, H p = none → Q (.ref p) (upd H p (.dT (ks.map fun p => (kP p.1, p.2))))
theorem nodup_hash {P : Program} {w : World} {H : Hp} : ∀ {ks : List (Pl × V)} {xs : List (List Key × Addr × Value)}, KT H (ks.map fun p => (kP p.1, p.2)) xs → ks.all (fun p => smallK p.1) = true → (xs.map (·.1)).Nodup → (xs.map fun x => (tupleKind (mixKind P w)).hash x.1).Nodup := by
  intro ks
  induction ks with
  | nil => intro xs r _ _; cases r; exact List.nodup_nil
  | cons p ks ih =>
    intro xs r hs hn
    cases r with
    | @cons _ q _ qs h t =>
      rw [List.map_cons, List.nodup_cons] at hn ⊢
      rw [List.all_cons, Bool.and_eq_true] at hs
      refine ⟨fun m => ?_, ih t hs.2 hn.2⟩
      obtain ⟨x, hx, e⟩ := List.mem_map.mp m
      have back : ∀ {ks : List (Pl × V)} {xs : List (List Key × Addr × Value)}, KT H (ks.map fun p => (kP p.1, p.2)) xs → ∀ x ∈ xs, ∃ p ∈ ks, x.1 = kP p.1 := by
        intro ks
        induction ks with
        | nil => intro xs r x hx; cases r; exact nomatch hx
        | cons p ks ih =>
          intro xs r x hx
          cases r with
          | @cons _ q _ qs h t =>
            rcases List.mem_cons.mp hx with rfl | hx
            · exact ⟨p, List.mem_cons_self, h.1.symm⟩
            · obtain ⟨p', hp', e⟩ := ih t x hx
              exact ⟨p', List.mem_cons_of_mem _ hp', e⟩
      obtain ⟨p', hp', e'⟩ := back t x hx
      have e0 : q.1 = kP p.1 := h.1.symm
      rw [e', e0] at e
      have := keyHash_inj (List.all_eq_true.mp hs.2 p' hp') hs.1 e
      exact hn.1 (List.mem_map.mpr ⟨x, hx, by rw [e', e0, this]⟩)
theorem call_dictT (hu : X.A.units + 65 < cLine) : CallR X (.type "dict") rDictT := by
  intro pins s σ H xs us Q I r q
  obtain ⟨a, ks, ex, hd, hs, hz, q⟩ := q
  subst ex
  obtain ⟨u, eu, rx⟩ := vals1 r
  subst eu
  cases rx
  obtain ⟨z, lo, vs, rel, dd⟩ := dt_rd I.hok hd
  have hn : (vs.map (·.1)).Nodup := let ⟨_, _, _, _, _, _, _, _, hn⟩ := dd; hn
  refine kt_call_dictH (by omega) lo dd (by rw [← rel.length]; exact z) (nodup_hash rel hs hn) fun h' d' hs => ?_
  have hm : (s.heap.objs.size == sysModules) = false := beq_eq_false_iff_ne.mpr (Nat.ne_of_gt I.big)
  have fresh := I.hok.fresh (Nat.le_refl _)
  have rel' : KT (upd H s.heap.objs.size (.dT (ks.map fun p => (kP p.1, p.2)))) (ks.map fun p => (kP p.1, p.2)) vs := rel.keeps fun b ys e => by
    rw [upd_ne]
    · exact e
    · intro e2; rw [e2, fresh] at e; exact nomatch e
  obtain ⟨o', es', ep', g1, g2, g3, g4, g5, g6⟩ := d'
  exact ⟨.ref s.heap.objs.size, upd H s.heap.objs.size (.dT (ks.map fun p => (kP p.1, p.2))), I.laid (t' := s.toks) (fun b u e => (hs.2 b (Nat.ne_of_lt (Heap.lt_size e))).trans (Heap.get?_push_of_some _ e)) (Nat.le_refl _)
    (show ObjOk X.prog X.w _ _ _ (.dT (ks.map fun p => (kP p.1, p.2))) from ⟨z, hm, vs, rel', o', es', ep', g1, g2, g3, g4, g6⟩), rfl, q _ fresh⟩
end
section
variable {K : PySem.W.Frag} {ex : Addr → Prop} {H : Hp} {ρ : List Addr} {st : Store} {Xe : Ex → Hp → List Addr → Store → Prop} {Q : VK}
theorem repE_split : ∀ {es : List (Pl × D)} {kvs : List (List Key × V)}, RepE K ex H ρ es kvs → ∃ ks : List (Pl × V), kvs = ks.map (fun p => (kP p.1, p.2)) ∧ ks.map (·.1) = es.map (·.1)
  | [], _, h => by cases h; exact ⟨[], rfl, rfl⟩
  | (p, d) :: es, _, ⟨v, r, e, _, t⟩ => by
    obtain ⟨ks, rfl, e2⟩ := repE_split t
    exact ⟨(p, v) :: ks, by rw [e]; rfl, by simp [e2]⟩
theorem ok_dict (m : Bool) : P1 K (.dict m) rDictT := by
  intro ex H ρ st d v Xe Q M r h
  unfold prim1F at h
  simp only at h
  split at h
  · rename_i es he
    split at h
    · rename_i hk
      rw [Bool.and_eq_true, decide_eq_true_eq] at hk
      obtain ⟨a, kvs, rfl, rd, rs⟩ := rep_dct M r he
      obtain ⟨ks, rfl, e2⟩ := repE_split rs
      have hl : ks.length = es.length := by
        have := congrArg List.length e2
        simpa using this
      refine ⟨a, ks, rfl, rd, ?_, by rw [hl]; exact hk.2, fun p hp => h.newD M rs p hp⟩
      rw [List.all_eq_true]
      intro x hx
      have : x.1 ∈ es.map (·.1) := by rw [← e2]; exact List.mem_map.mpr ⟨x, hx, rfl⟩
      obtain ⟨y, hy, e⟩ := List.mem_map.mp this
      rw [← e]
      exact List.all_eq_true.mp hk.1 y hy
    · exact h.elim
  · exact h.elim
end
end MP
end
section
set_option maxRecDepth 100000
set_option maxHeartbeats 4000000
namespace MP
open PySem PySem.Spec PyProof.Rows L2 PySem.W
section
variable {K : PySem.W.Frag}
def rMinP (K : PySem.W.Frag) : List V → Hp → VK → Prop := fun vs H Q => ∃ (a : Addr) (xs : List V) (p : Pl) (ps : List Pl), vs = [V.ref a] ∧ SqL K H a xs ∧ DpAll K H xs ((p :: ps).map pyP) ∧
  (∀ x ∈ xs, ∃ t, x = V.ref t ∧ H t = some (.tup [.int (pairAt H x).1, .int (pairAt H x).2])) ∧ ∀ t q, H t = some (.tup [.int q.1, .int q.2]) → q = ps.foldl (fun a y => if plLt y a then y else a) p → Q (.ref t) H
theorem minD_pl (p : Pl) : ∀ ps : List Pl, minD (pyP p) (ps.map pyP) = pyP (ps.foldl (fun a y => if plLt y a then y else a) p) := by
  intro ps
  unfold minD
  induction ps generalizing p with
  | nil => rfl
  | cons q ps ih =>
    rw [List.map_cons, List.foldl_cons, List.foldl_cons, ← ih]
    congr 1
    have : dataLt (pyP q) (pyP p) = plLt q p := by rw [pyP, pyP, dataLt_ii]; rfl
    rw [this]
    split <;> rfl
theorem pyP_inj {p q : Pl} (h : pyP p = pyP q) : p = q := by
  unfold pyP at h
  injection h with h
  injection h with h1 h2
  injection h1 with h1
  injection h2 with h2 _
  injection h2 with h2
  exact Prod.ext h1 h2
theorem depthAll_pl : ∀ ps : List Pl, PyData.depthAll (ps.map pyP) ≤ 2
  | [] => by simp [PyData.depthAll]
  | p :: ps => by
    have h1 := depth_pl p
    have h2 := depthAll_pl ps
    rw [List.map_cons, PyData.depthAll]
    omega
theorem call_minP {X : Cx} (hc : X.calm = true) (hu : X.A.units + 65 < cLine) : CallR X (.builtin "min") (rMinP X.K) := by
  intro pins s σ H vs us Q I r h
  obtain ⟨a, xs, p, ps, rfl, hs, hd, hx, q⟩ := h
  obtain ⟨its, rv, hl, hz⟩ := I.list hs
  rw [Vals.ref1 r]
  obtain ⟨as, ra⟩ := Dp.readsAll I _ _ _ hd rv
  have hal : AlikeAll (pyP p :: ps.map pyP) := by
    have e : ∀ x ∈ pyP p :: ps.map pyP, ∃ q, x = pyP q := fun x hx => by
      rcases List.mem_cons.mp hx with rfl | hx
      · exact ⟨p, rfl⟩
      · obtain ⟨q, _, rfl⟩ := List.mem_map.mp hx
        exact ⟨q, rfl⟩
    refine ⟨fun x hx y hy => ?_, fun x hx => ?_⟩
    · obtain ⟨q1, rfl⟩ := e x hx
      obtain ⟨q2, rfl⟩ := e y hy
      exact alike_pl q1 q2
    · obtain ⟨q1, rfl⟩ := e x hx
      simp [pyP]
  have hdp := depthAll_pl (p :: ps)
  rw [List.map_cons] at hdp
  rw [List.map_cons] at ra
  refine min_list_data (vs := its.toArray) (I.ok.hd hc) hl.isList (by simpa using ra) hal (by omega) fun i v h' tk bs hv hr hk => ?_
  obtain ⟨x, hx2, rx⟩ : ∃ x, xs[i]? = some x ∧ RelV x v := by
    have hi : its[i]? = some v := by rw [← hv]; simp
    cases hxi : xs[i]? with
    | none => rw [Vals.none_of rv hxi] at hi; cases hi
    | some x =>
      obtain ⟨u, hu1, hu2⟩ := Vals.get rv hxi
      rw [hi] at hu1
      cases hu1
      exact ⟨x, rfl, hu2⟩
  have hmem : x ∈ xs := List.mem_of_getElem? hx2
  obtain ⟨t, rfl, ht⟩ := hx x hmem
  obtain rfl : v = Value.ref t := rx
  have hdt : Dp X.K H (.ref t) (pyP (pairAt H (.ref t))) := by
    have := (rep_dp (K := X.K) (ex := fun _ => False) (ρ := []) (d := plD (pairAt H (.ref t))) (by simp [plD, cmpD, cmpDs]) (rep_plD ht)).1
    have e : py (plD (pairAt H (.ref t))) = pyP (pairAt H (.ref t)) := by simp [plD, py, pys, pyP]
    rw [← e]
    exact this
  obtain ⟨bs2, r2⟩ := Dp.reads I _ _ _ hdt (show RelV (V.ref t) (Value.ref t) from rfl)
  have r3 : Reads h' (.ref t) (pyP (pairAt H (.ref t))) bs2 := reads_keeps hk r2
  rw [minD_pl] at hr
  have e := (Reads.unique r3 _ _ hr).1
  exact ⟨.ref t, H, I.kept hk, rfl, q t _ ht (pyP_inj e)⟩
theorem ok_minL : P1 K .minL (fun vs H Q => rMin K vs H Q ∨ rMinP K vs H Q) := by
  intro ex H ρ st d v X Q M r h
  unfold prim1F at h
  simp only at h
  split at h
  · rename_i xs hx
    obtain ⟨a, vs, rfl, hs, rs⟩ := rep_lst M r hx
    cases e : intsOf xs with
    | some ns =>
      rw [e] at h
      have e2 := intsOf_eq e
      subst e2
      have := reps_ints rs
      subst this
      cases ns with
      | nil =>
        exact (show False from h).elim
      | cons n ns =>
        refine .inl ⟨a, n :: ns, rfl, hs, by simp, fun m h1 h2 => ?_⟩
        have q := mnL_spec h1 h2
        simp only [Option.bind_some] at h
        rw [q] at h
        exact h.here M rfl
    | none =>
      rw [e] at h
      simp only [Option.bind_none] at h
      cases hp : plsOf xs with
      | none => rw [hp] at h; exact h.elim
      | some ps =>
        rw [hp] at h
        cases ps with
        | nil => exact h.elim
        | cons p ps =>
          have e3 := plsOf_eq hp
          subst e3
          obtain ⟨h1, h2⟩ := reps_pls rs
          have hdp := (rep_dps (ds := (p :: ps).map plD) (by
            have : ∀ qs : List Pl, cmpDs (qs.map plD) = true := fun qs => by
              induction qs with
              | nil => rfl
              | cons q qs ih => simp [cmpDs, plD, cmpD] at ih ⊢; exact ih
            exact this _) rs).1
          have epy : pys ((p :: ps).map plD) = (p :: ps).map pyP := by
            have : ∀ qs : List Pl, pys (qs.map plD) = qs.map pyP := fun qs => by
              induction qs with
              | nil => rfl
              | cons q qs ih => simp [pys, plD, py, pyP] at ih ⊢; exact ih
            exact this _
          rw [epy] at hdp
          exact .inr ⟨a, vs, p, ps, rfl, hs, hdp, h1, fun t q ht hq => h.here M (by rw [← hq]; exact rep_plD ht)⟩
  · exact h.elim
def rSortDT : List V → Hp → VK → Prop := fun vs H Q => ∃ (a : Addr) (ks : List (Pl × V)), vs = [V.ref a] ∧ Rd H a (.dT (ks.map fun p => (kP p.1, p.2))) ∧
  ∀ ys p, (∀ x ∈ ys, ∃ t, x = V.ref t ∧ H t = some (.tup [.int (pairAt H x).1, .int (pairAt H x).2])) → ys.map (pairAt H) = sortP (ks.map (·.1)) → H p = none → Q (.ref p) (upd H p (.lst ys))
theorem call_sortDT {X : Cx} (hc : X.calm = true) : CallR X (.builtin "sorted") rSortDT := by
  intro pins s σ H vs us Q I r h
  obtain ⟨d, kl, rfl, hd, q⟩ := h
  obtain ⟨u, rfl, ru⟩ := r.one
  cases ru
  obtain ⟨z, hs, ks, pr, o, es, ep, ho, hx, hdt, he, hn⟩ := (show ObjOk X.prog X.w H s.heap d (.dT _) from hd.ok I.hok)
  have l1 : es.size = ks.length := size_of_entries he
  have l2 : (kl.map fun p => (kP p.1, p.2)).length = ks.length := Paired.length pr
  refine Calls.call_function_entry PyProof.Rows.kind_sorted PyProof.Rows.plain_sorted PyProof.Rows.entry_sorted (PyProof.Rows.args_sorted1 _) ?_
  unfold Builtin.«sorted»
  refine wpAny_bind (m := checkCount "sorted" 1 1 _) (wpAny_pure ?_)
  refine wpAny_bind (PySem.W.kdu_collect (A := X.A.in1) (kdl_raw hs hx hdt) (I.ok.hd hc) ho (by omega) fun h' tk acc hk it => ?_)
  have ea : acc.toList = ks.map fun x => Value.ref x.2.1 := by
    have hl : acc.toList.length = ks.length := by rw [Array.length_toList, it.1]; exact l1
    apply List.ext_getElem?
    intro j
    rw [List.getElem?_map]
    cases hj : acc.toList[j]? with
    | none =>
      have h1 := List.getElem?_eq_none_iff.mp hj
      rw [List.getElem?_eq_none (by omega)]
      all_goals rfl
    | some v =>
      obtain ⟨en, hen, hv⟩ := it.2 j v (by rw [← Array.getElem?_toList]; exact hj)
      have qe := entry_at he j
      rw [hen] at qe
      cases hb : ks[j]? with
      | none =>
        rw [hb] at qe
        exact nomatch (show some en = none from qe)
      | some b =>
        rw [hb] at qe
        have e2 : en = entryOfKey (tupleKind (mixKind X.prog X.w)) b := Option.some.inj qe
        rw [hv, e2]
        all_goals rfl
  -- every key is a pair
  have hpr : ∀ (l : List (Pl × V)) (m : List (List Key × Addr × Value)), KT H (l.map fun p => (kP p.1, p.2)) m → (∀ x ∈ m, H x.2.1 = some (.tup [.int (pairAt H (.ref x.2.1)).1, .int (pairAt H (.ref x.2.1)).2])) ∧ m.map (fun x => pairAt H (.ref x.2.1)) = l.map (·.1) := by
    intro l
    induction l with
    | nil => intro m hm; cases hm; exact ⟨fun x hx => (nomatch hx), rfl⟩
    | cons p l ih =>
      intro m hm
      cases hm with
      | @cons _ b _ m' h1 t =>
        obtain ⟨i1, i2⟩ := ih m' t
        have hb : H b.2.1 = some (.tup [.int p.1.1, .int p.1.2]) := h1.2.1
        have hpb : pairAt H (.ref b.2.1) = p.1 := by simp only [pairAt, hb]
        refine ⟨fun x hx => ?_, by rw [List.map_cons, hpb, i2]; rfl⟩
        rcases List.mem_cons.mp hx with rfl | hx
        · rw [hpb]; exact hb
        · exact i1 x hx
  obtain ⟨p1, p2⟩ := hpr kl ks pr
  have hz : acc.toList.length ≤ sizeLine := by rw [ea, List.length_map]; omega
  have I1 : Inv X pins σ H { s with heap := h', toks := tk } := I.kept hk
  refine wpAny_bind (wpAny_newList ?_ hz)
  have hoL : (h'.push (seqObj "list" acc.toList.toArray 0)).get? h'.objs.size = some (seqObj "list" acc.toList.toArray 0) := Heap.get?_push_size _ rfl
  show wpAny _ _ _ _ _ { s with heap := h'.push (seqObj "list" acc.toList.toArray 0), toks := tk }
  have I2 : Inv X pins σ H { s with heap := h'.push (seqObj "list" acc.toList.toArray 0), toks := tk } := I1.kept (t' := tk) fun b u e => Heap.get?_push_of_some _ e
  have hip : ∀ v ∈ acc.toList, Srt.IsPair (h'.push (seqObj "list" acc.toList.toArray 0)) v (pairAt H (backV v)).1 (pairAt H (backV v)).2 := fun v hv => by
    rw [ea] at hv
    obtain ⟨x, hx, rfl⟩ := List.mem_map.mp hv
    have ht := p1 x hx
    obtain ⟨_, its2, r2, o, ho, hc, n, hd⟩ := I2.hok _ _ ht
    obtain ⟨u1, u2, rfl, ri, rj⟩ := vals2 r2
    obtain ⟨t1, rfl⟩ := ri
    obtain ⟨t2, rfl⟩ := rj
    exact ⟨x.2.1, o, t1, t2, n, rfl, ho, hc, hd⟩
  refine wpAny_bind (wpAny_holding (wpAny_call_entry PyProof.Rows.slot_list_sort ⟨_, hoL, rfl⟩ PyProof.Rows.entry_list_sort
    (SrtO.list_sort_ord (s := { s with heap := h'.push (seqObj "list" acc.toList.toArray 0), toks := tk }) (SrtO.swo_lex fun v => pairAt H (backV v)) hoL hz (fun h2 => SrtO.pairs_sortableO (k := fun v => pairAt H (backV v)) (by omega) hip fun o e => ?_) fun out hs hb => ⟨_, rfl, ?_⟩)
    (PyProof.Rows.args_list_sort _)))
  · have e' : some o = some (seqObj "list" acc.toList.toArray 0) := e.symm.trans hoL
    cases e'
    intro c
    exact absurd (Value.type.inj c) (by decide)
  · have hall : ∀ v ∈ out, ∃ x ∈ ks, v = Value.ref x.2.1 := fun v hv => by
      have := hb.perm.mem_iff.mp hv
      rw [ea] at this
      obtain ⟨x, hx, rfl⟩ := List.mem_map.mp this
      exact ⟨x, hx, rfl⟩
    have h3 : ∀ u ∈ out, ∃ a, u = Value.ref a := fun u hu => by
      obtain ⟨x, _, rfl⟩ := hall u hu
      exact ⟨_, rfl⟩
    obtain ⟨n, hn⟩ := PyProof.Rows.sortedHeap_at (vs := acc.toList) (out := out.toArray) hoL
    have hlen : (out.map backV).length ≤ sizeLine := by rw [List.length_map, hb.perm.length_eq]; exact hz
    refine wpAny_pure ⟨_, rfl, .ref h'.objs.size, upd H h'.objs.size (.lst (out.map backV)), I1.laid (t' := tk) (fun b u e => ?_) (Nat.le_refl _) ⟨hlen, out, n, vals_back h3, hn⟩, rfl, q _ h'.objs.size (fun x hx => ?_) ?_ (I1.hok.fresh (Nat.le_refl _))⟩
    · have hb : b < h'.objs.size := Heap.lt_size e
      rw [PyProof.Rows.sortedHeap_old (Nat.ne_of_lt hb) (by rw [size_push']; exact Nat.lt_succ_of_lt hb)]
      exact Heap.get?_push_of_some _ e
    · obtain ⟨v, hv, rfl⟩ := List.mem_map.mp hx
      obtain ⟨y, hy, rfl⟩ := hall v hv
      exact ⟨y.2.1, rfl, p1 y hy⟩
    · refine perm_eq ?_ ?_ (sortP_sorted _)
      · refine List.Perm.trans ?_ (sortP_perm _).symm
        rw [← p2, List.map_map]
        have := hb.perm.map fun v => pairAt H (backV v)
        rw [ea, List.map_map] at this
        exact this
      · rw [List.pairwise_map, List.pairwise_map]
        refine hs.imp fun {x y} hxy => ?_
        have := SrtO.lexB_no.mp hxy
        unfold plLe
        simp only [Bool.or_eq_true, Bool.and_eq_true, decide_eq_true_eq]
        omega
theorem ok_sortedM (m : Bool) : P1 K (.sorted m) (fun vs H Q => rSortedPO K vs H Q ∨ rSortDT vs H Q) := by
  intro ex H ρ st d v Xe Q M r h
  unfold prim1F at h
  simp only at h
  split at h
  · rename_i es he
    obtain ⟨a, kvs, rfl, rd, rs⟩ := rep_dct M r he
    obtain ⟨ks, rfl, e2⟩ := repE_split rs
    refine .inr ⟨a, ks, rfl, rd, fun ys p h1 h2 hn => ?_⟩
    rw [← e2, ← h2] at h
    exact h.newL M (reps_of_pairs h1) p hn
  · rename_i hnd
    refine .inl (ok_sortedL m (Xe := Xe) M r hnd ?_)
    unfold prim1F
    simp only [hnd]
    exact h
def rSetT : V → List V → Hp → VK → Prop := fun x xs H Q => ∃ (a : Addr) (kvs : List (List L2.Key × V)) (k : List L2.Key) (b : Addr) (d : V), x = .ref a ∧ xs = [.ref b, d] ∧ H a = some (.dT kvs) ∧ H b = some (.tup (k.map kV)) ∧ kvs.length < sizeLine ∧
  (∀ v, valV kvs k = some v → Q v H) ∧ (valV kvs k = none → Q d (upd H a (.dT (putK kvs k d))))
theorem mt_setT {X : Cx} (hu : X.A.units + 65 < cLine) : MtR X "dict.setdefault" rSetT := by
  intro pins s σ H x xs v us Q I rx rxs h
  obtain ⟨a, kvs, k, b, d, rfl, rfl, ha, hb, hl0, q1, q2⟩ := h
  cases rx
  obtain ⟨u1, u2, rfl, r1, r2⟩ := vals2 rxs
  cases r1
  obtain ⟨z, hd, xs', rel, dd⟩ := dt_of I.hok ha
  have hz : xs'.length ≤ sizeLine := by rw [← Paired.length rel]; exact z
  have hl : (putK kvs k d).length ≤ sizeLine := by have := length_putK kvs k d; omega
  refine call_setdefault_heap (hsz := hz) (knd := tupleKind (mixKind X.prog X.w)) (tupleKind_room_in1 (by omega)) (key_of I.hok hb) hd dd (fun p hp => ?_) fun hn h' dd' hs => ?_
  · have r := rel.val k
    rw [hp] at r
    obtain ⟨v0, ev, rv⟩ : ∃ v0, valV kvs k = some v0 ∧ RelV v0 p.2 := by
      cases ev : valV kvs k with
      | none =>
        rw [ev] at r
        exact (show False from r).elim
      | some v0 =>
        rw [ev] at r
        exact ⟨v0, rfl, r⟩
    exact ⟨v0, H, I.tok _, rv, q1 v0 ev⟩
  · have r := rel.val k
    rw [hn] at r
    have e : valV kvs k = none := by
      cases ev : valV kvs k with
      | none => rfl
      | some v0 =>
        rw [ev] at r
        exact (show False from r).elim
    obtain ⟨q, es, ep, hq, h2, h3, h4, _, h5⟩ := dd'
    refine ⟨d, upd H a (.dT (putK kvs k d)), d_write I (by rw [ha]; exact True.intro) hs ⟨q, hq⟩ ⟨hl, hd, _, (rel.put k hb r2).keeps fun c ys ec => ?_, q, es, ep, hq, h2, h3, h4, h5⟩, r2, q2 e⟩
    rw [upd_ne (ne_of ec ha (fun z => nomatch z))]
    exact ec
section
variable {ex : Addr → Prop} {H : Hp} {ρ : List Addr} {st : Store} {Xe : Ex → Hp → List Addr → Store → Prop} {Q : VK}
theorem okRecv_dctU {d : D} {v : V} (M : Mem K ex H ρ st) (r : Rep K ex H ρ d v) (h : okRecv .setd d st = true) : tyV K "dict" v H := by
  unfold okRecv at h
  simp only at h
  split at h
  · obtain ⟨a, ha, rfl⟩ := r
    split at h
    · rename_i es hs
      obtain ⟨a2, kvs, h1, h2, h3⟩ := M.dct hs
      rw [ha] at h1
      cases h1
      exact .inr (.inr (.inl ⟨rfl, .inr ⟨kvs, h2⟩⟩))
    · cases h
  · cases h
theorem ok_setd {d e f : D} {v u w : V} (M : Mem K ex H ρ st) (r1 : Rep K ex H ρ d v) (r2 : Rep K ex H ρ e u) (r3 : Rep K ex H ρ f w) (h : PostV K ex H ρ (prim3F .setd d e f st) Xe Q) : rSetT v [u, w] H Q := by
  unfold prim3F at h
  simp only at h
  split at h
  · rename_i n k hk
    obtain ⟨a, ha, rfl⟩ := r1
    obtain ⟨b, rfl, hb⟩ := rep_pl r2 hk
    split at h
    · rename_i es hs
      obtain ⟨a2, kvs, h1, h2, h3⟩ := M.dct hs
      rw [ha] at h1
      cases h1
      have hlen : kvs.length = es.length := h3.length.symm
      split at h
      · rename_i hl
        rcases h3.val k with ⟨e1, e2⟩ | ⟨x, y, e1, e2, rxy⟩
        · rw [e1] at h
          simp only at h
          refine ⟨a, kvs, kP k, b, w, rfl, rfl, h2, hb, by rw [hlen, lim_eq]; exact hl, fun v hv => ?_, fun _ => ?_⟩
          · rw [e2] at hv; cases hv
          · have e : Ext ρ H ρ (upd H a (.dT (putK kvs (kP k) w))) := Ext.write ha (fun vs => by rw [h2]; simp) (fun ob u => by rw [h2]; simp)
            exact h w _ ρ e (M.write ha e ⟨_, upd_same, (h3.put r3).ext e⟩) (r3.ext e)
        · rw [e1] at h
          simp only at h
          refine ⟨a, kvs, kP k, b, w, rfl, rfl, h2, hb, by rw [hlen, lim_eq]; exact hl, fun v hv => ?_, fun hn => ?_⟩
          · rw [e2] at hv; cases hv
            exact h.here M rxy
          · rw [e2] at hn; cases hn
      · exact h.elim
    · exact h.elim
  · exact h.elim
end
end
end MP
end
section
set_option maxRecDepth 100000
set_option maxHeartbeats 4000000
namespace MP
open PySem PySem.Spec PyProof.Rows L2 PySem.W
section
variable {X : Cx}
def rDClrT : V → List V → Hp → VK → Prop := fun x xs H Q => ∃ (a : Addr) (kvs : List (List L2.Key × V)), x = .ref a ∧ xs = [] ∧ H a = some (.dT kvs) ∧ Q .non (upd H a (.dT []))
theorem mt_dclrT : MtR X "dict.clear" rDClrT := by
  intro pins s σ H x xs v us Q I rx rxs h
  obtain ⟨a, kvs, rfl, rfl, ha, q⟩ := h
  cases rx
  cases rxs
  obtain ⟨z, hd, xs', rel, dd⟩ := dt_of I.hok ha
  refine clear_keyed (knd := tupleKind (mixKind X.prog X.w)) (kvs := pairsH xs') ⟨xs', dd, rfl⟩ (fun h' dd' hs => ?_) (by rw [pairsH_length, ← Paired.length rel]; exact z)
  obtain ⟨ys, dd2, e⟩ := dd'
  have ey : ys = [] := by
    have := congrArg List.length e
    rw [pairsH_length] at this
    exact List.length_eq_zero_iff.mp this
  subst ey
  obtain ⟨o, es, ep, hq, h2, h3, h4, _, h5⟩ := dd2
  exact ⟨.non, upd H a (.dT []), d_write I (by rw [ha]; exact True.intro) hs ⟨o, hq⟩ ⟨Nat.zero_le _, hd, [], .nil, o, es, ep, hq, h2, h3, h4, h5⟩, rfl, q⟩
def rPopT1 : V → List V → Hp → VK → Prop := fun x xs H Q => ∃ (a : Addr) (kvs : List (List L2.Key × V)) (k : List L2.Key) (b : Addr) (v : V), x = .ref a ∧ xs = [.ref b] ∧ H a = some (.dT kvs) ∧ H b = some (.tup (k.map kV)) ∧ valV kvs k = some v ∧ Q v (upd H a (.dT (dropK kvs k)))
theorem mt_popT1 (hu : X.A.units + 65 < cLine) : MtR X "dict.pop" rPopT1 := by
  intro pins s σ H x xs v us Q I rx rxs h
  obtain ⟨a, kvs, k, b, v0, rfl, rfl, ha, hb, hv, q⟩ := h
  cases rx
  obtain ⟨u1, rfl, r1⟩ := vals1 rxs
  cases r1
  obtain ⟨z, hd, xs', rel, dd⟩ := dt_of I.hok ha
  have hz : xs'.length ≤ sizeLine := by rw [← Paired.length rel]; exact z
  have r := rel.val k
  rw [hv] at r
  obtain ⟨pv, hp, rp⟩ := r.some_of
  obtain ⟨pp, hpp, rfl⟩ := Option.map_eq_some_iff.mp hp
  refine call_pop_heap (more := []) (hsz := hz) (.inl rfl) (PySem.F.args_dict_pop_2 _ _) (knd := tupleKind (mixKind X.prog X.w)) (tupleKind_room_in1 (by omega)) (key_of I.hok hb) hd dd hpp fun h' dd' hs => ?_
  obtain ⟨o, es, ep, hq, h2, h3, h4, _, h5⟩ := dd'
  have I2 : L2.Inv X pins σ (upd H a (.dT (dropK kvs k))) { s with heap := h', toks := s.toks + (tupleKind (mixKind X.prog X.w)).draws k } :=
    d_write I (by rw [ha]; exact True.intro) hs ⟨o, hq⟩ ⟨Nat.le_trans (dropK_le kvs k) z, hd, _, (DX.KT_drop k rel).keeps (fun c ys ec => (by rw [upd_ne (ne_of ec ha (fun z => nomatch z))]; exact ec)), o, es, ep, hq, h2, h3, h4, h5⟩
  exact ⟨v0, _, I2, rp, q⟩
def rDictLT (K : Frag) : List V → Hp → VK → Prop := fun xs H Q => ∃ (a : Addr) (ts : List Addr) (es : List (List L2.Key × V)), xs = [.ref a] ∧ SqL K H a (ts.map V.ref) ∧
  Paired (fun t e => ∃ b, H t = some (.tup [.ref b, e.2]) ∧ H b = some (.tup (e.1.map kV))) ts es ∧ ∀ p, H p = none → Q (.ref p) (upd H p (.dT (es.foldl (fun g (e : _ × V) => putK g e.1 e.2) [])))
theorem pairsT_of {pins : List (Addr × Obj)} {σ : L2.St} {H : Hp} {s : Shared} (I : Inv X pins σ H s) : ∀ {ts : List Addr} {es : List (List L2.Key × V)}, Paired (fun t e => ∃ b, H t = some (.tup [.ref b, e.2]) ∧ H b = some (.tup (e.1.map kV))) ts es →
    ∃ ps : List (List L2.Key × Addr × Value), KT H es ps ∧ ps.length = ts.length ∧ ∀ (j : Nat) (q : List L2.Key × Addr × Value), ps[j]? = some q → ∃ t, ts[j]? = some t ∧ PairAt s.heap t (.ref q.2.1) q.2.2
  | _, _, .nil => ⟨[], .nil, rfl, fun j q e => by simp at e⟩
  | _, _, .cons (a := t) (b := e) h tl => by
    obtain ⟨ps, r, hl, hp⟩ := pairsT_of I tl
    obtain ⟨b, h1, h2⟩ := h
    obtain ⟨_, its, rv, o, g1, g2, n, g3⟩ := (show ObjOk X.prog X.w H s.heap t (.tup [.ref b, e.2]) from I.hok t _ h1)
    obtain ⟨u1, u2, rfl, r1, r2⟩ := vals2 rv
    cases r1
    refine ⟨(e.1, b, u2) :: ps, .cons ⟨rfl, h2, r2⟩ r, by rw [List.length_cons, List.length_cons, hl], fun j q ej => ?_⟩
    cases j with
    | zero =>
      have e' : (e.1, b, u2) = q := Option.some.inj ej
      subst e'
      exact ⟨t, rfl, .inl ⟨o, g1, g2, n, g3⟩⟩
    | succ j =>
      obtain ⟨t', e1, e2⟩ := hp j q (by simpa using ej)
      exact ⟨t', by simpa using e1, e2⟩
theorem KT_all {H : Hp} : ∀ {es : List (List L2.Key × V)} {ps : List (List L2.Key × Addr × Value)} {g : List (List L2.Key × V)} {xs : List (List L2.Key × Addr × Value)}, KT H es ps → KT H g xs → KT H (es.foldl (fun g (e : _ × V) => putK g e.1 e.2) g) (storedAllH xs ps)
  | _, _, g, xs, .nil, r => r
  | _, _, g, xs, .cons (a := e) (b := q) h t, r => by
    show KT H (List.foldl (fun g (e : _ × V) => putK g e.1 e.2) (putK g e.1 e.2) _) (storedAllH (storedH xs q.1 q.2.1 q.2.2) _)
    have := r.put e.1 h.2.1 h.2.2
    rw [← h.1]
    exact KT_all t this
theorem putAll_le {κ : Type} [DecidableEq κ] : ∀ (es g : List (κ × V)), (es.foldl (fun g (e : _ × V) => putK g e.1 e.2) g).length ≤ g.length + es.length
  | [], g => Nat.le_refl _
  | e :: es, g => by
    have h1 := putAll_le es (putK g e.1 e.2)
    have h2 := length_putK g e.1 e.2
    rw [List.foldl_cons, List.length_cons]
    omega
theorem call_dictLT (hcalm : X.calm = true) (hu : X.A.units + 65 < cLine) : CallR X (.type "dict") (rDictLT X.K) := by
  intro pins s σ H xs us Q I r q
  obtain ⟨a, ts, es, ex, hq, hp, q⟩ := q
  subst ex
  obtain ⟨u, eu, rx⟩ := vals1 r
  subst eu
  cases rx
  obtain ⟨its, rv, pl, hz⟩ := I.list hq
  have ei := refs_at rv
  subst ei
  rw [List.length_map] at hz
  obtain ⟨ps, rel, hl, hpr⟩ := pairsT_of I hp
  obtain ⟨o, n, ho, hc, hd, hdat⟩ := pl
  have hT : ∀ (j : Nat) (t : Addr), ts[j]? = some t → (ts[j]?).getD 0 = t := fun j t e => by rw [e]; rfl
  have P := PairArg.list (prog := X.prog) (w := X.w) a (ts.map Value.ref).toArray (fun j => (ts[j]?).getD 0) (ps.map fun q => (Value.ref q.2.1, q.2.2))
  refine call_dict_pairsH (knd := tupleKind (mixKind X.prog X.w)) (ps := ps) P (I.ok.hd hcalm) (tupleKind_room_in1 (by show X.A.units + 1 + _ < _; omega)) ⟨⟨o, n, ho, hc, hd, hdat⟩, by simp [hl], fun j k v e => ?_⟩ ⟨by simp, fun i key v e => ?_⟩ (fun h' hk x hx => ?_) (by rw [List.length_map, hl]; exact hz) fun h' tk hd' k => ?_
  · rw [List.getElem?_map] at e
    obtain ⟨q', e1, e2⟩ := Option.map_eq_some_iff.mp e
    cases e2
    obtain ⟨t, g1, g2⟩ := hpr j q' e1
    have e3 := hT j t g1
    show _ ∧ PairAt s.heap ((ts[j]?).getD 0) _ _
    rw [e3]
    exact ⟨by simp [g1], g2⟩
  · have e : (ps.map fun q => (Value.ref q.2.1, q.2.2))[i]? = some (key, v) := e
    rw [List.getElem?_map] at e
    obtain ⟨q', e1, e2⟩ := Option.map_eq_some_iff.mp e
    cases e2
    exact ⟨_, _, e1, rfl⟩
  · have his : ∀ {es : List (List L2.Key × V)} {ps : List (List L2.Key × Addr × Value)}, KT H es ps → ∀ x ∈ ps, (tupleKind (mixKind X.prog X.w)).is s.heap x.1 x.2.1 := by
      intro es ps r
      induction r with
      | nil => intro x hx; exact nomatch hx
      | @cons p q ps qs h t ih =>
        intro x hx
        rcases List.mem_cons.mp hx with rfl | hx
        · rw [← h.1]; exact key_of I.hok h.2.1
        · exact ih x hx
    exact tupleKind_stays.stays (fun b o' vs n' e _ => hk b o' (Nat.ne_of_lt (Heap.lt_size e)) (fun z => nomatch z) e) (his rel x hx)
  · have hm : (s.heap.objs.size == sysModules) = false := beq_eq_false_iff_ne.mpr (Nat.ne_of_gt I.big)
    have fresh := I.hok.fresh (Nat.le_refl _)
    have hlen : (es.foldl (fun g (e : _ × V) => putK g e.1 e.2) []).length ≤ sizeLine := by
      refine Nat.le_trans (putAll_le es []) ?_
      rw [List.length_nil, Nat.zero_add, rel.length, hl]
      exact hz
    have rel' : KT (upd H s.heap.objs.size (.dT (es.foldl (fun g (e : _ × V) => putK g e.1 e.2) []))) (es.foldl (fun g (e : _ × V) => putK g e.1 e.2) []) (storedAllH [] ps) := (KT_all rel .nil).keeps fun b ys e => by
      rw [upd_ne]
      · exact e
      · intro e2; rw [e2, fresh] at e; exact nomatch e
    obtain ⟨o', es', ep', g1, g2, g3, g4, g5, g6⟩ := hd'
    exact ⟨.ref s.heap.objs.size, upd H s.heap.objs.size (.dT (es.foldl (fun g (e : _ × V) => putK g e.1 e.2) [])), I.laid (t' := tk) (fun b u e => k b u (fun z => nomatch z) e) (Nat.le_refl _)
      (show ObjOk X.prog X.w _ _ _ (.dT (es.foldl (fun g (e : _ × V) => putK g e.1 e.2) [])) from ⟨hlen, hm, _, rel', o', es', ep', g1, g2, g3, g4, g6⟩), rfl, q _ fresh⟩
end
section
variable {K : PySem.W.Frag} {ex : Addr → Prop} {H : Hp} {ρ : List Addr} {st : Store} {Xe : Ex → Hp → List Addr → Store → Prop} {Q : VK}
theorem okRecv_dctC {p : P} (hp : p = .dclr ∨ p = .dpop ∨ p = .dpop1) {d : D} {v : V} (M : Mem K ex H ρ st) (r : Rep K ex H ρ d v) (h : okRecv p d st = true) : tyV K "dict" v H := by
  have h' : okRecv .setd d st = true := by rcases hp with rfl | rfl | rfl <;> exact h
  exact okRecv_dctU M r h'
theorem ok_dclr {d : D} {v : V} (M : Mem K ex H ρ st) (r1 : Rep K ex H ρ d v) (h : PostV K ex H ρ (prim1F .dclr d st) Xe Q) : rDClrT v [] H Q := by
  unfold prim1F at h
  simp only at h
  split at h
  · rename_i n
    obtain ⟨a, ha, rfl⟩ := r1
    split at h
    · rename_i es hs
      obtain ⟨b, kvs, h1, h2, h3⟩ := M.dct hs
      rw [ha] at h1
      cases h1
      refine ⟨a, kvs, rfl, rfl, h2, ?_⟩
      have e : Ext ρ H ρ (upd H a (.dT [])) := Ext.write ha (fun vs => by rw [h2]; simp) (fun ob u => by rw [h2]; simp)
      exact h .non _ ρ e (M.write ha e ⟨[], upd_same, rfl⟩) rfl
    · exact h.elim
  · exact h.elim
theorem RepE.drop {es : List (Pl × D)} {kvs : List (List L2.Key × V)} {p : Pl} : RepE K ex H ρ es kvs → RepE K ex H ρ (ddrop es p) (dropK kvs (kP p)) := by
  intro h
  induction es generalizing kvs with
  | nil => cases h; rfl
  | cons e es ih =>
    obtain ⟨q, d⟩ := e
    obtain ⟨v, r, rfl, rv, rr⟩ := h
    have hk : (kP q ≠ kP p) ↔ q ≠ p := by
      constructor
      · exact fun hn e => hn (by rw [e])
      · intro hn e
        apply hn
        unfold kP at e
        simp only [List.cons.injEq, Sum.inl.injEq, and_true] at e
        exact Prod.ext e.1 e.2
    have := ih rr
    unfold ddrop dropK at this ⊢
    by_cases hq : q = p
    · subst hq
      simpa using this
    · have h2 := hk.mpr hq
      rw [List.filter_cons_of_pos (by simpa using hq), List.filter_cons_of_pos (by simpa using h2)]
      exact ⟨v, _, rfl, rv, this⟩
theorem ok_dpop1 {d e : D} {v u : V} (M : Mem K ex H ρ st) (r1 : Rep K ex H ρ d v) (r2 : Rep K ex H ρ e u) (h : PostV K ex H ρ (prim2F .dpop1 d e st) Xe Q) : rPopT1 v [u] H Q := by
  unfold prim2F at h
  simp only at h
  split at h
  · rename_i n k hk
    obtain ⟨a, ha, rfl⟩ := r1
    obtain ⟨b, rfl, hb⟩ := rep_pl r2 hk
    split at h
    · rename_i es hs
      obtain ⟨a2, kvs, h1, h2, h3⟩ := M.dct hs
      rw [ha] at h1
      cases h1
      rcases h3.val k with ⟨e1, e2⟩ | ⟨x, y, e1, e2, rxy⟩
      · rw [e1] at h
        exact h.elim
      · rw [e1] at h
        simp only at h
        refine ⟨a, kvs, kP k, b, y, rfl, rfl, h2, hb, e2, ?_⟩
        have e : Ext ρ H ρ (upd H a (.dT (dropK kvs (kP k)))) := Ext.write ha (fun vs => by rw [h2]; simp) (fun ob u => by rw [h2]; simp)
        exact h y _ ρ e (M.write ha e ⟨_, upd_same, h3.drop.ext e⟩) (rxy.ext e)
    · exact h.elim
  · exact h.elim
theorem ok_dpop {d e f : D} {v u w : V} (M : Mem K ex H ρ st) (r1 : Rep K ex H ρ d v) (r2 : Rep K ex H ρ e u) (r3 : Rep K ex H ρ f w) (h : PostV K ex H ρ (prim3F .dpop d e f st) Xe Q) : DX.rPopT v [u, w] H Q := by
  unfold prim3F at h
  simp only at h
  split at h
  · rename_i n k hk
    obtain ⟨a, ha, rfl⟩ := r1
    obtain ⟨b, rfl, hb⟩ := rep_pl r2 hk
    split at h
    · rename_i es hs
      obtain ⟨a2, kvs, h1, h2, h3⟩ := M.dct hs
      rw [ha] at h1
      cases h1
      rcases h3.val k with ⟨e1, e2⟩ | ⟨x, y, e1, e2, rxy⟩
      · rw [e1] at h
        simp only at h
        exact ⟨a, kvs, kP k, b, w, rfl, rfl, h2, hb, (fun v hv => by rw [e2] at hv; cases hv), fun _ => h.here M r3⟩
      · rw [e1] at h
        simp only at h
        refine ⟨a, kvs, kP k, b, w, rfl, rfl, h2, hb, fun v hv => ?_, fun hn => by rw [e2] at hn; cases hn⟩
        rw [e2] at hv
        cases hv
        have e : Ext ρ H ρ (upd H a (.dT (dropK kvs (kP k)))) := Ext.write ha (fun vs => by rw [h2]; simp) (fun ob u => by rw [h2]; simp)
        exact h y _ ρ e (M.write ha e ⟨_, upd_same, h3.drop.ext e⟩) (rxy.ext e)
    · exact h.elim
  · exact h.elim
theorem ok_rev {d : D} {v : V} (M : Mem K ex H ρ st) (r1 : Rep K ex H ρ d v) (h : PostV K ex H ρ (prim1F .rev d st) Xe Q) : rReverse v [] H Q := by
  unfold prim1F at h
  simp only at h
  split at h
  · rename_i n
    obtain ⟨a, ha, rfl⟩ := r1
    split at h
    · rename_i xs hs
      obtain ⟨b, vs, h1, h2, h3⟩ := M.lst hs
      rw [ha] at h1
      cases h1
      refine ⟨a, vs, rfl, rfl, h2, ?_⟩
      have e : Ext ρ H ρ (upd H a (.lst vs.reverse)) := Ext.write ha (fun vs => by rw [h2]; simp) (fun ob u => by rw [h2]; simp)
      have rr : ∀ {xs : List D} {vs : List V}, Reps K ex H ρ xs vs → Reps K ex H ρ xs.reverse vs.reverse := by
        intro xs
        induction xs with
        | nil => intro vs h; cases h; exact rfl
        | cons x xs ih =>
          intro vs h
          obtain ⟨v, r, rfl, rv, rr⟩ := h
          rw [List.reverse_cons, List.reverse_cons]
          exact (ih rr).append (Reps.one rv)
      exact h .non _ ρ e (M.write ha e ⟨_, upd_same, (rr h3).ext e⟩) rfl
    · exact h.elim
  · exact h.elim
theorem reps_pairs : ∀ {xs : List D} {es : List (Pl × D)} {vs : List V}, pairsOf xs = some es → Reps K ex H ρ xs vs → ∃ (ts : List Addr) (ks : List (List L2.Key × V)), vs = ts.map V.ref ∧
    Paired (fun t e => ∃ b, H t = some (.tup [.ref b, e.2]) ∧ H b = some (.tup (e.1.map kV))) ts ks ∧ ∀ {g : List (Pl × D)} {k : List (List L2.Key × V)}, RepE K ex H ρ g k → RepE K ex H ρ (es.foldl (fun g e => dput g e.1 e.2) g) (ks.foldl (fun g (e : _ × V) => putK g e.1 e.2) k)
  | [], es, vs, h, r => by
    rw [pairsOf] at h
    cases h
    cases r
    exact ⟨[], [], rfl, .nil, fun h => h⟩
  | x :: xs, es, vs, h, r => by
    obtain ⟨v, r', rfl, rv, rr⟩ := r
    cases x with
    | tup ys =>
      match ys with
      | [p, d] =>
        rw [pairsOf] at h
        cases hp : plOf p with
        | none => rw [hp] at h; simp at h
        | some k =>
          cases hx : pairsOf xs with
          | none => rw [hp, hx] at h; simp at h
          | some es' =>
            rw [hp, hx] at h
            simp only [Option.some.injEq] at h
            subst h
            obtain ⟨ts, ks, rfl, h2, h3⟩ := reps_pairs hx rr
            obtain ⟨t, us, rfl, ht, ru⟩ := rv
            obtain ⟨u1, w1, rfl, rp, ru2⟩ := ru
            obtain ⟨u2, w2, rfl, rd, ru3⟩ := ru2
            cases ru3
            obtain ⟨b, rfl, hb⟩ := rep_pl rp hp
            refine ⟨t :: ts, (kP k, u2) :: ks, rfl, .cons ⟨b, ?_, hb⟩ h2, fun hg => ?_⟩
            · rcases ht with ht | ⟨ht, _⟩
              · exact ht
              · simp at ht
            · exact h3 (hg.put rd)
      | [] => simp [pairsOf] at h
      | [_] => simp [pairsOf] at h
      | _ :: _ :: _ :: _ => simp [pairsOf] at h
    | _ => simp [pairsOf] at h
theorem ok_dictL (m : Bool) : P1 K (.dictL m) (rDictLT K) := by
  intro ex H ρ st d v Xe Q M r h
  unfold prim1F at h
  simp only at h
  split at h
  · rename_i xs hx
    split at h
    · rename_i es he
      obtain ⟨a, vs, rfl, hq, rs⟩ := rep_lst M r hx
      obtain ⟨ts, ks, rfl, h2, h3⟩ := reps_pairs he rs
      exact ⟨a, ts, ks, rfl, hq, h2, fun p hp => h.newD M (h3 (g := []) (k := []) rfl) p hp⟩
    · exact h.elim
  · exact h.elim
theorem lower1 : ∀ c : Nat, 65 ≤ c → c ≤ 90 → Txt.lower ⟨#[c]⟩ = (⟨#[c + 32]⟩ : Str) := by
  have : (List.range 26).all (fun i => decide (Txt.lower ⟨#[65 + i]⟩ = (⟨#[65 + i + 32]⟩ : Str))) = true := by decide +kernel
  intro c h1 h2
  have h := List.all_eq_true.mp this (c - 65) (List.mem_range.mpr (by omega))
  rw [decide_eq_true_eq, show 65 + (c - 65) = c by omega] at h
  exact h
theorem spl_T (c : Nat) : ∀ (s acc : List Nat), TL.spl [c] 0 acc s = match splT c s with
    | [] => [acc]
    | h :: t => (acc ++ h) :: t
  | [], acc => by simp [TL.spl, splT]
  | x :: r, acc => by
    have ih := spl_T c r
    have hp : TL.pre [c] (x :: r) = decide (x = c) := by
      unfold TL.pre
      by_cases h : x = c <;> simp [h]
    rw [TL.spl, hp, splT]
    by_cases h : x = c
    · rw [decide_eq_true h, if_pos rfl, if_pos h]
      simp only [List.length_cons, List.length_nil, Nat.zero_add, Nat.sub_self, List.append_nil]
      rw [ih []]
      cases hs : splT c r with
      | nil => cases r with
        | nil => simp [splT] at hs
        | cons y r =>
          rw [splT] at hs
          split at hs
          · cases hs
          · split at hs <;> cases hs
      | cons a b => simp
    · rw [decide_eq_false h, if_neg (by decide), if_neg h, ih]
      cases splT c r with
      | nil => rfl
      | cons a b => simp
theorem splT_ne (c : Nat) (s : Tx) : splT c s ≠ [] := by
  cases s with
  | nil => simp [splT]
  | cons x r =>
    rw [splT]
    split
    · simp
    · split <;> simp
theorem txOk_spl (c : Nat) : ∀ (s : Tx), txOk s → ∀ t ∈ splT c s, txOk t
  | [], _, t, ht => by
    simp [splT] at ht
    subst ht
    intro c hc
    cases hc
  | x :: r, h, t, ht => by
    have ih := txOk_spl c r fun y hy => h y (by simp [hy])
    rw [splT] at ht
    split at ht
    · rcases List.mem_cons.mp ht with rfl | ht
      · intro c hc
        cases hc
      · exact ih t ht
    · split at ht
      · simp at ht
        subst ht
        intro c hc
        simp at hc
        exact h c (by simp [hc])
      · rename_i a b hab
        rcases List.mem_cons.mp ht with rfl | ht
        · intro c hc
          rcases List.mem_cons.mp hc with rfl | hc
          · exact h _ (by simp)
          · exact ih a (by rw [hab]; simp) c hc
        · exact ih t (by rw [hab]; simp [ht])
theorem split_T {s : Tx} {c : Nat} (hc : c < 256) : Txt.split (strOf s) (strOf [c]) = (splT c s).map strOf := by
  have h := TL.split_spl (strOf s) (strOf [c]) (by simp [strOf, TL.tl]) (TL.kind_ok (by simp [strOf, hc]))
  have e1 : TL.tl (strOf [c]) = [c] := rfl
  have e2 : TL.tl (strOf s) = s := by simp [TL.tl, strOf]
  rw [e1, e2, spl_T] at h
  have h2 : (Txt.split (strOf s) (strOf [c])).map TL.tl = splT c s := by
    rw [h]
    cases hs : splT c s with
    | nil => exact absurd hs (splT_ne c s)
    | cons a b => simp
  rw [← h2, List.map_map]
  have : (strOf ∘ TL.tl) = id := funext fun x => TL.mk_tl x
  rw [this, List.map_id]
theorem reps_txsOf {ex : Addr → Prop} {H : Hp} {ρ : List Addr} : ∀ (zs : List Tx), (∀ z ∈ zs, txOk z) → Reps K ex H ρ (zs.map D.str) ((zs.map strOf).map V.str)
  | [], _ => rfl
  | z :: zs, h => ⟨_, _, rfl, ⟨rfl, h z List.mem_cons_self⟩, reps_txsOf zs fun y hy => h y (List.mem_cons_of_mem _ hy)⟩
def rSplitM : V → List V → Hp → VK → Prop := fun x xs H Q => ∃ a b : Str, x = .str a ∧ xs = [.str b] ∧ (b.length == 0) = false ∧ a.length + 2 ≤ PySem.sizeLine ∧ rNewStrs (Txt.split a b) H Q
theorem ok_split {m : Bool} {d e : D} {v u : V} (M : Mem K ex H ρ st) (r1 : Rep K ex H ρ d v) (r2 : Rep K ex H ρ e u) (h : PostV K ex H ρ (prim2F (.split m) d e st) Xe Q) : rSplitM v [u] H Q := by
  unfold prim2F at h
  simp only at h
  split at h
  · rename_i s t
    obtain ⟨rfl, hs⟩ := r1
    obtain ⟨rfl, ht⟩ := r2
    split at h
    · rename_i c
      split at h
      · rename_i hc
        refine ⟨_, _, rfl, rfl, rfl, by rw [strOf_len]; exact hc.2, fun p hp => ?_⟩
        rw [split_T hc.1]
        exact h.newL M (reps_txsOf _ (txOk_spl c s hs)) p hp
      · exact h.elim
    · exact h.elim
  · exact h.elim
theorem okRecv_split {m : Bool} {d : D} {v : V} (M : Mem K ex H ρ st) (r : Rep K ex H ρ d v) (h : okRecv (.split m) d st = true) : ∃ s, d = .str s ∧ v = .str (strOf s) ∧ txOk s := by
  cases d with
  | str s => exact ⟨s, rfl, r.1, r.2⟩
  | _ => simp [okRecv] at h
def rLowerM : V → List V → Hp → VK → Prop := fun x xs H Q => ∃ a : Str, x = .str a ∧ xs = [] ∧ a.length ≤ 5592405 ∧ Q (.str (Txt.lower a)) H
theorem okRecv_str {p : P} (hp : p = .lower ∨ p = .sidx) {d : D} {v : V} (M : Mem K ex H ρ st) (r : Rep K ex H ρ d v) (h : okRecv p d st = true) : ∃ s, d = .str s ∧ v = .str (strOf s) ∧ txOk s := by
  cases d with
  | str s => exact ⟨s, rfl, r.1, r.2⟩
  | _ => rcases hp with rfl | rfl <;> simp [okRecv] at h
theorem ok_lower {d : D} {v : V} (M : Mem K ex H ρ st) (r1 : Rep K ex H ρ d v) (h : PostV K ex H ρ (prim1F .lower d st) Xe Q) : rLowerM v [] H Q := by
  unfold prim1F at h
  simp only at h
  split at h
  · rename_i c
    obtain ⟨rfl, hc⟩ := r1
    split at h
    · rename_i hk
      refine ⟨_, rfl, rfl, by rw [strOf_len]; simp, ?_⟩
      rw [show strOf [c] = ⟨#[c]⟩ from rfl, lower1 c hk.1 hk.2]
      exact h.here M ⟨rfl, fun x hx => by rw [List.mem_singleton.mp hx]; omega⟩
    · exact h.elim
  · exact h.elim
def rSidxM : V → List V → Hp → VK → Prop := fun x xs H Q => ∃ (a b : Str) (i : Nat) (rest : List Nat), x = .str a ∧ xs = [.str b] ∧ Builtin.Str.occurrences a b 0 a.length 1 = i :: rest ∧ Q (.int (i : Nat)) H
theorem ok_sidx {d e : D} {v u : V} (M : Mem K ex H ρ st) (r1 : Rep K ex H ρ d v) (r2 : Rep K ex H ρ e u) (h : PostV K ex H ρ (prim2F .sidx d e st) Xe Q) : rSidxM v [u] H Q := by
  unfold prim2F at h
  simp only at h
  split at h
  · rename_i s t
    obtain ⟨rfl, hs⟩ := r1
    obtain ⟨rfl, ht⟩ := r2
    split at h
    · rename_i hk
      unfold findT at hk h
      split at hk
      · rename_i i rest ho
        rw [ho] at h
        exact ⟨_, _, i, rest, rfl, rfl, by rw [strOf_len]; exact ho, h.here M rfl⟩
      · simp at hk
    · exact h.elim
  · exact h.elim
theorem okRecv_rev {d : D} {v : V} (M : Mem K ex H ρ st) (r : Rep K ex H ρ d v) (h : okRecv .rev d st = true) : tyV K "list" v H := okRecv_lst M r h
theorem okRecv_idx {d : D} {v : V} (M : Mem K ex H ρ st) (r : Rep K ex H ρ d v) (h : okRecv .index d st = true) : tyV K "list" v H := okRecv_lst M r h
theorem eqD_pl0 (a b : Pl) : eqD (plD a) (plD b) = decide (a = b) := by
  have : eqD (plD a) (plD b) = (decide (a.1 = b.1) && decide (a.2 = b.2)) := by
    simp [plD, eqD, eqDs]
    rfl
  rw [this, ← Bool.decide_and]
  exact decide_eq_decide.mpr ⟨fun h => Prod.ext h.1 h.2, fun h => by rw [h]; exact ⟨rfl, rfl⟩⟩
theorem eqv_pls2 (p q : Pl) : PyData.eqv (py (plD p)) (py (plD q)) = decide (p = q) := by
  rw [eqv_py _ _ rfl rfl, eqD_pl0]
theorem pys_map : ∀ xs : List D, pys xs = xs.map py
  | [] => by simp [pys]
  | x :: xs => by simp [pys, pys_map xs]
theorem cmps_pls0 : ∀ ps : List Pl, cmpDs (ps.map plD) = true
  | [] => rfl
  | p :: ps => by simp [plD, cmpDs, cmpD]; exact cmps_pls0 ps
theorem deps_pls0 : ∀ ps : List Pl, deps (ps.map plD) ≤ 1
  | [] => by simp [deps]
  | p :: ps => by
    have := deps_pls0 ps
    simp only [List.map_cons, deps, plD, dep] at this ⊢
    omega
theorem txsOf_eqI : ∀ {xs : List D} {ts : List Tx}, txsOf xs = some ts → xs = ts.map .str
  | [], ts, h => by simp [txsOf] at h; subst h; rfl
  | .str i :: xs, ts, h => by
    rw [txsOf] at h
    obtain ⟨r, h1, rfl⟩ := Option.map_eq_some_iff.mp h
    rw [txsOf_eqI h1]; rfl
  | .non :: _, _, h => by simp [txsOf] at h
  | .bl _ :: _, _, h => by simp [txsOf] at h
  | .int _ :: _, _, h => by simp [txsOf] at h
  | .tup _ :: _, _, h => by simp [txsOf] at h
  | .lst _ :: _, _, h => by simp [txsOf] at h
  | .dct _ :: _, _, h => by simp [txsOf] at h
  | .scr _ :: _, _, h => by simp [txsOf] at h
  | .exc _ _ :: _, _, h => by simp [txsOf] at h
  | .ref _ :: _, _, h => by simp [txsOf] at h
theorem cmps_txs0 : ∀ ts : List Tx, cmpDs (ts.map D.str) = true
  | [] => rfl
  | p :: ps => by simp [cmpDs, cmpD]; exact cmps_txs0 ps
theorem deps_txs0 : ∀ ts : List Tx, deps (ts.map D.str) ≤ 1
  | [] => by simp [deps]
  | p :: ps => by
    have := deps_txs0 ps
    simp only [List.map_cons, deps, dep] at this ⊢
    omega
theorem ok_index {d e : D} {v u : V} (M : Mem K ex H ρ st) (r1 : Rep K ex H ρ d v) (r2 : Rep K ex H ρ e u) (h : PostV K ex H ρ (prim2F .index d e st) Xe Q) : rIndexD K v [u] H Q := by
  unfold prim2F at h
  simp only at h
  split at h
  · rename_i xs p hx hp
    split at h
    · rename_i ps hps
      split at h
      · rename_i hm
        obtain ⟨a, vs, rfl, hq, rs⟩ := rep_lst M r1 hx
        rw [plsOf_eq hps] at rs
        rw [plOf_eq hp] at r2
        have q1 := rep_dps (cmps_pls0 ps) rs
        have q2 := rep_dp (d := plD p) rfl r2
        have hcl : (py (.lst (ps.map plD))).canLay0 = true := by simp only [py, PyData.canLay0]; exact q1.2
        have hsh := shaped_py (d := .lst (ps.map plD)) (by simp [cmpD, cmps_pls0]) hcl (by have := deps_pls0 ps; simp only [dep]; omega)
        have epy : py (.lst (ps.map plD)) = .list (ps.map fun x => py (plD x)) := by simp [py, pys_map, List.map_map, Function.comp_def]
        have hlt := List.idxOf_lt_length_of_mem hm
        rw [epy] at hsh
        refine ⟨a, u, py (plD p), ps.map (fun x => py (plD x)), ps.idxOf p, py (plD p), rfl, rfl, ?_, q2.1, hsh, shaped_py (d := plD p) rfl q2.2 (by simp [plD, dep, deps]), ?_, ?_, fun m z' hml hz => ?_, h.here M rfl⟩
        · rw [← show pys (ps.map plD) = ps.map (fun x => py (plD x)) by rw [pys_map, List.map_map]; rfl]
          exact .lst hq q1.1
        · rw [List.getElem?_map, List.getElem?_eq_getElem hlt, List.getElem_idxOf]
          rfl
        · rw [eqv_pls2]; simp
        · rw [List.getElem?_map] at hz
          obtain ⟨y, hy, rfl⟩ := Option.map_eq_some_iff.mp hz
          rw [eqv_pls2]
          refine decide_eq_false fun e => ?_
          subst e
          obtain ⟨hlm, e2⟩ := List.getElem?_eq_some_iff.mp hy
          have := List.not_of_lt_findIdx (p := (· == y)) (xs := ps) (i := m) hml
          simp [e2] at this
      · exact h.elim
    · exact h.elim
  · rename_i xs hx hp
    split at h
    · rename_i t
      split at h
      · rename_i ts hts
        split at h
        · rename_i hm
          obtain ⟨a, vs, rfl, hq, rs⟩ := rep_lst M r1 hx
          rw [txsOf_eqI hts] at rs
          have q1 := rep_dps (cmps_txs0 ts) rs
          have q2 := rep_dp (d := .str t) rfl r2
          have hcl : (py (.lst (ts.map .str))).canLay0 = true := by simp only [py, PyData.canLay0]; exact q1.2
          have hsh := shaped_py (d := .lst (ts.map .str)) (by simp [cmpD, cmps_txs0]) hcl (by have := deps_txs0 ts; simp only [dep]; omega)
          have epy : py (.lst (ts.map .str)) = .list (ts.map fun x => py (.str x)) := by simp [py, pys_map, List.map_map, Function.comp_def]
          have hlt := List.idxOf_lt_length_of_mem hm
          rw [epy] at hsh
          refine ⟨a, u, py (.str t), ts.map (fun x => py (.str x)), ts.idxOf t, py (.str t), rfl, rfl, ?_, q2.1, hsh, shaped_py (d := .str t) rfl q2.2 (by simp [dep]), ?_, ?_, fun m z' hml hz => ?_, h.here M rfl⟩
          · rw [← show pys (ts.map D.str) = ts.map (fun x => py (.str x)) by rw [pys_map, List.map_map]; rfl]
            exact .lst hq q1.1
          · rw [List.getElem?_map, List.getElem?_eq_getElem hlt, List.getElem_idxOf]
            rfl
          · rw [eqv_py _ _ rfl rfl]; simp [eqD]
          · rw [List.getElem?_map] at hz
            obtain ⟨y, hy, rfl⟩ := Option.map_eq_some_iff.mp hz
            rw [eqv_py _ _ rfl rfl]
            show (y == t) = false
            refine beq_eq_false_iff_ne.mpr fun e => ?_
            subst e
            obtain ⟨hlm, e2⟩ := List.getElem?_eq_some_iff.mp hy
            have := List.not_of_lt_findIdx (p := (· == y)) (xs := ts) (i := m) hml
            simp [e2] at this
        · exact h.elim
      · exact h.elim
    · exact h.elim
  · exact h.elim
end
end MP
end
section
set_option maxRecDepth 100000
namespace MPG
open PySem PySem.Spec PyProof.Rows L2

def Msk (m : Nat) : Prop := ∃ k, (k = 3 ∨ k = 5 ∨ k = 7 ∨ k = 9 ∨ k = 11 ∨ k = 13) ∧ m + 1 = 2 ^ k
theorem Msk.six {m : Nat} (h : Msk m) : m = 7 ∨ m = 31 ∨ m = 127 ∨ m = 511 ∨ m = 2047 ∨ m = 8191 := by
  obtain ⟨k, rfl | rfl | rfl | rfl | rfl | rfl, e⟩ := h <;> omega

def xs5 : Nat → Nat
  | 0 => 0
  | n + 1 => 5 * xs5 n + 1
theorem xs5_add (a b : Nat) : xs5 (a + b) = xs5 a + 5 ^ a * xs5 b := by
  induction a with
  | zero => simp [xs5]
  | succ a ih =>
    rw [Nat.succ_add]
    show 5 * xs5 (a + b) + 1 = 5 * xs5 a + 1 + 5 ^ (a + 1) * xs5 b
    rw [ih, Nat.pow_succ, Nat.mul_add, ← Nat.mul_assoc 5, Nat.mul_comm 5 (5 ^ a)]
    omega
theorem xs5_four (n : Nat) : 5 ^ n = 4 * xs5 n + 1 := by
  induction n with
  | zero => rfl
  | succ n ih =>
    rw [Nat.pow_succ, ih]
    show _ = 4 * (5 * xs5 n + 1) + 1
    omega
theorem xs5_dbl (e : Nat) : xs5 (e + e) = 2 * (xs5 e * (1 + 2 * xs5 e)) := by
  rw [xs5_add, xs5_four, Nat.mul_add, Nat.mul_one, Nat.add_mul, Nat.one_mul]
  have : xs5 e * (2 * xs5 e) = 2 * (xs5 e * xs5 e) := by rw [← Nat.mul_assoc, Nat.mul_comm (xs5 e) 2, Nat.mul_assoc]
  have h2 : 4 * xs5 e * xs5 e = 4 * (xs5 e * xs5 e) := Nat.mul_assoc ..
  rw [this, h2]
  omega
theorem odd_cop {n : Nat} (h : n % 2 = 1) (k : Nat) : Nat.Coprime (2 ^ k) n := by
  apply Nat.Coprime.pow_left
  rw [Nat.coprime_iff_gcd_eq_one, Nat.gcd_rec, h]
  simp
theorem xs5_odd (e : Nat) : xs5 (e + e + 1) % 2 = 1 := by
  show (5 * xs5 (e + e) + 1) % 2 = 1
  rw [xs5_dbl]
  omega
theorem xs5_dvd : ∀ (k d : Nat), 2 ^ k ∣ xs5 d → 2 ^ k ∣ d
  | 0, d, _ => by simp
  | k + 1, d, h => by
    have h2 : 2 ∣ xs5 d := Nat.dvd_trans ⟨2 ^ k, by rw [Nat.pow_succ, Nat.mul_comm]⟩ h
    obtain ⟨e, he⟩ : ∃ e, d = e + e ∨ d = e + e + 1 := ⟨d / 2, by omega⟩
    rcases he with rfl | rfl
    · rw [xs5_dbl, Nat.pow_succ, Nat.mul_comm (2 ^ k) 2] at h
      have h3 := Nat.dvd_of_mul_dvd_mul_left (by omega) h
      have h4 : 2 ^ k ∣ xs5 e := (odd_cop (n := 1 + 2 * xs5 e) (by omega) k).dvd_of_dvd_mul_right h3
      have h5 := xs5_dvd k e h4
      rw [Nat.pow_succ, show e + e = e * 2 by omega]
      exact Nat.mul_dvd_mul_right h5 2
    · have := xs5_odd e
      omega
theorem lcgI_form (m i : Nat) : ∀ k, lcgI m i k % (m + 1) = (5 ^ k * i + xs5 k) % (m + 1)
  | 0 => by simp [lcgI, xs5]
  | k + 1 => by
    show (lcgI m i k * 5 + 1) % (m + 1) % (m + 1) = (5 ^ (k + 1) * i + (5 * xs5 k + 1)) % (m + 1)
    rw [Nat.mod_mod, Nat.add_mod, Nat.mul_mod, lcgI_form m i k, ← Nat.mul_mod, ← Nat.add_mod, Nat.pow_succ]
    congr 1
    rw [Nat.add_mul, Nat.mul_right_comm, Nat.mul_comm (xs5 k) 5, Nat.add_assoc]
theorem lcgI_inj {m : Nat} (hm : Msk m) {i a b : Nat} (ha : a ≤ m) (hb : b < a) : lcgI m i a ≠ lcgI m i b := by
  intro e
  obtain ⟨k, _, hk⟩ := hm
  have e1 := congrArg (· % (m + 1)) e
  simp only [lcgI_form] at e1
  obtain ⟨d, rfl⟩ : ∃ d, a = b + d := ⟨a - b, by omega⟩
  have e2 : 5 ^ (b + d) * i + xs5 (b + d) = (5 ^ b * i + xs5 b) + 5 ^ b * ((4 * i + 1) * xs5 d) := by
    rw [xs5_add, Nat.pow_add, xs5_four d]
    have : 5 ^ b * (4 * xs5 d + 1) * i = 5 ^ b * i + 5 ^ b * (4 * i * xs5 d) := by
      rw [Nat.mul_assoc, ← Nat.mul_add]
      congr 1
      rw [Nat.add_mul, Nat.one_mul, Nat.mul_assoc, Nat.mul_comm (xs5 d) i, Nat.mul_assoc]
      omega
    rw [this, Nat.add_mul, Nat.one_mul, Nat.mul_add]
    omega
  rw [e2] at e1
  have e3 : (m + 1) ∣ 5 ^ b * ((4 * i + 1) * xs5 d) := by
    have := Nat.sub_mod_eq_zero_of_mod_eq e1
    rw [Nat.add_sub_cancel_left] at this
    exact Nat.dvd_of_mod_eq_zero this
  rw [hk] at e3
  have h5 : (5 ^ b) % 2 = 1 := by rw [xs5_four]; omega
  have e4 := (odd_cop h5 k).dvd_of_dvd_mul_left e3
  have e5 := (odd_cop (n := 4 * i + 1) (by omega) k).dvd_of_dvd_mul_left e4
  have e6 := xs5_dvd k d e5
  have := Nat.le_of_dvd (by omega) e6
  omega
theorem lcgI_meets {m : Nat} (hm : Msk m) {i j : Nat} (hi : i ≤ m) (hj : j ≤ m) : ∃ k, k ≤ m ∧ lcgI m i k = j := by
  have hlt : ∀ k, lcgI m i k ≤ m := fun k => by
    cases k with
    | zero => exact hi
    | succ k => exact Nat.le_of_lt_succ (Nat.mod_lt _ (Nat.succ_pos _))
  rcases Classical.em (∃ k, k ≤ m ∧ lcgI m i k = j) with c | c
  · exact c
  · exfalso
    have nd : ((List.range (m + 1)).map (lcgI m i)).Nodup := by
      rw [List.nodup_iff_pairwise_ne, List.pairwise_map]
      refine List.Pairwise.imp_of_mem (fun {a b} ha hb hab => ?_) List.pairwise_lt_range
      exact (lcgI_inj hm (Nat.le_of_lt_succ (List.mem_range.mp hb)) hab).symm
    have q := nat_nodup_len _ ((List.range (m + 1)).erase j) nd fun x hx => by
      obtain ⟨k, hk, rfl⟩ := List.mem_map.mp hx
      refine (List.mem_erase_of_ne fun z => c ⟨k, Nat.le_of_lt_succ (List.mem_range.mp hk), z⟩).2 ?_
      exact List.mem_range.mpr (Nat.lt_succ_of_le (hlt k))
    have e : ((List.range (m + 1)).erase j).length = m := by
      rw [List.length_erase_of_mem (List.mem_range.mpr (Nat.lt_succ_of_le hj)), List.length_range]; rfl
    rw [List.length_map, List.length_range, e] at q
    omega
theorem runs_meet {m : Nat} (hm : Msk m) (h : Int) {j : Nat} (hj : j ≤ m) : ∃ n, n ≤ m + 12 ∧ runI m (SetTable.bits h) n = j := by
  obtain ⟨k, a, b⟩ := lcgI_meets hm (runI_le m (SetTable.bits h) 12) hj
  exact ⟨12 + k, by omega, (runI_tail (bits_lt h) k).trans b⟩
theorem way_meets {m : Nat} (hm : Msk m) (h : Int) {j : Nat} (hj : j ≤ m) : ∃ k, k < 10 * SetTable.turns m ∧ way m h k = j := by
  obtain ⟨n, a, b⟩ := runs_meet hm h hj
  obtain ⟨k, c, d⟩ := run_nth m (SetTable.bits h) n
  refine ⟨k, by simp only [SetTable.turns]; omega, ?_⟩
  show SetTable.Probe.j _ = j
  rw [d, ← b]; rfl
theorem way_bd {m : Nat} (h : Int) (k : Nat) : way m h k ≤ m := by
  have b := runEnd_bd (m := m) (i := SetTable.bits h % (m + 1)) (Nat.le_of_lt_succ (Nat.mod_lt _ (Nat.succ_pos m)))
  have q := nth_in k (runAt m (SetTable.bits h % (m + 1)) (SetTable.bits h)) (m := m) (by simp only [runAt]; omega)
  show SetTable.Probe.j _ ≤ m
  omega
theorem way_first {m : Nat} (hm : Msk m) (h : Int) (p : Nat → Prop) {j : Nat} (hj : j ≤ m) (hp : p j) : ∃ K, K < 10 * SetTable.turns m ∧ p (way m h K) ∧ ∀ k, k < K → ¬ p (way m h k) := by
  obtain ⟨k, a, b⟩ := way_meets hm h hj
  obtain ⟨K, c, d, e⟩ := st_least (p := fun k => p (way m h k)) k (b ▸ hp)
  exact ⟨K, Nat.lt_of_le_of_lt c a, d, e⟩

structure Tb (t : SetTable) (hs : List Int) : Prop where
  up : Ris t.place.toList
  nod : t.dummies = #[]
  len : t.place.size = hs.length
  msk : Msk t.mask
  top : ∀ x ∈ t.place.toList, x ≤ t.mask
  rch : ∀ (i : Nat) (h : Int) (j : Nat), hs[i]? = some h → t.place.toList[i]? = some j → ∃ k, way t.mask h k = j ∧ ∀ k', k' < k → way t.mask h k' ∈ t.place.toList
theorem Tb.room {t : SetTable} {hs : List Int} (T : Tb t hs) (hl : hs.length ≤ t.mask) (h : Int) :
    ∃ K, K < 10 * SetTable.turns t.mask ∧ way t.mask h K ∉ t.place.toList ∧ ∀ k, k < K → way t.mask h k ∈ t.place.toList := by
  obtain ⟨j, a, b⟩ := st_missing t.place.toList (t.mask + 1) (by rw [Array.length_toList, T.len]; omega)
  obtain ⟨K, c, d, e⟩ := way_first T.msk h (fun j => j ∉ t.place.toList) (Nat.le_of_lt_succ a) b
  exact ⟨K, c, d, fun k hk => Classical.not_not.mp (e k hk)⟩
theorem Tb.ahead {t : SetTable} {hs : List Int} (T : Tb t hs) {h : Int} {K i j : Nat} (hK : way t.mask h K ∉ t.place.toList) (hi : hs[i]? = some h) (hj : t.place.toList[i]? = some j) : ∃ k, k < K ∧ way t.mask h k = j := by
  obtain ⟨k, a, b⟩ := T.rch i h j hi hj
  rcases Nat.lt_or_ge k K with c | c
  · exact ⟨k, c, a⟩
  · exfalso
    rcases Nat.lt_or_eq_of_le c with d | d
    · exact hK (b K d)
    · exact hK (by rw [d, a]; exact List.mem_of_getElem? hj)
theorem Tb.add {t : SetTable} {hs : List Int} (T : Tb t hs) {h : Int} {K : Nat} (hK : way t.mask h K ∉ t.place.toList) (hb : ∀ k, k < K → way t.mask h k ∈ t.place.toList) {j p : Nat} (ej : way t.mask h K = j) (ep : SetTable.below t.place j = p) :
    (t.put j).2 = p ∧ p ≤ hs.length ∧ Tb (t.put j).1 (hs.take p ++ h :: hs.drop p) ∧ (t.put j).1.mask = t.mask ∧ (t.put j).1.led = t.led ∧ (t.put j).1.plain = t.plain ∧ (t.put j).1.fill = hs.length + 1 := by
  have cut := (below_cut T.up j).1
  have lp : t.place.toList.length = hs.length := by rw [Array.length_toList, T.len]
  have pl : p ≤ t.place.toList.length := by rw [← ep, Array.length_toList]; exact cut
  have ph : p ≤ hs.length := lp ▸ pl
  have pp : (t.put j).1.place.toList = t.place.toList.take p ++ j :: t.place.toList.drop p := by rw [← ep]; exact put_place t j
  have mem : ∀ x, x ∈ (t.put j).1.place.toList ↔ x = j ∨ x ∈ t.place.toList := fun x => by rw [pp]; exact mem_ins
  have sz : (t.put j).1.place.size = hs.length + 1 := by rw [← Array.length_toList, pp, len_ins _ pl, lp]
  refine ⟨ep, ph, ⟨?_, put_dm T.nod j, ?_, T.msk, fun x hx => ?_, fun i h' j' a b => ?_⟩, rfl, rfl, rfl, ?_⟩
  · refine ris_insert T.up fun e => hK ?_
    rw [ej]
    exact List.mem_of_getElem? ((Array.getElem?_toList).trans e)
  · rw [sz, len_ins _ ph]
  · rcases (mem x).1 hx with rfl | z
    · exact ej ▸ way_bd h K
    · exact T.top x z
  · change ∃ k, way t.mask h' k = j' ∧ ∀ k', k' < k → way t.mask h' k' ∈ (t.put j).1.place.toList
    have old : ∀ i', hs[i']? = some h' → t.place.toList[i']? = some j' → ∃ k, way t.mask h' k = j' ∧ ∀ k', k' < k → way t.mask h' k' ∈ (t.put j).1.place.toList := fun i' a b => by
      obtain ⟨k, c, d⟩ := T.rch i' h' j' a b
      exact ⟨k, c, fun k' l => (mem _).2 (.inr (d k' l))⟩
    rw [tins_get hs ph] at a
    rw [pp, tins_get _ pl] at b
    split at a
    · rename_i c
      rw [if_pos c] at b
      exact old i a b
    · rename_i c
      rw [if_neg c] at b
      split at a
      · rename_i d
        rw [if_pos d] at b
        cases a
        cases b
        exact ⟨K, ej, fun k' l => (mem _).2 (.inr (hb k' l))⟩
      · rename_i d
        rw [if_neg d] at b
        exact old (i - 1) a b
  · show (t.put j).1.place.size + (t.put j).1.dummies.size = _
    rw [sz, put_dm T.nod j]; rfl

theorem free_at {m : Nat} (hm : Msk m) (ow : Array (Option Nat)) (h : Int) {j : Nat} (hj : j ≤ m) (hf : oAt ow j = none) :
    ∃ K, SetTable.layClean.free m ow (SetTable.turns m) (SetTable.bits h % (m + 1)) (SetTable.bits h) = some (way m h K) ∧ oAt ow (way m h K) = none ∧ ∀ k, k < K → oAt ow (way m h k) ≠ none := by
  obtain ⟨n, a, b⟩ := runs_meet hm h hj
  have w0 : way m h (off m (SetTable.bits h % (m + 1)) (SetTable.bits h) n) = j := by
    show SetTable.Probe.j _ = j
    rw [nth_off, itL_run, ← b]; rfl
  obtain ⟨K, c, d, e⟩ := st_least (p := fun k => oAt ow (way m h k) = none) _ (show oAt ow (way m h (off m (SetTable.bits h % (m + 1)) (SetTable.bits h) n)) = none by rw [w0]; exact hf)
  refine ⟨K, free_spec m ow _ n _ _ K (by simp only [SetTable.turns]; omega) c (fun k l => ?_) ?_, d, e⟩
  · exact Option.isNone_eq_false_iff.mpr (Option.isSome_iff_ne_none.mpr (e k l))
  · exact Option.isNone_iff_eq_none.mpr d
theorem own_more {m : Nat} (hm : Msk m) {done : List Int} {ow : Array (Option Nat)} (W : Own m done ow) (hl : done.length ≤ m) (h : Int) :
    ∃ j, SetTable.layClean.free m ow (SetTable.turns m) (SetTable.bits h % (m + 1)) (SetTable.bits h) = some j ∧ Own m (done ++ [h]) (ow.setIfInBounds j (some done.length)) := by
  obtain ⟨ps, a, b⟩ := W.ps
  obtain ⟨j0, c, d⟩ := st_missing ps (m + 1) (by omega)
  have z0 : oAt ow j0 = none := Classical.byContradiction fun z => d (b j0 (Nat.le_of_lt_succ c) z)
  obtain ⟨K, e, f, g⟩ := free_at hm ow h (Nat.le_of_lt_succ c) z0
  generalize hj : way m h K = j at e f
  have jm : j ≤ m := hj ▸ way_bd h K
  have slf := oAt_set_self (owner := ow) (some done.length) (j := j) (by rw [W.sz]; omega)
  have oth : ∀ i, i ≠ j → oAt (ow.setIfInBounds j (some done.length)) i = oAt ow i := fun i n => oAt_set_ne _ n
  have mon : ∀ i, oAt ow i ≠ none → oAt (ow.setIfInBounds j (some done.length)) i ≠ none := fun i n => by
    by_cases q : i = j
    · subst q; rw [slf]; simp
    · rw [oth i q]; exact n
  refine ⟨j, e, ?_, fun i k im ik => ?_, fun k kl => ?_, j :: ps, ?_, fun i im n => ?_⟩
  · rw [Array.size_setIfInBounds, W.sz]
  · by_cases q : i = j
    · subst q
      rw [slf] at ik
      cases ik
      exact ⟨h, K, by simp, hj, fun k' l => mon _ (g k' l)⟩
    · rw [oth i q] at ik
      obtain ⟨h', K', r, s, u⟩ := W.at_ i k im ik
      exact ⟨h', K', by rw [List.getElem?_append_left (List.getElem?_eq_some_iff.mp r).1]; exact r, s, fun k' l => mon _ (u k' l)⟩
  · rw [List.length_append, List.length_singleton] at kl
    rcases Nat.lt_or_eq_of_le (Nat.le_of_lt_succ kl) with q | q
    · obtain ⟨i, r, s⟩ := W.all k q
      exact ⟨i, r, (oth i fun z => by rw [z, f] at s; cases s).trans s⟩
    · exact ⟨j, jm, q ▸ slf⟩
  · simp [a]
  · by_cases q : i = j
    · exact q ▸ List.mem_cons_self
    · rw [oth i q] at n
      exact List.mem_cons_of_mem _ (b i im n)
theorem own_all {m : Nat} (hm : Msk m) : ∀ (rest done : List Int) (ow : Array (Option Nat)), Own m done ow → done.length + rest.length ≤ m →
    ∃ ow', rest.foldl (stepF m) (some (ow, done.length)) = some (ow', done.length + rest.length) ∧ Own m (done ++ rest) ow'
  | [], done, ow, W, _ => ⟨ow, rfl, (List.append_nil done).symm ▸ W⟩
  | h :: rest, done, ow, W, hl => by
    simp only [List.length_cons] at hl ⊢
    obtain ⟨j, a, b⟩ := own_more hm W (by omega) h
    obtain ⟨ow', c, d⟩ := own_all hm rest _ _ b (by simp; omega)
    rw [List.append_assoc] at d
    refine ⟨ow', ?_, d⟩
    rw [List.foldl_cons, stepF_some a, show done.length + 1 = (done ++ [h]).length by simp, c]
    simp; omega
theorem laid_all {m : Nat} (hm : Msk m) {hs : Array Int} (hn : hs.size ≤ m) : ∃ ow, SetTable.layClean m hs = some ow ∧ Own m hs.toList ow := by
  obtain ⟨ow, a, b⟩ := own_all hm hs.toList [] _ (Own.init m) (by simpa using hn)
  exact ⟨ow, by rw [layClean_eq]; rw [List.length_nil] at a; rw [a]; rfl, by simpa using b⟩
theorem tb_laid (t : SetTable) {hs : Array Int} {wanted M : Nat} (hw : SetTable.sizeAbove wanted - 1 = M) (hM : Msk M) (hn : hs.size ≤ M) :
    ∃ t' order, t.relaid hs wanted = some (t', order) ∧ order.toList.Perm (List.range hs.size) ∧ Tb t' (order.toList.map fun i => hs.getD i 0) ∧ t'.mask = M ∧ t'.led = t.led ∧ t'.plain = t.plain := by
  obtain ⟨ow, e, W⟩ := laid_all hM hn
  have q := ris_live (fun j => ow.getD j none) (List.range (M + 1)) (by unfold Ris; exact List.pairwise_lt_range)
  have r1 : Ris ((liveOf M ow).map (·.1)) := q.1
  have r2 : ∀ x ∈ (liveOf M ow).map (·.1), x ≤ M := fun x hx => Nat.le_of_lt_succ (List.mem_range.mp (q.2 x hx))
  have all : ∀ k, k < hs.size → k ∈ (liveOf M ow).map (·.2) := fun k hk => by
    obtain ⟨j, b1, b2⟩ := W.all k (by simpa using hk)
    exact List.mem_map.mpr ⟨(j, k), (mem_live W.sz).2 ⟨b1, b2⟩, rfl⟩
  have len : (liveOf M ow).length = hs.size := by
    apply Nat.le_antisymm
    · obtain ⟨ps, p1, p2⟩ := W.ps
      have := nat_nodup_len ((liveOf M ow).map (fun x => x.fst)) ps (List.nodup_iff_pairwise_ne.mpr (r1.imp fun h => Nat.ne_of_lt h)) fun x hx => by
        obtain ⟨⟨y, k⟩, hq, rfl⟩ := List.mem_map.mp hx
        obtain ⟨b1, b2⟩ := (mem_live W.sz).1 hq
        exact p2 y b1 (by rw [b2]; simp)
      simpa [p1] using this
    · have := nat_nodup_len (List.range hs.size) ((liveOf M ow).map (·.2)) List.nodup_range fun k hk => all k (List.mem_range.mp hk)
      simpa using this
  refine ⟨tabOf t M ow, ((liveOf M ow).map (·.2)).toArray, by rw [relaid_eq, hw, e]; rfl, perm_range _ _ (by simpa using len) (by simpa using all), ⟨r1, rfl, by simp [tabOf], hM, r2, fun i h j a b => ?_⟩, rfl, rfl, rfl⟩
  simp only [tabOf, List.getElem?_map] at a b
  cases c : (liveOf M ow)[i]? with
  | none => rw [c] at b; cases b
  | some y =>
    obtain ⟨y, k⟩ := y
    rw [c] at a b
    simp only [Option.map_some, Option.some.injEq] at a b
    subst b
    obtain ⟨b1, b2⟩ := (mem_live W.sz).1 (List.mem_of_getElem? c)
    obtain ⟨h0, K, a1, a2, a3⟩ := W.at_ y k b1 b2
    have : h0 = h := by rw [← a, Array.getD_eq_getD_getElem?, ← Array.getElem?_toList, a1]; rfl
    subst this
    refine ⟨K, a2, fun k' l => ?_⟩
    obtain ⟨k2, z⟩ := Option.ne_none_iff_exists'.mp (a3 k' l)
    exact List.mem_map.mpr ⟨(way M h0 k', k2), (mem_live W.sz).2 ⟨way_bd h0 k', z⟩, rfl⟩
end MPG
end
section
set_option maxRecDepth 100000
set_option maxHeartbeats 4000000
namespace MPG
open PySem PySem.Spec PyProof.Rows L2
abbrev Kl := List (Addr × List Int)
structure GS (P : Program) (w : World) (h : Heap) (a : Addr) (L : Kl) (es : Array (Int × Value)) (ep : Nat) (t : SetTable) : Prop where
  obj : ∃ o, h.get? a = some o ∧ o.ExactSet ∧ o.data = .set es ep t
  row : es.toList = rowsOf P w L
  tb : Tb t (L.map fun q => thash P w q.2)
  dis : (L.map (·.2)).Nodup
  tps : ∀ q ∈ L, IsT P w h q.2 q.1
  pln : t.plain = true
  ldd : w.params.followText "set-order" = true ∨ t.led = true
  rm : L.length * 5 < t.mask * 3
  fw : L.length < 4000
section
variable {P : Program} {w : World} {A : Around} {E : Value → Shared → Prop} {s : Shared} {a : Addr} {L : Kl} {es : Array (Int × Value)} {ep : Nat} {t : SetTable}
theorem rows_len (e : es.toList = rowsOf P w L) : es.size = L.length := by simpa [rowsOf] using congrArg List.length e
theorem tb_fits {n : Nat} {hs : List Int} (T : Tb t hs) (hn : hs.length = n) (hl : n ≤ t.mask) : t.fits n = true := by
  have := T.len
  simp [SetTable.fits, SetTable.fill, T.nod]
  omega
theorem GS.sz (R : GS P w s.heap a L es ep t) : es.size = L.length := rows_len R.row
theorem GS.fit (R : GS P w s.heap a L es ep t) : t.fits es.size = true := by
  have := R.rm
  exact tb_fits R.tb (by rw [List.length_map, R.sz]) (by rw [R.sz]; omega)
theorem GS.ent (R : GS P w s.heap a L es ep t) {i : Nat} {q : Addr × List Int} (h : L[i]? = some q) : es[i]? = some (thash P w q.2, Value.ref q.1) := by
  have : es.toList[i]? = some (thash P w q.2, Value.ref q.1) := by rw [R.row]; simp [rowsOf, h]
  simpa using this
theorem GS.gv (R : GS P w s.heap a L es ep t) : ¬ t.gaveWay = true := by
  rcases R.tb.msk.six with e | e | e | e | e | e <;> simp [SetTable.gaveWay, e]
abbrev stp (m : Nat) (h : Int) (c : Nat) : SetTable.Probe := nth m (runAt m (SetTable.bits h % (m + 1)) (SetTable.bits h)) c
theorem stp_dm (m : Nat) (h : Int) (c : Nat) : (stp m h c).dummy = none := by
  have key : ∀ (n : Nat) (p : SetTable.Probe), p.dummy = none → (nth m p n).dummy = none := fun n => by
    induction n with
    | zero => exact fun p e => e
    | succ n ih => exact fun p e => ih _ (by unfold adv; split <;> exact e)
  exact key c _ rfl
theorem stp_add (m : Nat) (h : Int) (c q : Nat) : nth m (stp m h c) q = stp m h (c + q) := (nth_add m c _ q).symm

theorem seek (R : GS P w s.heap a L es ep t) {x : Addr} {k : List Int} (hx : IsT P w s.heap k x) (hu : A.units < cLine) {h : Int} (eh : thash P w k = h) {K : Nat} (lK : K < 10 * SetTable.turns t.mask)
    (nK : way t.mask h K ∉ t.place.toList) (bK : ∀ c, c < K → way t.mask h c ∈ t.place.toList) {Q : SetFound → Shared → Prop}
    (yes : k ∈ L.map (·.2) → Q (.there none) s) (no : k ∉ L.map (·.2) → Q (.free (way t.mask h K) false) s) :
    ∀ (f c : Nat) (stand : Option SetTable.Probe), stand.getD (t.probeStart h) = stp t.mask h c → c ≤ K → K - c < f →
      (∀ (i : Nat) q, L[i]? = some q → q.2 = k → ∃ c', c ≤ c' ∧ c' < K ∧ t.place.toList[i]? = some (way t.mask h c')) →
      wpAny (model P w) A (setSearchFrom a (.ref x) h true f stand) Q E s
  | 0, _, _, _, _, z, _ => absurd z (Nat.not_lt_zero _)
  | f + 1, c, stand, est, lc, lf, re => by
    obtain ⟨o, ho, _, hd⟩ := R.obj
    have jat : ∀ q, (nth t.mask (stp t.mask h c) q).j = way t.mask h (c + q) := fun q => congrArg SetTable.Probe.j (stp_add t.mask h c q)
    have hat : ∀ (i : Nat) q, L[i]? = some q → ((fun i => (es[i]?.map (·.1)).getD 0) i) = thash P w q.2 := fun i q e => by simp only [R.ent e]; rfl
    have spec := go_spec t R.tb.up R.tb.nod (fun i => (es[i]?.map (·.1)).getD 0) h (10 * SetTable.turns t.mask) (K - c) (stp t.mask h c) (stp_dm _ _ _) (by omega)
      (fun q lq => by rw [jat]; exact bK _ (by omega)) (by rw [jat, show c + (K - c) = K by omega]; exact nK)
    rw [setSearchFrom_succ]
    refine wpAny_bind (wpAny_setState_of ho hd R.fit (wp_if_neg R.gv ?_))
    rcases spec with ⟨q, i, lq, hi, hh, hno, hpr⟩ | ⟨hno, hpr⟩
    · rw [jat] at hi
      have pr : t.probe (fun i => (es[i]?.map (·.1)).getD 0) h (stand.getD (t.probeStart h)) = some (.candidate (way t.mask h (c + q)) i (stp t.mask h (c + (q + 1)))) := by
        rw [est, ← jat, ← stp_add]; exact hpr
      rw [pr]
      have il : i < L.length := by
        have h1 := (List.getElem?_eq_some_iff.mp hi).1
        have h2 := R.tb.len
        simp only [List.length_map, Array.length_toList] at h1 h2
        omega
      obtain ⟨p, hp⟩ : ∃ p, L[i]? = some p := ⟨_, List.getElem?_eq_getElem il⟩
      have pm := List.mem_of_getElem? hp
      have live := slot_live R.tb.up hi
      have tail : wpAny (model P w) A (searchRest a (.ref x) h true f es t (way t.mask h (c + q)) i (stp t.mask h (c + (q + 1)))) Q E s := by
        unfold searchRest
        rw [R.ent hp]
        refine wpAny_bind (wpAny_holding (wpAny_eqBool_tuple hu (R.tps p pm) hx (wpAny_bind (wpAny_setState_of ho hd R.fit ?_))))
        by_cases kk : p.2 = k
        · exact wp_if_pos (by simp [kk]) (wpAny_pure (yes (List.mem_map.mpr ⟨p, pm, kk⟩)))
        · refine wp_if_neg (by simp [kk]) ?_
          simp only [sameMem, if_true, live, R.ent hp]
          refine wpAny_bind (wpAny_isSame_ref_self (wpAny_bind (wpAny_pure ?_)))
          simp only [if_true]
          refine wp_if_neg (by simp [kk]) (seek R hx hu eh lK nK bK yes no f (c + (q + 1)) _ rfl (by omega) (by omega) fun i0 p0 h0 k0 => ?_)
          obtain ⟨c', a1, a2, a3⟩ := re i0 p0 h0 k0
          refine ⟨c', ?_, a2, a3⟩
          have ne1 : ¬ c' < c + q := fun z => hno (c' - c) i0 (by omega) (by rw [jat, show c + (c' - c) = c' by omega]; exact a3) ((hat i0 p0 h0).trans (by rw [k0, eh]))
          have ne2 : c' ≠ c + q := fun z => by
            rw [z] at a3
            have l2 := slot_live R.tb.up a3
            rw [live] at l2
            cases l2
            rw [hp] at h0
            cases h0
            exact kk k0
          omega
      by_cases ld : t.led = true
      · exact wp_if_neg (by simp [ld]) tail
      · refine wp_if_pos (by simp [ld]) (wpAny_bind (seen_tup hx (fun y hy => ?_) (wp_if_neg (by decide) tail)))
        obtain ⟨e, he, rfl⟩ := List.mem_map.mp hy
        have : e ∈ rowsOf P w L := by
          rw [← R.row]
          simp only [Array.toList_filter, List.mem_filter] at he
          exact he.1
        obtain ⟨p2, m2, rfl⟩ := List.mem_map.mp this
        exact ⟨p2.2, p2.1, rfl, R.tps p2 m2⟩
    · have pr : t.probe (fun i => (es[i]?.map (·.1)).getD 0) h (stand.getD (t.probeStart h)) = some (.empty (way t.mask h K) none) := by
        have : way t.mask h K = (nth t.mask (stp t.mask h c) (K - c)).j := by rw [jat, show c + (K - c) = K by omega]
        rw [est, this]; exact hpr
      rw [pr]
      refine wpAny_pure (no fun hm => ?_)
      obtain ⟨p0, m0, k0⟩ := List.mem_map.mp hm
      obtain ⟨i0, h0⟩ := List.mem_iff_getElem?.mp m0
      obtain ⟨c', a1, a2, a3⟩ := re i0 p0 h0 k0
      exact hno (c' - c) i0 (by omega) (by rw [jat, show c + (c' - c) = c' by omega]; exact a3) ((hat i0 p0 h0).trans (by rw [k0, eh]))
theorem seek_all (R : GS P w s.heap a L es ep t) {x : Addr} {k : List Int} (hx : IsT P w s.heap k x) (hu : A.units < cLine) {Q : SetFound → Shared → Prop}
    (yes : k ∈ L.map (·.2) → Q (.there none) s)
    (no : ∀ K, k ∉ L.map (·.2) → way t.mask (thash P w k) K ∉ t.place.toList → (∀ c, c < K → way t.mask (thash P w k) c ∈ t.place.toList) → Q (.free (way t.mask (thash P w k) K) false) s) :
    wpAny (model P w) A (setSearch a (.ref x) (thash P w k) true) Q E s := by
  have rm := R.rm
  obtain ⟨K, lK, nK, bK⟩ := R.tb.room (by rw [List.length_map]; omega) (thash P w k)
  have big : K < 100000 := by
    simp only [SetTable.turns] at lK
    rcases R.tb.msk.six with e | e | e | e | e | e <;> omega
  unfold setSearch
  refine seek R hx hu rfl lK nK bK yes (fun z => no K z nK bK) 100000 0 none rfl (by omega) (by omega) fun i q hq k0 => ?_
  have il : i < t.place.toList.length := by
    have h1 := (List.getElem?_eq_some_iff.mp hq).1
    have h2 := R.tb.len
    simp only [List.length_map, Array.length_toList] at h1 h2 ⊢
    omega
  have hj := List.getElem?_eq_getElem il
  obtain ⟨c, a1, a2⟩ := R.tb.ahead nK (i := i) (by rw [List.getElem?_map, hq, ← k0]; rfl) hj
  exact ⟨c, Nat.zero_le _, a1, hj.trans (congrArg some a2.symm)⟩

theorem relay {o : Obj} (ho : s.heap.get? a = some o) (hex : o.ExactSet) (hd : o.data = .set es ep t) (row : es.toList = rowsOf P w L) {hs : List Int} (T : Tb t hs) (eT : hs.length = L.length) (fl : L.length ≤ t.mask)
    (dis : (L.map (·.2)).Nodup) (tps : ∀ q ∈ L, IsT P w s.heap q.2 q.1) (pl : t.plain = true) (ld : w.params.followText "set-order" = true ∨ t.led = true) (fw : L.length < 4000) {wanted M : Nat}
    (hw : SetTable.sizeAbove wanted = M + 1) (hM : Msk M) (hn : L.length * 5 < M * 3) {Q : Unit → Shared → Prop}
    (hQ : ∀ h' L' es' ep' t', Heap.SameBut a s.heap h' → GS P w h' a L' es' ep' t' → L'.Perm L → Q () { s with heap := h' }) : wpAny (model P w) A (setRelay a wanted) Q E s := by
  have sl := rows_len row
  have mb : M ≤ 8191 := by rcases hM.six with e | e | e | e | e | e <;> omega
  obtain ⟨t', order, e, hp, T', em, el, epl⟩ := tb_laid t (hs := es.map (·.1)) (wanted := wanted) (M := M) (by rw [hw]; rfl) hM (by rw [Array.size_map, sl]; omega)
  rw [Array.size_map, sl] at hp
  obtain ⟨L2, r1, r2, r3⟩ := order_rows L es order row hp
  rw [← r3] at T'
  have s2 : (order.filterMap (es[·]?)).size = es.size := by rw [rows_len r1, sl, r2.length_eq]
  have sb : Heap.SameBut a s.heap (s.heap.update a (Obj.putSet (order.filterMap (es[·]?)) t')) := Heap.SameBut.update ..
  rw [setRelay_eq]
  refine wpAny_bind (wpAny_setState_of ho hd (tb_fits T (by rw [eT, sl]) (by omega)) (wp_if_neg (by rw [sizeLine_eq, hw]; omega) ?_))
  simp only [e]
  refine wpAny_bind (wp_if_neg (by simp [s2]) (wpAny_pure ?_))
  refine wpAny_storeSet_of ho hd (hQ _ L2 _ (ep + 1) t' sb ⟨⟨_, store_at ho hd, ⟨hex.1, hex.2.1, hex.2.2⟩, rfl⟩, r1, T', (r2.map (·.2)).nodup_iff.mpr dis, fun q hq => isT_same (tps q (r2.mem_iff.mp hq)) ho hd sb, epl.trans pl, ?_, ?_, ?_⟩ r2) ?_
  · rw [el]; exact ld
  · rw [r2.length_eq, em]; exact hn
  · rw [r2.length_eq]; exact fw
  · rw [s2, sl, sizeLine_eq]; omega
theorem grow_to {m n : Nat} (h : Msk m) (h1 : n * 5 < m * 3) (h2 : m * 3 ≤ (n + 1) * 5) (h3 : n + 1 < 4000) : ∃ M, SetTable.sizeAbove (SetTable.grown (n + 1)) = M + 1 ∧ Msk M ∧ (n + 1) * 5 < M * 3 := by
  rcases h.six with e | e | e | e | e | e
  · obtain rfl : n = 4 := by omega
    exact ⟨31, by decide +kernel, ⟨5, by decide, rfl⟩, by decide⟩
  · obtain rfl : n = 18 := by omega
    exact ⟨127, by decide +kernel, ⟨7, by decide, rfl⟩, by decide⟩
  · obtain rfl : n = 76 := by omega
    exact ⟨511, by decide +kernel, ⟨9, by decide, rfl⟩, by decide⟩
  · obtain rfl : n = 306 := by omega
    exact ⟨2047, by decide +kernel, ⟨11, by decide, rfl⟩, by decide⟩
  · obtain rfl : n = 1228 := by omega
    exact ⟨8191, by decide +kernel, ⟨13, by decide, rfl⟩, by decide⟩
  · omega

theorem add1 (R : GS P w s.heap a L es ep t) {x : Addr} {k : List Int} (hx : IsT P w s.heap k x) (hu : A.units < cLine) (fw : L.length + 1 < 4000) {Q : Bool → Shared → Prop}
    (hQ : ∀ b h' L' es' ep' t', Heap.SameBut a s.heap h' → GS P w h' a L' es' ep' t' → (k ∈ L.map (·.2) → L' = L) → (k ∉ L.map (·.2) → L'.Perm ((x, k) :: L)) → Q b { s with heap := h' }) :
    wpAny (model P w) A (setAddHashed a (.ref x) (thash P w k)) Q E s := by
  obtain ⟨o, ho, hex, hd⟩ := R.obj
  have rm := R.rm
  unfold setAddHashed
  rw [show (100000 : Nat) = 99999 + 1 from rfl, setAddHashedIn_succ]
  refine wpAny_holding (wpAny_bind (wpAny_setState_of ho hd R.fit (wp_if_neg (by simp [byScan, Value.scannable]) (wpAny_bind (seek_all R hx hu (fun hm => ?_) fun K hm nK bK => ?_)))))
  · exact wpAny_pure (hQ false s.heap L es ep t (Heap.SameBut.refl a s.heap) R (fun _ => rfl) fun z => absurd hm z)
  · refine wpAny_bind (wpAny_setState_of ho hd R.fit ?_)
    dsimp only
    obtain ⟨p, ep0⟩ : ∃ p, SetTable.below t.place (way t.mask (thash P w k) K) = p := ⟨_, rfl⟩
    obtain ⟨q1, q2, q3, q4, q5, q6, q7⟩ := R.tb.add nK bK rfl ep0
    generalize t.put (way t.mask (thash P w k) K) = pt at q1 q3 q4 q5 q6 q7 ⊢
    obtain ⟨t1, p1⟩ := pt
    dsimp only at q1 q3 q4 q5 q6 q7 ⊢
    subst q1
    have pl1 : t1.plain = true := q6.trans R.pln
    have pm := put_perm L p1 (x, k)
    have len1 := pm.length_eq
    have row1 : (SetTable.insertAt es p1 (thash P w k, Value.ref x)).toList = rowsOf P w (L.take p1 ++ (x, k) :: L.drop p1) := by
      rw [SetTable.toList_insertAt, rows_put, R.row]
    have tb1 : Tb t1 ((L.take p1 ++ (x, k) :: L.drop p1).map fun q => thash P w q.2) := by
      simp only [List.map_append, List.map_cons, List.map_take, List.map_drop]
      exact q3
    generalize L.take p1 ++ (x, k) :: L.drop p1 = L1 at pm len1 row1 tb1
    generalize SetTable.insertAt es p1 (thash P w k, Value.ref x) = es1 at row1 ⊢
    rw [List.length_cons] at len1
    rw [List.length_map] at q7
    have sl1 := rows_len row1
    have dis1 : (L1.map (·.2)).Nodup := (pm.map (·.2)).nodup_iff.mpr (by rw [List.map_cons]; exact List.nodup_cons.mpr ⟨hm, R.dis⟩)
    have sb : Heap.SameBut a s.heap (s.heap.update a (Obj.putSet es1 t1)) := Heap.SameBut.update ..
    have ho1 := store_at (es' := es1) (t' := t1) ho hd
    have put : wpAny (model P w) A (do
        storeSet a es1 t1
        if (!false && t1.tooFull) = true then setRelay a (SetTable.grown (es.size + 1))
        return true) Q E s := by
      refine wpAny_bind (wpAny_storeSet_of ho hd ?_ (by rw [sl1, len1, sizeLine_eq]; omega))
      generalize s.heap.update a (Obj.putSet es1 t1) = h1 at sb ho1 ⊢
      have tps1 : ∀ q ∈ L1, IsT P w h1 q.2 q.1 := fun q hq => by
        rcases List.mem_cons.mp (pm.mem_iff.mp hq) with rfl | z
        · exact isT_same hx ho hd sb
        · exact isT_same (R.tps q z) ho hd sb
      have ld1 : w.params.followText "set-order" = true ∨ t1.led = true := by rw [q5]; exact R.ldd
      have full : t1.tooFull = true ↔ t.mask * 3 ≤ (L.length + 1) * 5 := by simp [SetTable.tooFull, q7, q4]
      have hex1 : Obj.ExactSet { o with data := .set es1 (ep + 1) t1 } := ⟨hex.1, hex.2.1, hex.2.2⟩
      by_cases hf : t1.tooFull = true
      · obtain ⟨M, g1, g2, g3⟩ := grow_to R.tb.msk rm (full.mp hf) fw
        have go : wpAny (model P w) A (setRelay a (SetTable.grown (es.size + 1))) (fun _ s' => wpAny (model P w) A (pure true) Q E s') E { s with heap := h1 } := by
          refine relay (s := { s with heap := h1 }) ho1 hex1 rfl row1 tb1 (by rw [List.length_map]) (by rw [q4, len1]; rcases R.tb.msk.six with e | e | e | e | e | e <;> omega) dis1 tps1 pl1 ld1 (by omega) (by rw [R.sz]; exact g1) g2 (by rw [len1]; exact g3) fun h2 L2 es2 ep2 t2 sb2 R2 pm2 => ?_
          exact wpAny_pure (hQ true h2 L2 es2 ep2 t2 (sb.trans sb2) R2 (fun z => absurd z hm) fun _ => pm2.trans pm)
        first
          | exact wpAny_bind (wp_if_pos (by simp [hf]) go)
          | exact wp_if_pos (by simp [hf]) (wpAny_bind go)
      · have fin := hQ true h1 L1 es1 (ep + 1) t1 sb ⟨⟨_, ho1, hex1, rfl⟩, row1, tb1, dis1, tps1, pl1, ld1, by rw [len1, q4]; have := mt full.mpr hf; omega, by omega⟩ (fun z => absurd z hm) fun _ => pm
        first
          | exact wp_if_neg (by simp [hf]) (wpAny_pure fin)
          | exact wpAny_bind (wp_if_neg (by simp [hf]) (wpAny_pure (wpAny_pure fin)))
    first
      | (refine wpAny_bind (wp_if_pos pl1 (hashBy_tup hx ?_)); exact put)
      | (refine wp_if_pos pl1 (wpAny_bind (hashBy_tup hx ?_)); exact put)
end
end MPG
end
section
set_option maxRecDepth 100000
set_option maxHeartbeats 4000000
namespace MPG
open PySem PySem.Spec PyProof.Rows L2
section
variable {P : Program} {w : World} {A : Around} {E : Value → Shared → Prop} {s : Shared} {a : Addr} {L : Kl} {es : Array (Int × Value)} {ep : Nat} {t : SetTable}
abbrev newS (w : World) : Obj := { cls := .type "set", dict := none, data := .set #[] 0 (.fresh 0 0 (!w.params.followText "set-order")) }
theorem gs_new {h : Heap} (ho : h.get? a = some (newS w)) : GS P w h a [] #[] 0 (.fresh 0 0 (!w.params.followText "set-order")) := by
  refine ⟨⟨_, ho, ⟨rfl, rfl, rfl⟩, rfl⟩, rfl, ⟨.nil, rfl, rfl, ⟨3, .inl rfl, rfl⟩, fun x hx => ?_, fun i h j hi => ?_⟩, .nil, fun q hq => ?_, rfl, ?_, (by decide : 0 * 5 < 7 * 3), (by decide : 0 < 4000)⟩
  · exact absurd hx (by simp [SetTable.fresh])
  · exact absurd hi (by simp)
  · exact absurd hq (by simp)
  · cases hb : w.params.followText "set-order" <;> simp [SetTable.fresh]
theorem GS.still {h h' : Heap} (R : GS P w h a L es ep t) (ha : ∀ o, h.get? a = some o → h'.get? a = some o) (ht : ∀ q ∈ L, IsT P w h' q.2 q.1) : GS P w h' a L es ep t := by
  obtain ⟨o, ho, r⟩ := R.obj
  exact { R with obj := ⟨o, ha o ho, r⟩, tps := ht }
def Few (ks : Kl) : Prop := ∀ L : Kl, (L.map (·.2)).Nodup → (∀ q ∈ L, q ∈ ks) → L.length + 1 < 4000
theorem Got.inn {ks L : Kl} {i : Nat} (g : Got ks i L) {q : Addr × List Int} (h : q ∈ L) : q ∈ ks := List.mem_of_mem_take (g.sub q h)

theorem turns_set {I : Addr} {fp wr : List Addr} {G : Array GenState → Array GenState → Prop} {n : Nat} {Pv : Nat → Value → Prop} {St : Nat → Shared → Prop} {R : Result → Shared → Prop}
    (W : WalksS P w A.in1 I fp wr G n Pv St) (S : Addr) (nS : S ∉ fp) (ks : Kl) (en : n = ks.length) (fw : Few ks) (val : ∀ i v, Pv i v → ∃ q, ks[i]? = some q ∧ v = .ref q.1)
    (h0 : Heap) (hk : ∀ q ∈ ks, IsT P w h0 q.2 q.1) (hS0 : h0.get? S = none) (hw0 : ∀ b ∈ wr, h0.get? b = none) (hu : A.in1.units < cLine)
    (hR : ∀ s' s0 L es ep t, Moved (S :: wr) G s0 s' → GS P w s'.heap S L es ep t → Got ks n L → (∀ b o, h0.get? b = some o → s'.heap.get? b = some o) → s0 = s → R (.ok (.ret .none)) s') :
    ∀ (k i : Nat) (s1 : Shared), n - i = k → i ≤ n → St i s1 → (∀ b o, h0.get? b = some o → s1.heap.get? b = some o) → Moved (S :: wr) G s s1 ∨ s = s1 → (∃ L es ep t, GS P w s1.heap S L es ep t ∧ Got ks i L) →
      codeAny (model P w) A (.builtin "set.update.loop" ⟨[.ref S, .ref I], []⟩) R s1 := by
  have sw : S ∉ wr := fun z => nS (W.sub _ z)
  have kp : ∀ {u u' : Shared}, Moved wr G u u' → (∀ b o, h0.get? b = some o → u.heap.get? b = some o) → ∀ b o, h0.get? b = some o → u'.heap.get? b = some o := fun m q b o e =>
    m.heap b o (fun z => nomatch (hw0 b z).symm.trans e) (q b o e)
  have mv : ∀ {u u' : Shared}, Moved wr G u u' → Moved (S :: wr) G u u' := fun m => m.mono fun b z => List.mem_cons_of_mem _ z
  have join : ∀ {u u' : Shared}, (Moved (S :: wr) G s u ∨ s = u) → Moved (S :: wr) G u u' → Moved (S :: wr) G s u' := fun x y => by
    rcases x with x | rfl
    · exact Moved.trans W.gtrans x y
    · exact y
  intro k
  induction k with
  | zero =>
    intro i s1 ek li hst q1 m1 ⟨L, es, ep, t, g1, g2⟩
    obtain rfl : i = n := by omega
    refine codeAny_builtin PyProof.Rows.F.entry_set_update_loop ?_
    rw [Around.under_plainId PyProof.Rows.F.plain_set_update_loop _]
    show wpAny _ (A.in1) (pyNext (.ref I) >>= _) _ _ s1
    refine wpAny_bind (W.done s1 _ _ hst fun s' m => ?_)
    show wpAny _ (A.in1) (ret Value.none) _ _ s'
    have q2 := kp m q1
    exact wpAny_pure (hR s' s L es ep t (join m1 (mv m)) (g1.still (fun o e => m.heap S o sw e) fun q z => isT_keep (hk q (Got.inn g2 z)) q2) g2 q2 rfl)
  | succ k ih =>
    intro i s1 ek li hst q1 m1 ⟨L, es, ep, t, g1, g2⟩
    refine codeAny_builtin PyProof.Rows.F.entry_set_update_loop ?_
    rw [Around.under_plainId PyProof.Rows.F.plain_set_update_loop _]
    show wpAny _ (A.in1) (pyNext (.ref I) >>= _) _ _ s1
    refine wpAny_bind (W.item i s1 _ _ (by omega) hst fun v s' pv hst' m => ?_)
    obtain ⟨q, eq, rfl⟩ := val i v pv
    have q2 := kp m q1
    have g3 : GS P w s'.heap S L es ep t := g1.still (fun o e => m.heap S o sw e) fun z hz => isT_keep (hk z (Got.inn g2 hz)) q2
    have ht : IsT P w s'.heap q.2 q.1 := isT_keep (hk q (List.mem_of_getElem? eq)) q2
    show wpAny _ (A.in1) (holding [Value.ref q.1] (setAdd S (.ref q.1)) >>= _) _ _ s'
    unfold setAdd
    refine wpAny_bind (wpAny_holding (wpAny_holding (wpAny_bind (wpAny_pyHash_tuple hu ht ?_))))
    refine add1 (s := { s' with toks := s'.toks + (q.2.length + 1) }) g3 ht hu (fw L g3.dis fun z hz => Got.inn g2 hz) fun b h' L' es' ep' t' sb g4 c1 c2 => ?_
    have g5 : Got ks (i + 1) L' := by
      by_cases c : q.2 ∈ L.map (·.2)
      · exact c1 c ▸ g2.same eq c
      · exact g2.more eq (c2 c)
    have q3 : ∀ b o, h0.get? b = some o → h'.get? b = some o := fun b o e => (sb.2 b fun z => by subst z; cases hS0.symm.trans e).trans (q2 b o e)
    have m2 : Moved (S :: wr) G s { s' with heap := h', toks := s'.toks + (q.2.length + 1) } := join m1 ((mv m).then_heap (Nat.le_add_right _ _) fun b o z e => (sb.2 b fun y => z (y ▸ List.mem_cons_self)).trans e)
    refine wpAny_pure ⟨plainId_quiet PyProof.Rows.F.plain_set_update_loop _, ih (i + 1) _ (by omega) (by omega) (W.frame _ s' _ _ hst' (Nat.le_add_right _ _) fun b hb o e => ?_) q3 (.inl m2) ⟨L', es', ep', t', g4, g5⟩⟩
    exact (sb.2 b fun z : b = S => nS (z ▸ hb)).trans e

set_option maxHeartbeats 8000000 in
theorem call_set {l : Addr} {items : Array Value} (ks : Kl) {Q : Value → Shared → Prop} (hh : A.handled = none) (hl : s.heap.IsList l items) (hit : items.toList = ks.map fun q => Value.ref q.1)
    (hk : ∀ q ∈ ks, IsT P w s.heap q.2 q.1) (fw : Few ks) (hu : A.units + 3 < cLine)
    (hQ : ∀ (h' : Heap) (tk : Nat) L es ep t, GS P w h' s.heap.objs.size L es ep t → Got ks ks.length L → (∀ b o, s.heap.get? b = some o → h'.get? b = some o) → Q (.ref s.heap.objs.size) { s with heap := h', toks := tk }) :
    wpAny (model P w) A (call (.type "set") [.ref l]) Q E s := by
  have isz : items.size = ks.length := by simpa using congrArg List.length hit
  obtain ⟨_, _, mro⟩ := F.called_set.mro
  obtain ⟨made, sub⟩ : _ ∧ _ := ⟨F.called_set.made, F.called_set.sub⟩
  refine wpAny_call (codeAny_of_tree (show wpAny _ _ (callAny (.type "set") _) _ _ _ from wpAny_pure ⟨Code.quiet_builtin _ (by decide +kernel), codeAny_builtin F.entry_type_call ?_⟩))
  rw [Around.under_plain (weight_type_call_type "set" [.ref l] []) rfl]
  obtain ⟨c1, c2, c3⟩ : _ ∧ _ ∧ _ := ⟨F.called_set.notType, F.called_set.canCreate, F.typeCall_set_1 (.ref l)⟩
  repeat (any_goals (first | assumption | wp_step))
  have hS : (s.heap.push (newS w)).get? s.heap.objs.size = some (newS w) := Heap.get?_push_size _ rfl
  refine codeAny_mono (code_set_led1 (.ref l) (E := E) (Q₁ := fun ob s1 => ob = .ref s.heap.objs.size ∧ s1 = { s with heap := s.heap.push (newS w) }) ⟨rfl, rfl⟩) fun r s1 hr => ?_
  match r, hr with
  | .error e, hr => exact hr
  | .ok (.ret ob), hr =>
    obtain ⟨rfl, rfl⟩ := hr
    have hT : Shared.TypeIs { s with heap := s.heap.push (newS w) } (.ref s.heap.objs.size) "set" := ⟨_, hS, rfl⟩
    obtain ⟨i1, i2⟩ : _ ∧ _ := ⟨F.called_set.init.lookup, F.called_set.init.bind (.ref s.heap.objs.size)⟩
    repeat (any_goals (first | assumption | wp_step))
    refine codeAny_mono (codeAny_call_builtin (R := wants (fun r s2 => r = .none ∧ ∃ h' tk L es ep t, s2 = { s with heap := h', toks := tk } ∧ GS P w h' s.heap.objs.size L es ep t ∧ Got ks ks.length L ∧
        (∀ b o, s.heap.get? b = some o → h'.get? b = some o)) E) F.called_set.init.plain F.entry_set_init (check_set_init_1 hT ?_)) fun r2 s2 hr2 => ?_
    · obtain ⟨⟨ocl, odi, oda, osl⟩, hol, hcl, nl, hdl⟩ := hl
      simp only at hcl hdl
      subst hcl hdl
      have hol1 : (s.heap.push (newS w)).get? l = some { cls := .type "list", dict := odi, data := .seq items nl, slots := osl } := Heap.get?_push_of_some _ hol
      have hl1 : (s.heap.push (newS w)).IsList l items := ⟨_, hol1, rfl, nl, rfl⟩
      obtain ⟨e1, e2, e3⟩ : _ ∧ _ ∧ (Value.type "list" == Value.type "dict") = false := ⟨F.sub_list_set, F.sub_list_frozenset, by decide⟩
      unfold Builtin.«set.__init__» noKeywords Builtin.Frozenset.updateFrom
      generalize epi : pyIter = PI
      wp_walk
      subst epi
      refine wpAny_pyIter_list hl1 (wpAny_bind (wpAny_runValue ?_))
      have lS : l < s.heap.objs.size := Heap.lt_size hol
      have z1 : (s.heap.push (newS w)).objs.size = s.heap.objs.size + 1 := Heap.size_push ..
      have no : ∀ b, s.heap.objs.size ≤ b → s.heap.get? b = none := fun b hb => by
        cases q : s.heap.get? b with
        | none => rfl
        | some o => exact (Nat.not_lt.mpr hb (Heap.lt_size q)).elim
      have n1 : l ≠ (s.heap.push (newS w)).objs.size := fun e => Nat.ne_of_lt (Nat.lt_succ_of_lt lS) (e.trans z1)
      have n2 : s.heap.objs.size ∉ [(s.heap.push (newS w)).objs.size, l] := fun e => by
        rw [z1] at e
        rcases List.mem_cons.mp e with e | e
        · exact Nat.ne_of_lt (Nat.lt_succ_self _) e
        · exact Nat.ne_of_gt lS (List.mem_singleton.mp e)
      refine turns_set (s := { s with heap := (s.heap.push (newS w)).push { cls := .type "list_iterator", data := .fields #[.ref l, .int 0 0] } }) ((Walks.list (show A.in1.in1.in1.handled = none by simp [hh]) _ l n1 items).toS) s.heap.objs.size
        n2 ks isz fw (fun i v hv => ?_) s.heap hk (no _ (Nat.le_refl _)) (fun b hb => no b (by rw [List.mem_singleton.mp hb, z1]; exact Nat.le_succ _)) hu ?_ (items.size - 0) 0 _ (by omega) (Nat.zero_le _)
        ⟨⟨_, Heap.get?_push_size _ rfl, rfl, rfl⟩, hl1.push _⟩ (fun b o e => Heap.get?_push_of_some _ (Heap.get?_push_of_some _ e)) (.inr rfl) ⟨[], #[], 0, _, gs_new (Heap.get?_push_of_some _ hS), Got.zero ks⟩
      · have q : items.toList[i]? = some v := by simpa using hv
        rw [hit, List.getElem?_map] at q
        obtain ⟨z, ez, rfl⟩ := Option.map_eq_some_iff.mp q
        exact ⟨z, ez, rfl⟩
      · rintro ⟨h', g', d', tk', os'⟩ _ L es ep t m g1 g2 g3 rfl
        have x1 : g' = s.gens := m.gens
        have x2 : d' = s.drawn := m.drawn
        have x3 : os' = s.os := m.os
        subst x1 x2 x3
        show wpAny _ _ _ _ _ _
        refine wpAny_pure ?_
        show wpAny _ _ (ret Value.none) _ _ _
        exact wpAny_pure ⟨rfl, h', tk', L, es, ep, t, rfl, g1, isz ▸ g2, g3⟩
    · match r2, hr2 with
      | .error e, hr2 => exact hr2
      | .ok (.ret r), hr2 =>
        obtain ⟨rfl, h', tk, L, es, ep, t, rfl, g1, g2, g3⟩ := hr2
        repeat (any_goals (first | assumption | wp_step))
        exact hQ _ _ _ _ _ _ g1 g2 g3
end
end MPG
end
section
set_option maxRecDepth 100000
set_option maxHeartbeats 4000000
namespace MP
open PySem PySem.Spec PyProof.Rows L2
section
variable {X : Cx} {xa : XA} {W : WX} {a : Expr} {ta : TE} {p1 p2 p3 pos : Pos} {fa : DS → Store → RE}
def tLenSetP (K : PySem.W.Frag) (ta : TE) : TE := fun σ H Q => ta σ H fun x H1 => ∃ (l : Addr) (ks : List (Addr × List Int)), x = V.ref l ∧ SqL K H1 l (ks.map fun p => V.ref p.1) ∧ (∀ p ∈ ks, SqT K H1 p.1 (p.2.map V.int)) ∧ ks.length < 64 ∧ (ks.map (·.2)).Nodup ∧ Q (.int ks.length) H1
theorem lens_eq {ks L : List (Addr × List Int)} (h1 : (ks.map (·.2)).Nodup) (h2 : (L.map (·.2)).Nodup) (h3 : ∀ p ∈ L, p ∈ ks) (h4 : ∀ p ∈ ks, p.2 ∈ L.map (·.2)) : L.length = ks.length := by
  have hp : (L.map (·.2)).Perm (ks.map (·.2)) := (List.perm_ext_iff_of_nodup h2 h1).mpr fun x => by
    constructor
    · intro hx
      obtain ⟨p, hp, rfl⟩ := List.mem_map.mp hx
      exact List.mem_map.mpr ⟨p, h3 p hp, rfl⟩
    · intro hx
      obtain ⟨p, hp, rfl⟩ := List.mem_map.mp hx
      exact h4 p hp
  have := hp.length_eq
  simpa using this
theorem pe_lenSetT (hc : X.calm = true) (hu : X.A.units + 65 < cLine) (hg : Gl X "len") (hm : X.mg "len" = none) (hg2 : Gl X "set") (hm2 : X.mg "set" = none) (ha : PE X a ta)
    (na : starEach [a] X.env = (false, eval a X.env) :: starEach [] X.env) : PE X (.Call (.Name "len" p1) [.Call (.Name "set" p2) [a] [] p3] [] pos) (tLenSetP X.K ta) := by
  refine ⟨fun pins s σ H Q I h => ?_⟩
  refine Call_ (ld_blt I hg hm PySem.boot_len ?_)
  refine PyProof.Rows.callWith_builtin1 (PyProof.Rows.args_cons ?_ rfl) rfl rfl
  refine Call_ (ld_blt I hg2 hm2 PyProof.Rows.boot_set ?_)
  refine PyProof.Rows.callWith_type1 (PyProof.Rows.args_cons (thn (ha.run pins s σ H _ I h) fun v s1 ⟨x, H1, I1, r1, q1⟩ => PyProof.Rows.args_nil ?_) na) na rfl
  obtain ⟨l, ks, rfl, hq, hk, h1, hnd, q1⟩ := q1
  cases r1
  obtain ⟨its, rv, pl, hz⟩ := I1.list hq
  refine call_set_tups (P := X.prog) (w := X.w) ks (I1.ok.hd hc) pl.isList (by simpa using refs_of_vals rv) (fun p hp => I1.isT (hk p hp)) h1 (by omega) fun h' tk L es ep t R g hkeep => ?_
  refine PyProof.Rows.args_nil ?_
  have I2 : L2.Inv X pins σ H1 { s1 with heap := h', toks := tk } := I1.kept fun b o e => hkeep b o e
  have R' : SetTR X.prog X.w ({ s1 with heap := h', toks := tk } : Shared).heap s1.heap.objs.size L es ep t := R
  obtain ⟨o, ho, hex, hd⟩ := R.ob
  have hsz := R'.size
  have hll : L.length = ks.length := lens_eq hnd R.nd (fun p hp => List.mem_of_mem_take (g.sub p hp)) fun p hp => g.all p (by rw [List.take_length]; exact hp)
  have hf := R'.fits
  refine call_len_set ho hex hd hf (by rw [hsz]; omega) ⟨.int ks.length, H1, I2.tok _, ⟨_, by rw [hsz, hll]⟩, q1⟩
theorem den_nset (hc : X.calm = true) (hu : X.A.units + 65 < cLine) (hg : Gl X "len") (hm : X.mg "len" = none) (hg2 : Gl X "set") (hm2 : X.mg "set" = none) (pa : plainArg a = true)
    (ha : PE X a (denE X.K xa W fa)) :
    PE X (.Call (.Name "len" p1) [.Call (.Name "set" p2) [a] [] p3] [] pos) (denE X.K xa W fun ds st => (fa ds st).bind fun x st1 => primF .nset [x] st1) := by
  refine (pe_lenSetT hc hu hg hm hg2 hm2 ha (star_cons pa _ _)).imp fun σ H Q h => ?_
  obtain ⟨ex, ρ, ds, st, M, S, q⟩ := h
  refine ⟨ex, ρ, ds, st, M, S, (PostV.bind q).imp fun v H1 ⟨x, st1, ρ1, e1, M1, r1, q1⟩ => ?_⟩
  change PostV _ _ _ _ (prim1F .nset x st1) _ _ at q1
  unfold prim1F at q1
  simp only at q1
  split at q1
  · rename_i xs hx
    obtain ⟨l, vs, rfl, hs, rs⟩ := rep_lst M1 r1 hx
    split at q1
    · rename_i ps hp
      split at q1
      · rename_i hk
        have e3 := plsOf_eq hp
        subst e3
        obtain ⟨h1, h2⟩ := reps_pls rs
        obtain ⟨hlt, hnd⟩ := hk
        let adr : V → Addr := fun v => match v with | .ref t => t | _ => 0
        have hlen : vs.length = ps.length := by rw [← h2, List.length_map]
        refine ⟨l, vs.map fun v => (adr v, [(pairAt H1 v).1, (pairAt H1 v).2]), rfl, ?_, ?_, ?_, ?_, ?_⟩
        · have : (vs.map fun v => (adr v, [(pairAt H1 v).1, (pairAt H1 v).2])).map (fun p => V.ref p.1) = vs := by
            rw [List.map_map]
            conv => rhs; rw [← List.map_id vs]
            apply List.map_congr_left
            intro v hv
            obtain ⟨t, rfl, _⟩ := h1 v hv
            rfl
          rw [this]
          exact hs
        · intro p hp
          obtain ⟨v, hv, rfl⟩ := List.mem_map.mp hp
          obtain ⟨t, rfl, ht⟩ := h1 v hv
          exact .inl (.inl ht)
        · rw [List.length_map]; omega
        · have : (vs.map fun v => (adr v, [(pairAt H1 v).1, (pairAt H1 v).2])).map (·.2) = ps.map fun p => [p.1, p.2] := by
            rw [← h2, List.map_map, List.map_map]
            rfl
          rw [this]
          refine List.Pairwise.map _ (fun a b hab e => hab ?_) hnd
          simp only [List.cons.injEq, and_true] at e
          exact Prod.ext e.1 e.2
        · rw [List.length_map, hlen]
          exact q1.here M1 rfl
      · exact q1.elim
    · exact q1.elim
  · exact q1.elim
theorem mem_uniq {p : Pl} : ∀ {ps : List Pl}, p ∈ uniq ps ↔ p ∈ ps
  | [] => Iff.rfl
  | q :: ps => by
    unfold uniq
    split
    · rename_i h
      rw [mem_uniq, List.mem_cons]
      exact ⟨.inr, fun z => z.elim (fun e => e ▸ h) id⟩
    · rw [List.mem_cons, List.mem_cons, mem_uniq]
theorem nodup_uniq : ∀ ps : List Pl, (uniq ps).Nodup
  | [] => .nil
  | q :: ps => by
    unfold uniq
    split
    · exact nodup_uniq ps
    · rename_i h
      exact List.nodup_cons.mpr ⟨fun z => h (mem_uniq.mp z), nodup_uniq ps⟩
theorem pl_len : ∀ l m : List Pl, l.Nodup → (∀ x ∈ l, x ∈ m) → l.length ≤ m.length
  | [], _, _, _ => Nat.zero_le _
  | x :: l, m, hn, hs => by
    obtain ⟨h1, h2⟩ := List.nodup_cons.mp hn
    have hx : x ∈ m := hs x List.mem_cons_self
    have ih := pl_len l (m.erase x) h2 fun y hy => (List.mem_erase_of_ne (fun e : y = x => h1 (e ▸ hy))).2 (hs y (List.mem_cons_of_mem _ hy))
    rw [List.length_erase_of_mem hx] at ih
    have := List.length_pos_of_mem hx
    rw [List.length_cons]
    omega
abbrev PrAll (H : Hp) (ys : List V) : Prop := ∀ x ∈ ys, ∃ t, x = V.ref t ∧ H t = some (.tup [.int (pairAt H x).1, .int (pairAt H x).2])
theorem sorted_gs {X : Cx} {pins : List (Addr × Obj)} {σ : L2.St} {H : Hp} {s : Shared} {Er : Value → Shared → Prop} {Q : VK} (I : L2.Inv X pins σ H s) (hc : X.calm = true) {a : Addr} {L : MPG.Kl} {es : Array (Int × Value)} {ep : Nat} {t : SetTable}
    (R : MPG.GS X.prog X.w s.heap a L es ep t) (hL : PrAll H (L.map fun q => V.ref q.1))
    (hQ : ∀ ys p, PrAll H ys → ys.map (pairAt H) = sortP (L.map fun q => pairAt H (.ref q.1)) → H p = none → Q (.ref p) (upd H p (.lst ys))) :
    wpAny (model X.prog X.w) X.A (call (.builtin "sorted") [.ref a]) (fun v s' => ∃ x H', L2.Inv X pins σ H' s' ∧ RelV x v ∧ Q x H') Er s := by
  obtain ⟨o, ho, hex, hd⟩ := R.obj
  have hfw := R.fw
  refine Calls.call_function_entry PyProof.Rows.kind_sorted PyProof.Rows.plain_sorted PyProof.Rows.entry_sorted (PyProof.Rows.args_sorted1 _) ?_
  unfold Builtin.«sorted»
  refine wpAny_bind (m := checkCount "sorted" 1 1 _) (wpAny_pure ?_)
  refine wpAny_bind (collect_set (A := X.A.in1) (I.ok.hd hc) ⟨o, ho, hex.1, hd⟩ R.fit (by rw [R.sz]; unfold scanBound; omega) R.tb.up R.ldd fun s1 vs k1 z1 g1 o1 pm => ?_)
  have ers : es.toList.map (·.2) = L.map fun q => Value.ref q.1 := by
    rw [R.row]
    simp [rowsOf]
  rw [ers] at pm
  have hz : vs.length ≤ sizeLine := by rw [pm.length_eq, List.length_map, sizeLine_eq]; omega
  refine wpAny_bind (wpAny_newList ?_ hz)
  have hoL : (s1.heap.push (seqObj "list" vs.toArray 0)).get? s1.heap.objs.size = some (seqObj "list" vs.toArray 0) := Heap.get?_push_size _ rfl
  have hback : ∀ v ∈ vs, ∃ q ∈ L, v = Value.ref q.1 := fun v hv => by
    obtain ⟨q, hq, e⟩ := List.mem_map.mp (pm.mem_iff.mp hv)
    exact ⟨q, hq, e.symm⟩
  have hip : ∀ v ∈ vs, Srt.IsPair (s1.heap.push (seqObj "list" vs.toArray 0)) v (pairAt H (backV v)).1 (pairAt H (backV v)).2 := fun v hv => by
    obtain ⟨q, hq, rfl⟩ := hback v hv
    obtain ⟨t, et, ht⟩ := hL _ (List.mem_map.mpr ⟨q, hq, rfl⟩)
    cases et
    obtain ⟨_, its2, r2, o, ho, hc, n, hd⟩ := I.hok _ _ ht
    obtain ⟨u1, u2, rfl, ⟨t1, rfl⟩, t2, rfl⟩ := vals2 r2
    exact ⟨q.1, o, t1, t2, n, rfl, Heap.get?_push_of_some _ (k1 _ _ ho), hc, hd⟩
  refine wpAny_bind (wpAny_holding (wpAny_call_entry PyProof.Rows.slot_list_sort ⟨_, hoL, rfl⟩ PyProof.Rows.entry_list_sort
    (SrtO.list_sort_ord (s := { s1 with heap := s1.heap.push (seqObj "list" vs.toArray 0) }) (SrtO.swo_lex fun v => pairAt H (backV v)) hoL hz (fun h2 => SrtO.pairs_sortableO (k := fun v => pairAt H (backV v)) (by omega) hip fun o e => ?_) fun out hs hb => ⟨_, rfl, ?_⟩)
    (PyProof.Rows.args_list_sort _)))
  · have e' : some o = some (seqObj "list" vs.toArray 0) := e.symm.trans hoL
    cases e'
    intro c
    exact absurd (Value.type.inj c) (by decide)
  · have hall : ∀ v ∈ out, ∃ q ∈ L, v = Value.ref q.1 := fun v hv => hback v (hb.perm.mem_iff.mp hv)
    have h3 : ∀ u ∈ out, ∃ a, u = Value.ref a := fun u hu => by
      obtain ⟨x, _, rfl⟩ := hall u hu
      exact ⟨_, rfl⟩
    obtain ⟨n, hn⟩ := PyProof.Rows.sortedHeap_at (vs := vs) (out := out.toArray) hoL
    have hlen : (out.map backV).length ≤ sizeLine := by rw [List.length_map, hb.perm.length_eq]; exact hz
    have hk : ∀ b u, s.heap.get? b = some u → (PyProof.Rows.sortedHeap (s1.heap.push (seqObj "list" vs.toArray 0)) s1.heap.objs.size vs out.toArray).get? b = some u := fun b u e => by
      have e1 := k1 b u e
      have hb : b < s1.heap.objs.size := Heap.lt_size e1
      rw [PyProof.Rows.sortedHeap_old (Nat.ne_of_lt hb) (by rw [size_push']; exact Nat.lt_succ_of_lt hb)]
      exact Heap.get?_push_of_some _ e1
    have hfr : H s1.heap.objs.size = none := I.hok.fresh z1
    have J : L2.Inv X pins σ (upd H s1.heap.objs.size (.lst (out.map backV))) { s with heap := PyProof.Rows.sortedHeap (s1.heap.push (seqObj "list" vs.toArray 0)) s1.heap.objs.size vs out.toArray, gens := s1.gens, drawn := s1.drawn, toks := s1.toks } :=
      I.call (ch := []) (Un.laid hk z1 hfr) (I.hok.laid hk z1 ⟨hlen, out, n, vals_back h3, hn⟩) (by rw [g1]; exact I.bare) (fun _ z => nomatch z)
    obtain ⟨hp1, gs1, dr1, tk1, os1⟩ := s1
    obtain rfl : os1 = s.os := o1
    refine wpAny_pure ⟨_, rfl, .ref hp1.objs.size, _, J, rfl, hQ _ _ (fun x hx => ?_) ?_ hfr⟩
    · obtain ⟨v, hv, rfl⟩ := List.mem_map.mp hx
      obtain ⟨q, hq, rfl⟩ := hall v hv
      exact hL _ (List.mem_map.mpr ⟨q, hq, rfl⟩)
    · refine perm_eq ?_ ?_ (sortP_sorted _)
      · refine List.Perm.trans ?_ (sortP_perm _).symm
        have := (hb.perm.trans pm).map fun v => pairAt H (backV v)
        rw [List.map_map] at this
        rw [List.map_map]
        exact this
      · rw [List.pairwise_map, List.pairwise_map]
        refine hs.imp fun {x y} hxy => ?_
        have := SrtO.lexB_no.mp hxy
        unfold plLe
        simp only [Bool.or_eq_true, Bool.and_eq_true, decide_eq_true_eq]
        omega
def tSSet (K : PySem.W.Frag) (ta : TE) : TE := fun σ H Q => ta σ H fun x H1 => ∃ (l : Addr) (vs : List V), x = V.ref l ∧ SqL K H1 l vs ∧ PrAll H1 vs ∧ (uniq (vs.map (pairAt H1))).length < 3999 ∧
  ∀ ys p, PrAll H1 ys → ys.map (pairAt H1) = sortP (uniq (vs.map (pairAt H1))) → H1 p = none → Q (.ref p) (upd H1 p (.lst ys))
theorem pe_sset (hc : X.calm = true) (hu : X.A.units + 65 < cLine) (hg : Gl X "sorted") (hm : X.mg "sorted" = none) (hg2 : Gl X "set") (hm2 : X.mg "set" = none) (ha : PE X a ta)
    (na : starEach [a] X.env = (false, eval a X.env) :: starEach [] X.env) : PE X (.Call (.Name "sorted" p1) [.Call (.Name "set" p2) [a] [] p3] [] pos) (tSSet X.K ta) := by
  refine ⟨fun pins s σ H Q I h => ?_⟩
  refine Call_ (ld_blt I hg hm PyProof.Rows.boot_sorted ?_)
  refine PyProof.Rows.callWith_builtin1 (PyProof.Rows.args_cons ?_ rfl) rfl rfl
  refine Call_ (ld_blt I hg2 hm2 PyProof.Rows.boot_set ?_)
  refine PyProof.Rows.callWith_type1 (PyProof.Rows.args_cons (thn (ha.run pins s σ H _ I h) fun v s1 ⟨x, H1, I1, r1, q1⟩ => PyProof.Rows.args_nil ?_) na) na rfl
  obtain ⟨l, vs, rfl, hs, hv, hn, q⟩ := q1
  cases r1
  obtain ⟨its, rv, pl, hz⟩ := I1.list hs
  let adr : V → Addr := fun v => match v with | .ref t => t | _ => 0
  let ky : V → Addr × List Int := fun v => (adr v, [(pairAt H1 v).1, (pairAt H1 v).2])
  have hrf : ∀ v ∈ vs, V.ref (ky v).1 = v := fun v hv' => by obtain ⟨t, rfl, _⟩ := hv v hv'; rfl
  have hvr : (vs.map ky).map (fun p => V.ref p.1) = vs := by
    rw [List.map_map]
    conv => rhs; rw [← List.map_id vs]
    exact List.map_congr_left hrf
  have inj : ∀ u v : V, (ky u).2 = (ky v).2 → pairAt H1 u = pairAt H1 v := fun u v e => by
    simp only [ky, List.cons.injEq, and_true] at e
    exact Prod.ext e.1 e.2
  have few : MPG.Few (vs.map ky) := fun L hd hsub => by
    have h1 : (L.map fun q => pairAt H1 (.ref q.1)).length ≤ (uniq (vs.map (pairAt H1))).length := by
      refine pl_len _ _ ?_ fun x hx => ?_
      · rw [List.nodup_iff_pairwise_ne, List.pairwise_map] at hd ⊢
        refine hd.imp_of_mem fun {p r} hp hr hpr e => hpr ?_
        obtain ⟨u, hu, rfl⟩ := List.mem_map.mp (hsub p hp)
        obtain ⟨v, hv', rfl⟩ := List.mem_map.mp (hsub r hr)
        rw [hrf u hu, hrf v hv'] at e
        simp only [ky, e]
      · obtain ⟨p, hp, rfl⟩ := List.mem_map.mp hx
        obtain ⟨u, hu, rfl⟩ := List.mem_map.mp (hsub p hp)
        rw [hrf u hu]
        exact mem_uniq.mpr (List.mem_map.mpr ⟨u, hu, rfl⟩)
    rw [List.length_map] at h1
    omega
  refine MPG.call_set (P := X.prog) (w := X.w) (vs.map ky) (I1.ok.hd hc) pl.isList (by
      have rv' : Vals ((vs.map ky).map fun p => V.ref p.1) its := by rw [hvr]; exact rv
      simpa using refs_of_vals rv') (fun p hp => I1.isT ?_) few (by omega) fun h' tk L es ep t R g hkeep => ?_
  · obtain ⟨v, hv', rfl⟩ := List.mem_map.mp hp
    obtain ⟨t, rfl, ht⟩ := hv v hv'
    exact .inl (.inl ht)
  refine PyProof.Rows.args_nil ?_
  have I2 : L2.Inv X pins σ H1 { s1 with heap := h', toks := tk } := I1.kept fun b o e => hkeep b o e
  have sub : ∀ p ∈ L, ∃ v ∈ vs, p = ky v := fun p hp => by
    obtain ⟨v, hv', e⟩ := List.mem_map.mp (MPG.Got.inn g hp)
    exact ⟨v, hv', e.symm⟩
  refine sorted_gs (s := { s1 with heap := h', toks := tk }) I2 hc R (fun x hx => ?_) fun ys p h1 h2 h3 => q ys p h1 ?_ h3
  · obtain ⟨p, hp, rfl⟩ := List.mem_map.mp hx
    obtain ⟨v, hv', rfl⟩ := sub p hp
    rw [hrf v hv']
    exact hv v hv'
  · rw [h2]
    refine perm_eq ?_ (sortP_sorted _) (sortP_sorted _)
    refine (sortP_perm _).trans (List.Perm.trans ?_ (sortP_perm _).symm)
    refine (List.perm_ext_iff_of_nodup ?_ (nodup_uniq _)).mpr fun x => ?_
    · have hd := R.dis
      rw [List.nodup_iff_pairwise_ne, List.pairwise_map] at hd ⊢
      refine hd.imp_of_mem fun {p r} hp hr hpr e => hpr ?_
      obtain ⟨u, hu, rfl⟩ := sub p hp
      obtain ⟨v, hv', rfl⟩ := sub r hr
      rw [hrf u hu, hrf v hv'] at e
      simp only [ky, e]
    · rw [mem_uniq, List.mem_map, List.mem_map]
      constructor
      · rintro ⟨p, hp, rfl⟩
        obtain ⟨u, hu, rfl⟩ := sub p hp
        exact ⟨u, hu, by rw [hrf u hu]⟩
      · rintro ⟨u, hu, rfl⟩
        obtain ⟨p, hp, e⟩ := List.mem_map.mp (g.all (ky u) (by rw [List.take_length]; exact List.mem_map.mpr ⟨u, hu, rfl⟩))
        obtain ⟨v, hv', rfl⟩ := sub p hp
        exact ⟨ky v, hp, by rw [hrf v hv']; exact inj v u e⟩
theorem den_sset {m : Bool} (hc : X.calm = true) (hu : X.A.units + 65 < cLine) (hg : Gl X "sorted") (hm : X.mg "sorted" = none) (hg2 : Gl X "set") (hm2 : X.mg "set" = none) (pa : plainArg a = true)
    (ha : PE X a (denE X.K xa W fa)) :
    PE X (.Call (.Name "sorted" p1) [.Call (.Name "set" p2) [a] [] p3] [] pos) (denE X.K xa W fun ds st => (fa ds st).bind fun x st1 => primF (.sset m) [x] st1) := by
  refine (pe_sset hc hu hg hm hg2 hm2 ha (star_cons pa _ _)).imp fun σ H Q h => ?_
  obtain ⟨ex, ρ, ds, st, M, S, q⟩ := h
  refine ⟨ex, ρ, ds, st, M, S, (PostV.bind q).imp fun v H1 ⟨x, st1, ρ1, e1, M1, r1, q1⟩ => ?_⟩
  change PostV _ _ _ _ (prim1F (.sset m) x st1) _ _ at q1
  unfold prim1F at q1
  simp only at q1
  split at q1
  · rename_i xs hx
    obtain ⟨l, vs, rfl, hs, rs⟩ := rep_lst M1 r1 hx
    split at q1
    · rename_i ps hp
      split at q1
      · rename_i hk
        have e3 := plsOf_eq hp
        subst e3
        obtain ⟨h1, h2⟩ := reps_pls rs
        refine ⟨l, vs, rfl, hs, h1, by rw [h2]; exact hk, fun ys p hy e hn => ?_⟩
        rw [h2] at e
        refine q1.newL M1 ?_ p hn
        rw [← e]
        exact reps_of_pairs hy
      · exact q1.elim
    · exact q1.elim
  · exact q1.elim
end
end MP
end
section
set_option maxRecDepth 100000
set_option maxHeartbeats 4000000
namespace MP
open PySem PySem.Spec PyProof.Rows L2
section
variable {prog : Program} {w : World} {A : Around} {R : Result → Shared → Prop} {I : Addr} {fp wr : List Addr} {n : Nat} {P : Nat → Value → Prop} {St : Nat → Heap → Prop} {kw : List (Str × Value)}
theorem nameLoop : (toString "max" ++ toString ".loop" : String) = "max.loop" := by decide
theorem maxTurns (Wk : Walks prog w A.in1 I fp wr n P St) (bt : Nat → Nat → Bool) (hc : CmpOf prog w A.in1 .Gt P bt) (B : Addr) (hB : B ∉ fp) : ∀ (m j : Nat) (s : Shared) (v0 : Value) (c : Nat), n - (j + 1) = m → j + 1 ≤ n → St (j + 1) s.heap → P (argBest bt j) v0 →
    s.heap.get? B = some { cls := .type "list", dict := none, data := .seq #[v0, v0] c, slots := #[] } →
    (∀ v h' tk, P (argBest bt (n - 1)) v → (∀ b o, b ∉ wr → b ≠ B → s.heap.get? b = some o → h'.get? b = some o) → R (.ok (.ret v)) { s with heap := h', toks := tk }) → codeAny (model prog w) A (.builtin "max.loop" ⟨[.ref I, .none, .ref B], kw⟩) R s := by
  have hw : B ∉ wr := fun h => hB (Wk.sub _ h)
  intro m
  induction m with
  | zero =>
    intro j s v0 c hm hj hs h0 hb hR
    have en : j + 1 = n := by omega
    refine codeAny_builtin PySem.F.entry_max_loop ?_; rw [Around.under_plainId PySem.F.plain_max_loop _]
    show wpAny _ A.in1 (seqItems? (.ref B) >>= _) _ _ s; refine wpAny_bind (wpAny_seqItems hb rfl ?_)
    show wpAny _ A.in1 (tryCatch (pyNext (.ref I)) _ >>= _) _ _ s; refine wpAny_bind (wpAny_tryCatch (Wk.done s _ _ (en ▸ hs) fun h' tk k1 => ?_))
    show wpAny _ A.in1 (updateSeq B (fun _ => #[]) >>= _) _ _ _; refine wpAny_bind (wpAny_updateSeq (k1 B _ hw hb) rfl (wpAny_bind (wpAny_letGo (wpAny_pure ?_))))
    exact hR v0 _ tk (by rw [← en]; exact h0) fun b o h1 h2 e => (Heap.get?_update_other _ _ (Ne.symm h2)).trans (k1 b o h1 e)
  | succ m ih =>
    intro j s v0 c hm hj hs h0 hb hR
    have lt : j + 1 < n := by omega
    refine codeAny_builtin PySem.F.entry_max_loop ?_; rw [Around.under_plainId PySem.F.plain_max_loop _]
    show wpAny _ A.in1 (seqItems? (.ref B) >>= _) _ _ s; refine wpAny_bind (wpAny_seqItems hb rfl ?_)
    show wpAny _ A.in1 (tryCatch (pyNext (.ref I)) _ >>= _) _ _ s; refine wpAny_bind (wpAny_tryCatch (Wk.item (j + 1) s _ _ lt hs fun v h' tk hv hs' k1 => ?_))
    have hb' := k1 B _ hw hb
    show wpAny _ A.in1 (tryCatch (holding [v, v] (richCompare .Gt v v0 >>= _)) _ >>= _) _ _ _; refine wpAny_bind (wpAny_tryCatch (wpAny_holding (wpAny_bind (hc (j + 1) (argBest bt j) v v0 _ _ _ hv h0 ?_))))
    refine wpAny_bind (wpAny_holding (wpAny_truthy_bool ?_)); refine wpAny_bind (wpAny_letGo (wpAny_pure ?_))
    cases q : bt (j + 1) (argBest bt j) with
    | true =>
      simp only [if_true]; refine wpAny_bind (wpAny_updateSeq hb' rfl (wpAny_bind (wpAny_letGo ?_))); rw [nameLoop]
      refine wpAny_pure ⟨plainId_quiet PySem.F.plain_max_loop _, ih (j + 1) _ v _ (by omega) lt (Wk.frame _ _ _ hs' fun b hf o e => (Heap.get?_update_other _ _ (fun h : B = b => hB (by rw [h]; exact hf))).trans e) (by simp only [argBest, q, if_true]; exact hv) (Heap.get?_update_self _ hb' rfl) fun v' h2 tk2 hv' k2 => ?_⟩
      exact hR v' h2 tk2 hv' fun b o h1 h3 e => k2 b o h1 h3 ((Heap.get?_update_other _ _ (Ne.symm h3)).trans (k1 b o h1 e))
    | false =>
      simp only [Bool.false_eq_true, if_false]; refine wpAny_bind (wpAny_letGo ?_); rw [nameLoop]
      refine wpAny_pure ⟨plainId_quiet PySem.F.plain_max_loop _, ih (j + 1) _ v0 c (by omega) lt hs' (by simp only [argBest, q, Bool.false_eq_true, if_false]; exact h0) hb' fun v' h2 tk2 hv' k2 => ?_⟩
      exact hR v' h2 tk2 hv' fun b o h1 h3 e => k2 b o h1 h3 (k1 b o h1 e)
theorem maxFirst (Wk : Walks prog w A.in1 I fp wr n P St) (bt : Nat → Nat → Bool) (hc : CmpOf prog w A.in1 .Gt P bt) (B : Addr) (hB : B ∉ fp) (hn : 0 < n) {s : Shared} {c : Nat} (hs : St 0 s.heap) (hb : s.heap.get? B = some { cls := .type "list", dict := none, data := .seq #[] c, slots := #[] })
    (hR : ∀ v h' tk, P (argBest bt (n - 1)) v → (∀ b o, b ∉ wr → b ≠ B → s.heap.get? b = some o → h'.get? b = some o) → R (.ok (.ret v)) { s with heap := h', toks := tk }) : codeAny (model prog w) A (.builtin "max.loop" ⟨[.ref I, .none, .ref B], kw⟩) R s := by
  have hw : B ∉ wr := fun h => hB (Wk.sub _ h)
  refine codeAny_builtin PySem.F.entry_max_loop ?_; rw [Around.under_plainId PySem.F.plain_max_loop _]
  show wpAny _ A.in1 (seqItems? (.ref B) >>= _) _ _ s; refine wpAny_bind (wpAny_seqItems hb rfl ?_)
  show wpAny _ A.in1 (tryCatch (pyNext (.ref I)) _ >>= _) _ _ s; refine wpAny_bind (wpAny_tryCatch (Wk.item 0 s _ _ hn hs fun v h' tk hv hs' k1 => ?_))
  have hb' := k1 B _ hw hb
  show wpAny _ A.in1 (updateSeq B (fun _ => #[v, v]) >>= _) _ _ _; refine wpAny_bind (wpAny_updateSeq hb' rfl ?_); rw [nameLoop]
  refine wpAny_pure ⟨plainId_quiet PySem.F.plain_max_loop _, maxTurns Wk bt hc B hB _ 0 _ v _ rfl hn (Wk.frame _ _ _ hs' fun b hf o e => (Heap.get?_update_other _ _ (fun h : B = b => hB (by rw [h]; exact hf))).trans e) hv (Heap.get?_update_self _ hb' rfl) fun v' h2 tk2 hv' k2 => ?_⟩
  exact hR v' h2 tk2 hv' fun b o h1 h3 e => k2 b o h1 h3 ((Heap.get?_update_other _ _ (Ne.symm h3)).trans (k1 b o h1 e))
theorem maxNone (Wk : Walks prog w A.in1 I fp wr 0 P St) (B : Addr) (hB : B ∉ fp) {s : Shared} {c : Nat} {d : Value} {x : Str} (hs : St 0 s.heap) (hb : s.heap.get? B = some { cls := .type "list", dict := none, data := .seq #[] c, slots := #[] })
    (hR : ∀ h' tk, (∀ b o, b ∉ wr → s.heap.get? b = some o → h'.get? b = some o) → R (.ok (.ret d)) { s with heap := h', toks := tk }) : codeAny (model prog w) A (.builtin "max.loop" ⟨[.ref I, .none, .ref B], [(x, d)]⟩) R s := by
  refine codeAny_builtin PySem.F.entry_max_loop ?_; rw [Around.under_plainId PySem.F.plain_max_loop _]
  show wpAny _ A.in1 (seqItems? (.ref B) >>= _) _ _ s; refine wpAny_bind (wpAny_seqItems hb rfl ?_)
  show wpAny _ A.in1 (tryCatch (pyNext (.ref I)) _ >>= _) _ _ s; refine wpAny_bind (wpAny_tryCatch (Wk.done s _ _ hs fun h' tk k1 => ?_))
  exact wpAny_bind (wpAny_rule (wpAny_pure (hR h' tk k1)))
end
section
variable {prog : Program} {w : World} {A : Around} {E : Value → Shared → Prop} {s : Shared}
theorem call_tree_kw {id : String} {b : Builtin} {args : List Value} {kw : List (Str × Value)} {Q : Value → Shared → Prop} (hk : builtinKind id = none) (hp : plainId id = true) (hb : entryFor table id = some b) (ha : argsOk id ⟨args, kw⟩)
    (hc : wpAny (model prog w) A.in1 (b ⟨args, kw⟩) (fun fin s' => match fin with
      | .done f => (match (Except.ok f : Result) with | .ok (.ret v) => Q v s' | .ok _ => False | .error e => E e s')
      | .again c' => c'.quiet = true ∧ codeAny (model prog w) A c' (fun r s' => match r with | .ok (.ret v) => Q v s' | .ok _ => False | .error e => E e s') s') E s) : wpAny (model prog w) A (call (.builtin id) args kw) Q E s := by
  refine wpAny_call (codeAny_call_builtin hp hb ?_); simp only [checkBuiltinCall, hk]
  cases hg : Manifest.signature? id with
  | none => exact wpAny_pure hc
  | some sg =>
    have h2 : Bind.checkArgs id sg ⟨args, kw⟩ = pure () := by simp only [argsOk, hg] at ha; exact ha
    show wpAny _ A.in1 (Bind.checkArgs id sg ⟨args, kw⟩) _ _ s; rw [h2]; exact wpAny_pure hc
theorem args_maxD (a d : Value) : argsOk "max" ⟨[a], [(Str.ofString "default", d)]⟩ := by unfold argsOk; kernel_rfl
theorem call_maxDef {x d : Value} {Q : Value → Shared → Prop}
    (h : wpAny (model prog w) A.in1 (pyIter x) (fun it s2 => ∃ I fp wr n P St bt, it = .ref I ∧ Walks prog w A.in1 I fp wr n P St ∧ St 0 s2.heap ∧ (∀ b ∈ fp, b < s2.heap.objs.size) ∧ CmpOf prog w A.in1 .Gt P bt ∧
      (∀ v h' tk, 0 < n → P (argBest bt (n - 1)) v → (∀ b o, b ∉ wr → s2.heap.get? b = some o → h'.get? b = some o) → Q v { s2 with heap := h', toks := tk }) ∧
      (∀ h' tk, n = 0 → (∀ b o, b ∉ wr → s2.heap.get? b = some o → h'.get? b = some o) → Q d { s2 with heap := h', toks := tk })) E s) : wpAny (model prog w) A (call (.builtin "max") [x] [(Str.ofString "default", d)]) Q E s := by
  refine call_tree_kw PySem.F.kind_max PySem.F.plain_max PySem.F.entry_max (args_maxD _ _) ?_
  show wpAny _ A.in1 (Builtin.Builtins.bindParams "max" ["key", "default"] 0 ⟨[], [(Str.ofString "default", d)]⟩ >>= _) _ _ s; refine wpAny_bind (wpAny_of_eq (show Builtin.Builtins.bindParams "max" ["key", "default"] 0 ⟨[], [(Str.ofString "default", d)]⟩ = pure [none, some d] from by kernel_rfl) ?_)
  refine wpAny_bind (wpAny_pure ?_); refine wpAny_bind (wpAny_mono h (fun it s2 h2 => ?_) fun _ _ e => e)
  obtain ⟨I, fp, wr, n, P, St, bt, rfl, Wk, hs, hf, hc, hQ, hD⟩ := h2
  refine wpAny_bind (wpAny_newObj_type ?_)
  have nf : s2.heap.objs.size ∉ fp := fun hm => Nat.lt_irrefl _ (hf _ hm)
  rw [nameLoop]
  refine wpAny_pure ⟨plainId_quiet PySem.F.plain_max_loop _, ?_⟩
  have fr := Wk.frame _ _ _ hs fun b (_ : b ∈ fp) o (e : s2.heap.get? b = some o) => Heap.get?_push_of_some { cls := .type "list", dict := none, data := .seq #[], slots := #[] } e
  by_cases h0 : n = 0
  · subst h0
    exact maxNone Wk s2.heap.objs.size nf fr (Heap.get?_push_size _ rfl) fun h' tk k1 => hD h' tk rfl fun b o hb e => k1 b o hb (Heap.get?_push_of_some _ e)
  · exact maxFirst Wk bt hc s2.heap.objs.size nf (by omega) fr (Heap.get?_push_size _ rfl) fun v h' tk hv k1 => hQ v h' tk (by omega) hv fun b o hb e => k1 b o hb (Nat.ne_of_lt (Heap.lt_size e)) (Heap.get?_push_of_some _ e)
end
def rMaxDef (K : PySem.W.Frag) : List V → List V → Hp → VK → Prop := fun vs zs H Q => ∃ (a : Addr) (ns : List Int) (d : Int), vs = [V.ref a] ∧ zs = [.int d] ∧ SqL K H a (ns.map V.int) ∧ (ns = [] → Q (.int d) H) ∧ ∀ m, m ∈ ns → (∀ y ∈ ns, y ≤ m) → Q (.int m) H
theorem cr_maxDef {X : Cx} (hc : X.calm = true) : CallRK X (.builtin "max") [Str.ofString "default"] (rMaxDef X.K) := by
  intro pins s σ H vs zs us ws Q I r rz h
  obtain ⟨a, ns, d, rfl, rfl, hs, q0, q1⟩ := h
  obtain ⟨its, rv, hl, _⟩ := I.list hs
  obtain rfl := Vals.ref1 r
  obtain ⟨w1, rfl, t, rfl⟩ := vals1 rz
  have hi := rv.ints
  obtain ⟨xs, e⟩ := hi.allInts.items
  have hn : numsOf (intItems xs).toList = ns := by rw [← e]; exact hi.numsOf
  rw [nums_intItems] at hn
  subst hn
  rw [e] at hl
  refine call_maxDef (iter_intList hl.isList fun s2 e2 st hfp hlI => ?_)
  subst e2
  refine ⟨_, _, _, _, _, _, _, rfl, Walks.list (A := X.A.in1) (I.ok.hd hc) _ a hlI (intItems xs), st, hfp, CmpOf.ints_gt (numAt xs) (fun _ _ => intItems_at), fun v h' tk hpos hv k1 => ?_, fun h' tk h0 k1 => ?_⟩
  · obtain ⟨t2, rfl⟩ := intItems_at hv
    obtain ⟨g1, g2⟩ := argBest_gt (numAt xs) ((intItems xs).size - 1)
    have hz : (intItems xs).size = xs.size := by simp [intItems]
    rw [hz] at g1 g2 hpos ⊢
    refine ⟨.int _, H, I.kept (old_kept k1), ⟨_, rfl⟩, q1 _ ?_ fun y hy => ?_⟩
    · rw [numAt_eq]; exact PySem.getD_mem (by rw [List.length_map, Array.length_toList]; omega)
    · obtain ⟨j, hj, rfl⟩ := mem_getD hy
      rw [List.length_map, Array.length_toList] at hj
      rw [← numAt_eq]; exact g2 j (by omega)
  · have hz : xs.size = 0 := by simpa [intItems] using h0
    refine ⟨.int d, H, I.kept (old_kept k1), ⟨_, rfl⟩, q0 ?_⟩
    have : xs = #[] := Array.eq_empty_of_size_eq_zero hz
    rw [this]
    rfl
end MP
namespace MP
open PySem PySem.Spec PyProof.Rows L2
theorem ok_maxD {K : PySem.W.Frag} {ex : Addr → Prop} {H : Hp} {ρ : List Addr} {st : Store} {d : D} {v : V} {Xe : Ex → Hp → List Addr → Store → Prop} {Q : VK} (M : Mem K ex H ρ st) (r : Rep K ex H ρ d v) (h : PostV K ex H ρ (prim1F .maxD d st) Xe Q) : rMaxDef K [v] [.int 0] H Q := by
  unfold prim1F at h
  simp only at h
  split at h
  · rename_i xs hx
    obtain ⟨a, vs, rfl, hq, rs⟩ := rep_lst M r hx
    split at h
    · rename_i hi
      rw [intsOf_eq hi] at rs
      rw [reps_ints rs] at hq
      exact ⟨a, [], 0, rfl, rfl, hq, fun _ => h.here M rfl, fun m hm => by cases hm⟩
    · rename_i ns hne hi
      rw [intsOf_eq hi] at rs
      rw [reps_ints rs] at hq
      refine ⟨a, ns, 0, rfl, rfl, hq, fun e => ?_, fun m hm hall => ?_⟩
      · subst e
        simp [mxL] at h
        exact h.elim
      · rw [mxL_spec hm hall] at h
        exact h.here M rfl
    · exact h.elim
  · exact h.elim
theorem den_maxD {X : Cx} {xa : XA} {W : WX} {pos p1 p2 p3 : Pos} {k : Nat} {a : Expr} {fa : DS → Store → RE} (hcalm : X.calm = true) (hg : Gl X "max") (hm : X.mg "max" = none) (hv : bootBuiltins "max" = some (.builtin "max")) (pa : plainArg a = true) (ha : PE X a (denE X.K xa W fa)) :
    PE X (.Call (.Name "max" p1) [a] [⟨some "default", .Constant (.int 0) k p2, p3⟩] pos) (denE X.K xa W fun ds st => (fa ds st).bind fun v st1 => prim1F .maxD v st1) := by
  refine (pe_callBK (cr_maxDef hcalm) hg hm hv (pa_cons ha pa_nil (star_cons pa _ _)) (pk_cons pe_int pk_nil) (by decide) (by decide) (by rw [star_cons pa]; rfl) (by rw [star_cons pa]; rfl) rfl rfl rfl).imp fun σ H Q h => ?_
  exact den_one (g := fun v st1 => prim1F .maxD v st1) h fun ex H2 ρ2 st2 y v M r q => ok_maxD M r q
end MP
end
section
set_option maxRecDepth 100000
set_option maxHeartbeats 4000000
namespace MP
open PySem PySem.Spec PyProof.Rows L2
abbrev W0 : WX := fun _ _ _ _ => False
def banD (ex : Addr → Prop) (D : Addr) : Addr → Prop := fun a => ex a ∨ a = D
section
variable {K : PySem.W.Frag} {ex : Addr → Prop} {H H' : Hp} {ρ ρ' : List Addr} {st : Store} {D : Addr}
theorem ne_D (hD : H D = none) : ∀ a, H a ≠ none → ¬ ex a → ¬ banD ex D a := fun a h n q => q.elim n fun e => h (by rw [e]; exact hD)
theorem Ext.behind {o : HO} (hD : H D = none) (e : Ext ρ H ρ' H') (hD' : H' D ≠ none) : Ext ρ H ρ' (upd H' D o) where
  keep := fun a u h n => by rw [upd_ne (ne_of_none h hD)]; exact e.keep a u h n
  tups := fun a u h => by rw [upd_ne (ne_of_none h hD)]; exact e.tups a u h
  frzs := fun a ob u h => by rw [upd_ne (ne_of_none h hD)]; exact e.frzs a ob u h
  pre := e.pre
  new := e.new
  trk := fun a h => by
    by_cases q : a = D
    · subst q; rw [upd_same]; simp
    · rw [upd_ne q]; exact e.trk a h
theorem hk_D {o : HO} (hl : ∃ xs, H D = some (.lst xs)) : ∀ a u, Plain u → Rd H a u → a ∉ ρ → ¬ banD ex D a → Rd (upd H D o) a u ∧ a ∉ ρ ∧ ¬ banD ex D a := fun a u _ t n x => by
  have q : a ≠ D := fun e => x (.inr e)
  refine ⟨?_, n, x⟩
  rcases t with t | ⟨ob, t⟩
  · exact .inl (by rw [upd_ne q]; exact t)
  · exact .inr ⟨ob, by rw [upd_ne q]; exact t⟩
theorem ht_D {o : HO} (hl : ∃ xs, H D = some (.lst xs)) : KeepsT H (upd H D o) := by
  obtain ⟨xs, hl⟩ := hl
  refine ⟨fun a vs h => ?_, fun a vs h => ?_⟩
  · rw [upd_ne fun e => by subst e; rw [hl] at h; cases h]
    exact h
  · rw [upd_ne fun e => by subst e; rw [hl] at h; cases h]
    exact h
theorem Mem.writeD {o : HO} (M : Mem K (banD ex D) H ρ st) (hl : ∃ xs, H D = some (.lst xs)) (hn : D ∉ ρ) : Mem K (banD ex D) (upd H D o) ρ st :=
  M.gen (hk_D hl) (ht_D hl) (fun a m => upd_ne fun e => hn (by rw [← e]; exact m)) (fun a q => by
    by_cases e : a = D
    · subst e; rw [upd_same]; simp
    · rw [upd_ne e]; exact M.exT a q) M.exD
theorem Mem.startD {o : HO} (M : Mem K ex H ρ st) (hD : H D = none) : Mem K (banD ex D) (upd H D o) ρ st :=
  M.gen (fun a u _ t n x => ⟨Rd.ext (Ext.laid (ρ := ρ) hD) t n, n, ne_D hD a (Rd.ne t) x⟩) (Ext.laid (ρ := ρ) hD).keepsT (fun a m => upd_ne fun e => M.tracked m (by rw [e]; exact hD)) (fun a q => by
    by_cases e : a = D
    · subst e; rw [upd_same]; simp
    · rw [upd_ne e]; exact q.elim (M.exT a) (fun z => absurd z e)) (fun a m q => q.elim (M.exD a m) fun e => M.tracked m (by rw [e]; exact hD))
theorem Mem.lessD (M : Mem K (banD ex D) H ρ st) : Mem K ex H ρ st := M.gen (fun a u _ t n x => ⟨t, n, fun q => x (.inl q)⟩) KeepsT.refl (fun _ _ => rfl) (fun a q => M.exT a (.inl q)) (fun a m q => M.exD a m (.inl q))
end
section
variable {X : Cx} {xa : XA} {W : WX} {pos p1 p2 : Pos} {a b c : Expr} {fe fc : DS → Store → RE} {fs : DS → Store → R (List D)}
theorem comp_loop {m : Bool} {J : It} {te : TE} {tt : TT} {v : Nat} {ex : Addr → Prop} {H : Hp} {ρ : List Addr} {st st' : Store} {σ : L2.St} {ds : DS} {items ys : List D} {Q : VK} {Xe : Ex → Hp → List Addr → Store → Prop} {D : Addr}
    (M : Mem X.K ex H ρ st) (S : Slots X.K ex H ρ σ ds) (j : JOk X.K ex J ρ H items) (hc : compB fe fc v items [] ds st = some (ys, st')) (q : PostV X.K ex H ρ (mkL m ys st') Xe Q) (hD : H D = none)
    (hte : ∀ σ H Q, denE X.K xa W0 fe σ H Q → te σ H Q) (htt : ∀ σ H Q, denT X.K xa W0 fc σ H Q → tt σ H Q) :
    ∃ Wv : Nat → Nat → Hp → Prop, (∃ m, Wv 0 m (upd H D (.lst []))) ∧ ∀ i m H, Wv i m H →
      (J.stop i H ∧ Q (.ref D) H) ∨ (J.go i H ∧ ∃ Nx : Hp → Prop, (∀ H', Nx H' → ∃ m', m' < m ∧ Wv (i + 1) m' H') ∧ ∀ x H', J.yld i H x H' → gName v x (wipe σ [v]) H' fun σ2 H2 => wipe σ2 [v] = wipe σ [v] ∧ tt σ2 H2 fun b H3 =>
        if b = true then te σ2 H3 fun y H4 => ∃ acc, H4 D = some (.lst acc) ∧ acc.length < sizeLine ∧ Nx (upd H4 D (.lst (acc ++ [y]))) else Nx H3) := by
  refine ⟨fun i m' H1 => ∃ ρ1 st1 acc vs, Ext ρ H ρ1 H1 ∧ Mem X.K (banD ex D) H1 ρ1 st1 ∧ H1 D = some (.lst vs) ∧ D ∉ ρ1 ∧ Reps X.K (banD ex D) H1 ρ1 acc vs ∧ compB fe fc v (items.drop i) acc ds st1 = some (ys, st') ∧ i + m' = items.length,
    ⟨items.length, ρ, st, [], [], Ext.laid hD, M.startD hD, upd_same, (M.fresh hD).1, rfl, by rw [List.drop_zero]; exact hc, by omega⟩, ?_⟩
  rintro i m' H1 ⟨ρ1, st1, acc, vs, e1, M1, hl, hn, ra, hcb, hi⟩
  obtain ⟨j1, j2⟩ := j ρ1 H1 (banD ex D) e1 (ne_D hD) i
  by_cases hlt : i < items.length
  · -- a turn
    have hd : items[i]? = some items[i] := List.getElem?_eq_getElem hlt
    rw [List.drop_eq_getElem_cons hlt] at hcb
    obtain ⟨go, yld⟩ := j1 _ hd
    refine .inr ⟨go, fun H' => ∃ ρ1 st1 acc vs, Ext ρ H ρ1 H' ∧ Mem X.K (banD ex D) H' ρ1 st1 ∧ H' D = some (.lst vs) ∧ D ∉ ρ1 ∧ Reps X.K (banD ex D) H' ρ1 acc vs ∧ compB fe fc v (items.drop (i + 1)) acc ds st1 = some (ys, st'), fun H' ⟨ρ2, st2, acc2, vs2, z1, z2, z3, z4, z5, z6⟩ => ⟨m' - 1, by omega, ρ2, st2, acc2, vs2, z1, z2, z3, z4, z5, z6, by omega⟩, fun x H' hy => ?_⟩
    obtain ⟨rfl, rx⟩ := yld x H' hy
    show wipe ((wipe σ [v]).set v (some x)) [v] = wipe σ [v] ∧ _
    have hw : wipe ((wipe σ [v]).set v (some x)) [v] = wipe σ [v] := by
      show ((σ.set v none).set v (some x)).set v none = σ.set v none
      rw [List.set_set, List.set_set]
    refine ⟨hw, ?_⟩
    have S1 : Slots X.K (banD ex D) H' ρ1 ((wipe σ [v]).set v (some x)) (ds.set v (some items[i])) := by
      have e0 : (wipe σ [v]).set v (some x) = σ.set v (some x) := by
        show (σ.set v none).set v (some x) = σ.set v (some x)
        rw [List.set_set]
      rw [e0]
      refine Slots.set ⟨S.1, fun k d h => ?_⟩ v rx
      obtain ⟨u, h1, h2⟩ := S.2 k d h
      exact ⟨u, h1, h2.ext2 e1 (ne_D hD)⟩
    rw [compB] at hcb
    refine htt _ _ _ ⟨banD ex D, ρ1, _, st1, M1, S1, ?_⟩
    split at hcb
    · -- the test holds
      rename_i st2 e2
      rw [e2]
      intro u H2 ρ2 x2 M2 r2
      cases r2
      refine ⟨true, rfl, iteT ?_⟩
      split at hcb
      · rename_i y st3 e3
        refine hte _ _ _ ⟨banD ex D, ρ2, _, st2, M2, S1.ext x2, ?_⟩
        rw [e3]
        intro u H3 ρ3 x3 M3 r3
        split at hcb
        · rename_i hlim
          have h2 : H2 D = some (.lst vs) := x2.keep _ _ hl hn
          have n2 : D ∉ ρ2 := not_new x2 (by rw [hl]; simp) hn
          have h3 : H3 D = some (.lst vs) := x3.keep _ _ h2 n2
          have n3 : D ∉ ρ3 := not_new x3 (by rw [h2]; simp) n2
          refine ⟨vs, h3, by rw [← ra.length, lim_eq]; exact hlim, ρ3, st3, acc ++ [y], vs ++ [u], Ext.behind hD ((e1.trans x2).trans x3) (by rw [h3]; simp), M3.writeD ⟨_, h3⟩ n3, upd_same, n3, ?_, hcb⟩
          exact (((ra.ext x2).ext x3).append (Reps.one r3)).gen (hk_D ⟨_, h3⟩) (ht_D ⟨_, h3⟩) (fun _ _ h => h)
        · cases hcb
      · cases hcb
    · rename_i st2 e2
      rw [e2]
      intro u H2 ρ2 x2 M2 r2
      cases r2
      refine ⟨false, rfl, iteF ?_⟩
      exact ⟨ρ2, st2, acc, vs, e1.trans x2, M2, x2.keep _ _ hl hn, not_new x2 (by rw [hl]; simp) hn, ra.ext x2, hcb⟩
    · cases hcb
  · -- the end
    refine .inl ⟨j2 (by omega), ?_⟩
    rw [List.drop_eq_nil_of_le (by omega), compB] at hcb
    cases hcb
    have rb : Reps X.K ex H1 ρ1 ys vs := ra.gen (fun a u _ t n x => ⟨t, n, fun q => x (.inl q)⟩) KeepsT.refl (fun _ _ h => h)
    have nx : ¬ ex D := fun z => M.exT D z hD
    unfold mkL at q
    cases m with
    | false =>
      simp only [Bool.false_eq_true, if_false] at q
      exact q (.ref D) H1 ρ1 e1 M1.lessD ⟨D, vs, rfl, .inl hl, hn, nx, rb⟩
    | true =>
      simp only [if_true] at q
      have hg : ∀ a u, Plain u → Rd H1 a u → a ∉ ρ1 → ¬ banD ex D a → Rd H1 a u ∧ a ∉ ρ1 ++ [D] ∧ ¬ ex a := fun a u _ t n x => ⟨t, fun z => (List.mem_append.mp z).elim n fun z => x (.inr (List.mem_singleton.mp z)), fun z => x (.inl z)⟩
      have hp : ∀ (n : Nat) (a : Addr), ρ1[n]? = some a → (ρ1 ++ [D])[n]? = some a := fun n a h => by rw [List.getElem?_append_left (List.getElem?_eq_some_iff.mp h).1]; exact h
      have e2 : Ext ρ H (ρ1 ++ [D]) H1 := ⟨e1.keep, e1.tups, e1.frzs, fun n a h => hp n a (e1.pre n a h), fun a h => (List.mem_append.mp h).elim (e1.new a) fun z => .inr (by rw [List.mem_singleton.mp z]; exact hD), e1.trk⟩
      refine q (.ref D) H1 (ρ1 ++ [D]) e2 ⟨?_, ?_, fun n a c h1 h2 => ?_, fun a z => M1.exT a (.inl z), fun a z => (List.mem_append.mp z).elim (fun z q => M1.exD a z (.inl q)) fun z => by rw [List.mem_singleton.mp z]; exact nx⟩ ⟨D, ?_, rfl⟩
      · rw [List.length_append, List.length_append, M1.len]; rfl
      · rw [List.nodup_append]
        refine ⟨M1.nod, by simp, fun a ha b hb e => ?_⟩
        rw [List.mem_singleton.mp hb] at e
        subst e
        exact hn ha
      · by_cases hb : n < ρ1.length
        · rw [List.getElem?_append_left hb] at h1
          rw [List.getElem?_append_left (by rw [← M1.len]; exact hb)] at h2
          have h := M1.cell n a c h1 h2
          cases c with
          | lst xs => obtain ⟨vs, e1, r⟩ := h; exact ⟨vs, e1, r.gen hg KeepsT.refl hp⟩
          | dct xs => obtain ⟨vs, e1, r⟩ := h; exact ⟨vs, e1, r.gen hg KeepsT.refl hp⟩
          | lckL xs => obtain ⟨o, vs, e1, r⟩ := h; exact ⟨o, vs, e1, r.gen hg KeepsT.refl hp⟩
          | lckD xs => obtain ⟨o, vs, e1, r⟩ := h; exact ⟨o, vs, e1, r.gen hg KeepsT.refl hp⟩
        · rw [List.getElem?_append_right (by omega)] at h1
          rw [List.getElem?_append_right (by rw [← M1.len]; omega)] at h2
          have : n = ρ1.length := by
            have := (List.getElem?_eq_some_iff.mp h1).1
            simp at this
            omega
          subst this
          rw [Nat.sub_self] at h1
          rw [M1.len, Nat.sub_self] at h2
          cases h1
          cases h2
          exact ⟨vs, hl, ra.gen hg KeepsT.refl hp⟩
      · rw [← M1.len, List.getElem?_append_right (Nat.le_refl _), Nat.sub_self]
        rfl
theorem comp_reading {m : Bool} {k : SK} {te : TE} {tt : TT} {v : Nat} {wi : TI} {σ : L2.St} {H : Hp} {Q : VK}
    (w1 : ∀ {ex : Addr → Prop} {H : Hp} {ρ : List Addr} {st : Store} {σ : L2.St} {ds : DS} {xs : List D} {items : List D} {st1 : Store} {R : It → Hp → Prop}, Mem X.K ex H ρ st → Slots X.K ex H ρ σ ds → fs ds st = .ok xs st1 → srcF k xs st1 = some (none, items) →
      (∀ J H1 ρ1, Ext ρ H ρ1 H1 → Mem X.K ex H1 ρ1 st1 → JOk X.K ex J ρ1 H1 items → R J H1) → wi σ H R)
    (w2 : ∀ {ex : Addr → Prop} {H : Hp} {ρ : List Addr} {st : Store} {σ : L2.St} {ds : DS} {e : Ex} {st1 : Store} {R : It → Hp → Prop}, Mem X.K ex H ρ st → Slots X.K ex H ρ σ ds → fs ds st = .exc e st1 →
      PostL X.K ex H ρ (.exc e st1) (xOf xa W σ) (fun _ _ => False) → wi σ H R)
    (hte : ∀ σ H Q, denE X.K xa W0 fe σ H Q → te σ H Q) (htt : ∀ σ H Q, denT X.K xa W0 fc σ H Q → tt σ H Q)
    {ex : Addr → Prop} {ρ : List Addr} {ds : DS} {st : Store} (M : Mem X.K ex H ρ st) (S : Slots X.K ex H ρ σ ds)
    (hn : ∀ xs st1, fs ds st = .ok xs st1 → ∀ n items, srcF k xs st1 ≠ some (some n, items))
    (q : PostV X.K ex H ρ ((fs ds st).bind fun xs st1 => compF m fe fc v k xs ds st1) (xOf xa W σ) Q) : tLc wi (gName v) tt te [v] σ H Q := by
  cases e : fs ds st with
  | no => rw [e] at q; exact q.elim
  | exc z s => rw [e] at q; exact w2 M S e q
  | ok xs st1 =>
    rw [e] at q
    have q0 : PostV X.K ex H ρ (compF m fe fc v k xs ds st1) (xOf xa W σ) Q := q
    unfold compF at q0
    split at q0
    · rename_i items hs
      refine w1 M S e hs fun J H1 ρ1 e1 M1 j => ?_
      split at q0
      · rename_i ys st' hc
        exact fun D hD => comp_loop M1 (S.ext e1) j hc (PostV.step e1 q0) hD hte htt
      · exact q0.elim
    · rename_i n items hs
      exact absurd hs (hn xs st1 e n items)
    · exact q0.elim
def LockAt (K : PySem.W.Frag) (ex : Addr → Prop) (H : Hp) (ρ : List Addr) (st st1 : Store) (a : Addr) (u : HO) : Prop :=
  H a = some u ∧ ((∃ n, ρ[n]? = some a ∧ lock n st = some st1) ∨ (a ∉ ρ ∧ st1 = st)) ∧ ((∃ vs, u = .lst vs) ∨ ∃ kvs, u = .dT kvs)
theorem LockAt.mut {K : PySem.W.Frag} {ex : Addr → Prop} {H : Hp} {ρ : List Addr} {st st1 : Store} {a : Addr} {u : HO} (h : LockAt K ex H ρ st st1 a u) : Mut (some u) := by
  rcases h.2.2 with ⟨vs, rfl⟩ | ⟨vs, rfl⟩ <;> trivial
theorem rd_lock {H : Hp} {a : Addr} {u : HO} {od : Obj} (h : H a = some u) (hu : Plain u) : ∀ b w, Plain w → Rd H b w → Rd (upd H a (.frz od u)) b w := fun b w hw r => by
  by_cases e : b = a
  · subst e
    rcases r with r | ⟨o, r⟩
    · rw [h] at r; cases r; exact .inr ⟨od, upd_same⟩
    · rw [h] at r; cases r; exact hu.elim
  · rcases r with r | ⟨o, r⟩
    · exact .inl (by rw [upd_ne e]; exact r)
    · exact .inr ⟨o, by rw [upd_ne e]; exact r⟩
theorem rd_unlock {H : Hp} {a : Addr} {u : HO} {od : Obj} (h : H a = some (.frz od u)) : ∀ b w, Plain w → Rd H b w → Rd (upd H a u) b w := fun b w hw r => by
  by_cases e : b = a
  · subst e
    rcases r with r | ⟨o, r⟩
    · rw [h] at r; cases r; exact hw.elim
    · rw [h] at r; cases r; exact .inl upd_same
  · rcases r with r | ⟨o, r⟩
    · exact .inl (by rw [upd_ne e]; exact r)
    · exact .inr ⟨o, by rw [upd_ne e]; exact r⟩
section
variable {K : PySem.W.Frag} {ex : Addr → Prop} {H H' : Hp} {ρ ρ' : List Addr} {st st1 st' : Store} {σ : L2.St} {ds : DS} {ad : Addr} {u : HO} {od : Obj}
theorem LockAt.plain (h : LockAt K ex H ρ st st1 ad u) : Plain u := by
  rcases h.2.2 with ⟨vs, rfl⟩ | ⟨vs, rfl⟩ <;> trivial
theorem LockAt.tup (h : LockAt K ex H ρ st st1 ad u) {o : HO} : KeepsT H (upd H ad o) := by
  refine ⟨fun b vs e => ?_, fun b vs e => ?_⟩
  · rw [upd_ne fun q => by subst q; rw [h.1] at e; cases e; exact h.plain]
    exact e
  · rw [upd_ne fun q => by subst q; rw [h.1] at e; cases e; exact h.plain]
    exact e
theorem LockAt.rep (h : LockAt K ex H ρ st st1 ad u) {d : D} {v : V} (r : Rep K ex H ρ d v) : Rep K ex (upd H ad (.frz od u)) ρ d v :=
  r.gen (fun a w hw t n x => ⟨rd_lock h.1 h.plain a w hw t, n, x⟩) h.tup (fun _ _ h => h)
theorem LockAt.slots (h : LockAt K ex H ρ st st1 ad u) (S : Slots K ex H ρ σ ds) : Slots K ex (upd H ad (.frz od u)) ρ σ ds :=
  ⟨S.1, fun i d e => let ⟨v, h1, h2⟩ := S.2 i d e; ⟨v, h1, h.rep h2⟩⟩
theorem lock_eq {n : Nat} (h : lock n st = some st1) : (∃ xs, st[n]? = some (.lst xs) ∧ st1 = st.set n (.lckL xs)) ∨ ∃ es, st[n]? = some (.dct es) ∧ st1 = st.set n (.lckD es) := by
  unfold lock at h
  split at h
  · rename_i xs e; cases h; exact .inl ⟨xs, e, rfl⟩
  · rename_i xs e; cases h; exact .inr ⟨xs, e, rfl⟩
  · cases h
theorem unlock_eq {n : Nat} (h : unlock n st = some st1) : (∃ xs, st[n]? = some (.lckL xs) ∧ st1 = st.set n (.lst xs)) ∨ ∃ es, st[n]? = some (.lckD es) ∧ st1 = st.set n (.dct es) := by
  unfold unlock at h
  split at h
  · rename_i xs e; cases h; exact .inl ⟨xs, e, rfl⟩
  · rename_i xs e; cases h; exact .inr ⟨xs, e, rfl⟩
  · cases h
theorem LockAt.mem (h : LockAt K ex H ρ st st1 ad u) (M : Mem K ex H ρ st) : Mem K ex (upd H ad (.frz od u)) ρ st1 := by
  have hk : ∀ a w, Plain w → Rd H a w → a ∉ ρ → ¬ ex a → Rd (upd H ad (.frz od u)) a w ∧ a ∉ ρ ∧ ¬ ex a := fun a w hw t n x => ⟨rd_lock h.1 h.plain a w hw t, n, x⟩
  have hT : ∀ a, ex a → (upd H ad (.frz od u)) a ≠ none := fun a q => by
    by_cases e : a = ad
    · subst e; rw [upd_same]; simp
    · rw [upd_ne e]; exact M.exT a q
  rcases h.2.1 with ⟨n, hn, hl⟩ | ⟨hn, rfl⟩
  · have len1 : st1.length = st.length := by rcases lock_eq hl with ⟨xs, _, rfl⟩ | ⟨es, _, rfl⟩ <;> rw [List.length_set]
    refine ⟨by rw [len1]; exact M.len, M.nod, fun m b c h1 h2 => ?_, hT, M.exD⟩
    by_cases e : m = n
    · subst e
      rw [hn] at h1
      cases h1
      have hs : m < st.length := by rw [← M.len]; exact (List.getElem?_eq_some_iff.mp hn).1
      rcases lock_eq hl with ⟨xs, e1, rfl⟩ | ⟨es, e1, rfl⟩
      · rw [List.getElem?_set_self hs] at h2
        cases h2
        obtain ⟨vs, e2, r⟩ := M.cell m ad _ hn e1
        rw [h.1] at e2
        cases e2
        exact ⟨od, vs, upd_same, r.gen hk h.tup (fun _ _ h => h)⟩
      · rw [List.getElem?_set_self hs] at h2
        cases h2
        obtain ⟨vs, e2, r⟩ := M.cell m ad _ hn e1
        rw [h.1] at e2
        cases e2
        exact ⟨od, vs, upd_same, r.gen hk h.tup (fun _ _ h => h)⟩
    · have h2' : st[m]? = some c := by
        rcases lock_eq hl with ⟨xs, e1, rfl⟩ | ⟨es, e1, rfl⟩ <;> rw [List.getElem?_set_ne (Ne.symm e)] at h2 <;> exact h2
      have hb : b ≠ ad := fun q => e (nodup_get M.nod (by rw [← q]; exact h1) hn)
      have hc := M.cell m b c h1 h2'
      cases c with
      | lst xs => obtain ⟨vs, e1, r⟩ := hc; exact ⟨vs, by rw [upd_ne hb]; exact e1, r.gen hk h.tup (fun _ _ h => h)⟩
      | dct xs => obtain ⟨vs, e1, r⟩ := hc; exact ⟨vs, by rw [upd_ne hb]; exact e1, r.gen hk h.tup (fun _ _ h => h)⟩
      | lckL xs => obtain ⟨o, vs, e1, r⟩ := hc; exact ⟨o, vs, by rw [upd_ne hb]; exact e1, r.gen hk h.tup (fun _ _ h => h)⟩
      | lckD xs => obtain ⟨o, vs, e1, r⟩ := hc; exact ⟨o, vs, by rw [upd_ne hb]; exact e1, r.gen hk h.tup (fun _ _ h => h)⟩
  · exact M.gen hk h.tup (fun a m => upd_ne fun e => hn (by rw [← e]; exact m)) hT M.exD
theorem LockAt.ext (h : LockAt K ex H ρ st st1 ad u) (e : Ext ρ (upd H ad (.frz od u)) ρ' H') : Ext ρ H ρ' (upd H' ad u) where
  keep := fun b o q n => by
    by_cases eb : b = ad
    · subst eb; rw [h.1] at q; cases q; rw [upd_same]
    · rw [upd_ne eb]; exact e.keep b o (by rw [upd_ne eb]; exact q) n
  tups := fun b vs q => by
    have eb : b ≠ ad := fun z => by subst z; rw [h.1] at q; cases q; exact h.plain
    rw [upd_ne eb]; exact e.tups b vs (by rw [upd_ne eb]; exact q)
  frzs := fun b o w q => by
    have eb : b ≠ ad := fun z => by subst z; rw [h.1] at q; cases q; exact h.plain
    rw [upd_ne eb]; exact e.frzs b o w (by rw [upd_ne eb]; exact q)
  pre := e.pre
  new := fun b m => (e.new b m).imp _root_.id fun q => by
    have eb : b ≠ ad := fun z => by subst z; rw [upd_same] at q; cases q
    rw [upd_ne eb] at q; exact q
  trk := fun b q => by
    by_cases eb : b = ad
    · subst eb; rw [upd_same]; simp
    · rw [upd_ne eb]; exact e.trk b (by rw [upd_ne eb]; exact q)
theorem LockAt.held (h : LockAt K ex H ρ st st1 ad u) (e : Ext ρ (upd H ad (.frz od u)) ρ' H') : H' ad = some (.frz od u) := e.frzs ad od u upd_same
theorem LockAt.tup2 (h : LockAt K ex H ρ st st1 ad u) (e : Ext ρ (upd H ad (.frz od u)) ρ' H') : KeepsT H' (upd H' ad u) := by
  refine ⟨fun b vs q => ?_, fun b vs q => ?_⟩
  · rw [upd_ne fun z => by subst z; rw [h.held e] at q; cases q]
    exact q
  · rw [upd_ne fun z => by subst z; rw [h.held e] at q; cases q; exact h.plain]
    exact q
theorem LockAt.rep2 (h : LockAt K ex H ρ st st1 ad u) (e : Ext ρ (upd H ad (.frz od u)) ρ' H') {d : D} {v : V} (r : Rep K ex H' ρ' d v) : Rep K ex (upd H' ad u) ρ' d v :=
  r.gen (fun a w hw t n x => ⟨rd_unlock (h.held e) a w hw t, n, x⟩) (h.tup2 e) (fun _ _ h => h)
theorem LockAt.slots2 (h : LockAt K ex H ρ st st1 ad u) (e : Ext ρ (upd H ad (.frz od u)) ρ' H') (S : Slots K ex H' ρ' σ ds) : Slots K ex (upd H' ad u) ρ' σ ds :=
  ⟨S.1, fun i d q => let ⟨v, h1, h2⟩ := S.2 i d q; ⟨v, h1, h.rep2 e h2⟩⟩
def Unl (ρ : List Addr) (ad : Addr) (st' st2 : Store) : Prop := (∃ n, ρ[n]? = some ad ∧ unlock n st' = some st2) ∨ (ad ∉ ρ ∧ st2 = st')
theorem LockAt.mem2 {st2 : Store} (h : LockAt K ex H ρ st st1 ad u) (e : Ext ρ (upd H ad (.frz od u)) ρ' H') (M : Mem K ex H' ρ' st') (hu : Unl ρ ad st' st2) : Mem K ex (upd H' ad u) ρ' st2 := by
  have hk : ∀ a w, Plain w → Rd H' a w → a ∉ ρ' → ¬ ex a → Rd (upd H' ad u) a w ∧ a ∉ ρ' ∧ ¬ ex a := fun a w hw t n x => ⟨rd_unlock (h.held e) a w hw t, n, x⟩
  have hT : ∀ a, ex a → (upd H' ad u) a ≠ none := fun a q => by
    by_cases z : a = ad
    · subst z; rw [upd_same]; simp
    · rw [upd_ne z]; exact M.exT a q
  rcases hu with ⟨n, hn, hl⟩ | ⟨hn, rfl⟩
  · have hn' := e.pre n ad hn
    have len1 : st2.length = st'.length := by rcases unlock_eq hl with ⟨xs, _, rfl⟩ | ⟨es, _, rfl⟩ <;> rw [List.length_set]
    refine ⟨by rw [len1]; exact M.len, M.nod, fun m b c h1 h2 => ?_, hT, M.exD⟩
    by_cases z : m = n
    · subst z
      rw [hn'] at h1
      cases h1
      have hs : m < st'.length := by rw [← M.len]; exact (List.getElem?_eq_some_iff.mp hn').1
      rcases unlock_eq hl with ⟨xs, e1, rfl⟩ | ⟨es, e1, rfl⟩
      · rw [List.getElem?_set_self hs] at h2
        cases h2
        obtain ⟨o, vs, e2, r⟩ := M.cell m ad _ hn' e1
        rw [h.held e] at e2
        cases e2
        exact ⟨vs, upd_same, r.gen hk (h.tup2 e) (fun _ _ h => h)⟩
      · rw [List.getElem?_set_self hs] at h2
        cases h2
        obtain ⟨o, vs, e2, r⟩ := M.cell m ad _ hn' e1
        rw [h.held e] at e2
        cases e2
        exact ⟨vs, upd_same, r.gen hk (h.tup2 e) (fun _ _ h => h)⟩
    · have h2' : st'[m]? = some c := by
        rcases unlock_eq hl with ⟨xs, e1, rfl⟩ | ⟨es, e1, rfl⟩ <;> rw [List.getElem?_set_ne (Ne.symm z)] at h2 <;> exact h2
      have hb : b ≠ ad := fun q => z (nodup_get M.nod (by rw [← q]; exact h1) hn')
      have hc := M.cell m b c h1 h2'
      cases c with
      | lst xs => obtain ⟨vs, e1, r⟩ := hc; exact ⟨vs, by rw [upd_ne hb]; exact e1, r.gen hk (h.tup2 e) (fun _ _ h => h)⟩
      | dct xs => obtain ⟨vs, e1, r⟩ := hc; exact ⟨vs, by rw [upd_ne hb]; exact e1, r.gen hk (h.tup2 e) (fun _ _ h => h)⟩
      | lckL xs => obtain ⟨o, vs, e1, r⟩ := hc; exact ⟨o, vs, by rw [upd_ne hb]; exact e1, r.gen hk (h.tup2 e) (fun _ _ h => h)⟩
      | lckD xs => obtain ⟨o, vs, e1, r⟩ := hc; exact ⟨o, vs, by rw [upd_ne hb]; exact e1, r.gen hk (h.tup2 e) (fun _ _ h => h)⟩
  · refine M.gen hk (h.tup2 e) (fun a m => upd_ne fun z => ?_) hT M.exD
    have : ad ∉ ρ' := fun q => (e.new ad q).elim hn (fun z => by rw [upd_same] at z; cases z)
    exact this (by rw [← z]; exact m)
end
end
end MP
end
section
set_option maxRecDepth 100000
set_option maxHeartbeats 4000000
namespace MP
open PySem PySem.Spec PyProof.Rows L2
def PostS (K : PySem.W.Frag) (ex : Addr → Prop) (H : Hp) (ρ : List Addr) (res : RS) (xa : XA) (W : WX) (D : Ends) : Prop := match res with
  | .nx ds' st' => ∀ σ' H' ρ', Ext ρ H ρ' H' → Mem K ex H' ρ' st' → Slots K ex H' ρ' σ' ds' → D.nx σ' H'
  | .rt d st' => ∀ v H' ρ', Ext ρ H ρ' H' → Mem K ex H' ρ' st' → Rep K ex H' ρ' d v → D.rt v H'
  | .bk ds' st' => ∀ σ' H' ρ', Ext ρ H ρ' H' → Mem K ex H' ρ' st' → Slots K ex H' ρ' σ' ds' → D.bk σ' H'
  | .ct ds' st' => ∀ σ' H' ρ', Ext ρ H ρ' H' → Mem K ex H' ρ' st' → Slots K ex H' ρ' σ' ds' → D.ct σ' H'
  | .exc e ds' st' => ∀ σ' H' ρ', Ext ρ H ρ' H' → Mem K ex H' ρ' st' → Slots K ex H' ρ' σ' ds' → ∀ cls dd, xa e cls dd H' → W cls dd σ' H'
  | .no => False
def denS (K : PySem.W.Frag) (xa : XA) (W : WX) (f : DS → Store → RS) : TS := fun D σ H => ∃ ex ρ ds st, Mem K ex H ρ st ∧ Slots K ex H ρ σ ds ∧ PostS K ex H ρ (f ds st) xa W D
section
variable {K : PySem.W.Frag} {ex : Addr → Prop} {H H' : Hp} {ρ ρ' : List Addr} {st : Store} {σ : L2.St} {ds : DS} {xa : XA} {W : WX} {En : Ends}
theorem PostS.step {x : RS} (e : Ext ρ H ρ' H') (h : PostS K ex H ρ x xa W En) : PostS K ex H' ρ' x xa W En := by
  cases x with
  | nx d s => exact fun v H2 ρ2 e2 => h v H2 ρ2 (e.trans e2)
  | rt d s => exact fun v H2 ρ2 e2 => h v H2 ρ2 (e.trans e2)
  | bk d s => exact fun v H2 ρ2 e2 => h v H2 ρ2 (e.trans e2)
  | ct d s => exact fun v H2 ρ2 e2 => h v H2 ρ2 (e.trans e2)
  | exc x d s => exact fun v H2 ρ2 e2 => h v H2 ρ2 (e.trans e2)
  | no => exact h
theorem PostS.bind {x : RE} {g : D → Store → RS} {σ : L2.St} (S : Slots K ex H ρ σ ds) (h : PostS K ex H ρ (x.bindS ds g) xa W En) :
    PostV K ex H ρ x (xOf xa W σ) fun v H1 => ∃ d st1 ρ1, Ext ρ H ρ1 H1 ∧ Mem K ex H1 ρ1 st1 ∧ Rep K ex H1 ρ1 d v ∧ PostS K ex H1 ρ1 (g d st1) xa W En := by
  cases x with
  | ok d s => exact fun v H2 ρ2 e2 M r => ⟨d, s, ρ2, e2, M, r, PostS.step e2 (show PostS K ex H ρ (g d s) xa W En from h)⟩
  | exc x s => exact fun H2 ρ2 e2 M => h σ H2 ρ2 e2 M (S.ext e2)
  | no => exact h
end
section
variable {X : Cx} {xa : XA} {W : WX} {pos p1 p2 : Pos} {a b c : Expr} {fa fb fc : DS → Store → RE} {x : Str} {i : Nat} {sa sb : List Stmt} {ga gb : DS → Store → RS}
theorem den_bnil : PSs X [] (denS X.K xa W fun ds st => .nx ds st) := pss_nil.imp fun D σ H ⟨ex, ρ, ds, st, M, S, q⟩ => q σ H ρ (Ext.refl _ _) M S
theorem den_bcons {s : Stmt} (hs : PS X s (denS X.K xa W ga)) (hr : PSs X sb (denS X.K xa W gb)) : PSs X (s :: sb) (denS X.K xa W fun ds st => match ga ds st with
    | .nx ds' st' => gb ds' st'
    | x => x) := by
  refine (pss_cons hs hr).imp fun D σ H h => ?_
  obtain ⟨ex, ρ, ds, st, M, S, q⟩ := h
  refine ⟨ex, ρ, ds, st, M, S, ?_⟩
  simp only at q
  cases e : ga ds st with
  | nx ds' st' => rw [e] at q; exact fun σ' H' ρ' e1 M1 S1 => ⟨ex, ρ', ds', st', M1, S1, PostS.step e1 q⟩
  | rt d s => rw [e] at q; exact q
  | bk d s => rw [e] at q; exact q
  | ct d s => rw [e] at q; exact q
  | exc x d s => rw [e] at q; exact q
  | no => rw [e] at q; exact q
theorem den_set (hN : X.N.Nodup) (hi : X.N[i]? = some x) (hx : Loc X.env.scope x) (ha : PE X a (denE X.K xa W fa)) (hs : swapsWith a (some (.Name x p1)) pos.line X.env = pure false) (hf : X.fn x = true ∨ X.env.scope.names.lookup x = some .local) :
    PS X (.Assign [.Name x p1] a pos) (denS X.K xa W fun ds st => (fa ds st).bindS ds fun d st' => .nx (ds.set i (some d)) st') := by
  refine (ps_set hN hi hx ha hs hf).imp fun D σ H h => ?_
  obtain ⟨ex, ρ, ds, st, M, S, q⟩ := h
  refine ⟨ex, ρ, ds, st, M, S, (PostS.bind S q).imp fun v H1 ⟨d, st1, ρ1, e1, M1, r1, q1⟩ => ?_⟩
  exact q1 (σ.set i (some v)) H1 ρ1 (Ext.refl _ _) M1 ((S.ext e1).set i r1)
theorem den_expr (ha : PE X a (denE X.K xa W fa)) (hs : swapsWith a none pos.line X.env = pure false) : PS X (.Expr a pos) (denS X.K xa W fun ds st => (fa ds st).bindS ds fun _ st' => .nx ds st') := by
  refine (ps_expr ha hs).imp fun D σ H h => ?_
  obtain ⟨ex, ρ, ds, st, M, S, q⟩ := h
  refine ⟨ex, ρ, ds, st, M, S, (PostS.bind S q).imp fun v H1 ⟨d, st1, ρ1, e1, M1, r1, q1⟩ => ?_⟩
  exact q1 σ H1 ρ1 (Ext.refl _ _) M1 (S.ext e1)
theorem den_ret (ha : PE X a (denE X.K xa W fa)) : PS X (.Return (some a) pos) (denS X.K xa W fun ds st => (fa ds st).bindS ds fun d st' => .rt d st') := by
  refine (ps_ret ha).imp fun D σ H h => ?_
  obtain ⟨ex, ρ, ds, st, M, S, q⟩ := h
  refine ⟨ex, ρ, ds, st, M, S, (PostS.bind S q).imp fun v H1 ⟨d, st1, ρ1, e1, M1, r1, q1⟩ => ?_⟩
  exact q1 v H1 ρ1 (Ext.refl _ _) M1 r1
theorem den_if (hc : PT X c (denT X.K xa W fc)) (ha : PSs X sa (denS X.K xa W ga)) (hb : PSs X sb (denS X.K xa W gb)) : PS X (.If c sa sb pos) (denS X.K xa W fun ds st => (fc ds st).bindS ds fun x st' => match x with
    | .bl true => ga ds st'
    | .bl false => gb ds st'
    | _ => .no) := by
  refine (ps_if hc ha hb).imp fun D σ H h => ?_
  obtain ⟨ex, ρ, ds, st, M, S, q⟩ := h
  refine ⟨ex, ρ, ds, st, M, S, (PostS.bind S q).imp fun v H1 ⟨d, st1, ρ1, e1, M1, r1, q1⟩ => ?_⟩
  split at q1
  · cases r1
    exact ⟨true, rfl, iteT ⟨ex, ρ1, ds, st1, M1, S.ext e1, q1⟩⟩
  · cases r1
    exact ⟨false, rfl, iteF ⟨ex, ρ1, ds, st1, M1, S.ext e1, q1⟩⟩
  · exact q1.elim
theorem den_brk : PS X (.Break pos) (denS X.K xa W fun ds st => .bk ds st) := ps_break.imp fun D σ H ⟨ex, ρ, ds, st, M, S, q⟩ => q σ H ρ (Ext.refl _ _) M S
theorem den_cnt : PS X (.Continue pos) (denS X.K xa W fun ds st => .ct ds st) := ps_continue.imp fun D σ H ⟨ex, ρ, ds, st, M, S, q⟩ => q σ H ρ (Ext.refl _ _) M S
theorem den_pass : PS X (.Pass pos) (denS X.K xa W fun ds st => .nx ds st) := ps_pass.imp fun D σ H ⟨ex, ρ, ds, st, M, S, q⟩ => q σ H ρ (Ext.refl _ _) M S
theorem den_while (hp : PassesOwn (model X.prog X.w) X.A X.env X.xe) (hc : PT X c (denT X.K xa W fc)) (hb : PSs X sa (denS X.K xa W ga)) (n : Nat) : PS X (.While c sa [] pos) (denS X.K xa W fun ds st => whlB fc ga n ds st) := by
  refine (ps_while hp hc hb).imp fun D σ H h => ?_
  obtain ⟨ex, ρ, ds, st, M, S, q⟩ := h
  refine ⟨fun m σ H => ∃ ρ ds st, Mem X.K ex H ρ st ∧ Slots X.K ex H ρ σ ds ∧ PostS X.K ex H ρ (whlB fc ga m ds st) xa W D, ⟨n, ρ, ds, st, M, S, q⟩, ?_⟩
  rintro m σ1 H1 ⟨ρ1, ds1, st1, M1, S1, q1⟩
  cases m with
  | zero => exact q1.elim
  | succ k =>
    rw [whlB] at q1
    refine ⟨ex, ρ1, ds1, st1, M1, S1, (PostS.bind S1 q1).imp fun v H2 ⟨d, st2, ρ2, e2, M2, r2, q2⟩ => ?_⟩
    split at q2
    · cases r2
      refine ⟨true, rfl, iteT ⟨fun σ H => ∃ ρ ds st, Mem X.K ex H ρ st ∧ Slots X.K ex H ρ σ ds ∧ PostS X.K ex H ρ (whlB fc ga k ds st) xa W D, fun σ' H' hn => ⟨k, by omega, hn⟩, ?_⟩⟩
      refine ⟨ex, ρ2, ds1, st2, M2, S1.ext e2, ?_⟩
      cases e : ga ds1 st2 with
      | nx ds' st' => rw [e] at q2; exact fun σ' H' ρ' e1 M1 S1 => ⟨ρ', ds', st', M1, S1, PostS.step e1 q2⟩
      | ct ds' st' => rw [e] at q2; exact fun σ' H' ρ' e1 M1 S1 => ⟨ρ', ds', st', M1, S1, PostS.step e1 q2⟩
      | rt d s => rw [e] at q2; exact q2
      | bk d s => rw [e] at q2; exact q2
      | exc x d s => rw [e] at q2; exact q2
      | no => rw [e] at q2; exact q2
    · cases r2
      exact ⟨false, rfl, iteF (q2 σ1 H2 ρ2 (Ext.refl _ _) M2 (S1.ext e2))⟩
    · exact q2.elim
theorem for_loop {J : It} {tb : TS} {v : Nat} {ex : Addr → Prop} {H : Hp} {ρ : List Addr} {st : Store} {σ : L2.St} {ds : DS} {items : List D} {D : Ends}
    (M : Mem X.K ex H ρ st) (S : Slots X.K ex H ρ σ ds) (j : JOk X.K ex J ρ H items) (q : PostS X.K ex H ρ (forB ga v items ds st) xa W D)
    (htb : ∀ D σ H, denS X.K xa W ga D σ H → tb D σ H) :
    ∃ Wv : Nat → Nat → L2.St → Hp → Prop, (∃ m, Wv 0 m σ H) ∧ ∀ i m σ H, Wv i m σ H →
      (J.stop i H ∧ D.nx σ H) ∨ (J.go i H ∧ ∃ N : L2.St → Hp → Prop, (∀ σ' H', N σ' H' → ∃ m', m' < m ∧ Wv (i + 1) m' σ' H') ∧ ∀ x H', J.yld i H x H' → gName v x σ H' fun σ2 H2 => tb { D with nx := N, ct := N, bk := D.nx } σ2 H2) := by
  refine ⟨fun i m' σ1 H1 => ∃ ρ1 ds1 st1, Ext ρ H ρ1 H1 ∧ Mem X.K ex H1 ρ1 st1 ∧ Slots X.K ex H1 ρ1 σ1 ds1 ∧ PostS X.K ex H1 ρ1 (forB ga v (items.drop i) ds1 st1) xa W D ∧ i + m' = items.length,
    ⟨items.length, ρ, ds, st, Ext.refl _ _, M, S, by rw [List.drop_zero]; exact q, by omega⟩, ?_⟩
  rintro i m' σ1 H1 ⟨ρ1, ds1, st1, e1, M1, S1, q1, hi⟩
  obtain ⟨j1, j2⟩ := j ρ1 H1 ex e1 (fun _ _ h => h) i
  by_cases hlt : i < items.length
  · have hd : items[i]? = some items[i] := List.getElem?_eq_getElem hlt
    rw [List.drop_eq_getElem_cons hlt] at q1
    obtain ⟨go, yld⟩ := j1 _ hd
    refine .inr ⟨go, fun σ' H' => ∃ ρ1 ds1 st1, Ext ρ H ρ1 H' ∧ Mem X.K ex H' ρ1 st1 ∧ Slots X.K ex H' ρ1 σ' ds1 ∧ PostS X.K ex H' ρ1 (forB ga v (items.drop (i + 1)) ds1 st1) xa W D, fun σ' H' ⟨ρ2, ds2, st2, z1, z2, z3, z4⟩ => ⟨m' - 1, by omega, ρ2, ds2, st2, z1, z2, z3, z4, by omega⟩, fun x H' hy => ?_⟩
    obtain ⟨rfl, rx⟩ := yld x H' hy
    refine htb _ _ _ ⟨ex, ρ1, ds1.set v (some items[i]), st1, M1, S1.set v rx, ?_⟩
    rw [forB] at q1
    cases e : ga (ds1.set v (some items[i])) st1 with
    | nx ds' st' => rw [e] at q1; exact fun σ' H2 ρ' e2 M2 S2 => ⟨ρ', ds', st', e1.trans e2, M2, S2, PostS.step e2 q1⟩
    | ct ds' st' => rw [e] at q1; exact fun σ' H2 ρ' e2 M2 S2 => ⟨ρ', ds', st', e1.trans e2, M2, S2, PostS.step e2 q1⟩
    | rt d s => rw [e] at q1; exact q1
    | bk d s => rw [e] at q1; exact q1
    | exc x d s => rw [e] at q1; exact q1
    | no => rw [e] at q1; exact q1
  · rw [List.drop_eq_nil_of_le (by omega), forB] at q1
    exact .inl ⟨j2 (by omega), q1 σ1 H1 ρ1 (Ext.refl _ _) M1 S1⟩
theorem srcF_free {k : SK} (hk : k ≠ .itv) (hx : k ≠ .itx) {xs : List MP.D} {st : Store} {n : Nat} {items : List MP.D} : srcF k xs st ≠ some (some n, items) := by
  intro h
  cases k with
  | itv => exact hk rfl
  | itx => exact hx rfl
  | rng1 =>
    rcases xs with _ | ⟨x, _ | ⟨y, r⟩⟩
    · simp [srcF] at h
    · cases x <;> simp [srcF] at h
    · simp [srcF] at h
  | rng2 =>
    rcases xs with _ | ⟨x, _ | ⟨y, _ | ⟨z, r⟩⟩⟩
    · simp [srcF] at h
    · simp [srcF] at h
    · cases x <;> simp [srcF] at h
      cases y <;> simp [srcF] at h
    · simp [srcF] at h
  | rngc c =>
    rcases xs with _ | ⟨x, _ | ⟨y, _ | ⟨z, r⟩⟩⟩
    · simp [srcF] at h
    · simp [srcF] at h
    · cases x <;> simp [srcF] at h
      cases y <;> simp [srcF] at h
    · simp [srcF] at h
  | it =>
    rcases xs with _ | ⟨x, _ | ⟨y, r⟩⟩
    · simp [srcF] at h
    · cases x <;> simp [srcF] at h
    · simp [srcF] at h
theorem den_for {v : Nat} {k : SK} {iter : Expr} {fs : DS → Store → R (List D)} {tgp : Pos} (hp : PassesOwn (model X.prog X.w) X.A X.env X.xe) (hcalm : X.calm = true) (hk : k ≠ .itv) (hx : k ≠ .itx)
    (hs : SrcOk X xa W (.Name x tgp) iter k fs) (hg : PG X (.Name x tgp) (gName v)) (hb : PSs X sa (denS X.K xa W ga)) (hf : ∀ z, foldedSetIterable iter X.env z = pure z) :
    PS X (.For (.Name x tgp) iter sa [] pos) (denS X.K xa W fun ds st => (fs ds st).bindS ds fun xs st' => match srcF k xs st' with
    | some (none, items) => filtS k (forB ga v items ds st')
    | some (some n, items) => match lock n st' with
      | some st1 => unlockS n (forB ga v items ds st1)
      | none => .no
    | none => .no) := by
  obtain ⟨wi, hw, w1, w2⟩ := hs
  refine (ps_for hp hcalm hw hg hb hf).imp fun D σ H h => ?_
  obtain ⟨ex, ρ, ds, st, M, S, q⟩ := h
  simp only at q
  have hfil : ∀ r, filtS k r = r := fun r => by cases k <;> first | rfl | exact absurd rfl hk
  cases e : fs ds st with
  | no => rw [e] at q; exact q.elim
  | exc z s =>
    rw [e] at q
    exact w2 M S e fun H' ρ' e1 M1 => q σ H' ρ' e1 M1 (S.ext e1)
  | ok xs st1 =>
    rw [e] at q
    simp only [R.bindS] at q
    split at q
    · rename_i items hsrc
      rw [hfil] at q
      exact w1 M S e hsrc fun J H1 ρ1 e1 M1 j => for_loop M1 (S.ext e1) j (PostS.step e1 q) (fun _ _ _ h => h)
    · rename_i n items hsrc
      exact absurd hsrc (srcF_free hk hx)
    · exact q.elim
end
end MP
end
section
set_option maxRecDepth 100000
set_option maxHeartbeats 4000000
namespace MP
open PySem PySem.Spec PyProof.Rows L2
theorem repl_strOf (s : Tx) (c : Nat) : Txt.replace (strOf s) ⟨#[c]⟩ ⟨#[]⟩ = strOf (s.filter (· != c)) := by
  have h := PyProof.Rows.replace_strikes (strOf s) c
  generalize Txt.replace (strOf s) ⟨#[c]⟩ ⟨#[]⟩ = r at *
  cases r with
  | mk a =>
    unfold strOf at *
    simp only at h
    congr 1
    rw [← h]
section
variable {X : Cx} {xa : XA} {W : WX} {le : Expr} {fl : DS → Store → RE} {x : Str} {i j j0 j1 c : Nat} {n : Int} {p1 p2 apos cp c0 c1 pos spos cpos ipos : Pos}
theorem den_strk (hN : X.N.Nodup) (hi : X.N[i]? = some x) (hx : Loc X.env.scope x) (hv : Vis X.env.scope x) (hf : ∀ y, X.fn y = true)
    (hd : (x == ("__debug__" : Str)) = false) (hcd : (x == ("__classdict__" : Str)) = false) (hline : (apos.endLine == pos.line) = true)
    (hl : PE X le (denE X.K xa W fl)) :
    PS X (.If (.Compare le [.Gt] [.Constant (.int n) j cp] cpos) [.Assign [.Name x p1] (.Call (.Attribute (.Name x p2) "replace" apos) [.Constant (.str ⟨#[c]⟩) j0 c0, .Constant (.str ⟨#[]⟩) j1 c1] [] pos) spos] [] ipos)
      (denS X.K xa W (strkF i n c fl)) := by
  refine ⟨fun pins s σ H D I h => ?_⟩
  obtain ⟨ex, ρ, ds, st, M, S, q⟩ := h
  have hb := PostS.bind S q
  refine wpAny_If (wpAny_isTrue_Compare1 (thn (hl.run pins s σ H _ I ⟨ex, ρ, ds, st, M, S, hb⟩) fun v s1 ⟨z, H1, I1, r1, d, st1, ρ1, e1, M1, rr, q1⟩ => wpAny_Constant_int ?_) (nomark _))
  cases d with
  | int l =>
    cases rr
    cases hs : ds[i]? with
    | none => rw [hs] at q1; exact q1.elim
    | some o =>
      cases o with
      | none => rw [hs] at q1; exact q1.elim
      | some d =>
        cases d with
        | str t =>
          rw [hs] at q1
          simp only at q1
          have hop := op_gt (X := X) pins { s1 with toks := s1.toks + 1 } σ H1 (.int l) (.int n) v (.int n s1.toks) (fun w H2 => w = .bl (decide (n < l)) ∧ H2 = H1) (I1.tok _) r1 ⟨_, rfl⟩ ⟨l, n, rfl, rfl, rfl, rfl⟩
          refine wpAny_mono (PySem.wpAny_toks hop) (fun b s2 q2 => ?_) fun _ _ z => z.2
          obtain ⟨hk, w, H2, I2, r2, rfl, rfl⟩ := q2
          have hk : s1.toks + 1 ≤ s2.toks := hk
          cases r2
          refine wpAny_truthy_bool ?_
          by_cases hc : n < l
          · rw [decide_eq_true hc]
            simp only [if_true]
            rw [if_pos hc] at q1
            by_cases h6 : t.length ≤ 1000000
            · rw [if_pos h6] at q1
              obtain ⟨vv, hσ, rv, htx⟩ := (S.ext e1).2 i _ hs
              subst rv
              refine wpAny_execs_cons (wpAny_Assign_Name ?_ rfl)
              refine PySem.Call_method2 rfl rfl hline (raw_name (by rw [hi]) hv I2 hσ (fun u r => ?_) hd hcd)
              obtain ⟨tk, rfl⟩ := r
              refine ⟨"str", _, F.plainAttrs_str, F.slot_str_replace, F.type_str_replace, typeIs_str _ _ _, (fun _ e => nomatch e), Calls.callWith_builtin rfl (Calls.evalArgs_plain (Calls.spliced_cons ?_))⟩
              refine Calls.Constant_str (Calls.spliced_cons (Calls.Constant_str (Calls.spliced_nil ?_)))
              refine PySem.SC.replace (by show s2.toks ≠ 0; omega) (by show s2.toks + 1 ≠ 0; omega) (by show s2.toks ≠ s2.toks + 1; omega) rfl (by
                show (strOf t).length + ((strOf t).length + 1) * 0 ≤ 16777216
                have : (strOf t).length = t.length := by simp [strOf, PySem.Str.length]
                omega) fun t' k => ?_
              rw [repl_strOf]
              refine store_ok (v := V.str (strOf (t.filter (· != c)))) (I2.tok k) hN hi hx ⟨t', rfl⟩ (fun s' I3 => ?_) (.inl (hf x))
              refine wpAny_execs_nil ?_
              exact ⟨_, _, I3, q1 _ H2 ρ1 (Ext.refl _ _) M1 ((S.ext e1).set i ⟨rfl, fun c hc => htx c (List.mem_filter.mp hc).1⟩)⟩
            · rw [if_neg h6] at q1; exact q1.elim
          · rw [decide_eq_false hc]
            simp only [if_neg Bool.false_ne_true]
            rw [if_neg hc] at q1
            refine wpAny_execs_nil ?_
            exact ⟨_, _, I2, q1 σ H2 ρ1 (Ext.refl _ _) M1 (S.ext e1)⟩
        | _ => rw [hs] at q1; exact q1.elim
  | _ => exact q1.elim
theorem den_strx {xa : XA} {y : Str} (hN : X.N.Nodup) (hi : X.N[i]? = some x) (hj : X.N[j]? = some y) (hx : Loc X.env.scope x) (hv : Vis X.env.scope y) (hf : ∀ y, X.fn y = true)
    (hd : (y == ("__debug__" : Str)) = false) (hcd : (y == ("__classdict__" : Str)) = false) (hline : (apos.endLine == pos.line) = true) :
    PST X (.Assign [.Name x p1] (.Call (.Attribute (.Name y p2) "replace" apos) [.Constant (.str ⟨#[c]⟩) j0 c0, .Constant (.str ⟨#[]⟩) j1 c1] [] pos) spos)
      (denS X.K xa W (strxF i j c)) := by
  intro pins s σ H D h0 I h
  obtain ⟨ex, ρ, ds, st, M, S, q1⟩ := h
  unfold strxF at q1
  cases hs : ds[j]? with
  | none => rw [hs] at q1; exact q1.elim
  | some o =>
    cases o with
    | none => rw [hs] at q1; exact q1.elim
    | some d =>
      cases d with
      | str t =>
        rw [hs] at q1
        simp only at q1
        by_cases h6 : t.length ≤ 1000000
        · rw [if_pos h6] at q1
          obtain ⟨vv, hσ, rv, htx⟩ := S.2 j _ hs
          subst rv
          refine wpAny_Assign_Name ?_ rfl
          refine PySem.Call_method2 rfl rfl hline (raw_name (by rw [hj]) hv I hσ (fun u r => ?_) hd hcd)
          obtain ⟨tk, rfl⟩ := r
          refine ⟨"str", _, F.plainAttrs_str, F.slot_str_replace, F.type_str_replace, typeIs_str _ _ _, (fun _ e => nomatch e), Calls.callWith_builtin rfl (Calls.evalArgs_plain (Calls.spliced_cons ?_))⟩
          refine Calls.Constant_str (Calls.spliced_cons (Calls.Constant_str (Calls.spliced_nil ?_)))
          refine PySem.SC.replace (by show s.toks ≠ 0; omega) (by show s.toks + 1 ≠ 0; omega) (by show s.toks ≠ s.toks + 1; omega) rfl (by
            show (strOf t).length + ((strOf t).length + 1) * 0 ≤ 16777216
            have : (strOf t).length = t.length := by simp [strOf, PySem.Str.length]
            omega) fun t' k => ?_
          rw [repl_strOf]
          refine store_ok (v := V.str (strOf (t.filter (· != c)))) (I.tok k) hN hi hx ⟨t', rfl⟩ (fun s' I3 => ?_) (.inl (hf x))
          exact ⟨_, _, I3, q1 _ H ρ (Ext.refl _ _) M (S.set i ⟨rfl, fun c hc => htx c (List.mem_filter.mp hc).1⟩)⟩
        · rw [if_neg h6] at q1; exact q1.elim
      | _ => rw [hs] at q1; exact q1.elim
theorem den_bconsT {xa : XA} {s : Stmt} {sb : List Stmt} {ga gb : DS → Store → RS} (hs : PST X s (denS X.K xa W ga)) (hr : PSs X sb (denS X.K xa W gb)) : PSsT X (s :: sb) (denS X.K xa W fun ds st => match ga ds st with
    | .nx ds' st' => gb ds' st'
    | x => x) := by
  intro pins s σ H D h0 I h
  refine psst_cons hs (PSsT.of hr) pins s σ H D h0 I ?_
  obtain ⟨ex, ρ, ds, st, M, S, q⟩ := h
  refine ⟨ex, ρ, ds, st, M, S, ?_⟩
  simp only at q
  cases e : ga ds st with
  | nx ds' st' => rw [e] at q; exact fun σ' H' ρ' e1 M1 S1 => ⟨ex, ρ', ds', st', M1, S1, PostS.step e1 q⟩
  | rt d s => rw [e] at q; exact q
  | bk d s => rw [e] at q; exact q
  | ct d s => rw [e] at q; exact q
  | exc x d s => rw [e] at q; exact q
  | no => rw [e] at q; exact q
end
end MP
end
section
set_option maxRecDepth 100000
set_option maxHeartbeats 4000000
namespace MP
open PySem PySem.Spec PyProof.Rows L2
theorem _root_.L2.PS.or {X : Cx} {e : Stmt} {t t' : TS} (h : PS X e t) (h' : PS X e t') : PS X e (fun D σ H => t D σ H ∨ t' D σ H) := ⟨fun pins s σ H D I q => q.elim (h.run pins s σ H D I) (h'.run pins s σ H D I)⟩
def fvar (i : Nat) : DS → Store → RE := fun ds st => match ds[i]? with
  | some (some d) => .ok d st
  | _ => .no
section
variable {X : Cx} {xa : XA} {W : WX} {pos p1 p2 : Pos} {a b c : Expr} {fa fb fc fe : DS → Store → RE} {x y : Str} {i : Nat} {sa sb : List Stmt} {ga gb : DS → Store → RS}
def Free (K : PySem.W.Frag) (ex : Addr → Prop) (H : Hp) (ρ : List Addr) (σ : L2.St) (i : Nat) (d : D) : Prop := ∀ es, d = .dct es → ∃ a od kvs, σ[i]? = some (some (.ref a)) ∧ H a = some (.frz od (.dT kvs)) ∧ RepE K ex H ρ es kvs
theorem walk_itv {ex : Addr → Prop} {H : Hp} {ρ : List Addr} {st : Store} {σ : L2.St} {ds : DS} {d : D} {items : List D} {R : It → Hp → Prop} (M : Mem X.K ex H ρ st) (S : Slots X.K ex H ρ σ ds) (hd : ds[i]? = some (some d)) (hs : srcF .itv [d] st = some (none, items))
    (hf : Free X.K ex H ρ σ i d) (q : ∀ J, JOk X.K ex J ρ H items → R J H) : iM X.K (tVar i) σ H R := by
  obtain ⟨v, hv, r⟩ := S.2 i d hd
  cases d with
  | lst xs =>
    cases hs
    obtain ⟨p, vs, rfl, t, n, x, rs⟩ := r
    exact .inl ⟨_, hv, p, rfl, ⟨vs, .inl t⟩, q _ (jok_list (fun ρ' H' e' => .inl (Rd.ext e' t n)) rs)⟩
  | scr ns =>
    cases hs
    obtain ⟨p, rfl, ⟨t, n, x⟩ | t⟩ := r
    · exact .inl ⟨_, hv, p, rfl, ⟨_, .inl t⟩, q _ (jok_list (fun ρ' H' e' => .inl (Rd.ext e' t n)) (Reps.ints ns))⟩
    · exact .inl ⟨_, hv, p, rfl, ⟨_, .inr t⟩, q _ (jok_list (fun ρ' H' e' => .inr t) (Reps.ints ns))⟩
  | tup xs =>
    cases hs
    obtain ⟨p, vs, rfl, t, rs⟩ := r
    exact .inr (.inl ⟨_, hv, p, rfl, ⟨vs, t.sq⟩, q _ (jok_tup t rs)⟩)
  | str s =>
    cases hs
    obtain ⟨rfl, ok⟩ := r
    exact .inr (.inr (.inl ⟨_, hv, _, rfl, q _ (jok_str ok)⟩))
  | dct es =>
    cases hs
    obtain ⟨a, od, kvs, h1, h2, h3⟩ := hf es rfl
    exact .inr (.inr (.inr ⟨_, h1, a, od, rfl, .inr ⟨kvs, h2, q _ (jok_keys h2 h3)⟩⟩))
  | ref n =>
    obtain ⟨a, ha, rfl⟩ := r
    simp only [srcF] at hs
    split at hs
    · cases hs
    · cases hs
    · rename_i xs e
      cases hs
      obtain ⟨b, h1, o, vs, h2, h3⟩ := M.at e
      rw [ha] at h1
      cases h1
      exact .inl ⟨_, hv, a, rfl, ⟨vs, .inl (.inr ⟨o, h2⟩)⟩, q _ (jok_list (fun ρ' H' e' => .inl (.inr ⟨o, e'.frzs _ _ _ h2⟩)) h3)⟩
    · rename_i es e
      cases hs
      obtain ⟨b, h1, o, kvs, h2, h3⟩ := M.at e
      rw [ha] at h1
      cases h1
      exact .inr (.inr (.inr ⟨_, hv, a, o, rfl, .inr ⟨kvs, h2, q _ (jok_keys h2 h3)⟩⟩))
    · cases hs
  | _ => simp [srcF] at hs
theorem need_lock {ex : Addr → Prop} {H : Hp} {ρ : List Addr} {st : Store} {σ : L2.St} {ds : DS} {d : D} (M : Mem X.K ex H ρ st) (S : Slots X.K ex H ρ σ ds) (hd : ds[i]? = some (some d)) {o : Option Nat} {items : List D} (hs : srcF .itv [d] st = some (o, items)) :
    (o = none ∧ Free X.K ex H ρ σ i d) ∨ ∃ a u st1, LockAt X.K ex H ρ st st1 a u ∧ srcF .itv [d] st1 = some (none, items) ∧ (∀ od, Free X.K ex (upd H a (.frz od u)) ρ σ i d) ∧
      ((∃ n, o = some n ∧ ρ[n]? = some a ∧ lock n st = some st1) ∨ (o = none ∧ a ∉ ρ ∧ st1 = st)) := by
  obtain ⟨v, hv, r⟩ := S.2 i d hd
  cases d with
  | dct es =>
    cases hs
    obtain ⟨a, kvs, rfl, t, n, x, rs⟩ := r
    rcases t with t | ⟨od, t⟩
    · refine .inr ⟨a, .dT kvs, st, ⟨t, .inr ⟨n, rfl⟩, .inr ⟨kvs, rfl⟩⟩, rfl, fun od es' e => ?_, .inr ⟨rfl, n, rfl⟩⟩
      cases e
      have L : LockAt X.K ex H ρ st st a (.dT kvs) := ⟨t, .inr ⟨n, rfl⟩, .inr ⟨kvs, rfl⟩⟩
      exact ⟨a, od, kvs, hv, upd_same, rs.gen (fun b w hw t n x => ⟨rd_lock L.1 L.plain b w hw t, n, x⟩) L.tup (fun _ _ h => h)⟩
    · refine .inl ⟨rfl, fun es' e => ?_⟩
      cases e
      exact ⟨a, od, kvs, hv, t, rs⟩
  | ref n =>
    obtain ⟨a, ha, rfl⟩ := r
    have fr : ∀ {H : Hp}, Free X.K ex H ρ σ i (.ref n) := fun es e => nomatch e
    have hlen : n < st.length := by rw [← M.len]; exact (List.getElem?_eq_some_iff.mp ha).1
    simp only [srcF] at hs
    split at hs
    · rename_i xs e
      cases hs
      obtain ⟨b, vs, h1, h2, h3⟩ := M.lst e
      rw [ha] at h1
      cases h1
      refine .inr ⟨a, .lst vs, st.set n (.lckL items), ⟨h2, .inl ⟨n, ha, by unfold lock; rw [e]⟩, .inl ⟨vs, rfl⟩⟩, ?_, fun od => fr, .inl ⟨n, rfl, ha, by unfold lock; rw [e]⟩⟩
      simp only [srcF, List.getElem?_set_self hlen]
    · rename_i es e
      cases hs
      obtain ⟨b, vs, h1, h2, h3⟩ := M.dct e
      rw [ha] at h1
      cases h1
      refine .inr ⟨a, .dT vs, st.set n (.lckD es), ⟨h2, .inl ⟨n, ha, by unfold lock; rw [e]⟩, .inr ⟨vs, rfl⟩⟩, ?_, fun od => fr, .inl ⟨n, rfl, ha, by unfold lock; rw [e]⟩⟩
      simp only [srcF, List.getElem?_set_self hlen]
    · cases hs; exact .inl ⟨rfl, fr⟩
    · cases hs; exact .inl ⟨rfl, fr⟩
    · cases hs
  | lst xs => cases hs; exact .inl ⟨rfl, fun es e => nomatch e⟩
  | tup xs => cases hs; exact .inl ⟨rfl, fun es e => nomatch e⟩
  | scr xs => cases hs; exact .inl ⟨rfl, fun es e => nomatch e⟩
  | str xs => cases hs; exact .inl ⟨rfl, fun es e => nomatch e⟩
  | _ => simp [srcF] at hs
def lockE (a : Addr) (u : HO) (od : Obj) (D : Ends) : Ends := ⟨fun σ' H' => H' a = some (.frz od u) ∧ D.nx σ' (upd H' a u), fun v H' => H' a = some (.frz od u) ∧ D.rt v (upd H' a u), fun σ' H' => H' a = some (.frz od u) ∧ D.bk σ' (upd H' a u), fun σ' H' => H' a = some (.frz od u) ∧ D.ct σ' (upd H' a u)⟩
theorem fvar_ok {ds : DS} {st st1 : Store} {d : D} (h : fvar i ds st = .ok d st1) : ds[i]? = some (some d) ∧ st1 = st := by
  unfold fvar at h
  split at h
  · cases h; exact ⟨by assumption, rfl⟩
  · cases h
theorem den_forItv {v : Nat} {tgp : Pos} (hp : PassesOwn (model X.prog X.w) X.A X.env X.xe) (hcalm : X.calm = true) (hv : PE X (.Name y p2) (tVar i)) (hg : PG X (.Name x tgp) (gName v)) (hb : PSs X sa (denS X.K xa W ga)) :
    PS X (.For (.Name x tgp) (.Name y p2) sa [] pos) (denS X.K xa W fun ds st => (one (fvar i) ds st).bindS ds fun xs st' => match srcF .itv xs st' with
    | some (none, items) => filtS .itv (forB ga v items ds st')
    | some (some n, items) => match lock n st' with
      | some st1 => unlockS n (forB ga v items ds st1)
      | none => .no
    | none => .no) := by
  have F := ps_for (pos := pos) hp hcalm (pi_M (tg := .Name x tgp) hv) hg hb (by intro _; rfl)
  refine (PS.or F (ps_lock F)).imp fun En σ H h => ?_
  obtain ⟨ex, ρ, ds, st, M, S, q⟩ := h
  simp only at q
  cases e : one (fvar i) ds st with
  | no => rw [e] at q; exact q.elim
  | exc z s =>
    have := one_exc e
    unfold fvar at this
    split at this <;> cases this
  | ok xs st' =>
    rw [e] at q
    simp only [R.bindS] at q
    obtain ⟨d, e1, rfl⟩ := one_ok e
    obtain ⟨hd, rfl⟩ := fvar_ok e1
    cases hs : srcF .itv [d] st' with
    | none => rw [hs] at q; exact q.elim
    | some on =>
      obtain ⟨o, items⟩ := on
      rw [hs] at q
      rcases need_lock M S hd hs with ⟨rfl, fr⟩ | ⟨ad, u, st1, L, hs1, fr, ho⟩
      · simp only at q
        have q' : PostS X.K ex H ρ (forB ga v items ds st') xa W En := by
          cases ee : forB ga v items ds st' with
          | exc _ _ _ => rw [ee] at q; exact q.elim
          | nx _ _ => rw [ee] at q; exact q
          | rt _ _ => rw [ee] at q; exact q
          | bk _ _ => rw [ee] at q; exact q
          | ct _ _ => rw [ee] at q; exact q
          | no => rw [ee] at q; exact q
        exact .inl (walk_itv M S hd hs fr fun J j => for_loop M S j q' (fun _ _ _ h => h))
      · refine .inr ⟨ad, u, L.1, L.mut, fun od => ?_⟩
        have M1 := L.mem (od := od) M
        have S1 := L.slots (od := od) S
        refine walk_itv M1 S1 hd hs1 (fr od) fun J j => for_loop (D := lockE ad u od En) M1 S1 j ?_ (fun _ _ _ h => h)
        -- the turns under the lock
        have key : PostS X.K ex H ρ (match o with | some n => unlockS n (forB ga v items ds st1) | none => filtS .itv (forB ga v items ds st1)) xa W En ∧ (∀ st2 st3, (match o with | some n => unlock n st2 = some st3 | none => st3 = st2) → Unl ρ ad st2 st3) := by
          rcases ho with ⟨n, rfl, hn, hl⟩ | ⟨rfl, hn, rfl⟩
          · simp only [hl] at q
            exact ⟨q, fun st2 st3 h => .inl ⟨n, hn, h⟩⟩
          · exact ⟨q, fun st2 st3 h => .inr ⟨hn, h⟩⟩
        obtain ⟨q1, hu⟩ := key
        cases o with
        | none =>
          simp only at q1 hu
          cases ee : forB ga v items ds st1 with
          | nx ds2 st2 => rw [ee] at q1; exact fun σ' H' ρ' e1 M2 S2 => ⟨L.held e1, q1 σ' _ ρ' (L.ext e1) (L.mem2 e1 M2 (hu _ _ rfl)) (L.slots2 e1 S2)⟩
          | rt d2 st2 => rw [ee] at q1; exact fun v' H' ρ' e1 M2 r2 => ⟨L.held e1, q1 v' _ ρ' (L.ext e1) (L.mem2 e1 M2 (hu _ _ rfl)) (L.rep2 e1 r2)⟩
          | bk ds2 st2 => rw [ee] at q1; exact fun σ' H' ρ' e1 M2 S2 => ⟨L.held e1, q1 σ' _ ρ' (L.ext e1) (L.mem2 e1 M2 (hu _ _ rfl)) (L.slots2 e1 S2)⟩
          | ct ds2 st2 => rw [ee] at q1; exact fun σ' H' ρ' e1 M2 S2 => ⟨L.held e1, q1 σ' _ ρ' (L.ext e1) (L.mem2 e1 M2 (hu _ _ rfl)) (L.slots2 e1 S2)⟩
          | exc _ _ _ => rw [ee] at q1; exact q1.elim
          | no => rw [ee] at q1; exact q1.elim
        | some n =>
          simp only at q1 hu
          cases ee : forB ga v items ds st1 with
          | nx ds2 st2 =>
            rw [ee] at q1
            simp only [unlockS] at q1
            cases eu : unlock n st2 with
            | none => rw [eu] at q1; exact q1.elim
            | some st3 => rw [eu] at q1; exact fun σ' H' ρ' e1 M2 S2 => ⟨L.held e1, q1 σ' _ ρ' (L.ext e1) (L.mem2 e1 M2 (hu _ _ eu)) (L.slots2 e1 S2)⟩
          | rt d2 st2 =>
            rw [ee] at q1
            simp only [unlockS] at q1
            cases eu : unlock n st2 with
            | none => rw [eu] at q1; exact q1.elim
            | some st3 => rw [eu] at q1; exact fun v' H' ρ' e1 M2 r2 => ⟨L.held e1, q1 v' _ ρ' (L.ext e1) (L.mem2 e1 M2 (hu _ _ eu)) (L.rep2 e1 r2)⟩
          | bk ds2 st2 =>
            rw [ee] at q1
            simp only [unlockS] at q1
            cases eu : unlock n st2 with
            | none => rw [eu] at q1; exact q1.elim
            | some st3 => rw [eu] at q1; exact fun σ' H' ρ' e1 M2 S2 => ⟨L.held e1, q1 σ' _ ρ' (L.ext e1) (L.mem2 e1 M2 (hu _ _ eu)) (L.slots2 e1 S2)⟩
          | ct ds2 st2 =>
            rw [ee] at q1
            simp only [unlockS] at q1
            cases eu : unlock n st2 with
            | none => rw [eu] at q1; exact q1.elim
            | some st3 => rw [eu] at q1; exact fun σ' H' ρ' e1 M2 S2 => ⟨L.held e1, q1 σ' _ ρ' (L.ext e1) (L.mem2 e1 M2 (hu _ _ eu)) (L.slots2 e1 S2)⟩
          | exc _ _ _ => rw [ee] at q1; exact q1.elim
          | no => rw [ee] at q1; exact q1.elim
end
end MP
end
section
set_option maxRecDepth 100000
set_option maxHeartbeats 4000000
namespace MP
open PySem PySem.Spec PyProof.Rows L2
section
variable {X : Cx} {xa : XA} {W : WX} {pos p1 p2 tgp spos py : Pos} {a b c elt iter : Expr} {fa fb fc fe : DS → Store → RE} {fs : DS → Store → R (List D)} {x y z : Str} {i v w : Nat} {ifs : List Expr} {scope : Scope}
structure Blk (X : Cx) (xa : XA) (x : Str) (tgp : Pos) (v : Nat) (elt : Expr) (ifs : List Expr) (scope : Scope) (fe fc : DS → Store → RE) : Prop where
  ok : BlkOk X.N X.env.scope scope [(x, v)]
  g : ∀ (s : Shared) (H : Hp) (C : Addr) (cl : List (Str × Addr)) (fp : List Addr), PG (X.blk s H scope (compEnvC scope cl C X.env) fp) (.Name x tgp) (gName v)
  t : ∀ (s : Shared) (H : Hp) (C : Addr) (cl : List (Str × Addr)) (fp : List Addr), PTs (X.blk s H scope (compEnvC scope cl C X.env) fp) ifs (denT X.K xa W0 fc)
  e : ∀ (s : Shared) (H : Hp) (C : Addr) (cl : List (Str × Addr)) (fp : List Addr), PE (X.blk s H scope (compEnvC scope cl C X.env) fp) elt (denE X.K xa W0 fe)
def fComp (m : Bool) (fe fc : DS → Store → RE) (v : Nat) (k : SK) (fs : DS → Store → R (List D)) : DS → Store → RE := fun ds st => (fs ds st).bind fun xs st1 => compF m fe fc v k xs ds st1
theorem den_comp {m : Bool} {k : SK} (hcalm : X.calm = true) (hN : X.N.Nodup) (hk : k ≠ .itv) (hkx : k ≠ .itx) (B : Blk X xa x tgp v elt ifs scope fe fc) (hs : SrcOk X xa W (.Name x tgp) iter k fs) (hf : ∀ z, foldedSetIterable iter X.env z = pure z) :
    PE X (.ListComp elt [⟨.Name x tgp, iter, ifs, 0⟩] scope pos) (denE X.K xa W (fComp m fe fc v k fs)) := by
  obtain ⟨wi, hw, w1, w2⟩ := hs
  refine (pe_lc hcalm hN hw B.ok B.g B.t B.e hf).imp fun σ H Q h => ?_
  obtain ⟨ex, ρ, ds, st, M, S, q⟩ := h
  exact comp_reading w1 w2 (fun _ _ _ h => h) (fun _ _ _ h => h) M S (fun xs st1 _ n items => srcF_free hk hkx) q
theorem den_setc {m : Bool} {k : SK} (hcalm : X.calm = true) (hN : X.N.Nodup) (hk : k ≠ .itv) (hkx : k ≠ .itx) (hy : X.N[i]? = some y) (hyl : X.env.scope.names.lookup y = some .local) (hsw : swapsWith (.ListComp elt [⟨.Name x tgp, iter, ifs, 0⟩] scope pos) (some (.Name y py)) spos.line X.env = pure true)
    (B : Blk X xa x tgp v elt ifs scope fe fc) (hs : SrcOk X xa W (.Name x tgp) iter k fs) (hf : ∀ z, foldedSetIterable iter X.env z = pure z) :
    PS X (.Assign [.Name y py] (.ListComp elt [⟨.Name x tgp, iter, ifs, 0⟩] scope pos) spos) (denS X.K xa W fun ds st => (fComp m fe fc v k fs ds st).bindS ds fun d st' => .nx (ds.set i (some d)) st') := by
  obtain ⟨wi, hw, w1, w2⟩ := hs
  refine (ps_setLc hcalm hN hy hyl hsw hw B.ok B.g B.t B.e hf).imp fun En σ H h => ?_
  obtain ⟨ex, ρ, ds, st, M, S, q⟩ := h
  refine comp_reading w1 w2 (fun _ _ _ h => h) (fun _ _ _ h => h) M S (fun xs st1 _ n items => srcF_free hk hkx) (m := m) ((PostS.bind S q).imp fun u H1 ⟨d, st1, ρ1, e1, M1, r1, q1⟩ => ?_)
  exact q1 (σ.set i (some u)) H1 ρ1 (Ext.refl _ _) M1 ((S.ext e1).set i r1)
theorem comp_itv {m : Bool} {te : TE} {tt : TT} {ex : Addr → Prop} {H : Hp} {ρ : List Addr} {st : Store} {σ : L2.St} {ds : DS} {Q : VK} {Xe : Ex → Hp → List Addr → Store → Prop} (M : Mem X.K ex H ρ st) (S : Slots X.K ex H ρ σ ds)
    (hte : ∀ σ H Q, denE X.K xa W0 fe σ H Q → te σ H Q) (htt : ∀ σ H Q, denT X.K xa W0 fc σ H Q → tt σ H Q) (q : PostV X.K ex H ρ (fComp m fe fc v .itv (one (fvar w)) ds st) Xe Q) :
    tLc (iM X.K (tVar w)) (gName v) tt te [v] σ H Q ∨ ∃ a u, H a = some u ∧ Mut (some u) ∧ ∀ od, tLc (iM X.K (tVar w)) (gName v) tt te [v] σ (upd H a (.frz od u)) fun y H' => H' a = some (.frz od u) ∧ Q y (upd H' a u) := by
  unfold fComp at q
  cases e : one (fvar w) ds st with
  | no => rw [e] at q; exact q.elim
  | exc z s =>
    have := one_exc e
    unfold fvar at this
    split at this <;> cases this
  | ok xs st' =>
    rw [e] at q
    obtain ⟨d, e1, rfl⟩ := one_ok e
    obtain ⟨hd, rfl⟩ := fvar_ok e1
    have q0 : PostV X.K ex H ρ (compF m fe fc v .itv [d] ds st') Xe Q := q
    unfold compF at q0
    cases hs : srcF .itv [d] st' with
    | none => rw [hs] at q0; exact q0.elim
    | some on =>
      obtain ⟨o, items⟩ := on
      rw [hs] at q0
      rcases need_lock M S hd hs with ⟨rfl, fr⟩ | ⟨ad, u, st1, L, hs1, fr, ho⟩
      · simp only at q0
        split at q0
        · rename_i ys st2 hc
          exact .inl (walk_itv M S hd hs fr fun J j D hD => comp_loop M S j hc q0 hD hte htt)
        · exact q0.elim
      · refine .inr ⟨ad, u, L.1, L.mut, fun od => ?_⟩
        have M1 := L.mem (od := od) M
        have S1 := L.slots (od := od) S
        rcases ho with ⟨n, rfl, hn, hl⟩ | ⟨rfl, hn, rfl⟩
        · simp only [hl] at q0
          split at q0
          · rename_i ys st2 hc
            split at q0
            · rename_i st3 hu
              refine walk_itv M1 S1 hd hs1 (fr od) fun J j D hD => comp_loop (m := m) (Xe := fun _ _ _ _ => True) (Q := fun y H' => H' ad = some (.frz od u) ∧ Q y (upd H' ad u)) M1 S1 j hc ?_ hD hte htt
              -- behind the lock
              unfold mkL at q0 ⊢
              have lenu : st3.length = st2.length := by rcases unlock_eq hu with ⟨xs, _, rfl⟩ | ⟨es, _, rfl⟩ <;> rw [List.length_set]
              cases m with
              | false =>
                simp only [Bool.false_eq_true, if_false] at q0 ⊢
                exact fun v' H' ρ' e1 M2 r2 => ⟨L.held e1, q0 v' _ ρ' (L.ext e1) (L.mem2 e1 M2 (.inl ⟨n, hn, hu⟩)) (L.rep2 e1 r2)⟩
              | true =>
                simp only [if_true] at q0 ⊢
                refine fun v' H' ρ' e1 M2 r2 => ⟨L.held e1, q0 v' _ ρ' (L.ext e1) (L.mem2 e1 M2 (.inl ⟨n, hn, ?_⟩)) (L.rep2 e1 (by rw [lenu]; exact r2))⟩
                have hlt : n < st2.length := by rcases unlock_eq hu with ⟨xs, h, _⟩ | ⟨es, h, _⟩ <;> exact (List.getElem?_eq_some_iff.mp h).1
                rcases unlock_eq hu with ⟨xs, h, rfl⟩ | ⟨es, h, rfl⟩
                · unfold unlock
                  rw [List.getElem?_append_left hlt, h]
                  simp only [List.set_append_left _ _ hlt]
                · unfold unlock
                  rw [List.getElem?_append_left hlt, h]
                  simp only [List.set_append_left _ _ hlt]
            · exact q0.elim
          · exact q0.elim
        · simp only at q0
          split at q0
          · rename_i ys st2 hc
            refine walk_itv M1 S1 hd hs1 (fr od) fun J j D hD => comp_loop (m := m) (Xe := fun _ _ _ _ => True) (Q := fun y H' => H' ad = some (.frz od u) ∧ Q y (upd H' ad u)) M1 S1 j hc ?_ hD hte htt
            unfold mkL at q0 ⊢
            cases m with
            | false =>
              simp only [Bool.false_eq_true, if_false] at q0 ⊢
              exact fun v' H' ρ' e1 M2 r2 => ⟨L.held e1, q0 v' _ ρ' (L.ext e1) (L.mem2 e1 M2 (.inr ⟨hn, rfl⟩)) (L.rep2 e1 r2)⟩
            | true =>
              simp only [if_true] at q0 ⊢
              exact fun v' H' ρ' e1 M2 r2 => ⟨L.held e1, q0 v' _ ρ' (L.ext e1) (L.mem2 e1 M2 (.inr ⟨hn, rfl⟩)) (L.rep2 e1 r2)⟩
          · exact q0.elim
theorem den_compItv {m : Bool} (hcalm : X.calm = true) (hN : X.N.Nodup) (B : Blk X xa x tgp v elt ifs scope fe fc) (hv : PE X (.Name z p2) (tVar w)) :
    PE X (.ListComp elt [⟨.Name x tgp, .Name z p2, ifs, 0⟩] scope pos) (denE X.K xa W (fComp m fe fc v .itv (one (fvar w)))) := by
  have F := pe_lc (pos := pos) hcalm hN (pi_M (tg := .Name x tgp) hv) B.ok B.g B.t B.e (by intro _; rfl)
  refine (PE.or F (pe_lock F)).imp fun σ H Q h => ?_
  obtain ⟨ex, ρ, ds, st, M, S, q⟩ := h
  exact comp_itv M S (fun _ _ _ h => h) (fun _ _ _ h => h) q
theorem den_setcItv {m : Bool} (hcalm : X.calm = true) (hN : X.N.Nodup) (hy : X.N[i]? = some y) (hyl : X.env.scope.names.lookup y = some .local) (hsw : swapsWith (.ListComp elt [⟨.Name x tgp, .Name z p2, ifs, 0⟩] scope pos) (some (.Name y py)) spos.line X.env = pure true)
    (B : Blk X xa x tgp v elt ifs scope fe fc) (hv : PE X (.Name z p2) (tVar w)) :
    PS X (.Assign [.Name y py] (.ListComp elt [⟨.Name x tgp, .Name z p2, ifs, 0⟩] scope pos) spos) (denS X.K xa W fun ds st => (fComp m fe fc v .itv (one (fvar w)) ds st).bindS ds fun d st' => .nx (ds.set i (some d)) st') := by
  have F := ps_setLc (spos := spos) hcalm hN hy hyl hsw (pi_M (tg := .Name x tgp) hv) B.ok B.g B.t B.e (by intro _; rfl)
  refine (PS.or F (ps_lock F)).imp fun En σ H h => ?_
  obtain ⟨ex, ρ, ds, st, M, S, q⟩ := h
  have q' : PostV X.K ex H ρ (fComp m fe fc v .itv (one (fvar w)) ds st) (xOf xa W σ) fun u H1 => En.nx (σ.set i (some u)) H1 :=
    (PostS.bind S q).imp fun u H1 ⟨d, st1, ρ1, e1, M1, r1, q1⟩ => q1 (σ.set i (some u)) H1 ρ1 (Ext.refl _ _) M1 ((S.ext e1).set i r1)
  exact comp_itv M S (fun _ _ _ h => h) (fun _ _ _ h => h) q'
def LockSrc (fi : DS → Store → RE) : Prop := ∀ ds st d st', fi ds st = .ok d st' → st' = st ∧ ∀ n xs, d = .ref n → st[n]? = some (.lst xs) → fi ds (st.set n (.lckL xs)) = .ok (.ref n) (st.set n (.lckL xs))
theorem comp_itx {m : Bool} {te : TE} {tt : TT} {fi : DS → Store → RE} {ex : Addr → Prop} {H : Hp} {ρ : List Addr} {st : Store} {σ : L2.St} {ds : DS} {Q : VK} {Xe : Ex → Hp → List Addr → Store → Prop} (M : Mem X.K ex H ρ st) (S : Slots X.K ex H ρ σ ds)
    (hlk : LockSrc fi) (hne : ∀ ds st e st', fi ds st ≠ .exc e st')
    (hte : ∀ σ H Q, denE X.K xa W0 fe σ H Q → te σ H Q) (htt : ∀ σ H Q, denT X.K xa W0 fc σ H Q → tt σ H Q) (q : PostV X.K ex H ρ (fComp m fe fc v .itx (one fi) ds st) Xe Q) :
    ∃ a u, H a = some u ∧ Mut (some u) ∧ ∀ od, tLc (iM X.K (denE X.K xa W fi)) (gName v) tt te [v] σ (upd H a (.frz od u)) fun y H' => H' a = some (.frz od u) ∧ Q y (upd H' a u) := by
  unfold fComp at q
  cases e : one fi ds st with
  | no => rw [e] at q; exact q.elim
  | exc z s => exact absurd (one_exc e) (hne _ _ _ _)
  | ok xs st' =>
    rw [e] at q
    obtain ⟨d, e1, rfl⟩ := one_ok e
    obtain ⟨rfl, hlk1⟩ := hlk _ _ _ _ e1
    have q0 : PostV X.K ex H ρ (compF m fe fc v .itx [d] ds st') Xe Q := q
    unfold compF at q0
    cases d with
    | ref n =>
      simp only [srcF] at q0
      cases hc : st'[n]? with
      | none => rw [hc] at q0; exact q0.elim
      | some c =>
        cases c with
        | lst items =>
          have hlk2 := hlk1 n items rfl hc
          obtain ⟨a, vs, h1, h2, h3⟩ := M.lst hc
          have hlen : n < st'.length := (List.getElem?_eq_some_iff.mp hc).1
          have hlo : lock n st' = some (st'.set n (.lckL items)) := by unfold lock; rw [hc]
          have L : LockAt X.K ex H ρ st' (st'.set n (.lckL items)) a (.lst vs) := ⟨h2, .inl ⟨n, h1, hlo⟩, .inl ⟨vs, rfl⟩⟩
          rw [hc] at q0
          simp only [hlo] at q0
          refine ⟨a, _, L.1, L.mut, fun od => ?_⟩
          have M1 := L.mem (od := od) M
          have S1 := L.slots (od := od) S
          split at q0
          · rename_i ys st2 hcb
            split at q0
            · rename_i st3 hu
              refine .inl ⟨ex, ρ, ds, _, M1, S1, ?_⟩
              rw [hlk2]
              intro v' H1 ρ1 e2 M2 r2
              obtain ⟨p, hp, rfl⟩ := r2
              have hp1 : ρ1[n]? = some a := e2.pre n a h1
              rw [hp1] at hp
              cases hp
              obtain ⟨b, hb1, o, us, hb2, hb3⟩ := M2.at (List.getElem?_set_self (l := st') (a := Cell.lckL items) hlen)
              rw [hp1] at hb1
              cases hb1
              refine ⟨a, rfl, ⟨us, .inl (.inr ⟨o, hb2⟩)⟩, fun D hD => ?_⟩
              refine comp_loop (m := m) (Xe := fun _ _ _ _ => True) (Q := fun y H' => H' a = some (.frz od (.lst vs)) ∧ Q y (upd H' a (.lst vs))) M2 (S1.ext e2) (jok_list (fun ρ' H' e' => .inl (.inr ⟨o, e'.frzs _ _ _ hb2⟩)) hb3) hcb ?_ hD hte htt
              unfold mkL at q0 ⊢
              have lenu : st3.length = st2.length := by rcases unlock_eq hu with ⟨xs, _, rfl⟩ | ⟨es, _, rfl⟩ <;> rw [List.length_set]
              cases m with
              | false =>
                simp only [Bool.false_eq_true, if_false] at q0 ⊢
                exact fun v' H' ρ' e3 M3 r3 => ⟨L.held (e2.trans e3), q0 v' _ ρ' (L.ext (e2.trans e3)) (L.mem2 (e2.trans e3) M3 (.inl ⟨n, h1, hu⟩)) (L.rep2 (e2.trans e3) r3)⟩
              | true =>
                simp only [if_true] at q0 ⊢
                refine fun v' H' ρ' e3 M3 r3 => ⟨L.held (e2.trans e3), q0 v' _ ρ' (L.ext (e2.trans e3)) (L.mem2 (e2.trans e3) M3 (.inl ⟨n, h1, ?_⟩)) (L.rep2 (e2.trans e3) (by rw [lenu]; exact r3))⟩
                have hlt : n < st2.length := by rcases unlock_eq hu with ⟨xs, h, _⟩ | ⟨es, h, _⟩ <;> exact (List.getElem?_eq_some_iff.mp h).1
                rcases unlock_eq hu with ⟨xs, h, rfl⟩ | ⟨es, h, rfl⟩
                · unfold unlock
                  rw [List.getElem?_append_left hlt, h]
                  simp only [List.set_append_left _ _ hlt]
                · unfold unlock
                  rw [List.getElem?_append_left hlt, h]
                  simp only [List.set_append_left _ _ hlt]
            · exact q0.elim
          · exact q0.elim
        | _ => rw [hc] at q0; exact q0.elim
    | _ => simp only [srcF] at q0; exact q0.elim
theorem den_compItx {m : Bool} {fi : DS → Store → RE} (hcalm : X.calm = true) (hN : X.N.Nodup) (B : Blk X xa x tgp v elt ifs scope fe fc) (hv : PE X iter (denE X.K xa W fi)) (hf : ∀ z, foldedSetIterable iter X.env z = pure z) (hlk : LockSrc fi) (hne : ∀ ds st e st', fi ds st ≠ .exc e st') :
    PE X (.ListComp elt [⟨.Name x tgp, iter, ifs, 0⟩] scope pos) (denE X.K xa W (fComp m fe fc v .itx (one fi))) := by
  have F := pe_lc (pos := pos) hcalm hN (pi_M (tg := .Name x tgp) hv) B.ok B.g B.t B.e hf
  refine (pe_lock F).imp fun σ H Q h => ?_
  obtain ⟨ex, ρ, ds, st, M, S, q⟩ := h
  exact comp_itx M S hlk hne (fun _ _ _ h => h) (fun _ _ _ h => h) q
theorem den_setcItx {m : Bool} {fi : DS → Store → RE} (hcalm : X.calm = true) (hN : X.N.Nodup) (hy : X.N[i]? = some y) (hyl : X.env.scope.names.lookup y = some .local) (hsw : swapsWith (.ListComp elt [⟨.Name x tgp, iter, ifs, 0⟩] scope pos) (some (.Name y py)) spos.line X.env = pure true)
    (B : Blk X xa x tgp v elt ifs scope fe fc) (hv : PE X iter (denE X.K xa W fi)) (hf : ∀ z, foldedSetIterable iter X.env z = pure z) (hlk : LockSrc fi) (hne : ∀ ds st e st', fi ds st ≠ .exc e st') :
    PS X (.Assign [.Name y py] (.ListComp elt [⟨.Name x tgp, iter, ifs, 0⟩] scope pos) spos) (denS X.K xa W fun ds st => (fComp m fe fc v .itx (one fi) ds st).bindS ds fun d st' => .nx (ds.set i (some d)) st') := by
  have F := ps_setLc (spos := spos) hcalm hN hy hyl hsw (pi_M (tg := .Name x tgp) hv) B.ok B.g B.t B.e hf
  refine (ps_lock F).imp fun En σ H h => ?_
  obtain ⟨ex, ρ, ds, st, M, S, q⟩ := h
  have q' : PostV X.K ex H ρ (fComp m fe fc v .itx (one fi) ds st) (xOf xa W σ) fun u H1 => En.nx (σ.set i (some u)) H1 :=
    (PostS.bind S q).imp fun u H1 ⟨d, st1, ρ1, e1, M1, r1, q1⟩ => q1 (σ.set i (some u)) H1 ρ1 (Ext.refl _ _) M1 ((S.ext e1).set i r1)
  exact comp_itx M S hlk hne (fun _ _ _ h => h) (fun _ _ _ h => h) q'
def rSetM : V → V → V → Hp → (Hp → Prop) → Prop := fun o i v H Q => rSetL o i v H Q ∨ ∃ a H', o = .ref a ∧ DPut H a i v H' ∧ Q H'
theorem set_M (hu : X.A.units + 65 < cLine) : PSet X rSetM := by
  intro pins s σ H o i v ov iv u Q I ro ri rv h
  rcases h with h | ⟨a, H', rfl, g, q⟩
  · exact set_list pins s σ H o i v ov iv u Q I ro ri rv h
  · obtain rfl : ov = Value.ref a := ro
    exact d_setItem (by omega) I g ri rv fun s4 I4 => ⟨H', I4, q⟩
theorem ok_setix {ex : Addr → Prop} {H : Hp} {ρ : List Addr} {st st' : Store} {o i d : D} {ov iv dv : V} {Q : Hp → Prop} (M : Mem X.K ex H ρ st) (r1 : Rep X.K ex H ρ o ov) (r2 : Rep X.K ex H ρ i iv) (r3 : Rep X.K ex H ρ d dv) (h : setixF o i d st = some st')
    (q : ∀ H', Ext ρ H ρ H' → Mem X.K ex H' ρ st' → Q H') : rSetM ov iv dv H Q := by
  unfold setixF at h
  split at h
  · rename_i n
    obtain ⟨a, ha, rfl⟩ := r1
    split at h
    · rename_i xs hs
      obtain ⟨b, vs, h1, h2, h3⟩ := M.lst hs
      rw [ha] at h1
      cases h1
      split at h
      · rename_i j
        cases r2
        obtain ⟨m, hm, rfl⟩ := Option.map_eq_some_iff.mp h
        have e : Ext ρ H ρ (upd H a (.lst (vs.set m dv))) := Ext.write ha (fun vs => by rw [h2]; simp) (fun ob u => by rw [h2]; simp)
        exact .inl ⟨a, vs, j, m, rfl, rfl, h2, by rw [← h3.length]; exact hm, q _ e (M.write ha e ⟨_, upd_same, (h3.set m r3).ext e⟩)⟩
      · cases h
    · rename_i es hs
      obtain ⟨b, kvs, h1, h2, h3⟩ := M.dct hs
      rw [ha] at h1
      cases h1
      split at h
      · rename_i k hk
        split at h
        · rename_i hl
          cases h
          obtain ⟨b, rfl, hb⟩ := rep_pl r2 hk
          have e : Ext ρ H ρ (upd H a (.dT (putK kvs (kP k) dv))) := Ext.write ha (fun vs => by rw [h2]; simp) (fun ob u => by rw [h2]; simp)
          exact .inr ⟨a, _, rfl, DPut.t h2 hb (by rw [← h3.length, lim_eq]; exact hl), q _ e (M.write ha e ⟨_, upd_same, (h3.put r3).ext e⟩)⟩
        · cases h
      · cases h
    · cases h
  · cases h
theorem den_setix (hu : X.A.units + 65 < cLine) (hcv : PE X c (denE X.K xa W fc)) (ha : PE X a (denE X.K xa W fa)) (hb : PE X b (denE X.K xa W fb))
    (hs : swapsWithSole [.Subscript a b p1] c pos.line X.env = pure false) (hw : swappedStores [.Subscript a b p1] c X.env = pure none) (h1 : (assignEach [.Subscript a b p1] X.env).map (·.2) = [assign (.Subscript a b p1) X.env])
    (hasn : ∀ v, assign (.Subscript a b p1) X.env v = (do
      let ov ← holding [v] (eval a X.env)
      let iv ← holding [v, ov] (eval b X.env)
      standAt p1
      holding [v, ov, iv] (setItem ov iv v)
      release [v, ov, iv] [])) :
    PS X (.Assign [.Subscript a b p1] c pos) (denS X.K xa W fun ds st => (fc ds st).bindS ds fun x st1 => (fa ds st1).bindS ds fun y st2 => (fb ds st2).bindS ds fun z st3 => match setixF y z x st3 with
    | some st4 => .nx ds st4
    | none => .no) := by
  refine (ps_asg hcv (pg_sub ha hb (set_M hu) hasn) hs hw h1).imp fun En σ H h => ?_
  obtain ⟨ex, ρ, ds, st, M, S, q⟩ := h
  refine ⟨ex, ρ, ds, st, M, S, (PostS.bind S q).imp fun v H1 ⟨x, st1, ρ1, e1, M1, r1, q1⟩ => ?_⟩
  refine ⟨ex, ρ1, ds, st1, M1, S.ext e1, (PostS.bind (S.ext e1) q1).imp fun u H2 ⟨y, st2, ρ2, e2, M2, r2, q2⟩ => ?_⟩
  refine ⟨ex, ρ2, ds, st2, M2, (S.ext e1).ext e2, (PostS.bind ((S.ext e1).ext e2) q2).imp fun t H3 ⟨z, st3, ρ3, e3, M3, r3, q3⟩ => ?_⟩
  split at q3
  · rename_i st4 h4
    exact ok_setix M3 (r2.ext e3) r3 ((r1.ext e2).ext e3) h4 fun H' e4 M4 => q3 σ H' ρ3 e4 M4 ((((S.ext e1).ext e2).ext e3).ext e4)
  · exact q3.elim
end
end MP
end
section
set_option maxRecDepth 100000
set_option maxHeartbeats 4000000
namespace MP
open PySem PySem.Spec PyProof.Rows L2
section
variable {X : Cx} {xa : XA} {W : WX} {pos p1 p2 q1 q2 tp : Pos} {e : Expr} {fa : DS → Store → RE} {sa : List Stmt} {ga : DS → Store → RS} {i v k2 : Nat} {x y : Str}
theorem enum_loop {a : Addr} {vs : List V} {tb : TS} {ex : Addr → Prop} {H : Hp} {ρ : List Addr} {st : Store} {σ : L2.St} {ds : DS} {items : List D} {D : Ends}
    (M : Mem X.K ex H ρ st) (S : Slots X.K ex H ρ σ ds) (hl : Rd H a (.lst vs)) (hn : a ∉ ρ) (rs : Reps X.K ex H ρ items vs) (q : PostS X.K ex H ρ (forE ga i v 0 items ds st) xa W D)
    (htb : ∀ D σ H, denS X.K xa W ga D σ H → tb D σ H) :
    ∃ Wv : Nat → Nat → L2.St → Hp → Prop, (∃ m, Wv 0 m σ H) ∧ ∀ j m σ H, Wv j m σ H →
      ((Ite X.K a).stop j H ∧ D.nx σ H) ∨ ((Ite X.K a).go j H ∧ ∃ N : L2.St → Hp → Prop, (∀ σ' H', N σ' H' → ∃ m', m' < m ∧ Wv (j + 1) m' σ' H') ∧ ∀ x H', (Ite X.K a).yld j H x H' → gTup X.K 2 (gCons (gName i) (gCons (gName v) gNil)) x σ H' fun σ2 H2 => tb { D with nx := N, ct := N, bk := D.nx } σ2 H2) := by
  have hlen := rs.length
  refine ⟨fun j m' σ1 H1 => ∃ ρ1 ds1 st1, Ext ρ H ρ1 H1 ∧ Mem X.K ex H1 ρ1 st1 ∧ Slots X.K ex H1 ρ1 σ1 ds1 ∧ PostS X.K ex H1 ρ1 (forE ga i v j (items.drop j) ds1 st1) xa W D ∧ j + m' = items.length,
    ⟨items.length, ρ, ds, st, Ext.refl _ _, M, S, by rw [List.drop_zero]; exact q, by omega⟩, ?_⟩
  rintro j m' σ1 H1 ⟨ρ1, ds1, st1, e1, M1, S1, q1, hi⟩
  have hl1 : SqL X.K H1 a vs := .inl (Rd.ext e1 hl hn)
  have rs1 := rs.ext e1
  by_cases hlt : j < items.length
  · have hd : items[j]? = some items[j] := List.getElem?_eq_getElem hlt
    obtain ⟨u, hu, ru⟩ := rs1.get hd
    rw [List.drop_eq_getElem_cons hlt] at q1
    refine .inr ⟨⟨vs, u, hl1, hu⟩, fun σ' H' => ∃ ρ1 ds1 st1, Ext ρ H ρ1 H' ∧ Mem X.K ex H' ρ1 st1 ∧ Slots X.K ex H' ρ1 σ' ds1 ∧ PostS X.K ex H' ρ1 (forE ga i v (j + 1) (items.drop (j + 1)) ds1 st1) xa W D, fun σ' H' ⟨ρ2, ds2, st2, z1, z2, z3, z4⟩ => ⟨m' - 1, by omega, ρ2, ds2, st2, z1, z2, z3, z4, by omega⟩, fun z H' hy => ?_⟩
    obtain ⟨t, w, rfl, ht, rfl, hw⟩ := hy
    have hw2 := hw vs hl1
    rw [hu] at hw2
    cases hw2
    have e2 : Ext ρ1 H1 ρ1 (upd H1 t (.tup [.int (j : Nat), u])) := Ext.laid ht
    have M2 := M1.laid (o := .tup [.int (j : Nat), u]) ht
    have S2 := (S1.ext e2)
    refine ⟨t, _, rfl, .inl (.inl upd_same), rfl, ?_⟩
    refine ⟨_, _, rfl, ?_⟩
    refine ⟨_, _, rfl, ?_⟩
    refine ⟨rfl, ?_⟩
    refine htb _ _ _ ⟨ex, ρ1, (ds1.set i (some (.int (j : Nat)))).set v (some items[j]), st1, M2, (S2.set i (show Rep X.K ex _ ρ1 (.int (j : Nat)) (.int (j : Nat)) from rfl)).set v (ru.ext e2), ?_⟩
    rw [forE] at q1
    have q1 := PostS.step e2 q1
    cases e : ga ((ds1.set i (some (.int (j : Nat)))).set v (some items[j])) st1 with
    | nx ds' st' => rw [e] at q1; exact fun σ' H2 ρ' e3 M2 S2 => ⟨ρ', ds', st', (e1.trans e2).trans e3, M2, S2, PostS.step e3 q1⟩
    | ct ds' st' => rw [e] at q1; exact fun σ' H2 ρ' e3 M2 S2 => ⟨ρ', ds', st', (e1.trans e2).trans e3, M2, S2, PostS.step e3 q1⟩
    | rt d s => rw [e] at q1; exact q1
    | bk d s => rw [e] at q1; exact q1
    | exc x d s => rw [e] at q1; exact q1
    | no => rw [e] at q1; exact q1
  · rw [List.drop_eq_nil_of_le (by omega), forE] at q1
    exact .inl ⟨⟨vs, hl1, by omega⟩, q1 σ1 H1 ρ1 (Ext.refl _ _) M1 S1⟩
theorem den_forE (hp : PassesOwn (model X.prog X.w) X.A X.env X.xe) (hcalm : X.calm = true) (hgl : Gl X "enumerate") (hm : X.mg "enumerate" = none) (pa : plainArg e = true) (he : PE X e (denE X.K xa W fa))
    (h1 : PG X (.Name x q1) (gName i)) (h2 : PG X (.Name y q2) (gName v)) (hb : PSs X sa (denS X.K xa W ga)) :
    PS X (.For (.Tuple [.Name x q1, .Name y q2] k2 tp) (.Call (.Name "enumerate" p1) [e] [] p2) sa [] pos) (denS X.K xa W fun ds st => (fa ds st).bindS ds fun d st' => match d with
    | .lst items => forE ga i v 0 items ds st'
    | _ => .no) := by
  refine (ps_for hp hcalm (pi_enum hgl hm (pa_cons he pa_nil (star_cons pa _ _)) (star_cons pa _ _)) (pg_tup (n := 2) hcalm (pgs_cons h1 (pgs_cons h2 pgs_nil))) hb (by intro _; rfl)).imp fun D σ H h => ?_
  obtain ⟨ex, ρ, ds, st, M, S, q⟩ := h
  simp only at q
  refine ⟨ex, ρ, ds, st, M, S, (PostS.bind S q).imp fun u H1 ⟨d, st1, ρ1, e1, M1, r1, q1⟩ => ?_⟩
  cases d with
  | lst items =>
    obtain ⟨a, vs, rfl, hl, hn, _, rs⟩ := r1
    exact ⟨a, vs, rfl, .inl hl, enum_loop M1 (S.ext e1) hl hn rs q1 (fun _ _ _ h => h)⟩
  | _ => exact q1.elim
end
end MP
end
section
set_option maxRecDepth 100000
set_option maxHeartbeats 8000000
namespace MP
open PySem PySem.Spec PySem.Calls PyProof.Rows L2 L2H
section
variable {X : Cx} {ta : TA} {p1 p2 p3 p4 pos : Pos} {y a b : Str} {C0 : Addr}
theorem pe_seinit (hg : Gl X y) (hm : X.mg y = some (.ref C0)) (hdb : (y == ("__debug__" : Str)) = false) (hs : PySem.W.specialIn X.K (.ref C0) "__getattribute__" = some (some (.builtin "type.__getattribute__"))) (hr : PySem.W.readsIn X.K C0 (.type "type") = true)
    (hv : PySem.W.findCls X.K (.ref C0) (.type "type") "__init__" = some (.val (.builtin "ValueError.__init__"))) (hline : (p2.endLine == pos.line) = true) (ha : PA X [.Name a p3, .Name b p4] ta) :
    PE X (.Call (.Attribute (.Name y p1) "__init__" p2) [.Name a p3, .Name b p4] [] pos) (tVeI X.K ta) := by
  refine ⟨fun pins s σ H Q I h => ?_⟩
  rw [arm_eval_Call, show attributeBase (.Name y p1) "__init__" X.env (eval (.Name y p1) X.env) = eval (.Name y p1) X.env from rfl]
  refine wpAny_bind (ld_glob I hg hm ?_ hdb)
  refine wpAny_bind (wpAny_standAt ?_)
  have hform : methodCallForm (([.Name a p3, .Name b p4] : List Expr).length + ([] : List Keyword).length) (backTo pos (starEach [.Name a p3, .Name b p4] X.env)) (backToKw pos (keywordEach [] X.env)) = true := by rfl
  have hpos : methodCallPos true (.Name y p1) X.env p2 pos = pure pos := by unfold methodCallPos; simp [hline]
  unfold methodCall
  rw [hform]
  refine wpAny_bind (wpAny_holding (PySem.W.method_cls I.kIn hs (PySem.W.cls_value I.kIn hr hv (by decide +kernel) ?_)))
  refine wpAny_bind (wpAny_of_eq hpos ?_)
  show wpAny _ _ (callWith pos (Value.builtin "ValueError.__init__") [] (backTo pos (starEach [.Name a p3, .Name b p4] X.env)) []) _ _ _
  refine PyProof.Rows.callWith_method1 (thn (ha.run pos pins _ σ H _ (I.tok _) h) fun us s1 ⟨vs, H1, I1, r1, a, C, ws, ev, hl, T, ea, q⟩ => ?_) rfl rfl
  subst ev
  cases r1 with
  | @cons _ u0 _ ur ra rw' =>
    obtain rfl : u0 = Value.ref a := ra
    have hlen : ur.length ≤ sizeLine := by
      rw [← Paired.length rw', sizeLine_eq]
      omega
    exact oinit_ok T I1 ea hlen fun s' J => ⟨.non, H1, J, rfl, q⟩
end
def spAt (K : PySem.W.Frag) : Sp := fun vs H Q _ => ∃ (a C : Addr) (m y : V), vs = [.ref a, m, y] ∧ OexC K C ∧ PySem.W.findIn K (.ref C) "at" = some none ∧ H a = some (exo a C none) ∧
  ∀ dx, H dx = none → dx ≠ a → Q .non (upd (upd H dx (exd dx [("at", y)])) a (exo a C (some dx)))
theorem init_at {P : Program} {w : World} {K : PySem.W.Frag} {mg : Str → Option Value} {base : Heap} {qual : Str} {params : Arguments} {scope : Scope} {dvs : List V} {kws : List (Str × V)} {f C0 : Addr} {fd : FuncData} {b : Str} {q1 q2 q3 q4 q5 q6 q7 q8 q9 q10 : Pos} {CX : CXT} {k : Nat}
    (F : FunD K "__init__" qual params [.Expr (.Call (.Attribute (.Name b q1) "__init__" q2) [.Name "self" q3, .Name "words" q4] [] q5) q6, .Assign [.Attribute (.Name "self" q7) "at" q8] (.Name "at" q9) q10] scope dvs kws f fd)
    (S : FnScope ["self", "words", "at"] ["self", "words", "at"] scope) (hl : ∀ x ∈ (["self", "words", "at"] : List Str), scope.names.lookup x = some .local) (hb : scope.names.lookup b = some .globalImplicit) (hbd : (b == ("__debug__" : Str)) = false)
    (hline : (q2.endLine == q5.line) = true)
    (hm : mg b = some (.ref C0)) (hs : PySem.W.specialIn K (.ref C0) "__getattribute__" = some (some (.builtin "type.__getattribute__"))) (hr : PySem.W.readsIn K C0 (.type "type") = true)
    (hv : PySem.W.findCls K (.ref C0) (.type "type") "__init__" = some (.val (.builtin "ValueError.__init__"))) :
    FnOk P w K mg base CX (k + 1) f fd ["self", "words", "at"] (spAt K) := by
  refine F.ok S (fun vs H Q E h => ?_) fun cdv A outer s H vs Q E hr' h => ?_
  · obtain ⟨a, C, m, y, rfl, _⟩ := h
    rfl
  · obtain ⟨a, C, m, y, rfl, T, hno, ea, q⟩ := h
    have gv : ∀ (i : Nat) (x : Str) (q : Pos), (["self", "words", "at"] : List Str)[i]? = some x → x ∈ (["self", "words", "at"] : List Str) → (x == ("__debug__" : Str)) = false → (x == ("__classdict__" : Str)) = false → PE (cxOf CX P w K mg base ["self", "words", "at"] qual scope f cdv A outer s H E) (.Name x q) (tVar i) := fun i x q h1 h2 h3 h4 => pe_var h1 (.inl (hl x h2)) h3 h4
    have v0 := fun q => gv 0 "self" q rfl (by simp) (by decide) (by decide)
    have v1 := fun q => gv 1 "words" q rfl (by simp) (by decide) (by decide)
    have v2 := fun q => gv 2 "at" q rfl (by simp) (by decide) (by decide)
    have G : Gl (cxOf CX P w K mg base ["self", "words", "at"] qual scope f cdv A outer s H E) b := hb
    refine ⟨_, pss_cons (ps_expr (pe_seinit G hm hbd hs hr hv hline (pa_cons (v0 q3) (pa_cons (v1 q4) pa_nil)))) (pss_cons (ps_ost (v0 q7) (v2 q9)) pss_nil), ?_⟩
    refine ⟨.ref a, rfl, m, rfl, a, C, [m], rfl, by simp, T, ea, ?_⟩
    exact ⟨y, rfl, .ref a, rfl, a, C, rfl, T, hno, .inl ⟨ea, fun dx n ne => q dx n ne⟩⟩
def tMkAt (C : Addr) (ta : TA) : L2.St → Hp → XK → Prop := fun σ H Q => ta σ H fun vs H1 => ∃ m y, vs = [m, y] ∧ ∀ d, H1 d = none → Q (.ref C) (some d) (upd H1 d (.xd [("at", y)]))
section
variable {X : Cx} {e : Expr} {es : List Expr} {ta : TA} {p pos : Pos}
theorem pmk_at {CX : CXT} {x : Str} {C fI : Addr} {k : Nat} {fd : FuncData} (T : OexC X.K C) (hno : PySem.W.findIn X.K (.ref C) "at" = some none) (iC : PySem.W.findIn X.K (.ref C) "__init__" = some (some (.ref fI))) (tI : PySem.W.typeIn X.K (.ref fI) = some (.type "function"))
    (F1 : FnOk X.prog X.w X.K X.mg X.base CX k fI fd ["self", "words", "at"] (spAt X.K)) (hr : Room (k + 1) X.A) (hb : Binds X.K fd ["self", "words", "at"] []) (hx : Passes CX X (fun _ _ _ => False)) (hg : Gl X x) (hm : X.mg x = some (.ref C)) (ha : PA X (e :: es) ta)
    (hdb : (x == ("__debug__" : Str)) = false) (he : starEach (e :: es) X.env = (false, eval e X.env) :: starEach es X.env) (hpl : (backTo pos (starEach es X.env)).any (·.1) = false) :
    L2N.PMk X (.Call (.Name x p) (e :: es) [] pos) (tMkAt C ta) := by
  intro pins s σ H Q I h
  obtain ⟨nm, q, N, bs, bm, sn, sub, ab, col, dd, k0, k1, k2, k3, k5, hC, hbm⟩ := T.cls
  refine wpAny_Call_Name_kw (ld_glob I hg hm ?_ hdb)
  refine PySem.W.callWith_K (h₀ := X.base) I.ok.mod.kin T.kC (thn (ha.run pos pins s σ H _ I h) fun us s1 ⟨vs, H1, I1, r1, m, y, ev, q1⟩ => ⟨I1.kIn, ?_⟩) he hpl
  subst ev
  show wpAny _ _ (call (.ref C) us) _ _ _
  obtain ⟨hp, g, dr, tk, os⟩ := s1
  have hsz : hp.objs.size ≤ (hp.objs.size + 1) := Nat.le_succ _
  have hn : H1 (hp.objs.size + 1) = none := I1.hok.fresh hsz
  have kk : ∀ b o, hp.get? b = some o → ((hp.push (PySem.W.kdv_tup us)).push (PySem.HandSPX.excO C hp.objs.size)).get? b = some o := fun b o e => Heap.get?_push_of_some _ (Heap.get?_push_of_some _ e)
  have hget : ((hp.push (PySem.W.kdv_tup us)).push (PySem.HandSPX.excO C hp.objs.size)).get? (hp.objs.size + 1) = some (PySem.HandSPX.excO C hp.objs.size) := by heap_get
  have I2 : Inv X pins σ (upd H1 (hp.objs.size + 1) (exo (hp.objs.size + 1) C none)) ⟨(hp.push (PySem.W.kdv_tup us)).push (PySem.HandSPX.excO C hp.objs.size), g, dr, tk, os⟩ :=
    I1.laid (t' := tk) (a := (hp.objs.size + 1)) (o := exo (hp.objs.size + 1) C none) (h' := (hp.push (PySem.W.kdv_tup us)).push (PySem.HandSPX.excO C hp.objs.size)) kk hsz (exo_ok hget)
  have r2 : Vals [V.ref (hp.objs.size + 1), m, y] (Value.ref (hp.objs.size + 1) :: us) := .cons rfl r1
  have hl : (Value.ref (hp.objs.size + 1) :: us ++ []).length = (["self", "words", "at"] : List Str).length := by
    have e := r2.length
    rw [List.append_nil, ← e]
    rfl
  have hus : us.length ≤ sizeLine := by
    rw [← Paired.length r1, sizeLine_eq]
    show 2 ≤ _
    omega
  have b2 := hb _ (Value.ref (hp.objs.size + 1) :: us) I2.kIn hl
  rw [List.append_nil] at b2
  have hsp : spAt X.K [V.ref (hp.objs.size + 1), m, y] (upd H1 (hp.objs.size + 1) (exo (hp.objs.size + 1) C none)) (fun v H2 => v = .non ∧ ∃ d, H1 d = none ∧ d ≠ (hp.objs.size + 1) ∧ H2 = upd (upd (upd H1 (hp.objs.size + 1) (exo (hp.objs.size + 1) C none)) d (exd d [("at", y)])) (hp.objs.size + 1) (exo (hp.objs.size + 1) C (some d))) (fun _ _ _ => False) :=
    ⟨(hp.objs.size + 1), C, m, y, rfl, T, hno, upd_same, fun dx n ne => ⟨rfl, dx, by rw [upd_ne ne] at n; exact n, ne, rfl⟩⟩
  refine wpAny_call (PySem.HandSPX.call_own F.excBase_ValueError (fun Y => PySem.HandSPX.refsVE_contains Y bm hbm) (I1.kIn _ _ hC) (PySem.W.looks_findIn I1.kIn iC) (fun self => PySem.W.bind_fn I1.kIn self tI) hus
    (codeAny_mono (F1.run _ X.stack _ _ ⟨Value.ref (hp.objs.size + 1) :: us, []⟩ (Value.ref (hp.objs.size + 1) :: us) _ _ (fun _ _ _ => False) (hr.make C us []) (I2.env0.make C us []) b2 r2 hsp) fun r s' hq' => ?_))
  cases r with
  | error er => exact hx pins σ _ _ er s' I2 hq'
  | ok fl =>
    cases fl with
    | ret u =>
      obtain ⟨v, H2, os2, bare2, un2, hok2, rv, ev, d, hd1, hde, eH⟩ := hq'
      subst ev eH
      obtain ⟨h2, g2, d2, t2, os'⟩ := s'
      have ea : (upd (upd (upd H1 (hp.objs.size + 1) (exo (hp.objs.size + 1) C none)) d (exd d [("at", y)])) (hp.objs.size + 1) (exo (hp.objs.size + 1) C (some d))) (hp.objs.size + 1) = some (exo (hp.objs.size + 1) C (some d)) := upd_same
      have ed : (upd (upd (upd H1 (hp.objs.size + 1) (exo (hp.objs.size + 1) C none)) d (exd d [("at", y)])) (hp.objs.size + 1) (exo (hp.objs.size + 1) C (some d))) d = some (exd d [("at", y)]) := by rw [upd_ne hde, upd_same]
      obtain ⟨t0, G, J, kG, ge, hoe, na⟩ := mk_end0 (d2 := d2) (t2 := t2) I1 hsz kk un2 hok2 os2 bare2 ea ed hd1
      have eH : upd (L2.del (upd (upd (upd H1 (hp.objs.size + 1) (exo (hp.objs.size + 1) C none)) d (exd d [("at", y)])) (hp.objs.size + 1) (exo (hp.objs.size + 1) C (some d))) (hp.objs.size + 1)) d (.xd [("at", y)]) = upd H1 d (.xd [("at", y)]) := by
        funext b
        by_cases hbd : b = d
        · rw [hbd, upd_same, upd_same]
        · rw [upd_ne hbd, upd_ne hbd]
          by_cases hba : b = (hp.objs.size + 1)
          · rw [hba, del_same, hn]
          · rw [del_ne hba, upd_ne hba, upd_ne hbd, upd_ne hba]
      rw [eH] at J na
      refine ⟨rv, (hp.objs.size + 1), _, _, ⟨G, g2, d2, t2, os'⟩, _, .ref C, some d, rfl, J, kG, ge, hoe, ⟨rfl, rfl, fun vs hv => ?_⟩, rfl, rfl, na, rfl, bare2, raises_own T.exC T.tyC, q1 d hd1⟩
      cases hv
      rfl
    | next => exact False.elim hq'
    | brk => exact False.elim hq'
    | cont => exact False.elim hq'
end
abbrev pinX (X : Cx) (q : Addr × Obj) : Cx := { X with pn := q :: X.pn }
theorem untrack {X : Cx} {pins : List (Addr × Obj)} {σ : L2.St} {H : Hp} {s : Shared} {d : Addr} {fs : List (Str × V)} (I : Inv X pins σ H s) (hd : H d = some (.xd fs)) :
    ∃ od, s.heap.get? d = some od ∧ (∀ f v, fs.lookup f = some v → ∃ u, PySem.W.lookIn f od = some (some u) ∧ RelV v u) ∧ (∀ f, fs.lookup f = none → PySem.W.lookIn f od = some none) ∧ Inv (pinX X (d, od)) pins σ (L2.del H d) s := by
  have hx : ObjOk X.prog X.w H s.heap d (.xd fs) := I.hok d _ hd
  obtain ⟨mA, hns, hr⟩ := hx
  obtain ⟨od, ho, hl⟩ := lookIn_ns hns
  have hdict : ∀ v, od.data ≠ .cell v := fun v z => by
    obtain ⟨o, es, ep, e1, e2, _⟩ := hns
    rw [ho] at e1
    cases e1
    rw [z] at e2
    cases e2
  have dn : ∀ {b : Addr}, H b = none → b ≠ d := fun {b} h z => by rw [z, hd] at h; cases h
  have dl : ∀ {b : Addr}, H b = none → L2.del H d b = none := fun {b} h => by rw [del_ne (dn h)]; exact h
  have dne : ∀ {b : Addr} {u : HO}, H b = some u → u ≠ .xd fs → b ≠ d := fun {b u} h n z => by
    rw [z, hd] at h
    exact n (Option.some.inj h).symm
  refine ⟨od, ho, fun f v h => ?_, fun f h => ?_, ?_⟩
  · obtain ⟨u, hu, ru⟩ := RelO.some_of (v := v) (o := mA f) (by rw [← h]; exact hr f)
    exact ⟨u, by rw [hl, hu], ru⟩
  · have := hr f
    rw [h] at this
    rw [hl]
    cases e : mA f with
    | none => rfl
    | some u => rw [e] at this; exact this.elim
  · have ok := I.ok
    refine ⟨⟨ok.mod, ok.kind, ok.glob, ok.blt, ok.above, ok.inj, ok.has, ok.cab, ok.hd, ok.frames, ok.stk, ok.exf, ok.bs, ok.bsz, ok.noex, ok.exfs, ok.funs, ok.frf⟩, I.os, I.bare, ?_, I.loc, I.cell, dl I.free, fun x c e => dl (I.freeC x c e), fun p hp => ?_, fun b o e => ?_, I.len⟩
    · exact ⟨I.base.keep, I.base.slot, fun b o q n hx => dl (I.base.free b o q n hx), I.base.there, fun b xs q => by rw [del_ne (dne (I.base.tups b xs q) (fun z => nomatch z))]; exact I.base.tups b xs q,
        fun b o v q => by rw [del_ne (dne (I.base.frzs b o v q) (fun z => nomatch z))]; exact I.base.frzs b o v q, fun b ps q => by
          obtain ⟨ts, h⟩ := I.base.tbls b ps q
          exact ⟨ts, by rw [del_ne (dne h (fun z => nomatch z))]; exact h⟩⟩
    · rcases List.mem_cons.mp hp with rfl | hp
      · refine ⟨ho, del_same, fun z => ?_, fun hm => ?_, hdict⟩
        · have := I.free
          rw [← z, hd] at this
          cases this
        · obtain ⟨_, o, e1, _⟩ := I.ok.funs.mem hm
          have := I.base.free d o e1 (I.ok.frf d hm) fun z => I.ok.exfs d z hm
          rw [hd] at this
          cases this
      · obtain ⟨a1, a2, a3⟩ := I.pin p hp
        exact ⟨a1, dl a2, a3⟩
    · have hb : b ≠ d := fun z => by rw [z, del_same] at e; cases e
      rw [del_ne hb] at e
      exact (I.hok b o e).stay (fun c v hc q => q) (fun c hc => by rw [del_ne (dne hc (fun z => nomatch z))]; exact hc) (fun c xs hc => by rw [del_ne (dne hc (fun z => nomatch z))]; exact hc)
section
variable {prog : Program} {w : World} {A : Around} {E : Value → Shared → Prop} {s : Shared} {K : PySem.W.Frag} {x D : Addr} {ox : Obj} {od : Option Obj}
open PySem.W in
theorem class_findD (c : ExcC K D) : findObj K D od "__class__" = some (.bind (.builtin "getset_descriptor.__get__") (.builtin "object.__class__")) := by
  obtain ⟨cd, hc, _⟩ := any_some c.hd
  unfold findObj
  have hc' : clsIn K D = some cd := hc
  rw [hc', Option.bind_some, c.ha, Option.bind_some]
  simp [c.hn, c.ht]
open PySem.W in
theorem kin_classD {Q : Option Value → Shared → Prop} (c : ExcC K D) (X : K.In s.heap) (I : InstAt s.heap x ox D od) (h : Q (some (.ref D)) { s with toks := s.toks + 1 }) : wpAny (model prog w) A (getAttr? (.ref x) "__class__") Q E s := by
  have hf : findObj K D od "__class__" = some (.bind (.builtin "getset_descriptor.__get__") (.builtin "object.__class__")) := class_findD c
  obtain ⟨hp, g, d, t, os⟩ := s
  have L0 := I.type (M := model prog w)
  have L1 := looks_findIn (M := model prog w) X c.hg
  have L2 := looks_findIn (M := model prog w) X c.hk
  have L3 := looks_find (M := model prog w) X I hf
  have sub : Looks (model prog w) hp (isInstance (.ref x) (.type "BaseException")) true := L0.andThen (looks_subIn X c.hs)
  have hx0 : (false && onTheHeap (Value.builtin "BaseException.__getattribute__")) = false := rfl
  have hx2 : (Value.builtin "BaseException.__getattribute__" == Value.builtin "object.__getattribute__") = false := by decide +kernel
  have hx1 : (onTheHeap (Value.ref D) && Value.builtin "BaseException.__getattribute__" == Value.builtin "object.__getattribute__") = false := by rw [hx2]; rfl
  unfold getAttr? getAttrBy? getAttrBy
  refine wpAny_bind (wpAny_mkText (wpAny_bind (wpAny_attempt (wpAny_holding (wpAny_bind (L0.at (wpAny_bind (L1.at ?_))))))))
  show wpAny _ _ (if (onTheHeap (Value.ref D) && Value.builtin "BaseException.__getattribute__" == Value.builtin "object.__getattribute__") = true then _ else _) _ _ _
  rw [hx1, if_neg Bool.false_ne_true]
  unfold getAttrByItsOwn hookBefore
  refine wpAny_bind ?_
  rw [if_pos (show onTheHeap (Value.ref D) = true from rfl)]
  refine L2.at ?_
  refine wpAny_bind (wpAny_attempt (wpAny_holding ?_))
  unfold callGetattribute
  rw [hx0, if_neg Bool.false_ne_true]
  unfold boundAndCalled
  rw [PySem.F.excAttr_ValueError.ga.bind (.ref x)]
  refine wpAny_bind (wpAny_pure ?_)
  show wpAny _ _ (call (.builtin "BaseException.__getattribute__") [.ref x, .str "__class__" t]) _ _ _
  refine wpAny_call (_root_.PySem.codeAny_call_builtin PySem.F.excAttr_ValueError.ga.plain PySem.F.entry_bexc_ga ?_)
  refine @check_slot (model prog w) _ _ ⟨hp, g, d, t + 1, os⟩ "BaseException.__getattribute__" "BaseException" "__getattribute__" (.ref x) [.str "__class__" t] [] _ (by decide +kernel) (by decide +kernel) sub (PySem.F.args_bexc_ga (.ref x) (.str "__class__" t)) ?_
  unfold Builtin.«object.__getattribute__»
  refine wpAny_bind (wpAny_of_eq (a := ((Value.ref x : Value), [Value.str "__class__" t])) (by first | rfl | (simp only [Builtin.ObjectAttr.slotArgs]; rfl)) ?_)
  refine wpAny_bind (wpAny_pure (wpAny_bind (L0.at (wpAny_bind (L3.at ?_)))))
  show wpAny _ _ (holding [Value.builtin "object.__class__"] (call (.builtin "getset_descriptor.__get__") [.builtin "object.__class__", .ref x, .ref D]) >>= ret) _ _ _
  refine wpAny_bind (wpAny_holding (wpAny_call (class_get (s := ⟨hp, g, d, t + 1, os⟩) (ox := ox) (od := od) X I c.hm ?_)))
  refine wpAny_pure ?_
  show wpAny _ _ (handedOut (.ref D)) _ _ _
  rw [handedOut_of (v := .ref D) rfl]
  first
    | exact wpAny_pure (wpAny_pure h)
    | exact wpAny_pure h
    | exact wpAny_pure (wpAny_bind (wpAny_pure (wpAny_pure h)))
open PySem.W in
theorem kitx_excD (c : ExcC K D) : KitX K (.ref x) (.ref D) (fun h => InstAt h x ox D od) where
  ty := fun _ _ _ I => I.type
  it := fun _ _ X _ => by
    obtain ⟨cdD, hcD, _⟩ := any_some c.hd
    unfold clsIn at hcD
    split at hcD
    · rename_i c' d' cd' sl' ho
      intro A' Q' E' s' k q
      unfold isType loadHead
      exact wpAny_bind (wpAny_loadPart (k _ _ (X _ _ ho)) (wpAny_pure q))
    · cases hcD
  ne := fun h tp dd its n sl X htp => by
    obtain ⟨cdD, hcD, _⟩ := any_some c.hd
    refine Bool.eq_false_iff.mpr fun q => ?_
    have e : D = tp := Value.ref.inj (beq_iff_eq.mp q)
    subst e
    unfold clsIn at hcD
    split at hcD
    · rename_i c' d' cd' sl' ho
      have z := (X _ _ ho).symm.trans htp
      cases z
    · cases hcD
  ca := fun X I k => kin_classD c X I k
end
def ExPin (pn : List (Addr × Obj)) (C a : Addr) (oe : Obj) (dd : Option (Addr × Obj)) : Prop := Zc (.ref C) (dd.map (·.1)) oe ∧ (∃ vs, oe.data = .fields vs) ∧ (a, oe) ∈ pn ∧ ∀ q, dd = some q → q ∈ pn
theorem ExPin.inst {X : Cx} {pins : List (Addr × Obj)} {σ : L2.St} {H : Hp} {s : Shared} {C a : Addr} {oe : Obj} {dd : Option (Addr × Obj)} (p : ExPin X.pn C a oe dd) (I : Inv X pins σ H s) : PySem.W.InstAt s.heap a oe C (dd.map (·.2)) := by
  obtain ⟨hz, ⟨vs, hv⟩, hp, hd⟩ := p
  obtain ⟨hget, _⟩ := I.pin (a, oe) (List.mem_append.mpr (.inl hp))
  obtain ⟨oc, od, oda, osl⟩ := oe
  obtain ⟨h1, h2⟩ := hz
  dsimp only at h1 h2 hv
  subst h1 hv
  cases dd with
  | none =>
    cases h2
    exact ⟨hget, rfl, rfl, trivial⟩
  | some q =>
    cases h2
    obtain ⟨h3, _⟩ := I.pin q (List.mem_append.mpr (.inl (hd q rfl)))
    exact ⟨hget, rfl, rfl, h3⟩
theorem isE_pinD {X : Cx} {a D : Addr} {oe : Obj} {dd : Option (Addr × Obj)} (E : ExcC X.K D) (p : ExPin X.pn D a oe dd) : CallR X (.builtin "isinstance") (rIsE X.K D a) := by
  intro pins s σ H xs us Q I r h
  obtain ⟨c, cv, b, rfl, hcv, e, q⟩ := h
  cases r with
  | cons rx rr =>
    cases rr with
    | cons rt rr =>
      cases rr
      cases rx
      have ec := hcv _ rt
      subst ec
      exact PySem.W.kia_one (kitx_excD E) I.kIn (p.inst I) e (fun z => nomatch z) fun tk => ⟨.bl b, H, I.kept (t' := tk) fun _ _ z => z, rfl, q⟩
theorem pe_atD {X : Cx} {a C : Addr} {oe : Obj} {q : Addr × Obj} {n f : Str} {p2 pos : Pos} {i : Nat} {v : V} {u : Value} (T : XfC X.K C) (hno : PySem.W.findIn X.K (.ref C) f = some none) (p : ExPin X.pn C a oe (some q)) (hl : PySem.W.lookIn f q.2 = some (some u)) (ru : RelV v u)
    (hv : PE X (.Name n p2) (tVar i)) : PE X (.Attribute (.Name n p2) f pos) (fun σ H Q => σ[i]? = some (some (.ref a)) ∧ Q v H) := by
  refine ⟨fun pins s σ H Q I ⟨h1, h2⟩ => ?_⟩
  refine attr_of rfl (thn (hv.run pins s σ H (fun x H' => x = .ref a ∧ Q v H') I ⟨.ref a, h1, rfl, h2⟩) fun w s1 ⟨x, H1, I1, rx, ex, q2⟩ => ?_)
  subst ex
  obtain rfl : w = Value.ref a := rx
  exact HandSPX.exc_get I1.kIn (p.inst I1) T.ga T.gg T.exC (PySem.W.findObj_own T.hdC hno rfl hl) (handed_of ru) ⟨v, H1, I1.tok _, ru, q2⟩
theorem retrack {X : Cx} {pins : List (Addr × Obj)} {σ : L2.St} {H : Hp} {s : Shared} {d : Addr} {od : Obj} {fs : List (Str × V)} (hnew : d ∉ X.ex → ∀ o, X.s_0.heap.get? d = some o → X.H_0 d ≠ none) (hpn : ∀ p ∈ X.pn ++ pins, p.1 ≠ d)
    (hxs : ∀ (H2 : Hp) (h : Heap), h.get? d = some od → ObjOk X.prog X.w H2 h d (.xd fs)) (I : Inv (pinX X (d, od)) pins σ H s) : Inv X pins σ (upd H d (.xd fs)) s := by
  obtain ⟨h1, h2, h3, h4, h5⟩ := I.pin (d, od) (List.mem_append_left _ List.mem_cons_self)
  have h2 : H d = none := h2
  have dne : ∀ {b : Addr} {u : HO}, H b = some u → b ≠ d := fun {b u} h z => by rw [z, h2] at h; cases h
  have ok := I.ok
  refine ⟨⟨ok.mod, ok.kind, ok.glob, ok.blt, ok.above, ok.inj, ok.has, ok.cab, ok.hd, ok.frames, ok.stk, ok.exf, ok.bs, ok.bsz, ok.noex, ok.exfs, ok.funs, ok.frf⟩, I.os, I.bare, ?_, I.loc, I.cell, by rw [upd_ne (Ne.symm h3)]; exact I.free, fun x c e => ?_, fun p hp => ?_, fun b o e => ?_, I.len⟩
  · refine ⟨I.base.keep, I.base.slot, fun b o q n hx => ?_, I.base.there, fun b xs q => by rw [upd_ne (dne (I.base.tups b xs q))]; exact I.base.tups b xs q, fun b o v q => by rw [upd_ne (dne (I.base.frzs b o v q))]; exact I.base.frzs b o v q, fun b ps q => ?_⟩
    · rw [upd_ne fun z => hnew (by rw [← z]; exact hx) o (by rw [← z]; exact q) (by rw [← z]; exact n)]
      exact I.base.free b o q n hx
    · obtain ⟨ts, h⟩ := I.base.tbls b ps q
      exact ⟨ts, by rw [upd_ne (dne h)]; exact h⟩
  · obtain ⟨v, o, e1, e2⟩ := I.cell x c e
    have hcd : c ≠ d := fun z => by
      rw [z, h1] at e1
      cases e1
      exact h5 _ e2
    rw [upd_ne hcd]
    exact I.freeC x c e
  · obtain ⟨a1, a2, a3⟩ := I.pin p (List.mem_cons_of_mem _ hp)
    exact ⟨a1, by rw [upd_ne (hpn p hp)]; exact a2, a3⟩
  · by_cases hb : b = d
    · rw [hb, upd_same] at e
      cases e
      rw [hb]
      exact hxs _ _ h1
    · rw [upd_ne hb] at e
      exact (I.hok b o e).stay (fun c v hc q => q) (fun c hc => by rw [upd_ne (dne hc)]; exact hc) (fun c xs hc => by rw [upd_ne (dne hc)]; exact hc)
def outD (d : Addr) (fs : List (Str × V)) (D : Ends) : Ends where
  nx := fun σ' H' => H' d = none → D.nx σ' (upd H' d (.xd fs))
  rt := fun x H' => H' d = none → D.rt x (upd H' d (.xd fs))
  bk := fun σ' H' => H' d = none → D.bk σ' (upd H' d (.xd fs))
  ct := fun σ' H' => H' d = none → D.ct σ' (upd H' d (.xd fs))
theorem pss_pinned {X : Cx} {sts : List Stmt} {d : Addr} {fs : List (Str × V)} {t : TS} 
    (h : ∀ od, (∀ f v, fs.lookup f = some v → ∃ u, PySem.W.lookIn f od = some (some u) ∧ RelV v u) → PSs (pinX X (d, od)) sts t) :
    PSs X sts (fun D σ H => H d = some (.xd fs) ∧ t (outD d fs D) σ (L2.del H d)) := by
  refine ⟨fun pins s σ H D I ⟨hd, ht⟩ => ?_⟩
  obtain ⟨od, ho, hl, _, J⟩ := untrack I hd
  have hx : ObjOk X.prog X.w H s.heap d (.xd fs) := I.hok d _ hd
  obtain ⟨mA, hns, hr⟩ := hx
  have hxs : ∀ (H2 : Hp) (h : Heap), h.get? d = some od → ObjOk X.prog X.w H2 h d (.xd fs) := fun H2 h2 e => ⟨mA, by
    obtain ⟨o, es, ep, e1, r⟩ := hns
    rw [ho] at e1
    cases e1
    exact ⟨od, es, ep, e, r⟩, hr⟩
  have hnew : d ∉ X.ex → ∀ o, X.s_0.heap.get? d = some o → X.H_0 d ≠ none := fun hex o e n => by
    have := I.base.free d o e n hex
    rw [hd] at this
    cases this
  have hpn : ∀ p ∈ X.pn ++ pins, p.1 ≠ d := fun p hp z => by
    have := (I.pin p hp).2.1
    rw [z, hd] at this
    cases this
  have back : ∀ {σ' : L2.St} {H' : Hp} {s' : Shared}, Inv (pinX X (d, od)) pins σ' H' s' → H' d = none ∧ Inv X pins σ' (upd H' d (.xd fs)) s' := fun {σ' H' s'} I' =>
    ⟨(I'.pin (d, od) (List.mem_append_left _ List.mem_cons_self)).2.1, retrack hnew hpn hxs I'⟩
  refine thn ((h od hl).run pins s σ (L2.del H d) _ J ht) fun fl s' hq => ?_
  cases fl with
  | next => obtain ⟨σ', H', I', q⟩ := hq; exact ⟨σ', _, (back I').2, q (back I').1⟩
  | brk => obtain ⟨σ', H', I', q⟩ := hq; exact ⟨σ', _, (back I').2, q (back I').1⟩
  | cont => obtain ⟨σ', H', I', q⟩ := hq; exact ⟨σ', _, (back I').2, q (back I').1⟩
  | ret u => obtain ⟨x, σ', H', I', r, q⟩ := hq; exact ⟨x, σ', _, (back I').2, r, q (back I').1⟩
def pinD (X : Cx) : Option (Addr × Obj) → Cx
  | none => X
  | some q => pinX X q
theorem addPin {X : Cx} {pins : List (Addr × Obj)} {σ : L2.St} {H : Hp} {s : Shared} {q : Addr × Obj} (I : Inv X pins σ H s) (h : s.heap.get? q.1 = some q.2 ∧ H q.1 = none ∧ q.1 ≠ X.env.locals ∧ q.1 ∉ X.fs ∧ ∀ v, q.2.data ≠ .cell v) : Inv (pinX X q) pins σ H s := by
  have ok := I.ok
  refine ⟨⟨ok.mod, ok.kind, ok.glob, ok.blt, ok.above, ok.inj, ok.has, ok.cab, ok.hd, ok.frames, ok.stk, ok.exf, ok.bs, ok.bsz, ok.noex, ok.exfs, ok.funs, ok.frf⟩, I.os, I.bare, I.base, I.loc, I.cell, I.free, I.freeC, fun p hp => ?_, I.hok, I.len⟩
  rcases List.mem_cons.mp hp with rfl | hp
  · exact h
  · exact I.pin p hp
structure MkAt (K : PySem.W.Frag) (mg : Str → Option Value) (C : Addr) : Prop where
  oex : OexC K C
  no : PySem.W.findIn K (.ref C) "at" = some none
  ini : ∃ fI fd, PySem.W.findIn K (.ref C) "__init__" = some (some (.ref fI)) ∧ PySem.W.typeIn K (.ref fI) = some (.type "function") ∧ (∀ (P : Program) (w : World) (base : Heap), FnOk P w K mg base (L2N.CX P w) 1 fI fd ["self", "words", "at"] (spAt K)) ∧ Binds K fd ["self", "words", "at"] [] ∧ ∃ ds, Vals [V.int 0] ds ∧ Binds K fd ["self", "words", "at"] ds
end MP
end
section
set_option maxRecDepth 100000
set_option maxHeartbeats 8000000
namespace MP
open PySem PySem.Spec PySem.Calls PyProof.Rows L2 L2H
structure XcOk (X : Cx) (c : Nat) : Prop where
  glo : X.mg (clsName c) = some (.ref (He.ga X.K (clsName c)))
  own : c ≠ 2 → PySem.W.excIn X.K (He.ga X.K (clsName c)) He.veBase "ValueError.__new__" = true ∧ PySem.W.keepIn X.K (.ref (He.ga X.K (clsName c))) = true
  ec : ExcC X.K (He.ga X.K (clsName c))
  ve : PySem.W.kitOne X.K (.ref (He.ga X.K (clsName c))) (.type "ValueError") = some true
  bad : c = 2 → XfC X.K (He.ga X.K (clsName 2)) ∧ PySem.W.findIn X.K (.ref (He.ga X.K (clsName 2))) "at" = some none
  mk2 : c = 2 → MkAt X.K X.mg (He.ga X.K (clsName 2))
section
variable {X : Cx} {pins : List (Addr × Obj)} {σ : L2.St} {H : Hp} {s : Shared} {a : Addr} {oe : Obj} {c : Nat} {i : Option Int}
theorem exc_inst (I : Inv X pins σ H s) (h : H a = some (.frz oe exT)) (x : ExcAt X.K H c i oe) :
    ∃ od, PySem.W.InstAt s.heap a oe (He.ga X.K (clsName c)) od ∧ ∀ n, i = some n → c = 2 ∧ ∃ o t, od = some o ∧ PySem.W.lookIn "at" o = some (some (.int n t)) := by
  have hget : s.heap.get? a = some oe := (I.hok a _ h).1
  obtain ⟨⟨vs, hv⟩, _, ⟨hc, rfl, hz⟩ | ⟨rfl, d, od, n, t, rfl, hz, hd, hl⟩⟩ := x
  · obtain ⟨oc, odd, oda, osl⟩ := oe
    obtain ⟨h1, h2⟩ := hz
    dsimp only at h1 h2 hv
    subst h1 h2 hv
    exact ⟨none, ⟨hget, rfl, rfl, trivial⟩, fun n hn => nomatch hn⟩
  · have h3 : s.heap.get? d = some od := (I.hok d _ hd).1
    obtain ⟨oc, odd, oda, osl⟩ := oe
    obtain ⟨h1, h2⟩ := hz
    dsimp only at h1 h2 hv
    subst h1 h2 hv
    exact ⟨some od, ⟨hget, rfl, rfl, h3⟩, fun m hm => by cases hm; exact ⟨rfl, od, t, rfl, hl⟩⟩
end
theorem isE_exc {X : Cx} : CallR X (.builtin "isinstance") (fun xs H Q => ∃ (a : Addr) (c : Nat) (i : Option Int) (oe : Obj) (cv : Value) (w : V) (b : Bool), xs = [.ref a, w] ∧ H a = some (.frz oe exT) ∧ ExcAt X.K H c i oe ∧ ExcC X.K (He.ga X.K (clsName c)) ∧
    (∀ u, RelV w u → u = cv) ∧ PySem.W.kitOne X.K (.ref (He.ga X.K (clsName c))) cv = some b ∧ Q (.bl b) H) := by
  intro pins s σ H xs us Q I r h
  obtain ⟨a, c, i, oe, cv, w, b, rfl, ha, hx, E, hcv, e, q⟩ := h
  cases r with
  | cons rx rr =>
    cases rr with
    | cons rt rr =>
      cases rr
      cases rx
      have ec := hcv _ rt
      subst ec
      obtain ⟨od, J, _⟩ := exc_inst I ha hx
      exact PySem.W.kia_one (kitx_excD E) I.kIn J e (fun z => nomatch z) fun tk => ⟨.bl b, H, I.kept (t' := tk) fun _ _ z => z, rfl, q⟩
section
variable {X : Cx} {xa : XA} {W : WX} {fe : DS → Store → RE} {e : Expr}
theorem den_isx {y : Str} {p1 p3 pos : Pos} {c : Nat} {w : V} {cv : Value} (hg : Gl X ("isinstance" : Str)) (hm : X.mg "isinstance" = none) (hc : PE X (.Name y p3) (tC w)) (hw : ∀ u, RelV w u → u = cv) (pe : plainArg e = true) (he : PE X e (denE X.K xa W fe))
    (hk : ∀ k : Nat, k < 9 → ExcC X.K (He.ga X.K (clsName k)) ∧ PySem.W.kitOne X.K (.ref (He.ga X.K (clsName k))) cv = some (isCls k c)) :
    PE X (.Call (.Name "isinstance" p1) [e, .Name y p3] [] pos) (denE X.K xa W fun ds st => (fe ds st).bind fun x st' => isxF c x st') := by
  refine (pe_callB isE_exc hg hm boot_isinstance (pa_cons he (pa_cons hc pa_nil rfl) (star_cons pe _ _)) (by decide) (by decide) (star_cons pe _ _) rfl).imp fun σ H Q h => ?_
  refine den_one (g := fun x st1 => isxF c x st1) h fun ex H2 ρ2 st2 x v M r q => ?_
  cases x with
  | exc k i =>
    obtain ⟨a, oe, rfl, ha, hx⟩ := r
    obtain ⟨k1, k2⟩ := hk k hx.2.1
    exact ⟨a, k, i, oe, cv, w, isCls k c, rfl, ha, hx, k1, hw, k2, q.here M rfl⟩
  | _ => exact q.elim
theorem den_atx {n : Str} {p2 pos : Pos} (hb : XfC X.K (He.ga X.K (clsName 2)) ∧ PySem.W.findIn X.K (.ref (He.ga X.K (clsName 2))) "at" = some none) (he : PE X (.Name n p2) (denE X.K xa W fe)) :
    PE X (.Attribute (.Name n p2) "at" pos) (denE X.K xa W fun ds st => (fe ds st).bind fun x st' => atxF x st') := by
  refine ⟨fun pins s σ H Q I h => ?_⟩
  have h2 := den_one (R := fun v H1 => ∃ a c i oe, v = .ref a ∧ H1 a = some (.frz oe exT) ∧ ExcAt X.K H1 c (some i) oe ∧ Q (.int i) H1) (g := fun x st1 => atxF x st1) h fun ex H2 ρ2 st2 x v M r q => by
    cases x with
    | exc k i =>
      obtain ⟨a, oe, rfl, ha, hx⟩ := r
      cases i with
      | none => exact q.elim
      | some i => exact ⟨a, k, i, oe, rfl, ha, hx, q.here M rfl⟩
    | _ => exact q.elim
  refine attr_of rfl (thn (he.run pins s σ H _ I h2) fun w s1 ⟨x, H1, I1, rx, a, c, i, oe, ex, ha, hx, q⟩ => ?_)
  subst ex
  obtain rfl : w = Value.ref a := rx
  obtain ⟨od, J, hi⟩ := exc_inst I1 ha hx
  obtain ⟨rfl, o, t, rfl, hl⟩ := hi i rfl
  exact HandSPX.exc_get I1.kIn J hb.1.ga hb.1.gg hb.1.exC (PySem.W.findObj_own hb.1.hdC hb.2 rfl hl) (handed_of (v := V.int i) ⟨t, rfl⟩) ⟨.int i, H1, I1.tok _, ⟨t, rfl⟩, q⟩
theorem den_mkx1 {x : Str} {p pos : Pos} {c : Nat} (hc : c ≠ 2) (h9 : c < 9) (hx : x = clsName c) (F : XcOk X c) (hg : Gl X x) (hdb : (x == ("__debug__" : Str)) = false) (pe : plainArg e = true) (he : PE X e (denE X.K xa W fe)) :
    PE X (.Call (.Name x p) [e] [] pos) (denE X.K xa W fun ds st => (fe ds st).bind fun d st' => mkxF c [d] st') := by
  subst hx
  obtain ⟨q1, q2⟩ := F.own hc
  refine ⟨fun pins s σ H Q I h => ?_⟩
  refine wpAny_Call_Name_kw (ld_glob I hg F.glo ?_ hdb)
  refine PySem.W.callWith_K (h₀ := X.base) I.ok.mod.kin q2 ?_ (star_cons pe _ _) (by rfl)
  rw [star_cons pe]
  show wpAny _ _ (spliced ((false, eval e X.env) :: backTo pos (starEach [] X.env))) _ _ s
  have h2 := den_one (R := fun v H1 => ∃ ex ρ st, Mem X.K ex H1 ρ st ∧ PostV X.K ex H1 ρ (.ok (.exc c none) st) (xOf xa W σ) Q) (g := fun x st1 => mkxF c [x] st1) h fun ex H2 ρ2 st2 x v M r q => by
    refine ⟨ex, ρ2, st2, M, ?_⟩
    have e : mkxF c [x] st2 = .ok (.exc c none) st2 := by simp [mkxF, hc]
    rw [e] at q
    exact q
  refine Calls.spliced_cons (thn (he.run pins s σ H _ I h2) fun u s1 ⟨v, H1, I1, r1, ex, ρ, st, M, q⟩ => ?_)
  refine Calls.spliced_nil ⟨I1.kIn, ?_⟩
  show wpAny _ _ (call (.ref (He.ga X.K (clsName c))) [u]) _ _ _
  obtain ⟨bm, N, nm, qn, bs, hdct, sn, sub, ab, col, dd, k0, k1, k2, k3, k5, mN, hC, hN, hni, T⟩ := exc_obj I1.kIn q1
  refine wpAny_call_exc_subT PySem.F.excBase_ValueError T hC hN hni (fun h' a hm => ?_) (by show 1 ≤ sizeLine; rw [sizeLine_eq]; omega)
  have hn : H1 a = none := I1.hok.gone hm.new
  obtain ⟨t, ht, _, _⟩ := hm.there
  exact ⟨.ref a, upd H1 a (.frz _ exT), I1.laidN hm.keeps hm.new hn ⟨ht, trivial, ⟨_, ht⟩, fun _ _ _ _ => trivial⟩, rfl, q _ _ ρ (Ext.laid hn) (M.laid hn) ⟨a, _, rfl, upd_same, ⟨⟨_, rfl⟩, h9, .inl ⟨hc, rfl, ⟨rfl, rfl⟩⟩⟩⟩⟩
end
theorem vals_app : ∀ {a b : List V} {u v : List Value}, Vals a u → Vals b v → Vals (a ++ b) (u ++ v)
  | [], _, _, _, h, k => by cases h; exact k
  | _ :: _, _, _, _, h, k => by
    cases h with
    | cons h1 h2 => exact .cons h1 (vals_app h2 k)
def tMkAtD (C : Addr) (dvs : List V) (ta : TA) : L2.St → Hp → XK → Prop := fun σ H Q => ta σ H fun vs H1 => ∃ m y, vs ++ dvs = [m, y] ∧ ∀ d, H1 d = none → Q (.ref C) (some d) (upd H1 d (.xd [("at", y)]))
section
variable {X : Cx} {e : Expr} {es : List Expr} {ta : TA} {p pos : Pos}
theorem pmk_atD {CX : CXT} {dvs : List V} {ds : List Value} (rd : Vals dvs ds) {x : Str} {C fI : Addr} {k : Nat} {fd : FuncData} (T : OexC X.K C) (hno : PySem.W.findIn X.K (.ref C) "at" = some none) (iC : PySem.W.findIn X.K (.ref C) "__init__" = some (some (.ref fI))) (tI : PySem.W.typeIn X.K (.ref fI) = some (.type "function"))
    (F1 : FnOk X.prog X.w X.K X.mg X.base CX k fI fd ["self", "words", "at"] (spAt X.K)) (hr : Room (k + 1) X.A) (hb : Binds X.K fd ["self", "words", "at"] ds) (hx : Passes CX X (fun _ _ _ => False)) (hg : Gl X x) (hm : X.mg x = some (.ref C)) (ha : PA X (e :: es) ta)
    (hdb : (x == ("__debug__" : Str)) = false) (he : starEach (e :: es) X.env = (false, eval e X.env) :: starEach es X.env) (hpl : (backTo pos (starEach es X.env)).any (·.1) = false) :
    L2N.PMk X (.Call (.Name x p) (e :: es) [] pos) (tMkAtD C dvs ta) := by
  intro pins s σ H Q I h
  obtain ⟨nm, q, N, bs, bm, sn, sub, ab, col, dd, k0, k1, k2, k3, k5, hC, hbm⟩ := T.cls
  refine wpAny_Call_Name_kw (ld_glob I hg hm ?_ hdb)
  refine PySem.W.callWith_K (h₀ := X.base) I.ok.mod.kin T.kC (thn (ha.run pos pins s σ H _ I h) fun us s1 ⟨vs, H1, I1, r0, m, y, ev, q1⟩ => ⟨I1.kIn, ?_⟩) he hpl
  have r1 : Vals [m, y] (us ++ ds) := by rw [← ev]; exact vals_app r0 rd
  show wpAny _ _ (call (.ref C) us) _ _ _
  obtain ⟨hp, g, dr, tk, os⟩ := s1
  have hsz : hp.objs.size ≤ (hp.objs.size + 1) := Nat.le_succ _
  have hn : H1 (hp.objs.size + 1) = none := I1.hok.fresh hsz
  have kk : ∀ b o, hp.get? b = some o → ((hp.push (PySem.W.kdv_tup us)).push (PySem.HandSPX.excO C hp.objs.size)).get? b = some o := fun b o e => Heap.get?_push_of_some _ (Heap.get?_push_of_some _ e)
  have hget : ((hp.push (PySem.W.kdv_tup us)).push (PySem.HandSPX.excO C hp.objs.size)).get? (hp.objs.size + 1) = some (PySem.HandSPX.excO C hp.objs.size) := by heap_get
  have I2 : Inv X pins σ (upd H1 (hp.objs.size + 1) (exo (hp.objs.size + 1) C none)) ⟨(hp.push (PySem.W.kdv_tup us)).push (PySem.HandSPX.excO C hp.objs.size), g, dr, tk, os⟩ :=
    I1.laid (t' := tk) (a := (hp.objs.size + 1)) (o := exo (hp.objs.size + 1) C none) (h' := (hp.push (PySem.W.kdv_tup us)).push (PySem.HandSPX.excO C hp.objs.size)) kk hsz (exo_ok hget)
  have r2 : Vals [V.ref (hp.objs.size + 1), m, y] (Value.ref (hp.objs.size + 1) :: (us ++ ds)) := .cons rfl r1
  have hl : (Value.ref (hp.objs.size + 1) :: us ++ ds).length = (["self", "words", "at"] : List Str).length := by
    have e := r2.length
    rw [List.cons_append, ← e]
    rfl
  have hus : us.length ≤ sizeLine := by
    have e := Paired.length r1
    rw [List.length_append] at e
    have e2 : ([m, y] : List V).length = 2 := rfl
    rw [sizeLine_eq]
    omega
  have b2 := hb _ (Value.ref (hp.objs.size + 1) :: us) I2.kIn hl
  have hsp : spAt X.K [V.ref (hp.objs.size + 1), m, y] (upd H1 (hp.objs.size + 1) (exo (hp.objs.size + 1) C none)) (fun v H2 => v = .non ∧ ∃ d, H1 d = none ∧ d ≠ (hp.objs.size + 1) ∧ H2 = upd (upd (upd H1 (hp.objs.size + 1) (exo (hp.objs.size + 1) C none)) d (exd d [("at", y)])) (hp.objs.size + 1) (exo (hp.objs.size + 1) C (some d))) (fun _ _ _ => False) :=
    ⟨(hp.objs.size + 1), C, m, y, rfl, T, hno, upd_same, fun dx n ne => ⟨rfl, dx, by rw [upd_ne ne] at n; exact n, ne, rfl⟩⟩
  refine wpAny_call (PySem.HandSPX.call_own F.excBase_ValueError (fun Y => PySem.HandSPX.refsVE_contains Y bm hbm) (I1.kIn _ _ hC) (PySem.W.looks_findIn I1.kIn iC) (fun self => PySem.W.bind_fn I1.kIn self tI) hus
    (codeAny_mono (F1.run _ X.stack _ _ ⟨Value.ref (hp.objs.size + 1) :: us, []⟩ (Value.ref (hp.objs.size + 1) :: (us ++ ds)) _ _ (fun _ _ _ => False) (hr.make C us []) (I2.env0.make C us []) b2 r2 hsp) fun r s' hq' => ?_))
  cases r with
  | error er => exact hx pins σ _ _ er s' I2 hq'
  | ok fl =>
    cases fl with
    | ret u =>
      obtain ⟨v, H2, os2, bare2, un2, hok2, rv, ev, d, hd1, hde, eH⟩ := hq'
      subst ev eH
      obtain ⟨h2, g2, d2, t2, os'⟩ := s'
      have ea : (upd (upd (upd H1 (hp.objs.size + 1) (exo (hp.objs.size + 1) C none)) d (exd d [("at", y)])) (hp.objs.size + 1) (exo (hp.objs.size + 1) C (some d))) (hp.objs.size + 1) = some (exo (hp.objs.size + 1) C (some d)) := upd_same
      have ed : (upd (upd (upd H1 (hp.objs.size + 1) (exo (hp.objs.size + 1) C none)) d (exd d [("at", y)])) (hp.objs.size + 1) (exo (hp.objs.size + 1) C (some d))) d = some (exd d [("at", y)]) := by rw [upd_ne hde, upd_same]
      obtain ⟨t0, G, J, kG, ge, hoe, na⟩ := mk_end0 (d2 := d2) (t2 := t2) I1 hsz kk un2 hok2 os2 bare2 ea ed hd1
      have eH : upd (L2.del (upd (upd (upd H1 (hp.objs.size + 1) (exo (hp.objs.size + 1) C none)) d (exd d [("at", y)])) (hp.objs.size + 1) (exo (hp.objs.size + 1) C (some d))) (hp.objs.size + 1)) d (.xd [("at", y)]) = upd H1 d (.xd [("at", y)]) := by
        funext b
        by_cases hbd : b = d
        · rw [hbd, upd_same, upd_same]
        · rw [upd_ne hbd, upd_ne hbd]
          by_cases hba : b = (hp.objs.size + 1)
          · rw [hba, del_same, hn]
          · rw [del_ne hba, upd_ne hba, upd_ne hbd, upd_ne hba]
      rw [eH] at J na
      refine ⟨rv, (hp.objs.size + 1), _, _, ⟨G, g2, d2, t2, os'⟩, _, .ref C, some d, rfl, J, kG, ge, hoe, ⟨rfl, rfl, fun vs hv => ?_⟩, rfl, rfl, na, rfl, bare2, raises_own T.exC T.tyC, q1 d hd1⟩
      cases hv
      rfl
    | next => exact False.elim hq'
    | brk => exact False.elim hq'
    | cont => exact False.elim hq'
end
theorem retrackO {o1 : HO} {X : Cx} {pins : List (Addr × Obj)} {σ : L2.St} {H : Hp} {s : Shared} {d : Addr} {od : Obj} (hnew : d ∉ X.ex → ∀ o, X.s_0.heap.get? d = some o → X.H_0 d ≠ none) (hpn : ∀ p ∈ X.pn ++ pins, p.1 ≠ d)
    (hxs : ∀ (H2 : Hp) (h : Heap), h.get? d = some od → ObjOk X.prog X.w H2 h d o1) (I : Inv (pinX X (d, od)) pins σ H s) : Inv X pins σ (upd H d o1) s := by
  obtain ⟨h1, h2, h3, h4, h5⟩ := I.pin (d, od) (List.mem_append_left _ List.mem_cons_self)
  have h2 : H d = none := h2
  have dne : ∀ {b : Addr} {u : HO}, H b = some u → b ≠ d := fun {b u} h z => by rw [z, h2] at h; cases h
  have ok := I.ok
  refine ⟨⟨ok.mod, ok.kind, ok.glob, ok.blt, ok.above, ok.inj, ok.has, ok.cab, ok.hd, ok.frames, ok.stk, ok.exf, ok.bs, ok.bsz, ok.noex, ok.exfs, ok.funs, ok.frf⟩, I.os, I.bare, ?_, I.loc, I.cell, by rw [upd_ne (Ne.symm h3)]; exact I.free, fun x c e => ?_, fun p hp => ?_, fun b o e => ?_, I.len⟩
  · refine ⟨I.base.keep, I.base.slot, fun b o q n hx => ?_, I.base.there, fun b xs q => by rw [upd_ne (dne (I.base.tups b xs q))]; exact I.base.tups b xs q, fun b o v q => by rw [upd_ne (dne (I.base.frzs b o v q))]; exact I.base.frzs b o v q, fun b ps q => ?_⟩
    · rw [upd_ne fun z => hnew (by rw [← z]; exact hx) o (by rw [← z]; exact q) (by rw [← z]; exact n)]
      exact I.base.free b o q n hx
    · obtain ⟨ts, h⟩ := I.base.tbls b ps q
      exact ⟨ts, by rw [upd_ne (dne h)]; exact h⟩
  · obtain ⟨v, o, e1, e2⟩ := I.cell x c e
    have hcd : c ≠ d := fun z => by
      rw [z, h1] at e1
      cases e1
      exact h5 _ e2
    rw [upd_ne hcd]
    exact I.freeC x c e
  · obtain ⟨a1, a2, a3⟩ := I.pin p (List.mem_cons_of_mem _ hp)
    exact ⟨a1, by rw [upd_ne (hpn p hp)]; exact a2, a3⟩
  · by_cases hb : b = d
    · rw [hb, upd_same] at e
      cases e
      rw [hb]
      exact hxs _ _ h1
    · rw [upd_ne hb] at e
      exact (I.hok b o e).stay (fun c v hc q => q) (fun c hc => by rw [upd_ne (dne hc)]; exact hc) (fun c xs hc => by rw [upd_ne (dne hc)]; exact hc)

theorem refreeze {X : Cx} {pins : List (Addr × Obj)} {σ : L2.St} {H : Hp} {s : Shared} {d : Addr} {fs : List (Str × V)} (I : Inv X pins σ H s) (hd : H d = some (.xd fs)) :
    ∃ od, s.heap.get? d = some od ∧ (∀ f v, fs.lookup f = some v → ∃ u, PySem.W.lookIn f od = some (some u) ∧ RelV v u) ∧ Inv X pins σ (upd H d (.frz od exT)) s := by
  obtain ⟨od, ho, hl, _, J⟩ := untrack I hd
  have hnew : d ∉ X.ex → ∀ o, X.s_0.heap.get? d = some o → X.H_0 d ≠ none := fun hex o e n => by
    have := I.base.free d o e n hex
    rw [hd] at this
    cases this
  have hpn : ∀ p ∈ X.pn ++ pins, p.1 ≠ d := fun p hp z => by
    have := (I.pin p hp).2.1
    rw [z, hd] at this
    cases this
  have K := retrackO (o1 := .frz od exT) hnew hpn (fun H2 h e => ⟨e, trivial, ⟨_, e⟩, fun _ _ _ _ => trivial⟩) J
  have e : upd (L2.del H d) d (.frz od exT) = upd H d (.frz od exT) := by
    funext b
    by_cases hb : b = d
    · rw [hb, upd_same, upd_same]
    · rw [upd_ne hb, upd_ne hb, del_ne hb]
  rw [e] at K
  exact ⟨od, ho, hl, K⟩
theorem pe_of_mk {X : Cx} {e : Expr} {t : L2.St → Hp → XK → Prop} (h : L2N.PMk X e t) {te : TE}
    (ht : ∀ σ H Q, te σ H Q → t σ H fun cls d H' => ∀ (a : Addr) (oe : Obj), H' a = none → Zc cls d oe → (∃ vs, oe.data = .fields vs) → match d with
      | none => Q (.ref a) (upd H' a (.frz oe exT))
      | some d => ∃ fs, H' d = some (.xd fs) ∧ ∀ od, (∀ f v, fs.lookup f = some v → ∃ u, PySem.W.lookIn f od = some (some u) ∧ RelV v u) → Q (.ref a) (upd (upd H' d (.frz od exT)) a (.frz oe exT))) : PE X e te := by
  refine ⟨fun pins s σ H Q I q => ?_⟩
  refine thn (h pins s σ H _ I (ht σ H Q q)) fun u s' hu => ?_
  obtain ⟨a, oe, vs, sI, H', cls, d, rfl, J, k, hne, ha, hz, hd, h1, na, os, ag, r, q⟩ := hu
  have put : ∀ {H2 : Hp}, Inv X pins σ H2 sI → H2 a = none → Inv X pins σ (upd H2 a (.frz oe exT)) s' := fun {H2} J2 n2 => by
    have K := J2.laidN (t' := s'.toks) (o := .frz oe exT) k hne n2 ⟨ha, trivial, ⟨_, ha⟩, fun _ _ _ _ => trivial⟩
    have ok := K.ok
    exact ⟨ok, by rw [os]; exact K.os, ag, K.base, K.loc, K.cell, K.free, K.freeC, K.pin, K.hok, K.len⟩
  have hq := q a oe na hz.zc ⟨vs, hd⟩
  cases d with
  | none => exact ⟨.ref a, _, put J na, rfl, hq⟩
  | some d =>
    obtain ⟨fs, hf, hq⟩ := hq
    obtain ⟨od, ho, hl, J2⟩ := refreeze J hf
    have had : a ≠ d := fun z => by rw [z, hf] at na; cases na
    exact ⟨.ref a, _, put J2 (by rw [upd_ne had]; exact na), rfl, hq od hl⟩
theorem den_mkx2 {X : Cx} {xa : XA} {W : WX} {fs : DS → Store → R (List D)} {x : Str} {p pos : Pos} {e : Expr} {es : List Expr} (hx : x = clsName 2) (F : XcOk X 2) (hr : Room 2 X.A) (hg : Gl X x) (hdb : (x == ("__debug__" : Str)) = false)
    (pa : (e :: es).all plainArg = true) (hn : (e :: es).length = 1 ∨ (e :: es).length = 2) (ha : PA X (e :: es) (denL X.K xa W fs)) (hl : ∀ ds st xs st', fs ds st = .ok xs st' → xs.length = (e :: es).length) :
    PE X (.Call (.Name x p) (e :: es) [] pos) (denE X.K xa W fun ds st => (fs ds st).bind fun xs st' => mkxF 2 xs st') := by
  subst hx
  have A := F.mk2 rfl
  obtain ⟨fI, fd, i1, i2, i3, i4, dz, i5, i6⟩ := A.ini
  rw [List.all_cons, Bool.and_eq_true] at pa
  have hps : Passes (L2N.CX X.prog X.w) X (fun _ _ _ => False) := fun pins σ s H er s' I hq => by obtain ⟨_, _, _, _, _, _, _, _, _, _, _, _, z⟩ := hq; exact z.elim
  have key : ∀ {dvs : List V} {ds : List Value}, Vals dvs ds → Binds X.K fd ["self", "words", "at"] ds →
      (∀ (xs : List D) (vs : List V) (ex : Addr → Prop) (H : Hp) (ρ : List Addr), xs.length = (e :: es).length → Reps X.K ex H ρ xs vs → ∀ st, mkxF 2 xs st = .no ∨ ∃ (i : Int) (m : V), mkxF 2 xs st = .ok (.exc 2 (some i)) st ∧ vs ++ dvs = [m, .int i]) →
      PE X (.Call (.Name (clsName 2) p) (e :: es) [] pos) (denE X.K xa W fun ds st => (fs ds st).bind fun xs st' => mkxF 2 xs st') := fun {dvs ds} rd hb hk => by
    refine pe_of_mk (pmk_atD rd A.oex A.no i1 i2 (i3 X.prog X.w X.base) hr hb hps hg F.glo ha hdb (star_cons pa.1 _ _) (back_any pa.2)) fun σ H Q h => ?_
    obtain ⟨ex, ρ, dss, st, M, S, q⟩ := h
    refine ⟨ex, ρ, dss, st, M, S, ?_⟩
    have q' := PostL.bind q
    simp only at q
    cases er : fs dss st with
    | no => rw [er] at q'; exact q'
    | exc z s => rw [er] at q'; exact q'
    | ok xs s =>
      rw [er] at q q'
      intro vs H1 ρ1 e1 M1 r1
      rcases hk xs vs ex H1 ρ1 (hl dss st xs s er) r1 s with hno | ⟨i, m, hmk, hv⟩
      · rw [R.bind_ok, hno] at q
        exact q.elim
      · rw [R.bind_ok, hmk] at q
        refine ⟨m, .int i, hv, fun d hd a oe han hz hf => ⟨_, upd_same, fun od hlk => ?_⟩⟩
        have had : a ≠ d := fun z => by rw [z, upd_same] at han; cases han
        have han1 : H1 a = none := by rw [upd_ne had] at han; exact han
        have eH : upd (upd H1 d (.xd [("at", V.int i)])) d (.frz od exT) = upd H1 d (.frz od exT) := by
          funext b
          by_cases hb : b = d
          · rw [hb, upd_same, upd_same]
          · rw [upd_ne hb, upd_ne hb, upd_ne hb]
        rw [eH]
        have hn2 : (upd H1 d (.frz od exT)) a = none := by rw [upd_ne had]; exact han1
        obtain ⟨u, hu, t, rfl⟩ := hlk "at" (.int i) rfl
        refine q (.ref a) _ ρ1 (e1.trans ((Ext.laid hd).trans (Ext.laid hn2))) ((M1.laid hd).laid hn2) ⟨a, oe, rfl, upd_same, hf, by decide, .inr ⟨rfl, d, od, i, t, rfl, hz, ?_, hu⟩⟩
        rw [upd_ne (Ne.symm had), upd_same]
  rcases hn with hn | hn
  · refine key i5 i6 fun xs vs ex H ρ hx r st => ?_
    rw [hn] at hx
    obtain ⟨x, rfl⟩ := List.length_eq_one_iff.mp hx
    obtain ⟨v, w, rfl, _, rfl⟩ := r
    exact .inr ⟨0, v, rfl, rfl⟩
  · refine key .nil i4 fun xs vs ex H ρ hx r st => ?_
    rw [hn] at hx
    obtain ⟨x, y, rfl⟩ : ∃ x y, xs = [x, y] := by
      match xs, hx with
      | [x, y], _ => exact ⟨x, y, rfl⟩
    obtain ⟨v, w, rfl, _, u, w2, rfl, r2, rfl⟩ := r
    cases y with
    | int n => cases r2; exact .inr ⟨n, v, rfl, rfl⟩
    | _ => exact .inl rfl
end MP
end
section
set_option maxRecDepth 100000
set_option maxHeartbeats 4000000
namespace MP
open PySem PySem.Spec PyProof.Rows L2
structure Gam where
  N : List Str
  sc : Scope
  fn : Nat → Option (Str × Nat)
  gl : Str → Option D
  exs : List Nat := []
  hot : Nat → Option Str := fun _ => none
def visB (sc : Scope) (x : Str) : Bool := match sc.names.lookup x with
  | some .local => true
  | some .cell => true
  | some .free => true
  | _ => false
def gloB (sc : Scope) (x : Str) : Bool := match sc.names.lookup x with
  | some .globalImplicit => true
  | _ => false
def okName (x : Str) : Bool := !(x == ("__debug__" : Str)) && !(x == ("__classdict__" : Str)) && !(x == ("__name__" : Str))
def sameC (d : D) (c : Const) : Bool := match d, c with
  | .non, .none => true
  | .bl a, .bool b => a == b
  | .int i, .int j => decide (i = j)
  | .str s, .str t => decide (s = t.cps.toList) && s.all (fun c => decide (c < 0x110000))
  | _, _ => false
mutual
def sameD : D → D → Bool
  | .non, .non => true
  | .bl a, .bl b => a == b
  | .int i, .int j => decide (i = j)
  | .str s, .str t => decide (s = t)
  | .tup xs, .tup ys => sameDs xs ys
  | _, _ => false
def sameDs : List D → List D → Bool
  | [], [] => true
  | x :: xs, y :: ys => sameD x y && sameDs xs ys
  | _, _ => false
end
def noSet (b : Expr) : Bool := match b with
  | .Set _ _ _ => false
  | _ => true
def noSlice (b : Expr) : Bool := match b with
  | .Slice _ _ _ _ => false
  | _ => true
def noComp (b : Expr) : Bool := match b with
  | .ListComp _ _ _ _ => false
  | .SetComp _ _ _ _ => false
  | .DictComp _ _ _ _ _ => false
  | _ => true
def okSet (b : Expr) : Bool := match b with
  | .SetComp _ _ _ _ => false
  | .DictComp _ _ _ _ _ => false
  | _ => true
def noBool (b : Expr) : Bool := match b with
  | .Call _ _ _ _ => true
  | _ => false
def noCall (b : Expr) : Bool := match b with
  | .Call _ as _ _ => !as.isEmpty
  | _ => true
def bltOf : P → Option (Str × Nat)
  | .len => some ("len", 1)
  | .max2 => some ("max", 2)
  | .min2 => some ("min", 2)
  | .min3 => some ("min", 3)
  | .maxL => some ("max", 1)
  | .minL => some ("min", 1)
  | .sum => some ("sum", 1)
  | .list _ => some ("list", 1)
  | .int1 => some ("int", 1)
  | .abs => some ("abs", 1)
  | .all => some ("all", 1)
  | .sorted _ => some ("sorted", 1)
  | .str1 => some ("str", 1)
  | .dict _ => some ("dict", 1)
  | .dictL _ => some ("dict", 1)
  | _ => none
def bltArgs (sc : Scope) (p : P) (ex : Expr) : Option (List Expr) := match bltOf p with
  | some (x, n) => match ex with
    | .Call (.Name y _) as [] _ => if decide (y = x) && gloB sc y && as.all plainArg && decide (as.length = n) then some as else none
    | _ => none
  | none => none
def argsP (sc : Scope) : P → Expr → Option (List Expr)
  | .op o, ex => match ex with
    | .BinOp l op r _ => if binOf o = some op then some [l, r] else none
    | .Compare l [op] [r] _ => if cmpOf o = some op ∧ noSet r = true then some [l, r] else none
    | _ => none
  | .neg, ex => match ex with
    | .UnaryOp .USub a _ => some [a]
    | _ => none
  | .isn, ex => match ex with
    | .Compare a [.Is] [.Constant .none _ _] _ => some [a]
    | _ => none
  | .notn, ex => match ex with
    | .Compare a [.IsNot] [.Constant .none _ _] _ => some [a]
    | _ => none
  | .tup, ex => match ex with
    | .Tuple es _ _ => if es.all plainArg = true then some es else none
    | _ => none
  | .lst _, ex => match ex with
    | .List es _ => if es.all plainArg = true then some es else none
    | _ => none
  | .dnew, ex => match ex with
    | .Dict [] [] _ => some []
    | _ => none
  | .ix, ex => match ex with
    | .Subscript a b _ => if noSlice b = true then some [a, b] else none
    | _ => none
  | .isi t, ex => match ex with
    | .Call (.Name f _) [a, .Name y _] [] _ => if decide (f = "isinstance") && gloB sc f && decide (y = (tyName t : Str)) && gloB sc y && plainArg a then some [a] else none
    | _ => none
  | .maxD, ex => match ex with
    | .Call (.Name f _) [a] [⟨some y, .Constant (.int 0) _ _, _⟩] _ => if decide (f = "max") && gloB sc f && decide (y = "default") && plainArg a then some [a] else none
    | _ => none
  | .lrng _, ex => match ex with
    | .Call (.Name f _) [.Call (.Name g _) [a, b] [] _] [] _ => if decide (f = "list") && gloB sc f && decide (g = "range") && gloB sc g && plainArg a && plainArg b then some [a, b] else none
    | _ => none
  | .nset, ex => match ex with
    | .Call (.Name f _) [.Call (.Name g _) [a] [] _] [] _ => if decide (f = "len") && gloB sc f && decide (g = "set") && gloB sc g && plainArg a then some [a] else none
    | _ => none
  | .sset _, ex => match ex with
    | .Call (.Name f _) [.Call (.Name g _) [a] [] _] [] _ => if decide (f = "sorted") && gloB sc f && decide (g = "set") && gloB sc g && plainArg a then some [a] else none
    | _ => none
  | .revs _, ex => match ex with
    | .Subscript e (.Slice none none (some (.UnaryOp .USub (.Constant (.int 1) _ _) _)) _) _ => some [e]
    | _ => none
  | .kix ks, ex => match ex with
    | .Subscript (.Dict keys values _) e _ => if dictB ks keys values && !ks.isEmpty && decide (ks.length ≤ 15) && noSlice e then some [e] else none
    | _ => none
  | p, ex => bltArgs sc p ex
def mthOf : P → Option (Str × Nat)
  | .append => some ("append", 1)
  | .pop => some ("pop", 0)
  | .clear => some ("clear", 0)
  | .insert => some ("insert", 2)
  | .setd => some ("setdefault", 2)
  | .join => some ("join", 1)
  | .find => some ("find", 1)
  | .split _ => some ("split", 1)
  | .dget => some ("get", 1)
  | .dclr => some ("clear", 0)
  | .dpop => some ("pop", 2)
  | .dpop1 => some ("pop", 1)
  | .rev => some ("reverse", 0)
  | .index => some ("index", 1)
  | .sidx => some ("index", 1)
  | .lower => some ("lower", 0)
  | _ => none
def argsM (p : P) (ex : Expr) : Option (Expr × List Expr) := match mthOf p with
  | some (x, n) => match ex with
    | .Call (.Attribute o m apos) as [] pos => if decide (m = x) && as.all plainArg && decide (as.length = n) && noCall o && (apos.endLine == pos.line) then some (o, as) else none
    | _ => none
  | none => none
def argsI (sc : Scope) (k : SK) (ex : Expr) : Option (List Expr) := match k with
  | .rng1 => match ex with
    | .Call (.Name f _) [a] [] _ => if decide (f = "range") && gloB sc f && plainArg a then some [a] else none
    | _ => none
  | .rng2 => match ex with
    | .Call (.Name f _) [a, b] [] _ => if decide (f = "range") && gloB sc f && plainArg a && plainArg b then some [a, b] else none
    | _ => none
  | .rngc c => match ex with
    | .Call (.Name f _) [a, b, .Constant (.int i) _ _] [] _ => if decide (f = "range") && gloB sc f && plainArg a && plainArg b && decide (i = (c : Int)) then some [a, b] else none
    | _ => none
  | .it => if noSet ex then some [ex] else none
  | .itv => match ex with
    | .Name _ _ => some [ex]
    | _ => none
  | .itx => if noSet ex then some [ex] else none
def relS (scope sc : Scope) : Scope :=
  { scope with names := scope.names.map fun (n, k) => if (k == .free && sc.kind == .function && sc.names.lookup n == some .cell) then (n, .cell) else (n, k) }
def blkB (N : List Str) (sc scope : Scope) (x : Str) (v : Nat) : Bool :=
  decide (scope.kind = .function) && scope.names.all (fun y => decide (scope.names.lookup y.1 = some y.2)) && decide (N[v]? = some x) &&
  scope.names.all (fun y => decide (y.2 ≠ .free) || decide (sc.names.lookup y.1 = some .cell) || decide (sc.names.lookup y.1 = some .free)) &&
  scope.names.all (fun y => !(decide (y.2 = .local) || decide (y.2 = .cell)) || decide (y.1 = x) || decide (y.1 ∉ N)) && locB scope x
def isIx : List E → Bool
  | [.pr .ix [.var _, .k (.int _)]] => true
  | _ => false
def isVar : List E → Option Nat
  | [.var i] => some i
  | _ => none
def clsB (G : Gam) (c : Nat) (x : Str) : Bool := decide (c < 9) && decide (c ∈ G.exs) && decide (x = clsName c) && gloB G.sc x && okName x
mutual
def chkE (G : Gam) : E → Expr → Bool
  | .var i, ex => match ex with
    | .Name x _ => decide (G.N[i]? = some x) && visB G.sc x && okName x
    | _ => false
  | .k d, ex => match ex with
    | .Constant c _ _ => sameC d c
    | _ => false
  | .glob x d, ex => match ex with
    | .Name y _ => decide (y = x) && gloB G.sc x && okName x && (match G.gl x with | some d' => sameD d d' | none => false)
    | _ => false
  | .pr p es, ex => match argsP G.sc p ex with
    | some as => chkL G es as
    | none => false
  | .mth p o es, ex => match argsM p ex with
    | some (ob, as) => chkE G o ob && chkL G es as
    | none => false
  | .slc m hl hh a lo hi, ex => match ex with
    | .Subscript x (.Slice l h none _) _ => chkE G a x && (match l with | some l' => hl && chkE G lo l' | none => !hl) && (match h with | some h' => hh && chkE G hi h' | none => !hh)
    | _ => false
  | .and a b, ex => match ex with
    | .BoolOp .And [x, y] _ => chkE G a x && chkE G b y
    | .BoolOp .And (x :: y :: z :: r) pos => chkE G a x && chkE G b (.BoolOp .And (y :: z :: r) pos)
    | _ => false
  | .or a b, ex => match ex with
    | .BoolOp .Or [x, y] _ => chkE G a x && chkE G b y
    | .BoolOp .Or (x :: y :: z :: r) pos => chkE G a x && chkE G b (.BoolOp .Or (y :: z :: r) pos)
    | _ => false
  | .not a, ex => match ex with
    | .UnaryOp .Not x _ => chkE G a x
    | _ => false
  | .ife c a b, ex => match ex with
    | .IfExp t x y _ => chkE G c t && chkE G a x && chkE G b y
    | _ => false
  | .chain o o' a b c, ex => match ex with
    | .Compare x [op, op'] [y, z] _ => decide (cmpOf o = some op) && decide (cmpOf o' = some op') && noSet z && chkE G a x && chkE G b y && chkE G c z
    | _ => false
  | .call f _ es, ex => match ex with
    | .Call (.Name x _) as [] _ => match G.fn f with
      | some (y, n) => decide (x = y) && gloB G.sc x && okName x && as.all plainArg && decide (as.length = n) && chkL G es as
      | none => false
    | _ => false
  | .callM f es, ex => match ex with
    | .Call (.Name x _) as [] _ => match G.fn f with
      | some (y, n) => decide (x = y) && gloB G.sc x && okName x && as.all plainArg && decide (as.length = n) && chkL G es as
      | none => false
    | _ => false
  | .callX _ f es, ex => match ex with
    | .Call (.Name x _) as [] _ => match G.fn f with
      | some (y, n) => decide (x = y) && gloB G.sc x && okName x && as.all plainArg && decide (as.length = n) && chkL G es as
      | none => false
    | _ => false
  | .comp m v elt k src cond, ex => match ex with
    | .ListComp el [⟨.Name x _, iter, ifs, 0⟩] scope _ => match argsI G.sc k iter with
      | some as => chkL G src as && blkB G.N G.sc scope x v && chkE { G with sc := relS scope G.sc } elt el && (match k with | .itv => (isVar src).isSome | .itx => isIx src | _ => true) &&
        (match ifs with | [] => (match cond with | .k (.bl true) => true | _ => false) | [c] => chkE { G with sc := relS scope G.sc } cond c | _ => false)
      | none => false
    | _ => false
  | .exis _, _ => false
  | .exat, _ => false
  | .exk _, _ => false
  | .mkx c es, ex => match ex with
    | .Call (.Name x _) as [] _ => clsB G c x && as.all plainArg && (decide (as.length = 1) || (decide (c = 2) && decide (as.length = 2))) && chkL G es as
    | _ => false
  | .isx c a, ex => match ex with
    | .Call (.Name f _) [x, .Name y _] [] _ => (List.range 9).all (fun k => decide (k ∈ G.exs)) && decide (f = "isinstance") && gloB G.sc f && plainArg x && gloB G.sc y && okName y && ((decide (c < 9) && decide (c ∈ G.exs) && decide (y = clsName c)) || (decide (c = 9) && decide (y = "ValueError"))) && chkE G a x
    | _ => false
  | .atx a, ex => match ex with
    | .Attribute (.Name n p) f _ => decide (f = "at") && decide (2 ∈ G.exs) && chkE G a (.Name n p)
    | _ => false
def chkL (G : Gam) : List E → List Expr → Bool
  | [], xs => match xs with
    | [] => true
    | _ => false
  | e :: es, xs => match xs with
    | x :: xs => chkE G e x && chkL G es xs
    | [] => false
end
def uP : P → Bool
  | .op _ => true
  | .int1 => true
  | .ix => true
  | .tup => true
  | .lst _ => true
  | _ => false
def isSum : P → Bool
  | .sum => true
  | _ => false
def isYes : E → Bool
  | .k (.bl true) => true
  | _ => false
def isR1 : SK → Bool
  | .rng1 => true
  | _ => false
def sameCs : List E → List Expr → Bool
  | [.k d], [.Constant c _ _] => sameC d c
  | _, _ => false
def isXB (G : Gam) (iv : Option Nat) (c : Nat) (ex : Expr) : Bool := match iv with
  | some i => match ex with
    | .Call (.Name f _) [.Name n _, .Name y _] [] _ => decide (f = "isinstance") && gloB G.sc f && decide (G.N[i]? = some n) && visB G.sc n && okName n && gloB G.sc y && okName y &&
        ((decide (c < 9) && decide (c ∈ G.exs) && decide (y = clsName c)) || (decide (c = 9) && decide (y = "ValueError")))
    | _ => false
  | none => false
def exkB (G : Gam) (iv : Option Nat) (f : Nat) (ex : Expr) : Bool := match iv with
  | some i => match ex with
    | .Call (.Name x _) [.Name n _] [] _ => decide (G.hot f = some x) && gloB G.sc x && okName x && decide (G.N[i]? = some n) && visB G.sc n && okName n
    | _ => false
  | none => false
def atB (G : Gam) (iv : Option Nat) (ex : Expr) : Bool := match iv with
  | some i => match ex with
    | .Attribute (.Name n _) f _ => decide (f = "at") && decide (G.N[i]? = some n) && visB G.sc n && okName n
    | _ => false
  | none => false
mutual
def chkU (G : Gam) (iv : Option Nat) : E → Expr → Bool
  | .k d, ex => match ex with
    | .Constant c _ _ => sameC d c
    | _ => false
  | .var j, ex => match ex with
    | .Name x _ => decide (G.N[j]? = some x) && visB G.sc x && okName x
    | _ => false
  | .exis c, ex => isXB G iv c ex
  | .exk f, ex => exkB G iv f ex
  | .exat, ex => atB G iv ex
  | .pr p es, ex => (uP p || (iv.isSome && isSum p)) && match argsP G.sc p ex with
    | some as => chkUL G iv es as
    | none => false
  | .comp _ v elt k src cond, ex => iv.isSome && isR1 k && isYes cond && match ex with
    | .ListComp el [⟨.Name x _, iter, [], 0⟩] scope _ => match argsI G.sc .rng1 iter with
      | some as => sameCs src as && blkB G.N G.sc scope x v && chkU { G with sc := relS scope G.sc } none elt el
      | none => false
    | _ => false
  | .and a b, ex => match ex with
    | .BoolOp .And [x, y] _ => chkU G iv a x && chkU G iv b y
    | .BoolOp .And (x :: y :: z :: r) pos => chkU G iv a x && chkU G iv b (.BoolOp .And (y :: z :: r) pos)
    | _ => false
  | _, _ => false
def chkUL (G : Gam) (iv : Option Nat) : List E → List Expr → Bool
  | [], xs => match xs with
    | [] => true
    | _ => false
  | e :: es, xs => match xs with
    | x :: xs => chkU G iv e x && chkUL G iv es xs
    | [] => false
end
def okTest (c : E) (t : Expr) : Bool := noBool t || match c, t with
  | .pr (.op _) _, .Compare _ [_] [_] _ => true
  | _, _ => false
mutual
def chkV (G : Gam) (iv : Option Nat) : S → Stmt → Bool
  | .set j e, st => match st with
    | .Assign [.Name x _] a _ => decide (iv ≠ some j) && decide (G.N[j]? = some x) && locB G.sc x && noComp a && chkU G iv e a
    | _ => false
  | .ret e, st => match st with
    | .Return (some a) _ => chkU G iv e a
    | _ => false
  | .ifs c a b, st => match st with
    | .If t x y _ => okTest c t && chkU G iv c t && chkVs G iv a x && chkVs G iv b y
    | _ => false
  | .dead, _ => true
  | _, _ => false
def chkVs (G : Gam) (iv : Option Nat) : List S → List Stmt → Bool
  | [], xs => match xs with
    | [] => true
    | _ => false
  | e :: es, xs => match xs with
    | x :: xs => chkV G iv e x && chkVs G iv es xs
    | [] => false
end
def hdB (G : Gam) (c : Nat) (x : Str) : Bool := decide (c < 9) && decide (c ∈ G.exs) && decide (x = clsName c) && gloB G.sc x && okName x
def chkH (G : Gam) : List S → List ExceptHandler → Bool
  | [], hs => match hs with
    | [] => true
    | _ => false
  | s :: r, hs => match s, hs with
    | .hd c none b, .ExceptHandler (some (.Name x _)) none (b0 :: su) _ :: hs => hdB G c x && chkVs G none b (b0 :: su) && chkH G r hs
    | .hd c (some i) b, .ExceptHandler (some (.Name x _)) (some n) (b0 :: su) _ :: hs => hdB G c x && decide (G.N[i]? = some n) && decide (G.sc.names.lookup n = some .local) && chkVs G (some i) b (b0 :: su) && chkH G r hs
    | _, _ => false
def chkA (G : Gam) (c : Nat) (v : Option Nat) (b : List S) (h : ExceptHandler) : Bool := match v, h with
  | some i, .ExceptHandler (some (.Name x _)) (some n) (b0 :: su) _ => hdB G c x && decide (G.N[i]? = some n) && decide (G.sc.names.lookup n = some .local) && chkVs G (some i) b (b0 :: su)
  | _, _ => false
def raiseB (G : Gam) (c : Nat) (m a : E) (st : Stmt) : Bool := match st with
  | .Raise (some (.Call (.Name x _) [.Constant (.str z) _ _] [] _)) none _ => hdB G c x && (match m, a with
    | .k (.str _), .k .non => true
    | _, _ => false)
  | _ => false
def raiseB2 (G : Gam) (m a : E) (st : Stmt) : Bool := match st with
  | .Raise (some (.Call (.Name x _) [.Constant (.str z) _ _, ex] [] _)) none _ => hdB G 2 x && (match m with
    | .k (.str s) => sameC (.str s) (.str z)
    | _ => false) && plainArg ex && chkE G a ex
  | _ => false
def strkB (G : Gam) (i : Nat) (n : Int) (c : Nat) (st : Stmt) : Bool := match st with
  | .If (.Compare le [.Gt] [.Constant (.int k) _ _] _) [.Assign [.Name x _] (.Call (.Attribute (.Name y _) m apos) [.Constant (.str z) _ _, .Constant (.str w) _ _] [] pos) _] [] _ =>
    chkE G (.pr .len [.var i]) le && decide (k = n) && decide (G.N[i]? = some x) && decide (y = x) && locB G.sc x && okName x && decide (m = "replace") && decide (z = ⟨#[c]⟩) && decide (w = ⟨#[]⟩) && (apos.endLine == pos.line)
  | _ => false
def strxB (G : Gam) (i j c : Nat) (st : Stmt) : Bool := match st with
  | .Assign [.Name x _] (.Call (.Attribute (.Name y _) m apos) [.Constant (.str z) _ _, .Constant (.str w) _ _] [] pos) _ =>
    decide (G.N[i]? = some x) && decide (G.N[j]? = some y) && locB G.sc x && visB G.sc y && okName y && decide (m = "replace") && decide (z = ⟨#[c]⟩) && decide (w = ⟨#[]⟩) && (apos.endLine == pos.line)
  | _ => false
mutual
def chkS (G : Gam) : S → Stmt → Bool
  | .set i e, st => match st with
    | .Assign [.Name x _] a _ => decide (G.N[i]? = some x) && locB G.sc x && okSet a && chkE G e a
    | _ => false
  | .setix o i v, st => match st with
    | .Assign [.Subscript a b _] c _ => chkE G o a && chkE G i b && chkE G v c && noSlice b
    | _ => false
  | .expr e, st => match st with
    | .Expr a _ => chkE G e a && noComp a
    | _ => false
  | .ret e, st => match st with
    | .Return (some a) _ => chkE G e a
    | _ => false
  | .ifs c a b, st => match st with
    | .If t x y _ => chkE G c t && chkB G a x && chkB G b y
    | _ => false
  | .whl c b, st => match st with
    | .While t x [] _ => chkE G c t && chkB G b x
    | _ => false
  | .for v k src b, st => match st with
    | .For (.Name x _) iter bd [] _ => match argsI G.sc k iter with
      | some as => chkL G src as && decide (G.N[v]? = some x) && locB G.sc x && chkB G b bd && (match k with | .itv => (isVar src).isSome | .itx => false | _ => true)
      | none => false
    | _ => false
  | .forE i v src b, st => match st with
    | .For (.Tuple [.Name x _, .Name y _] _ _) (.Call (.Name f _) [e] [] _) bd [] _ => chkE G src e && decide (G.N[i]? = some x) && locB G.sc x && decide (G.N[v]? = some y) && locB G.sc y && chkB G b bd && decide (f = "enumerate") && gloB G.sc f && plainArg e
    | _ => false
  | .brk, st => match st with
    | .Break _ => true
    | _ => false
  | .cnt, st => match st with
    | .Continue _ => true
    | _ => false
  | .pass, st => match st with
    | .Pass _ => true
    | _ => false
  | .raise c m a, st => (decide (c ≠ 2) && raiseB G c m a st) || (decide (c = 2) && raiseB2 G m a st)
  | .tri b hs, st => match st with
    | .Try bd hds [] [] _ => chkB G b bd && (match hs, hds with
      | [.hd c v su], [h] => chkA G c v su h || chkH G [.hd c v su] [h]
      | s :: r, h :: hds => chkH G (s :: r) (h :: hds)
      | _, _ => false)
    | _ => false
  | .hd _ _ _, _ => false
  | .strk i n c, st => strkB G i n c st
  | .strx _ _ _, _ => false
  | .dead, _ => true
def chkB (G : Gam) : List S → List Stmt → Bool
  | [], xs => match xs with
    | [] => true
    | _ => false
  | e :: es, xs => match xs with
    | x :: xs => chkS G e x && chkB G es xs
    | [] => false
end
def chkT (G : Gam) (n : Nat) : List S → List Stmt → Bool
  | .strx i j c :: b, st :: r => strxB G i j c st && chkB G b r && G.sc.names.all (fun y => decide (y.2 ≠ .cell)) && decide (1 ≤ n)
  | _, _ => false
end MP
end
section
set_option maxRecDepth 100000
set_option maxHeartbeats 8000000
namespace MP
open PySem PySem.Spec PyProof.Rows L2 L2H
structure FnX (P : Program) (w : World) (K : PySem.W.Frag) (mg : Str → Option Value) (base : Heap) (k : Nat) (f : Addr) (fd : FuncData) (ps : List Str) (sp : Addr → Hp → VK → Prop) : Prop where
  len : ps.length = 1
  run : ∀ (A : Around) (outer : List Env) (s : Shared) (H : Hp) (args : Args) (Q : VK) (p : Addr × Obj) (C : Addr) (dd : Option (Addr × Obj)), RoomH k A → Hot1 A p → PinOk outer H s p → (∀ q, dd = some q → PinOk outer H s q) → L2N.Zn (.ref C) (dd.map (·.1)) p.2 → (∃ vs, p.2.data = .fields vs) → Env0 P w K mg base A outer s H → BindsTo s fd args (ps.zip [.ref p.1]) → sp C H Q →
    codeAny (model P w) A (.call (.ref f) args) (CR (L2N.CX P w) outer P w H s Q fun _ _ _ => False) s
theorem fn_ofX {P : Program} {w : World} {K : PySem.W.Frag} {mg : Str → Option Value} {base : Heap} {k : Nat} {f : Addr} {name qual : Str} {params : Arguments} {body : List Stmt} {scope : Scope} {dV kV doc pm cdv ct oc : Value} {an od : Option Addr}
    {osl : Array (Option Value)} {N ps : List Str} {sp : Addr → Hp → VK → Prop} (lk : K.lookup f = some ⟨oc, od, .func (PySem.W.fnOf name qual params body scope dV kV doc pm an cdv ct), osl⟩) (hcd : PySem.W.codeIn K cdv qual = true) (S : FnScope N ps scope) (hl : ps.length = 1)
    (hbody : ∀ (A : Around) (outer : List Env) (s : Shared) (H : Hp) (Q : VK) (p : Addr × Obj) (C : Addr) (dd : Option (Addr × Obj)), Hot1 A p → L2N.Zn (.ref C) (dd.map (·.1)) p.2 → (∃ vs, p.2.data = .fields vs) → RoomH k (A.deeper (envOfC qual scope s.heap.objs.size f cdv)) → sp C H Q →
      ∃ t, PSs (pinD (cxH (L2N.CX P w) P w K mg base N qual scope f cdv A outer s H (fun _ _ _ => False) p) dd) body t ∧ t { nx := fun _ H' => Q .non H', rt := Q } (L2.start N [V.ref p.1]) H) :
    FnX P w K mg base (k + 1) f (PySem.W.fnOf name qual params body scope dV kV doc pm an cdv ct) ps sp := by
  refine ⟨hl, fun A outer s H args Q p C dd hr hot hpin hpd hz hd e0 hb hsp => ?_⟩
  have KX : K.In s.heap := e0.mod.kin.keeps fun b o e => (e0.bs b o e).1
  have lim : s.heap.NoLimit := e0.mod.nolimit.keeps fun b o e => (e0.bs b o e).1
  have r : Vals [V.ref p.1] [Value.ref p.1] := .cons rfl .nil
  have hkind : ∀ y ∈ ps.zip [Value.ref p.1], scope.names.lookup y.1 = some .local ∨ (scope.names.lookup y.1 = some .cell ∧ ((cellsFrom (s.heap.objs.size + 1) scope.names []).lookup y.1).isSome = true) := fun ⟨n, v⟩ hy => by
    rcases S.par n (List.of_mem_zip hy).1 with q | q
    · exact .inl q
    · exact .inr ⟨q, PySem.W.cellsFrom_some _ _ _ (.inl q)⟩
  refine codeAny_call_function hr.depth (KX _ _ lk) rfl S.co S.gen rfl (PySem.W.codeRec_of KX hcd) (hb _ _ _ _ ?_)
  refine wpAny_newFunctionEnv_cells S.kind hkind fun env he s1 x => ?_
  subst he
  refine ⟨lim.keeps x.toInCall.keep, codeAny_func ?_⟩
  obtain ⟨t, ht, hq⟩ := hbody A outer s H Q p C dd hot hz hd (hr.deeper _) hsp
  have I : Inv (cxH (L2N.CX P w) P w K mg base N qual scope f cdv A outer s H (fun _ _ _ => False) p) [] (L2.start N [V.ref p.1]) H s1 := inv_startH S hpin e0 (by rw [hl]; rfl) r x
  cases dd with
  | none =>
    refine wpAny_mono (ht.run [] s1 (L2.start N [V.ref p.1]) H _ I hq) (fun fl s' hs => ?_) fun e s' hs => hs
    cases fl with
    | ret u =>
      obtain ⟨v, σ', H', J, rv, q⟩ := hs
      exact ⟨v, H', J.os, J.bare, J.base, J.hok, rv, q⟩
    | next =>
      obtain ⟨σ', H', J, q⟩ := hs
      exact ⟨V.non, H', J.os, J.bare, J.base, J.hok, rfl, q⟩
    | brk =>
      obtain ⟨_, _, _, q⟩ := hs
      exact False.elim q
    | cont =>
      obtain ⟨_, _, _, q⟩ := hs
      exact False.elim q
  | some q0 =>
    have P0 := hpd q0 rfl
    have I2 := addPin (q := q0) I ⟨x.toInCall.keep _ _ P0.get, P0.free, fun z => ?_, P0.nofs, P0.nocell⟩
    · refine wpAny_mono (ht.run [] s1 (L2.start N [V.ref p.1]) H _ I2 hq) (fun fl s' hs => ?_) fun e s' hs => hs
      cases fl with
      | ret u =>
        obtain ⟨v, σ', H', J, rv, q⟩ := hs
        exact ⟨v, H', J.os, J.bare, J.base, J.hok, rv, q⟩
      | next =>
        obtain ⟨σ', H', J, q⟩ := hs
        exact ⟨V.non, H', J.os, J.bare, J.base, J.hok, rfl, q⟩
      | brk =>
        obtain ⟨_, _, _, q⟩ := hs
        exact False.elim q
      | cont =>
        obtain ⟨_, _, _, q⟩ := hs
        exact False.elim q
    · exact absurd (Heap.lt_size P0.get) (by rw [z]; exact Nat.not_lt.mpr (Nat.le_refl _))
section
variable {X : Cx} {k : Nat} {f C : Addr} {fd : FuncData} {ps : List Str} {sp : Addr → Hp → VK → Prop}
theorem run_fnX {pins : List (Addr × Obj)} {σ : L2.St} {H : Hp} {s : Shared} {Q : VK} {p : Addr × Obj} {dd : Option (Addr × Obj)} (F : FnX X.prog X.w X.K X.mg X.base k f fd ps sp) (hr : RoomH k X.A) (hot : Hot1 X.A p) (hp : p ∈ X.pn) (hdp : ∀ q, dd = some q → q ∈ X.pn) (hz : L2N.Zn (.ref C) (dd.map (·.1)) p.2) (hd : ∃ vs, p.2.data = .fields vs) (hb : Binds X.K fd ps [])
    (I : Inv X pins σ H s) (h : sp C H Q) : wpAny (model X.prog X.w) X.A (call (.ref f) [.ref p.1]) (EP X pins σ Q) X.xe s := by
  have b := hb s [.ref p.1] I.kIn (by rw [List.append_nil, F.len]; rfl)
  rw [List.append_nil] at b
  have P1 := I.pin p (List.mem_append_left _ hp)
  have hpin : PinOk X.stack H s p := ⟨P1.1, P1.2.1, fun hm => (List.mem_cons.mp (I.stkSub p.1 hm)).elim P1.2.2.1 P1.2.2.2.1, P1.2.2.2.2⟩
  have hpd : ∀ q, dd = some q → PinOk X.stack H s q := fun q e => by
    have P1 := I.pin q (List.mem_append_left _ (hdp q e))
    exact ⟨P1.1, P1.2.1, fun hm => (List.mem_cons.mp (I.stkSub q.1 hm)).elim P1.2.2.1 P1.2.2.2.1, P1.2.2.2.2⟩
  refine wpAny_call (codeAny_mono (F.run X.A X.stack s H ⟨[.ref p.1], []⟩ Q p C dd hr hot hpin hpd hz hd I.env0 b h) fun r s' hq => ?_)
  cases r with
  | error e =>
    obtain ⟨_, _, _, _, _, _, _, _, _, _, _, _, z⟩ := hq
    exact z.elim
  | ok fl =>
    cases fl with
    | ret u => exact I.after hq
    | next => exact False.elim hq
    | brk => exact False.elim hq
    | cont => exact False.elim hq
theorem pe_callX {x n : Str} {q p2 pos : Pos} {i : Nat} {p : Addr × Obj} {dd : Option (Addr × Obj)} (F : FnX X.prog X.w X.K X.mg X.base k f fd ps sp) (hr : RoomH k X.A) (hot : Hot1 X.A p) (hp : p ∈ X.pn) (hdp : ∀ q, dd = some q → q ∈ X.pn) (hz : L2N.Zn (.ref C) (dd.map (·.1)) p.2) (hd : ∃ vs, p.2.data = .fields vs) (hg : Gl X x) (hm : X.mg x = some (.ref f)) (hk : PySem.W.keepIn X.K (.ref f) = true) (hb : Binds X.K fd ps [])
    (hv : PE X (.Name n p2) (tVar i)) (hdb : (x == ("__debug__" : Str)) = false) :
    PE X (.Call (.Name x q) [.Name n p2] [] pos) (fun σ H Q => σ[i]? = some (some (.ref p.1)) ∧ sp C H Q) := by
  refine ⟨fun pins s σ H Q I ⟨h1, h2⟩ => ?_⟩
  refine wpAny_Call_Name_kw (ld_glob I hg hm ?_ hdb)
  have pa : PA X [.Name n p2] (tCons (tVar i) tNil) := pa_cons hv pa_nil rfl
  refine PySem.W.callWith_K (h₀ := X.base) I.ok.mod.kin hk (thn (pa.run pos pins s σ H (fun vs H' => vs = [.ref p.1] ∧ sp C H' Q) I ⟨.ref p.1, h1, rfl, h2⟩) fun us s1 ⟨vs, H1, I1, r, q⟩ => ⟨I1.kIn, ?_⟩) rfl rfl
  obtain ⟨rfl, q⟩ := q
  cases r with
  | cons r1 r2 =>
    cases r2
    cases r1
    exact run_fnX F hr hot hp hdp hz hd hb I1 q
end
def hotSp (K : PySem.W.Frag) (mg : Str → Option Value) (es : List Nat) (cl : Cl) (f : Nat) : Addr → Hp → VK → Prop := fun C H Q =>
  ∃ (c : Nat) (ex : Addr → Prop) (ρ : List Addr) (st : Store), c ∈ es ∧ mg (clsName c) = some (.ref C) ∧ Mem K ex H ρ st ∧ PostV K ex H ρ (cl f [.int c] st) (fun _ _ _ _ => True) Q
structure HotFacts (X : Cx) (cl : Cl) (es : List Nat) (f : Nat) (x : Str) : Prop where
  ex : ∃ (k : Nat) (a : Addr) (fd : FuncData) (ps : List Str), FnX X.prog X.w X.K X.mg X.base k a fd ps (hotSp X.K X.mg es cl f) ∧ RoomH k X.A ∧ X.mg x = some (.ref a) ∧ PySem.W.keepIn X.K (.ref a) = true ∧ Binds X.K fd ps []
end MP
end
section
set_option maxRecDepth 100000
set_option maxHeartbeats 8000000
namespace MP
open PySem PySem.Spec PyProof.Rows L2 L2H
structure Good (X : Cx) (xa : XA) (W : WX) (cl : Cl) (G : Gam) : Prop where
  names : X.N = G.N
  nd : X.N.Nodup
  sc : X.env.scope = G.sc
  calm : X.calm = true
  un2 : X.A.units + 90 < cLine
  blt : ∀ x ∈ bltNames, X.mg x = none
  gl : ∀ x d, G.gl x = some d → ∃ v u, X.mg x = some u ∧ RelV v u ∧ ∀ ex H ρ, Rep X.K ex H ρ d v
  fn : ∀ f x np, G.fn f = some (x, np) → CallFacts X xa cl f np x
  tk : L2N.Takes X W
  hotf : ∀ f x, G.hot f = some x → HotFacts X cl G.exs f x
  xc : ∀ c ∈ G.exs, XcOk X c
  xm : ∀ c ∈ G.exs, ∀ d ∈ G.exs, PySem.W.kitOne X.K (.ref (He.ga X.K (clsName c))) (.ref (He.ga X.K (clsName d))) = some (isCls c d)
  rm : Room 2 X.A
theorem Good.un {X : Cx} {xa : XA} {W : WX} {cl : Cl} {G : Gam} (g : Good X xa W cl G) : X.A.units + 65 < cLine := by have := g.un2; omega
theorem vis_of {sc : Scope} {x : Str} (h : visB sc x = true) : Vis sc x := by
  unfold visB at h
  split at h <;> first | exact .inl ‹_› | exact .inr (.inl ‹_›) | exact .inr (.inr ‹_›) | cases h
theorem loc_of {sc : Scope} {x : Str} (h : locB sc x = true) : Loc sc x := by
  unfold locB at h
  split at h <;> first | exact .inl ‹_› | exact .inr ‹_› | cases h
theorem glo_of {sc : Scope} {x : Str} (h : gloB sc x = true) : sc.names.lookup x = some .globalImplicit := by
  unfold gloB at h
  split at h <;> first | assumption | cases h
theorem okName_of {x : Str} (h : okName x = true) : (x == ("__debug__" : Str)) = false ∧ (x == ("__classdict__" : Str)) = false ∧ x ≠ "__name__" := by
  unfold okName at h
  rw [Bool.and_eq_true, Bool.and_eq_true] at h
  refine ⟨by simpa using h.1.1, by simpa using h.1.2, by simpa using h.2⟩
theorem noSl_of {b : Expr} (h : noSlice b = true) : NoSl b := by
  intro ov iv
  cases b <;> first | rfl | (simp [noSlice] at h)
theorem plainIx_of {b : Expr} (h : noSlice b = true) : PlainIx b := by
  intro o i
  cases b <;> first | rfl | (simp [noSlice] at h)
theorem noSet_hm {b : Expr} (h : noSet b = true) (op : CmpOp) : behindInMarks op b = false := by
  cases b <;> first | rfl | (simp [noSet] at h)
theorem noSet_fold {e : Expr} (h : noSet e = true) (env : Env) (z : Value) : foldedSetIterable e env z = pure z := by
  cases e <;> first | rfl | (simp [noSet] at h)
mutual
theorem sameD_eq : ∀ {d e : D}, sameD d e = true → d = e
  | .non, .non, _ => rfl
  | .bl a, .bl b, h => by simp [sameD] at h; rw [h]
  | .int i, .int j, h => by simp [sameD] at h; rw [h]
  | .str s, .str t, h => by simp [sameD] at h; rw [h]
  | .tup xs, .tup ys, h => by
    have h' : sameDs xs ys = true := by simpa [sameD] using h
    rw [sameDs_eq h']
  | .non, .bl _, h => by simp [sameD] at h
  | .non, .int _, h => by simp [sameD] at h
  | .non, .str _, h => by simp [sameD] at h
  | .non, .tup _, h => by simp [sameD] at h
  | .bl _, .non, h => by simp [sameD] at h
  | .bl _, .int _, h => by simp [sameD] at h
  | .bl _, .str _, h => by simp [sameD] at h
  | .bl _, .tup _, h => by simp [sameD] at h
  | .int _, .non, h => by simp [sameD] at h
  | .int _, .bl _, h => by simp [sameD] at h
  | .int _, .str _, h => by simp [sameD] at h
  | .int _, .tup _, h => by simp [sameD] at h
  | .str _, .non, h => by simp [sameD] at h
  | .str _, .bl _, h => by simp [sameD] at h
  | .str _, .int _, h => by simp [sameD] at h
  | .str _, .tup _, h => by simp [sameD] at h
  | .tup _, .non, h => by simp [sameD] at h
  | .tup _, .bl _, h => by simp [sameD] at h
  | .tup _, .int _, h => by simp [sameD] at h
  | .tup _, .str _, h => by simp [sameD] at h
  | .lst _, _, h => by simp [sameD] at h
  | .dct _, _, h => by simp [sameD] at h
  | .scr _, _, h => by simp [sameD] at h
  | .exc _ _, _, h => by simp [sameD] at h
  | .ref _, _, h => by simp [sameD] at h
  | _, .lst _, h => by simp [sameD] at h
  | _, .dct _, h => by simp [sameD] at h
  | _, .scr _, h => by simp [sameD] at h
  | _, .exc _ _, h => by simp [sameD] at h
  | _, .ref _, h => by simp [sameD] at h
theorem sameDs_eq : ∀ {d e : List D}, sameDs d e = true → d = e
  | [], [], _ => rfl
  | x :: xs, y :: ys, h => by
    simp only [sameDs, Bool.and_eq_true] at h
    rw [sameD_eq h.1, sameDs_eq h.2]
  | [], _ :: _, h => by simp [sameDs] at h
  | _ :: _, [], h => by simp [sameDs] at h
end
theorem bnd3 (cl : Cl) (e e2 e3 : E) (ds : DS) (st : Store) (f : List D → Store → RE) : (evL cl [e, e2, e3] ds st).bind f = (evE cl e ds st).bind fun x st1 => (evE cl e2 ds st1).bind fun y st2 => (evE cl e3 ds st2).bind fun z st3 => f [x, y, z] st3 := by
  simp only [evL]
  cases evE cl e ds st with
  | ok x s =>
    simp only [R.bind_ok]
    cases evE cl e2 ds s with
    | ok y s2 =>
      simp only [R.bind_ok]
      cases evE cl e3 ds s2 <;> rfl
    | exc _ _ => rfl
    | no => rfl
  | exc _ _ => rfl
  | no => rfl
theorem bnd1 (cl : Cl) (e : E) (ds : DS) (st : Store) (f : List D → Store → RE) : (evL cl [e] ds st).bind f = (evE cl e ds st).bind fun x st1 => f [x] st1 := by
  simp only [evL]
  cases evE cl e ds st <;> rfl
theorem bnd2 (cl : Cl) (e e2 : E) (ds : DS) (st : Store) (f : List D → Store → RE) : (evL cl [e, e2] ds st).bind f = (evE cl e ds st).bind fun x st1 => (evE cl e2 ds st1).bind fun y st2 => f [x, y] st2 := by
  simp only [evL]
  cases evE cl e ds st with
  | ok x s =>
    simp only [R.bind_ok]
    cases evE cl e2 ds s <;> rfl
  | exc _ _ => rfl
  | no => rfl
section
variable {X : Cx} {xa : XA} {W : WX} {cl : Cl} {G : Gam}
def PEs (X : Cx) (xa : XA) (W : WX) (cl : Cl) : List E → List Expr → Prop
  | [], [] => True
  | e :: es, x :: xs => PE X x (denE X.K xa W (evE cl e)) ∧ PEs X xa W cl es xs
  | _, _ => False
theorem PEs.length : ∀ {es : List E} {xs : List Expr}, PEs X xa W cl es xs → es.length = xs.length
  | [], [], _ => rfl
  | _ :: _, _ :: _, h => congrArg (· + 1) (PEs.length h.2)
  | [], _ :: _, h => h.elim
  | _ :: _, [], h => h.elim
theorem PEs.pa : ∀ {es : List E} {xs : List Expr}, PEs X xa W cl es xs → xs.all plainArg = true → PA X xs (denL X.K xa W (evL cl es))
  | [], [], _, _ => den_nil
  | e :: es, x :: xs, h, p => by
    rw [List.all_cons, Bool.and_eq_true] at p
    have := den_cons h.1 (PEs.pa h.2 p.2) (star_cons p.1 _ _)
    exact this.imp fun σ H Q q => q
  | [], _ :: _, h, _ => h.elim
  | _ :: _, [], h, _ => h.elim
theorem evL_len (cl : Cl) : ∀ (es : List E) (ds : DS) (st : Store) (xs : List D) (st' : Store), evL cl es ds st = .ok xs st' → xs.length = es.length
  | [], ds, st, xs, st', h => by rw [evL] at h; cases h; rfl
  | e :: es, ds, st, xs, st', h => by
    rw [evL] at h
    cases h1 : evE cl e ds st with
    | ok d s =>
      rw [h1] at h
      simp only [R.bind_ok] at h
      cases h2 : evL cl es ds s with
      | ok ys s2 =>
        rw [h2] at h
        cases h
        exact congrArg (· + 1) (evL_len cl es ds _ ys _ h2)
      | exc _ _ => rw [h2] at h; cases h
      | no => rw [h2] at h; cases h
    | exc _ _ => rw [h1] at h; cases h
    | no => rw [h1] at h; cases h
theorem PEs.one {es : List E} {x : Expr} (h : PEs X xa W cl es [x]) : ∃ e, es = [e] ∧ PE X x (denE X.K xa W (evE cl e)) := by
  match es, h with
  | [e], h => exact ⟨e, rfl, h.1⟩
  | [], h => exact h.elim
  | _ :: _ :: _, h => exact h.2.elim
theorem PEs.two {es : List E} {x y : Expr} (h : PEs X xa W cl es [x, y]) : ∃ e f, es = [e, f] ∧ PE X x (denE X.K xa W (evE cl e)) ∧ PE X y (denE X.K xa W (evE cl f)) := by
  match es, h with
  | [e, f], h => exact ⟨e, f, rfl, h.1, h.2.1⟩
  | [], h => exact h.elim
  | [_], h => exact h.2.elim
  | _ :: _ :: _ :: _, h => exact h.2.2.elim
theorem PEs.three {es : List E} {x y z : Expr} (h : PEs X xa W cl es [x, y, z]) : ∃ e f k, es = [e, f, k] ∧ PE X x (denE X.K xa W (evE cl e)) ∧ PE X y (denE X.K xa W (evE cl f)) ∧ PE X z (denE X.K xa W (evE cl k)) := by
  match es, h with
  | [e, f, k], h => exact ⟨e, f, k, rfl, h.1, h.2.1, h.2.2.1⟩
  | [], h => exact h.elim
  | [_], h => exact h.2.elim
  | [_, _], h => exact h.2.2.elim
  | _ :: _ :: _ :: _ :: _, h => exact h.2.2.2.elim
theorem Good.glob (g : Good X xa W cl G) {x : Str} (h : gloB G.sc x = true) : Gl X x := by
  show X.env.scope.names.lookup x = _
  rw [g.sc]
  exact glo_of h
theorem bootL_max : bootBuiltins "max" = some (.builtin "max") := by decide +kernel
theorem bootL_min : bootBuiltins "min" = some (.builtin "min") := by decide +kernel
theorem bootL_sum : bootBuiltins "sum" = some (.builtin "sum") := by decide +kernel
theorem bootL_len : bootBuiltins "len" = some (.builtin "len") := by decide +kernel
theorem bootL_abs : bootBuiltins "abs" = some (.builtin "abs") := by decide +kernel
theorem bootL_all : bootBuiltins "all" = some (.builtin "all") := by decide +kernel
theorem bootL_list : bootBuiltins "list" = some (.type "list") := by decide +kernel
theorem bootL_int : bootBuiltins "int" = some (.type "int") := by decide +kernel
theorem bootL_sorted : bootBuiltins "sorted" = some (.builtin "sorted") := by decide +kernel
theorem bootL_str : bootBuiltins "str" = some (.type "str") := by decide +kernel
theorem bootL_dict : bootBuiltins "dict" = some (.type "dict") := by decide +kernel
theorem bootL_ty (t : Ty) : bootBuiltins (tyName t) = some (.type (tyName t)) := by cases t <;> decide +kernel
theorem ty_blt (t : Ty) : (tyName t : Str) ∈ bltNames := by cases t <;> decide +kernel
theorem ty_nm (t : Ty) : (tyName t : Str) ≠ "__name__" ∧ ((tyName t : Str) == ("__debug__" : Str)) = false := by cases t <;> decide +kernel
theorem blt_args {sc : Scope} {p : P} {ex : Expr} {as : List Expr} (h : bltArgs sc p ex = some as) : ∃ x n p1 pos, bltOf p = some (x, n) ∧ ex = .Call (.Name x p1) as [] pos ∧ gloB sc x = true ∧ as.all plainArg = true ∧ as.length = n := by
  unfold bltArgs at h
  split at h
  · rename_i x n hb
    split at h
    · rename_i y p1 as' pos
      split at h
      · rename_i hc
        simp only [Bool.and_eq_true, decide_eq_true_eq] at hc
        cases h
        obtain ⟨⟨⟨rfl, h2⟩, h3⟩, h4⟩ := hc
        exact ⟨_, n, p1, pos, hb, rfl, h2, h3, h4⟩
      · cases h
    · cases h
  · cases h
theorem len_one {α : Type} {as : List α} (h : as.length = 1) : ∃ a, as = [a] := List.length_eq_one_iff.mp h
theorem len_two {α : Type} {as : List α} (h : as.length = 2) : ∃ a b, as = [a, b] := by
  match as, h with
  | [a, b], _ => exact ⟨a, b, rfl⟩
theorem len_three {α : Type} {as : List α} (h : as.length = 3) : ∃ a b c, as = [a, b, c] := by
  match as, h with
  | [a, b, c], _ => exact ⟨a, b, c, rfl⟩
theorem blt_ok (g : Good X xa W cl G) {p : P} {es : List E} {ex : Expr} {as : List Expr} (h : bltArgs G.sc p ex = some as) (hp : PEs X xa W cl es as) : PE X ex (denE X.K xa W fun ds st => (evL cl es ds st).bind fun xs st' => primF p xs st') := by
  obtain ⟨x, n, p1, pos, hb, rfl, hg, ha, hl⟩ := blt_args h
  have hgl := g.glob hg
  cases p with
  | len =>
    cases hb
    obtain ⟨a, rfl⟩ := len_one hl
    obtain ⟨e, rfl, he⟩ := hp.one
    simp only [List.all_cons, List.all_nil, Bool.and_true] at ha
    have := den_B1 (pos := pos) (p1 := p1) (call_lenM) (ok_len (K := X.K)) hgl (g.blt _ (by decide)) bootL_len (by decide) (by decide) ha he
    exact this.imp fun σ H Q q => by simp only [bnd1] at q; exact q
  | max2 =>
    cases hb
    obtain ⟨a, b, rfl⟩ := len_two hl
    obtain ⟨e, f, rfl, he, hf⟩ := hp.two
    simp only [List.all_cons, List.all_nil, Bool.and_true, Bool.and_eq_true] at ha
    have := den_B2 (pos := pos) (p1 := p1) (call_max2 g.calm) (ok_max2 (K := X.K)) hgl (g.blt _ (by decide)) bootL_max (by decide) (by decide) ha.1 ha.2 he hf
    exact this.imp fun σ H Q q => by simp only [bnd2] at q; exact q
  | min2 =>
    cases hb
    obtain ⟨a, b, rfl⟩ := len_two hl
    obtain ⟨e, f, rfl, he, hf⟩ := hp.two
    simp only [List.all_cons, List.all_nil, Bool.and_true, Bool.and_eq_true] at ha
    have := den_B2 (pos := pos) (p1 := p1) (call_min2 g.calm) (ok_min2 (K := X.K)) hgl (g.blt _ (by decide)) bootL_min (by decide) (by decide) ha.1 ha.2 he hf
    exact this.imp fun σ H Q q => by simp only [bnd2] at q; exact q
  | min3 =>
    cases hb
    obtain ⟨a, b, c, rfl⟩ := len_three hl
    obtain ⟨e, f, k, rfl, he, hf, hk⟩ := hp.three
    simp only [List.all_cons, List.all_nil, Bool.and_true, Bool.and_eq_true] at ha
    have := den_B3 (pos := pos) (p1 := p1) (call_min3 g.calm) (ok_min3 (K := X.K)) hgl (g.blt _ (by decide)) bootL_min (by decide) (by decide) ha.1 ha.2.1 ha.2.2 he hf hk
    exact this.imp fun σ H Q q => by simp only [bnd3] at q; exact q
  | maxL =>
    cases hb
    obtain ⟨a, rfl⟩ := len_one hl
    obtain ⟨e, rfl, he⟩ := hp.one
    simp only [List.all_cons, List.all_nil, Bool.and_true] at ha
    have := den_B1 (pos := pos) (p1 := p1) (cr_max g.calm) (ok_maxL (K := X.K)) hgl (g.blt _ (by decide)) bootL_max (by decide) (by decide) ha he
    exact this.imp fun σ H Q q => by simp only [bnd1] at q; exact q
  | minL =>
    cases hb
    obtain ⟨a, rfl⟩ := len_one hl
    obtain ⟨e, rfl, he⟩ := hp.one
    simp only [List.all_cons, List.all_nil, Bool.and_true] at ha
    have := den_B1 (pos := pos) (p1 := p1) (CallR.or (cr_min g.calm) (call_minP g.calm g.un)) (ok_minL (K := X.K)) hgl (g.blt _ (by decide)) bootL_min (by decide) (by decide) ha he
    exact this.imp fun σ H Q q => by simp only [bnd1] at q; exact q
  | sum =>
    cases hb
    obtain ⟨a, rfl⟩ := len_one hl
    obtain ⟨e, rfl, he⟩ := hp.one
    simp only [List.all_cons, List.all_nil, Bool.and_true] at ha
    have := den_B1 (pos := pos) (p1 := p1) (cr_sum g.calm) (ok_sum (K := X.K)) hgl (g.blt _ (by decide)) bootL_sum (by decide) (by decide) ha he
    exact this.imp fun σ H Q q => by simp only [bnd1] at q; exact q
  | all =>
    cases hb
    obtain ⟨a, rfl⟩ := len_one hl
    obtain ⟨e, rfl, he⟩ := hp.one
    simp only [List.all_cons, List.all_nil, Bool.and_true] at ha
    have := den_B1 (pos := pos) (p1 := p1) (cr_all g.calm) (ok_all (K := X.K)) hgl (g.blt _ (by decide)) bootL_all (by decide) (by decide) ha he
    exact this.imp fun σ H Q q => by simp only [bnd1] at q; exact q
  | abs =>
    cases hb
    obtain ⟨a, rfl⟩ := len_one hl
    obtain ⟨e, rfl, he⟩ := hp.one
    simp only [List.all_cons, List.all_nil, Bool.and_true] at ha
    have := den_B1 (pos := pos) (p1 := p1) call_abs (ok_abs (K := X.K)) hgl (g.blt _ (by decide)) bootL_abs (by decide) (by decide) ha he
    exact this.imp fun σ H Q q => by simp only [bnd1] at q; exact q
  | list m =>
    cases hb
    obtain ⟨a, rfl⟩ := len_one hl
    obtain ⟨e, rfl, he⟩ := hp.one
    simp only [List.all_cons, List.all_nil, Bool.and_true] at ha
    have := den_T1 (pos := pos) (p1 := p1) (call_listM g.calm) (ok_list (K := X.K) m) hgl (g.blt _ (by decide)) bootL_list (by decide) (by decide) ha he
    exact this.imp fun σ H Q q => by simp only [bnd1] at q; exact q
  | sorted m =>
    cases hb
    obtain ⟨a, rfl⟩ := len_one hl
    obtain ⟨e, rfl, he⟩ := hp.one
    simp only [List.all_cons, List.all_nil, Bool.and_true] at ha
    have := den_B1 (pos := pos) (p1 := p1) (CallR.or cr_sortedPO (call_sortDT g.calm)) (ok_sortedM (K := X.K) m) hgl (g.blt _ (by decide)) bootL_sorted (by decide) (by decide) ha he
    exact this.imp fun σ H Q q => by simp only [bnd1] at q; exact q
  | dict m =>
    cases hb
    obtain ⟨a, rfl⟩ := len_one hl
    obtain ⟨e, rfl, he⟩ := hp.one
    simp only [List.all_cons, List.all_nil, Bool.and_true] at ha
    have := den_T1 (pos := pos) (p1 := p1) (call_dictT g.un) (ok_dict (K := X.K) m) hgl (g.blt _ (by decide)) bootL_dict (by decide) (by decide) ha he
    exact this.imp fun σ H Q q => by simp only [bnd1] at q; exact q
  | dictL m =>
    cases hb
    obtain ⟨a, rfl⟩ := len_one hl
    obtain ⟨e, rfl, he⟩ := hp.one
    simp only [List.all_cons, List.all_nil, Bool.and_true] at ha
    have := den_T1 (pos := pos) (p1 := p1) (call_dictLT g.calm g.un) (ok_dictL (K := X.K) m) hgl (g.blt _ (by decide)) bootL_dict (by decide) (by decide) ha he
    exact this.imp fun σ H Q q => by simp only [bnd1] at q; exact q
  | str1 =>
    cases hb
    obtain ⟨a, rfl⟩ := len_one hl
    obtain ⟨e, rfl, he⟩ := hp.one
    simp only [List.all_cons, List.all_nil, Bool.and_true] at ha
    have := den_T1 (pos := pos) (p1 := p1) call_strM (ok_str1 (K := X.K)) hgl (g.blt _ (by decide)) bootL_str (by decide) (by decide) ha he
    exact this.imp fun σ H Q q => by simp only [bnd1] at q; exact q
  | int1 =>
    cases hb
    obtain ⟨a, rfl⟩ := len_one hl
    obtain ⟨e, rfl, he⟩ := hp.one
    simp only [List.all_cons, List.all_nil, Bool.and_true] at ha
    have := den_T1 (pos := pos) (p1 := p1) call_intM (ok_int1 (K := X.K)) hgl (g.blt _ (by decide)) bootL_int (by decide) (by decide) ha he
    exact this.imp fun σ H Q q => by simp only [bnd1] at q; exact q
  | _ => simp [bltOf] at hb
end
end MP
end
section
set_option maxRecDepth 100000
set_option maxHeartbeats 8000000
namespace MP
open PySem PySem.Spec PyProof.Rows L2
section
variable {X : Cx} {xa : XA} {W : WX} {cl : Cl} {G : Gam}
theorem prim_ok (g : Good X xa W cl G) {p : P} {es : List E} {ex : Expr} {as : List Expr} (h : argsP G.sc p ex = some as) (hp : PEs X xa W cl es as) : PE X ex (denE X.K xa W fun ds st => (evL cl es ds st).bind fun xs st' => primF p xs st') := by
  unfold argsP at h
  split at h
  · rename_i o ex
    split at h
    · rename_i l op r pos
      split at h
      · rename_i hb
        cases h
        obtain ⟨e, f, rfl, he, hf⟩ := hp.two
        obtain ⟨rr, h1, h2⟩ := bin_ok (X := X) hb
        exact (den_op (pos := pos) h1 h2 he hf).imp fun σ H Q q => by simp only [bnd2] at q; exact q
      · cases h
    · rename_i l op r pos
      split at h
      · rename_i hb
        cases h
        obtain ⟨e, f, rfl, he, hf⟩ := hp.two
        obtain ⟨rr, h1, h2⟩ := cmp_ok (X := X) g.un2 hb.1
        exact (den_cmp (pos := pos) h1 h2 he hf (noSet_hm hb.2 _)).imp fun σ H Q q => by simp only [bnd2] at q; exact q
      · cases h
    · cases h
  · rename_i ex
    split at h
    · rename_i a pos
      cases h
      obtain ⟨e, rfl, he⟩ := hp.one
      exact (den_neg (pos := pos) he).imp fun σ H Q q => by simp only [bnd1] at q; exact q
    · cases h
  · rename_i ex
    split at h
    · rename_i a k p2 pos
      cases h
      obtain ⟨e, rfl, he⟩ := hp.one
      exact (den_isn (neg := false) (pos := pos) he).imp fun σ H Q q => by simp only [bnd1] at q; exact q
    · cases h
  · rename_i ex
    split at h
    · rename_i a k p2 pos
      cases h
      obtain ⟨e, rfl, he⟩ := hp.one
      exact (den_isn (neg := true) (pos := pos) he).imp fun σ H Q q => by simp only [bnd1] at q; exact q
    · cases h
  · rename_i ex
    split at h
    · split at h
      · rename_i hb
        cases h
        exact den_tup (hp.pa hb)
      · cases h
    · cases h
  · rename_i m ex
    split at h
    · split at h
      · rename_i hb
        cases h
        exact den_lst (hp.pa hb)
      · cases h
    · cases h
  · rename_i ex
    split at h
    · cases h
      match es, hp with
      | [], _ => exact den_dnew.imp fun σ H Q q => by simp only [evL] at q; exact q
    · cases h
  · rename_i ex
    split at h
    · rename_i a b pos
      split at h
      · rename_i hb
        cases h
        obtain ⟨e, f, rfl, he, hf⟩ := hp.two
        exact (den_ix (pos := pos) g.un he hf (plainIx_of hb)).imp fun σ H Q q => by simp only [bnd2] at q; exact q
      · cases h
    · cases h
  · rename_i ex t
    split at h
    · rename_i f p1 a y p2 pos
      split at h
      · rename_i hb
        cases h
        obtain ⟨e, rfl, he⟩ := hp.one
        simp only [Bool.and_eq_true, decide_eq_true_eq] at hb
        obtain ⟨⟨⟨⟨rfl, h2⟩, rfl⟩, h4⟩, h5⟩ := hb
        exact (den_isi (t := t) (pos := pos) (p1 := p1) (p2 := p2) (g.glob h2) (g.blt _ (by decide)) (g.glob h4) (g.blt _ (ty_blt t)) (bootL_ty t) (ty_nm t).1 (ty_nm t).2 h5 he).imp fun σ H Q q => by simp only [bnd1] at q; exact q
      · cases h
    · cases h
  · rename_i ex
    split at h
    · rename_i f p1 a y k p2 p3 pos
      split at h
      · rename_i hb
        cases h
        obtain ⟨e, rfl, he⟩ := hp.one
        simp only [Bool.and_eq_true, decide_eq_true_eq] at hb
        obtain ⟨⟨⟨rfl, h2⟩, rfl⟩, h5⟩ := hb
        exact (den_maxD (k := k) (pos := pos) (p1 := p1) (p2 := p2) (p3 := p3) g.calm (g.glob h2) (g.blt _ (by decide)) bootL_max h5 he).imp fun σ H Q q => by simp only [bnd1] at q; exact q
      · cases h
    · cases h
  · rename_i ex m
    split at h
    · rename_i f p1 g' p2 a b p3 pos
      split at h
      · rename_i hb
        cases h
        obtain ⟨e, f, rfl, he, hf⟩ := hp.two
        simp only [Bool.and_eq_true, decide_eq_true_eq] at hb
        obtain ⟨⟨⟨⟨⟨rfl, h2⟩, rfl⟩, h4⟩, h5⟩, h6⟩ := hb
        exact (den_lrng (m := m) (pos := pos) (p1 := p1) (p2 := p2) (p3 := p3) g.calm (g.glob h2) (g.blt _ (by decide)) (g.glob h4) (g.blt _ (by decide)) h5 h6 he hf).imp fun σ H Q q => by simp only [bnd2] at q; exact q
      · cases h
    · cases h
  · rename_i ex
    split at h
    · rename_i f p1 g' p2 a p3 pos
      split at h
      · rename_i hb
        cases h
        obtain ⟨e, rfl, he⟩ := hp.one
        simp only [Bool.and_eq_true, decide_eq_true_eq] at hb
        obtain ⟨⟨⟨⟨rfl, h2⟩, rfl⟩, h4⟩, h5⟩ := hb
        exact (den_nset (pos := pos) (p1 := p1) (p2 := p2) (p3 := p3) g.calm g.un (g.glob h2) (g.blt _ (by decide)) (g.glob h4) (g.blt _ (by decide)) h5 he).imp fun σ H Q q => by simp only [bnd1] at q; exact q
      · cases h
    · cases h
  · rename_i ex m
    split at h
    · rename_i f p1 g' p2 a p3 pos
      split at h
      · rename_i hb
        cases h
        obtain ⟨e, rfl, he⟩ := hp.one
        simp only [Bool.and_eq_true, decide_eq_true_eq] at hb
        obtain ⟨⟨⟨⟨rfl, h2⟩, rfl⟩, h4⟩, h5⟩ := hb
        exact (den_sset (m := m) (pos := pos) (p1 := p1) (p2 := p2) (p3 := p3) g.calm g.un (g.glob h2) (g.blt _ (by decide)) (g.glob h4) (g.blt _ (by decide)) h5 he).imp fun σ H Q q => by simp only [bnd1] at q; exact q
      · cases h
    · cases h
  · rename_i ex m
    split at h
    · rename_i a k p1 p2 p3 pos
      cases h
      obtain ⟨e, rfl, he⟩ := hp.one
      exact (den_revs (m := m) (pos := pos) he).imp fun σ H Q q => by simp only [bnd1] at q; exact q
    · cases h
  · rename_i ex ks
    split at h
    · rename_i keys values p1 e' pos
      split at h
      · rename_i hb
        cases h
        obtain ⟨e, rfl, he⟩ := hp.one
        simp only [Bool.and_eq_true, decide_eq_true_eq] at hb
        obtain ⟨⟨⟨h1, h2⟩, h3⟩, h4⟩ := hb
        exact (den_kix (pos := pos) (p1 := p1) g.un h1 (by intro z; rw [z] at h2; cases h2) h3 (noSl_of h4) he).imp fun σ H Q q => by simp only [bnd1] at q; exact q
      · cases h
    · cases h
  · exact blt_ok g h hp
theorem meth_ok (g : Good X xa W cl G) {p : P} {o : E} {es : List E} {ex ob : Expr} {as : List Expr} (h : argsM p ex = some (ob, as)) (ho : PE X ob (denE X.K xa W (evE cl o))) (hp : PEs X xa W cl es as) :
    PE X ex (denE X.K xa W (evE cl (.mth p o es))) := by
  unfold argsM at h
  split at h
  · rename_i x n hb
    split at h
    · rename_i o' m apos as' pos
      split at h
      · rename_i hc
        cases h
        simp only [Bool.and_eq_true, decide_eq_true_eq] at hc
        obtain ⟨⟨⟨⟨rfl, h2⟩, h3⟩, h4⟩, h5⟩ := hc
        have hbase : ∀ w, attributeBase ob m X.env w = w := fun w => base_of (by cases ob <;> first | trivial | (simpa [noCall] using h4)) X.env w
        cases p with
        | append =>
          cases hb
          obtain ⟨a, rfl⟩ := len_one h3
          obtain ⟨e, rfl, he⟩ := hp.one
          simp only [List.all_cons, List.all_nil, Bool.and_true] at h2
          refine (den_mth1 (p := .append) (T := "list") (id := "list.append") F.plainAttrs_list F.slot_list_append F.type_list_append mt_append (fun M r k => okRecv_lst M r k) (fun M r1 r2 q => ok_append M r1 r2 q) hbase h2 h5 ho he).imp fun σ H Q q => ?_
          simp only [evE, bnd1] at q
          exact q
        | pop =>
          cases hb
          match as, h3, hp with
          | [], _, hp =>
            match es, hp with
            | [], _ =>
              refine (den_mth0 (p := .pop) (T := "list") (id := "list.pop") F.plainAttrs_list F.slot_list_pop F.type_list_pop mt_pop (fun M r k => okRecv_lst M r k) (fun M r1 q => ok_pop M r1 q) hbase h5 ho).imp fun σ H Q q => ?_
              simp only [evE, evL, R.bind_ok] at q
              exact q
        | clear =>
          cases hb
          match as, h3, hp with
          | [], _, hp =>
            match es, hp with
            | [], _ =>
              refine (den_mth0 (p := .clear) (T := "list") (id := "list.clear") F.plainAttrs_list F.slot_list_clear F.type_list_clear mt_clear (fun M r k => okRecv_lst M r k) (fun M r1 q => ok_clear M r1 q) hbase h5 ho).imp fun σ H Q q => ?_
              simp only [evE, evL, R.bind_ok] at q
              exact q
        | insert =>
          cases hb
          obtain ⟨a, b, rfl⟩ := len_two h3
          obtain ⟨e, f, rfl, he, hf⟩ := hp.two
          simp only [List.all_cons, List.all_nil, Bool.and_true, Bool.and_eq_true] at h2
          refine (den_mth2 (p := .insert) (T := "list") (id := "list.insert") F.plainAttrs_list F.slot_list_insert F.type_list_insert mt_insert (fun M r k => okRecv_lst M r k) (fun M r1 r2 r3 q => ok_insert M r1 r2 r3 q) hbase h2.1 h2.2 h5 ho he hf).imp fun σ H Q q => ?_
          simp only [evE, bnd2] at q
          exact q
        | setd =>
          cases hb
          obtain ⟨a, b, rfl⟩ := len_two h3
          obtain ⟨e, f, rfl, he, hf⟩ := hp.two
          simp only [List.all_cons, List.all_nil, Bool.and_true, Bool.and_eq_true] at h2
          refine (den_mth2 (p := .setd) (T := "dict") (id := "dict.setdefault") F.plainAttrs_dict F.slot_dict_setdefault F.type_dict_setdefault (mt_setT g.un) (fun M r k => okRecv_dctU M r k) (fun M r1 r2 r3 q => ok_setd M r1 r2 r3 q) hbase h2.1 h2.2 h5 ho he hf).imp fun σ H Q q => ?_
          simp only [evE, bnd2] at q
          exact q
        | join =>
          cases hb
          obtain ⟨a, rfl⟩ := len_one h3
          obtain ⟨e, rfl, he⟩ := hp.one
          simp only [List.all_cons, List.all_nil, Bool.and_true] at h2
          refine (den_mth1 (p := .join) (T := "str") (id := "str.join") F.plainAttrs_str F.slot_str_join F.type_str_join mt_join (fun M r k => by obtain ⟨s, _, rfl, _⟩ := okRecv_join M r k; exact rfl) (fun M r1 r2 q => ok_join M r1 r2 q) hbase h2 h5 ho he).imp fun σ H Q q => ?_
          simp only [evE, bnd1] at q
          exact q
        | find =>
          cases hb
          obtain ⟨a, rfl⟩ := len_one h3
          obtain ⟨e, rfl, he⟩ := hp.one
          simp only [List.all_cons, List.all_nil, Bool.and_true] at h2
          refine (den_mth1 (p := .find) (T := "str") (id := "str.find") F.plainAttrs_str F.slot_str_find F.type_str_find mt_find (fun M r k => by obtain ⟨s, _, rfl, _⟩ := okRecv_find M r k; exact rfl) (fun M r1 r2 q => ok_find M r1 r2 q) hbase h2 h5 ho he).imp fun σ H Q q => ?_
          simp only [evE, bnd1] at q
          exact q
        | dget =>
          cases hb
          obtain ⟨a, rfl⟩ := len_one h3
          obtain ⟨e, rfl, he⟩ := hp.one
          simp only [List.all_cons, List.all_nil, Bool.and_true] at h2
          refine (den_dget g.un hbase h2 h5 ho he).imp fun σ H Q q => ?_
          simp only [evE, bnd1] at q
          exact q
        | dclr =>
          cases hb
          match as, h3, hp with
          | [], _, hp =>
            match es, hp with
            | [], _ =>
              refine (den_mth0 (p := .dclr) (T := "dict") (id := "dict.clear") F.plainAttrs_dict F.slot_dict_clear F.type_dict_clear mt_dclrT (fun M r k => okRecv_dctC (.inl rfl) M r k) (fun M r1 q => ok_dclr M r1 q) hbase h5 ho).imp fun σ H Q q => ?_
              simp only [evE, evL, R.bind_ok] at q
              exact q
        | rev =>
          cases hb
          match as, h3, hp with
          | [], _, hp =>
            match es, hp with
            | [], _ =>
              refine (den_mth0 (p := .rev) (T := "list") (id := "list.reverse") F.plainAttrs_list F.slot_list_reverse F.type_list_reverse mt_reverse (fun M r k => okRecv_rev M r k) (fun M r1 q => ok_rev M r1 q) hbase h5 ho).imp fun σ H Q q => ?_
              simp only [evE, evL, R.bind_ok] at q
              exact q
        | lower =>
          cases hb
          match as, h3, hp with
          | [], _, hp =>
            match es, hp with
            | [], _ =>
              refine (den_mth0 (p := .lower) (T := "str") (id := "str.lower") F.plainAttrs_str F.slot_str_lower F.type_str_lower mt_lower (fun M r k => by obtain ⟨s, _, rfl, _⟩ := okRecv_str (.inl rfl) M r k; exact rfl) (fun M r1 q => ok_lower M r1 q) hbase h5 ho).imp fun σ H Q q => ?_
              simp only [evE, evL, R.bind_ok] at q
              exact q
        | dpop1 =>
          cases hb
          obtain ⟨a, rfl⟩ := len_one h3
          obtain ⟨e, rfl, he⟩ := hp.one
          simp only [List.all_cons, List.all_nil, Bool.and_true] at h2
          refine (den_mth1 (p := .dpop1) (T := "dict") (id := "dict.pop") F.plainAttrs_dict F.slot_dict_pop F.type_dict_pop (mt_popT1 g.un) (fun M r k => okRecv_dctC (.inr (.inr rfl)) M r k) (fun M r1 r2 q => ok_dpop1 M r1 r2 q) hbase h2 h5 ho he).imp fun σ H Q q => ?_
          simp only [evE, bnd1] at q
          exact q
        | split m =>
          cases hb
          obtain ⟨a, rfl⟩ := len_one h3
          obtain ⟨e, rfl, he⟩ := hp.one
          simp only [List.all_cons, List.all_nil, Bool.and_true] at h2
          refine (den_mth1 (p := .split m) (T := "str") (id := "str.split") F.plainAttrs_str F.slot_str_split F.type_str_split mt_split (fun M r k => by obtain ⟨s, _, rfl, _⟩ := okRecv_split M r k; exact rfl) (fun M r1 r2 q => ok_split M r1 r2 q) hbase h2 h5 ho he).imp fun σ H Q q => ?_
          simp only [evE, bnd1] at q
          exact q
        | sidx =>
          cases hb
          obtain ⟨a, rfl⟩ := len_one h3
          obtain ⟨e, rfl, he⟩ := hp.one
          simp only [List.all_cons, List.all_nil, Bool.and_true] at h2
          refine (den_mth1 (p := .sidx) (T := "str") (id := "str.index") F.plainAttrs_str F.slot_str_index F.type_str_index mt_sindex (fun M r k => by obtain ⟨s, _, rfl, _⟩ := okRecv_str (.inr rfl) M r k; exact rfl) (fun M r1 r2 q => ok_sidx M r1 r2 q) hbase h2 h5 ho he).imp fun σ H Q q => ?_
          simp only [evE, bnd1] at q
          exact q
        | index =>
          cases hb
          obtain ⟨a, rfl⟩ := len_one h3
          obtain ⟨e, rfl, he⟩ := hp.one
          simp only [List.all_cons, List.all_nil, Bool.and_true] at h2
          refine (den_mth1 (p := .index) (T := "list") (id := "list.index") F.plainAttrs_list F.slot_list_index F.type_list_index (mt_indexD g.un) (fun M r k => okRecv_idx M r k) (fun M r1 r2 q => ok_index M r1 r2 q) hbase h2 h5 ho he).imp fun σ H Q q => ?_
          simp only [evE, bnd1] at q
          exact q
        | dpop =>
          cases hb
          obtain ⟨a, b, rfl⟩ := len_two h3
          obtain ⟨e, f, rfl, he, hf⟩ := hp.two
          simp only [List.all_cons, List.all_nil, Bool.and_true, Bool.and_eq_true] at h2
          refine (den_mth2 (p := .dpop) (T := "dict") (id := "dict.pop") F.plainAttrs_dict F.slot_dict_pop F.type_dict_pop (DX.mt_popT (by have := g.un; omega)) (fun M r k => okRecv_dctC (.inr (.inl rfl)) M r k) (fun M r1 r2 r3 q => ok_dpop M r1 r2 r3 q) hbase h2.1 h2.2 h5 ho he hf).imp fun σ H Q q => ?_
          simp only [evE, bnd2] at q
          exact q
        | _ => simp [mthOf] at hb
      · cases h
    · cases h
  · cases h
theorem evL_one (cl : Cl) (e : E) : evL cl [e] = one (evE cl e) := by
  funext ds st
  simp only [evL, one]
  cases evE cl e ds st <;> rfl
theorem evL_two (cl : Cl) (e e2 : E) : evL cl [e, e2] = two (evE cl e) (evE cl e2) := by
  funext ds st
  simp only [evL, two]
  cases evE cl e ds st with
  | ok x s =>
    simp only [R.bind_ok]
    cases evE cl e2 ds s <;> rfl
  | exc _ _ => rfl
  | no => rfl
theorem src_ok (g : Good X xa W cl G) {tg : Expr} {k : SK} {es : List E} {ex : Expr} {as : List Expr} (h : argsI G.sc k ex = some as) (hk : k ≠ .itv) (hkx : k ≠ .itx) (hp : PEs X xa W cl es as) : SrcOk X xa W tg ex k (evL cl es) ∧ ∀ z, foldedSetIterable ex X.env z = pure z := by
  unfold argsI at h
  split at h
  · split at h
    · rename_i f p1 a pos
      split at h
      · rename_i hb
        cases h
        obtain ⟨e, rfl, he⟩ := hp.one
        simp only [Bool.and_eq_true, decide_eq_true_eq] at hb
        obtain ⟨⟨rfl, h2⟩, h3⟩ := hb
        rw [evL_one]
        exact ⟨src_rng1 (g.glob h2) (g.blt _ (by decide)) h3 he, fun _ => rfl⟩
      · cases h
    · cases h
  · split at h
    · rename_i f p1 a b pos
      split at h
      · rename_i hb
        cases h
        obtain ⟨e, f, rfl, he, hf⟩ := hp.two
        simp only [Bool.and_eq_true, decide_eq_true_eq] at hb
        obtain ⟨⟨⟨rfl, h2⟩, h3⟩, h4⟩ := hb
        rw [evL_two]
        exact ⟨src_rng2 (g.glob h2) (g.blt _ (by decide)) h3 h4 he hf, fun _ => rfl⟩
      · cases h
    · cases h
  · split at h
    · rename_i c f p1 a b i k p2 pos
      split at h
      · rename_i hb
        cases h
        obtain ⟨e, f, rfl, he, hf⟩ := hp.two
        simp only [Bool.and_eq_true, decide_eq_true_eq] at hb
        obtain ⟨⟨⟨⟨rfl, h2⟩, h3⟩, h4⟩, h5⟩ := hb
        rw [evL_two]
        exact ⟨src_rngc h5 (g.glob h2) (g.blt _ (by decide)) h3 h4 he hf, fun _ => rfl⟩
      · cases h
    · cases h
  · split at h
    · rename_i hb
      cases h
      obtain ⟨e, rfl, he⟩ := hp.one
      rw [evL_one]
      exact ⟨src_it he, fun z => noSet_fold hb _ z⟩
    · cases h
  · exact absurd rfl hk
  · exact absurd rfl hkx
theorem isIx_eq {src : List E} (h : isIx src = true) : ∃ i c, src = [.pr .ix [.var i, .k (.int c)]] := by
  unfold isIx at h
  split at h
  · exact ⟨_, _, rfl⟩
  · cases h
theorem ix_src (cl : Cl) (w : Nat) (c : Int) : LockSrc (evE cl (.pr .ix [.var w, .k (.int c)])) ∧ ∀ ds st e st', evE cl (.pr .ix [.var w, .k (.int c)]) ds st ≠ .exc e st' := by
  have key : ∀ ds st, evE cl (.pr .ix [.var w, .k (.int c)]) ds st = match ds[w]? with
      | some (some d) => prim2F .ix d (.int c) st
      | _ => .no := fun ds st => by
    simp only [evE, evL]
    rcases ds[w]? with _ | _ | d <;> simp [primF]
  have of_ok : ∀ {st st' : Store} {o : Option D} {d : D}, ofO st o = .ok d st' → o = some d ∧ st' = st := fun {st st' o d} h => by
    cases o with
    | none => simp [ofO] at h
    | some x => simp only [ofO_some, R.ok.injEq] at h; exact ⟨by rw [h.1], h.2.symm⟩
  have pl0 : plOf (.int c) = none := rfl
  refine ⟨fun ds st d st' h => ?_, fun ds st e st' h => ?_⟩
  · rw [key] at h
    split at h
    · rename_i x hx
      unfold prim2F at h
      simp only [pl0] at h
      cases x with
      | str s =>
        simp only at h
        split at h
        · obtain ⟨h1, rfl⟩ := of_ok h
          refine ⟨rfl, fun n xs e => ?_⟩
          obtain ⟨q, _, hq⟩ := Option.map_eq_some_iff.mp h1
          rw [e] at hq
          simp [oneS] at hq
        · simp at h
      | ref k =>
        simp only at h
        split at h
        · simp at h
        · rename_i hd
          split at h
          · rename_i ys j hs hj
            cases hj
            obtain ⟨h1, rfl⟩ := of_ok h
            refine ⟨rfl, fun n xs e hn => ?_⟩
            subst e
            rw [key, hx]
            unfold prim2F
            have hlen : n < st'.length := (List.getElem?_eq_some_iff.mp hn).1
            have e1 : dctOf (st'.set n (.lckL xs)) (.ref k) = none := by
              simp only [dctOf] at hd ⊢
              by_cases e : n = k
              · subst e; rw [List.getElem?_set_self hlen]
              · rw [List.getElem?_set_ne e]; exact hd
            have e2 : seqOf (st'.set n (.lckL xs)) (.ref k) = some ys := by
              simp only [seqOf, lstOf] at hs ⊢
              by_cases e : n = k
              · subst e; rw [List.getElem?_set_self hlen]; rw [hn] at hs; exact hs
              · rw [List.getElem?_set_ne e]; exact hs
            simp only [e1, e2, h1, ofO_some]
          · simp at h
      | _ =>
        first
        | (simp [dctOf, seqOf, lstOf] at h; done)
        | (simp only [dctOf, seqOf, lstOf, pl0] at h
           obtain ⟨h1, rfl⟩ := of_ok h
           refine ⟨rfl, fun n xs e hn => ?_⟩
           subst e
           rw [key, hx]
           simp only [prim2F, dctOf, seqOf, lstOf, pl0, h1, ofO_some])
    · simp at h
  · rw [key] at h
    have noexc : ∀ (o : Option D), (ofO st o : RE) ≠ .exc e st' := fun o => by cases o <;> simp [ofO]
    split at h
    · rename_i x hx
      unfold prim2F at h
      simp only [pl0] at h
      cases x with
      | str s =>
        simp only at h
        split at h
        · exact noexc _ h
        · simp at h
      | _ =>
        try simp only at h
        split at h
        · simp at h
        · split at h
          · exact noexc _ h
          · simp at h
    · simp at h
theorem evE_itx (cl : Cl) (m : Bool) (v : Nat) (elt cond e0 : E) : evE cl (.comp m v elt .itx [e0] cond) = fComp m (evE cl elt) (evE cl cond) v .itx (one (evE cl e0)) := by
  funext ds st
  simp only [evE]
  rw [evL_one]
  rfl
theorem isVar_eq {src : List E} (h : (isVar src).isSome = true) : ∃ i, src = [.var i] := by
  unfold isVar at h
  split at h
  · exact ⟨_, rfl⟩
  · cases h
theorem evE_var (cl : Cl) (i : Nat) : evE cl (.var i) = fvar i := by
  funext ds st
  simp only [evE, fvar] <;> rfl
theorem pt_ife {c a b : Expr} {pos : Pos} {tc ta tb : TT} (hc : PT X c tc) (ha : PT X a ta) (hb : PT X b tb) : PT X (.IfExp c a b pos) (fun σ H Q => tc σ H fun k H1 => if k = true then ta σ H1 Q else tb σ H1 Q) := by
  refine ⟨fun pins s σ H Q I h => ?_⟩
  refine isTrue_IfExp (thn (hc.run pins s σ H _ I h) fun k s1 ⟨H1, I1, q1⟩ => ?_)
  cases k with
  | true => exact ha.run pins s1 σ H1 Q I1 q1
  | false => exact hb.run pins s1 σ H1 Q I1 q1
theorem iteTT {fa fb fc : DS → Store → RE} {σ : L2.St} {H : Hp} {Q : Bool → Hp → Prop} (h : denT X.K xa W (fun ds st => (fc ds st).bind fun x st1 => match x with
    | .bl true => fa ds st1
    | .bl false => fb ds st1
    | _ => .no) σ H Q) : denT X.K xa W fc σ H fun k H1 => if k = true then denT X.K xa W fa σ H1 Q else denT X.K xa W fb σ H1 Q := by
  obtain ⟨ex, ρ, ds, st, M, S, q⟩ := h
  refine ⟨ex, ρ, ds, st, M, S, (PostV.bind q).imp fun v H1 ⟨x, st1, ρ1, e1, M1, r1, q1⟩ => ?_⟩
  split at q1
  · cases r1
    exact ⟨true, rfl, iteT ⟨ex, ρ1, ds, st1, M1, S.ext e1, q1⟩⟩
  · cases r1
    exact ⟨false, rfl, iteF ⟨ex, ρ1, ds, st1, M1, S.ext e1, q1⟩⟩
  · exact q1.elim
theorem pts_yes : PTs X [] (denT X.K xa W (evE cl (.k (.bl true)))) := ⟨fun pins s σ H Q I h => by
  refine pts_nil.run pins s σ H Q I ?_
  obtain ⟨ex, ρ, ds, st, M, S, q⟩ := h
  simp only [evE] at q
  obtain ⟨c, e, q1⟩ := q (.bl true) H ρ (Ext.refl _ _) M rfl
  cases e
  exact q1⟩
theorem blk_ok {N : List Str} {sc scope : Scope} {x : Str} {v : Nat} (h : blkB N sc scope x v = true) : BlkOk N sc scope [(x, v)] ∧ N[v]? = some x ∧ locB scope x = true := by
  unfold blkB at h
  simp only [Bool.and_eq_true, decide_eq_true_eq, List.all_eq_true, Bool.or_eq_true, Bool.not_eq_true', Bool.or_eq_false_iff, decide_eq_false_iff_not] at h
  obtain ⟨⟨⟨⟨⟨h1, h2⟩, h3⟩, h4⟩, h5⟩, h6⟩ := h
  refine ⟨⟨h1, h2, fun p hp => ?_, fun y hy e => ?_, fun y hy e => ?_⟩, h3, h6⟩
  · rw [List.mem_singleton.mp hp]; exact h3
  · rcases h4 y hy with (q | q) | q
    · exact absurd e q
    · exact .inl q
    · exact .inr q
  · rcases h5 y hy with (q | q) | q
    · exact absurd e (by rcases e with e | e <;> simp_all)
    · exact .inl (by simp [q])
    · exact .inr q
theorem look_rel {sc : Scope} {x : Str} : ∀ {names : List (Str × NameKind)}, (names.lookup x = some .local → (names.map fun (n, k) => if (k == .free && sc.kind == .function && sc.names.lookup n == some .cell) = true then (n, NameKind.cell) else (n, k)).lookup x = some .local) ∧
    (names.lookup x = some .cell → (names.map fun (n, k) => if (k == .free && sc.kind == .function && sc.names.lookup n == some .cell) = true then (n, NameKind.cell) else (n, k)).lookup x = some .cell)
  | [] => ⟨fun h => by simp at h, fun h => by simp at h⟩
  | (n, k) :: r => by
    have ih := look_rel (sc := sc) (x := x) (names := r)
    rw [List.map_cons]
    cases hx : x == n with
    | true =>
      refine ⟨fun h => ?_, fun h => ?_⟩
      · simp only [List.lookup_cons, hx] at h
        cases h
        simp [List.lookup_cons, hx]
      · simp only [List.lookup_cons, hx] at h
        cases h
        simp [List.lookup_cons, hx]
    | false =>
      simp only [List.lookup_cons, hx]
      by_cases hc : (k == NameKind.free && sc.kind == .function && sc.names.lookup n == some .cell) = true
      · rw [if_pos hc]; simp only [List.lookup_cons, hx]; exact ih
      · rw [if_neg hc]; simp only [List.lookup_cons, hx]; exact ih
theorem takes0N {X : Cx} : L2N.Takes X (fun _ _ _ _ => False) := fun _ _ x => by
  obtain ⟨_, _, _, _, _, _, _, _, _, _, _, _, _, _, _, _, z⟩ := x
  exact z.elim
theorem Good.blk (g : Good X xa W cl G) {scope : Scope} (s : Shared) (H : Hp) (C : Addr) (cl' : List (Str × Addr)) (fp : List Addr) : Good (X.blk s H scope (compEnvC scope cl' C X.env) fp) xa W0 cl { G with sc := relS scope G.sc } where
  names := g.names
  nd := g.nd
  sc := by
    show relabel scope X.env = _
    rw [← g.sc]
    rfl
  calm := g.calm
  un2 := g.un2
  blt := g.blt
  gl := g.gl
  fn := fun f x np h => ⟨(g.fn f x np h).ex⟩
  tk := takes0N
  hotf := fun f x h => ⟨(g.hotf f x h).ex⟩
  xc := fun c h => ⟨(g.xc c h).glo, (g.xc c h).own, (g.xc c h).ec, (g.xc c h).ve, (g.xc c h).bad, (g.xc c h).mk2⟩
  xm := g.xm
  rm := g.rm
theorem Good.blkG (g : Good X xa W cl G) {scope : Scope} {x : Str} {v : Nat} {tgp : Pos} (h3 : G.N[v]? = some x) (h6 : locB scope x = true) (s : Shared) (H : Hp) (C : Addr) (cl' : List (Str × Addr)) (fp : List Addr) :
    PG (X.blk s H scope (compEnvC scope cl' C X.env) fp) (.Name x tgp) (gName v) := by
  have e : (X.blk s H scope (compEnvC scope cl' C X.env) fp).env.scope.names = (scope.names.map fun (n, k) => if (k == .free && X.env.scope.kind == .function && X.env.scope.names.lookup n == some .cell) = true then (n, NameKind.cell) else (n, k)) := rfl
  have hl := look_rel (sc := X.env.scope) (x := x) (names := scope.names)
  rcases loc_of h6 with q | q
  · refine pg_name g.nd (by show X.N[v]? = _; rw [g.names]; exact h3) (.inl ?_) (.inr ?_)
    · rw [e]; exact hl.1 q
    · rw [e]; exact hl.1 q
  · refine pg_name g.nd (by show X.N[v]? = _; rw [g.names]; exact h3) (.inr ?_) (.inl ?_)
    · rw [e]; exact hl.2 q
    · show (scope.names.lookup x == some .cell) = true
      rw [q]; rfl
end
end MP
end
section
set_option maxRecDepth 100000
set_option maxHeartbeats 8000000
namespace MP
open PySem PySem.Spec PyProof.Rows L2
def plainT (ex : Expr) : Bool := match ex with
  | .UnaryOp .Not _ _ => false
  | .BoolOp _ _ _ => false
  | .IfExp _ _ _ _ => false
  | .Compare _ _ _ _ => false
  | _ => true
def isBoolOp (ex : Expr) : Bool := match ex with
  | .BoolOp _ _ _ => true
  | _ => false
theorem plainT_is {ex : Expr} (h : plainT ex = true) (env : Env) (whole : Sem Value) : isTrue ex env whole = (do let v ← whole; standAt ex.pos; holding [v] (truthy v)) := by
  cases ex <;> first | rfl | (simp [plainT] at h; done) | skip
  rename_i op a pos
  cases op <;> first | rfl | (simp [plainT] at h)
section
variable {X : Cx} {xa : XA} {W : WX} {cl : Cl} {G : Gam}
theorem primT_ok (g : Good X xa W cl G) {p : P} {es : List E} {ex : Expr} {as : List Expr} (h : argsP G.sc p ex = some as) (hp : PEs X xa W cl es as) : PT X ex (denT X.K xa W fun ds st => (evL cl es ds st).bind fun xs st' => primF p xs st') := by
  by_cases hn : plainT ex = true
  · exact den_tests (prim_ok g h hp) (fun whole => plainT_is hn _ _)
  · unfold argsP at h
    split at h
    · split at h
      · exact absurd rfl hn
      · rename_i l op r pos
        split at h
        · rename_i hb
          cases h
          obtain ⟨e, f, rfl, he, hf⟩ := hp.two
          obtain ⟨rr, h1, h2⟩ := cmp_ok (X := X) g.un2 hb.1
          refine (pt_cmpR (pos := pos) h1 he hf (noSet_hm hb.2 _)).imp fun σ H Q q => ?_
          simp only [bnd2] at q
          exact den_two q fun ex H2 ρ2 st2 x y v u M r1 r2 q => h2 M r1 r2 q
        · cases h
      · cases h
    · split at h
      · exact absurd rfl hn
      · cases h
    · split at h
      · rename_i a k p2 pos
        cases h
        obtain ⟨e, rfl, he⟩ := hp.one
        refine (pt_cmp (pos := pos) (pc_isN he) rfl).imp fun σ H Q q => ?_
        simp only [bnd1] at q
        refine den_one (g := fun x st1 => prim1F .isn x st1) q fun ex H2 ρ2 st2 x v M r q => ?_
        cases x with
        | non => cases r; exact q _ _ _ (Ext.refl _ _) M rfl
        | bl k => cases r; exact q _ _ _ (Ext.refl _ _) M rfl
        | int k => cases r; exact q _ _ _ (Ext.refl _ _) M rfl
        | str k => obtain ⟨rfl, _⟩ := r; exact q _ _ _ (Ext.refl _ _) M rfl
        | tup k => obtain ⟨p, vs, rfl, _⟩ := r; exact q _ _ _ (Ext.refl _ _) M rfl
        | lst k => obtain ⟨p, vs, rfl, _⟩ := r; exact q _ _ _ (Ext.refl _ _) M rfl
        | dct k => obtain ⟨p, vs, rfl, _⟩ := r; exact q _ _ _ (Ext.refl _ _) M rfl
        | scr k => obtain ⟨p, rfl, _⟩ := r; exact q _ _ _ (Ext.refl _ _) M rfl
        | exc k j => obtain ⟨p, oe, rfl, _⟩ := r; exact q _ _ _ (Ext.refl _ _) M rfl
        | ref k => obtain ⟨p, _, rfl⟩ := r; exact q _ _ _ (Ext.refl _ _) M rfl
      · cases h
    · split at h
      · rename_i a k p2 pos
        cases h
        obtain ⟨e, rfl, he⟩ := hp.one
        refine (pt_cmp (pos := pos) (pc_notN he) rfl).imp fun σ H Q q => ?_
        simp only [bnd1] at q
        refine den_one (g := fun x st1 => prim1F .notn x st1) q fun ex H2 ρ2 st2 x v M r q => ?_
        cases x with
        | non => cases r; exact q _ _ _ (Ext.refl _ _) M rfl
        | bl k => cases r; exact q _ _ _ (Ext.refl _ _) M rfl
        | int k => cases r; exact q _ _ _ (Ext.refl _ _) M rfl
        | str k => obtain ⟨rfl, _⟩ := r; exact q _ _ _ (Ext.refl _ _) M rfl
        | tup k => obtain ⟨p, vs, rfl, _⟩ := r; exact q _ _ _ (Ext.refl _ _) M rfl
        | lst k => obtain ⟨p, vs, rfl, _⟩ := r; exact q _ _ _ (Ext.refl _ _) M rfl
        | dct k => obtain ⟨p, vs, rfl, _⟩ := r; exact q _ _ _ (Ext.refl _ _) M rfl
        | scr k => obtain ⟨p, rfl, _⟩ := r; exact q _ _ _ (Ext.refl _ _) M rfl
        | exc k j => obtain ⟨p, oe, rfl, _⟩ := r; exact q _ _ _ (Ext.refl _ _) M rfl
        | ref k => obtain ⟨p, _, rfl⟩ := r; exact q _ _ _ (Ext.refl _ _) M rfl
      · cases h
    · split at h
      · exact absurd rfl hn
      · cases h
    · split at h
      · exact absurd rfl hn
      · cases h
    · split at h
      · exact absurd rfl hn
      · cases h
    · split at h
      · exact absurd rfl hn
      · cases h
    · split at h
      · exact absurd rfl hn
      · cases h
    · split at h
      · exact absurd rfl hn
      · cases h
    · split at h
      · exact absurd rfl hn
      · cases h
    · split at h
      · exact absurd rfl hn
      · cases h
    · split at h
      · exact absurd rfl hn
      · cases h
    · split at h
      · exact absurd rfl hn
      · cases h
    · split at h
      · exact absurd rfl hn
      · cases h
    · obtain ⟨x, n, p1, pos, _, rfl, _⟩ := blt_args h
      exact absurd rfl hn
theorem chain_den {fa fb fc : DS → Store → RE} {o o' : Op} {r r' : R2} (ok : OpOk X.K o r) (ok' : OpOk X.K o' r') {σ : L2.St} {H : Hp} {Q : Bool → Hp → Prop}
    (h : denT X.K xa W (fun ds st => (fa ds st).bind fun x st1 => (fb ds st1).bind fun y st2 => (opF o x y st2).bind fun z st3 => match z with
    | .bl true => (fc ds st3).bind fun w st4 => opF o' y w st4
    | .bl false => .ok (.bl false) st3
    | _ => .no) σ H Q) : tTest (tChain r r' (denE X.K xa W fa) (denE X.K xa W fb) (denE X.K xa W fc)) σ H Q := by
  obtain ⟨ex, ρ, ds, st, M, S, q⟩ := h
  refine ⟨ex, ρ, ds, st, M, S, (PostV.bind q).imp fun v H1 ⟨x, st1, ρ1, e1, M1, r1, q1⟩ => ?_⟩
  refine ⟨ex, ρ1, ds, st1, M1, S.ext e1, (PostV.bind q1).imp fun u H2 ⟨y, st2, ρ2, e2, M2, r2, q2⟩ => ?_⟩
  refine ok M2 (r1.ext e2) r2 ((PostV.bind q2).imp fun z H3 ⟨k, st3, ρ3, e3, M3, r3, q3⟩ => ?_)
  split at q3
  · cases r3
    refine ⟨true, rfl, ?_⟩
    rw [if_pos rfl]
    exact ⟨ex, ρ3, ds, st3, M3, ((S.ext e1).ext e2).ext e3, (PostV.bind q3).imp fun w H4 ⟨l, st4, ρ4, e4, M4, r4, q4⟩ => ok' M4 ((r2.ext e3).ext e4) r4 q4⟩
  · cases r3
    refine ⟨false, rfl, ?_⟩
    rw [if_neg Bool.false_ne_true]
    exact q3 (.bl false) H3 ρ3 (Ext.refl _ _) M3 rfl
  · exact q3.elim
theorem pe_bool1 {op : BoolOp} {b : Expr} {pos : Pos} {t : TE} (h : PE X b t) : PE X (.BoolOp op [b] pos) t := ⟨fun pins s σ H Q I q => BoolOp_one (h.run pins s σ H Q I q)⟩
theorem methT {p : P} {ex ob : Expr} {as : List Expr} (h : argsM p ex = some (ob, as)) : plainT ex = true := by
  unfold argsM at h
  split at h
  · split at h
    · rfl
    · cases h
  · cases h
def Shown (X : Cx) (xa : XA) (W : WX) (cl : Cl) (e : E) (ex : Expr) : Prop :=
  PE X ex (denE X.K xa W (evE cl e)) ∧ PT X ex (denT X.K xa W (evE cl e)) ∧ (isBoolOp ex = true → PW X ex (denT X.K xa W (evE cl e)))
theorem Shown.plain {e : E} {ex : Expr} (h : plainT ex = true) (p : PE X ex (denE X.K xa W (evE cl e))) : Shown X xa W cl e ex :=
  ⟨p, den_tests p (fun whole => plainT_is h _ _), fun q => by cases ex <;> simp [plainT, isBoolOp] at h q⟩
theorem k_ok {d : D} {c : Const} {j : Nat} {pos : Pos} (h : sameC d c = true) : PE X (.Constant c j pos) (denE X.K xa W fun _ st => .ok d st) := by
  unfold sameC at h
  split at h
  · exact den_val pe_non fun _ _ _ => rfl
  · rename_i a b
    have : a = b := by simpa using h
    subst this
    exact den_val pe_bl fun _ _ _ => rfl
  · rename_i a b
    have : a = b := by simpa using h
    subst this
    exact den_val pe_int fun _ _ _ => rfl
  · rename_i s t
    simp only [Bool.and_eq_true, decide_eq_true_eq, List.all_eq_true] at h
    obtain ⟨rfl, h2⟩ := h
    refine den_val pe_str fun _ _ _ => ⟨?_, fun c hc => h2 c hc⟩
    show V.str t = V.str ⟨t.cps.toList.toArray⟩
    rw [Array.toArray_toList]
  · cases h
theorem call_ok {raw : Bool} (g : Good X xa W cl G) {f n : Nat} {x : Str} {es : List E} {as : List Expr} {p1 pos : Pos} (hf : G.fn f = some (x, n)) (hg : gloB G.sc x = true) (hx : okName x = true) (ha : as.all plainArg = true) (hl : as.length = n) (hp : PEs X xa W cl es as) :
    PE X (.Call (.Name x p1) as [] pos) (denE X.K xa W fun ds st => (evL cl es ds st).bind fun xs st' => pcall cl f raw xs st') := by
  have F := g.fn f x n hf
  have key : ∀ {ex : Addr → Prop} {H : Hp} {ρ : List Addr} {st : Store} {σ : L2.St} {Q : VK} {xs : List D} {vs : List V}, Mem X.K ex H ρ st → Reps X.K ex H ρ xs vs → PostV X.K ex H ρ (pcall cl f raw xs st) (xOf xa W σ) Q → CallOk X.K cl f vs H Q (fun e H' => ∀ cls dd, xa e cls dd H' → W cls dd σ H') :=
    fun M r q => (pcall_ok M r q).imp fun e H' ⟨_, _, q⟩ => q
  cases as with
  | nil =>
    match es, hp with
    | [], _ =>
      refine (den_call0 (g := fun st => pcall cl f raw [] st) F g.tk (g.glob hg) (okName_of hx).1 hl.symm fun {ex H ρ st σ Q} M q => key M (show Reps X.K ex H ρ [] [] from rfl) q).imp fun σ H Q q => ?_
      simp only [evL, R.bind_ok] at q
      exact q
  | cons a as =>
    refine den_callN (g := fun xs st => pcall cl f raw xs st) F g.tk (g.glob hg) (okName_of hx).1 hl ha (hp.pa ha) (fun ds st xs st' h => ?_) fun M r q => key M r q
    rw [evL_len cl es ds st xs st' h, hp.length]
    exact hl
theorem callX_ok {k : Nat} (g : Good X xa W cl G) {f n : Nat} {x : Str} {es : List E} {as : List Expr} {p1 pos : Pos} (hf : G.fn f = some (x, n)) (hg : gloB G.sc x = true) (hx : okName x = true) (ha : as.all plainArg = true) (hl : as.length = n) (hp : PEs X xa W cl es as) :
    PE X (.Call (.Name x p1) as [] pos) (denE X.K xa W fun ds st => (evL cl es ds st).bind fun xs st' => xcall k cl f xs st') := by
  have F := g.fn f x n hf
  have key : ∀ {ex : Addr → Prop} {H : Hp} {ρ : List Addr} {st : Store} {σ : L2.St} {Q : VK} {xs : List D} {vs : List V}, Mem X.K ex H ρ st → Reps X.K ex H ρ xs vs → PostV X.K ex H ρ (xcall k cl f xs st) (xOf xa W σ) Q → CallOk X.K cl f vs H Q (fun e H' => ∀ cls dd, xa e cls dd H' → W cls dd σ H') :=
    fun M r q => (xcall_ok M r q).imp fun e H' ⟨_, _, q⟩ => q
  cases as with
  | nil =>
    match es, hp with
    | [], _ =>
      refine (den_call0 (g := fun st => xcall k cl f [] st) F g.tk (g.glob hg) (okName_of hx).1 hl.symm fun {ex H ρ st σ Q} M q => key M (show Reps X.K ex H ρ [] [] from rfl) q).imp fun σ H Q q => ?_
      simp only [evL, R.bind_ok] at q
      exact q
  | cons a as =>
    refine den_callN (g := fun xs st => xcall k cl f xs st) F g.tk (g.glob hg) (okName_of hx).1 hl ha (hp.pa ha) (fun ds st xs st' h => ?_) fun M r q => key M r q
    rw [evL_len cl es ds st xs st' h, hp.length]
    exact hl
theorem callM_ok (g : Good X xa W cl G) {f n : Nat} {x : Str} {es : List E} {as : List Expr} {p1 pos : Pos} (hf : G.fn f = some (x, n)) (hg : gloB G.sc x = true) (hx : okName x = true) (ha : as.all plainArg = true) (hl : as.length = n) (hp : PEs X xa W cl es as) :
    PE X (.Call (.Name x p1) as [] pos) (denE X.K xa W fun ds st => (evL cl es ds st).bind fun xs st' => cl f xs st') := by
  have F := g.fn f x n hf
  have key : ∀ {ex : Addr → Prop} {H : Hp} {ρ : List Addr} {st : Store} {σ : L2.St} {Q : VK} {xs : List D} {vs : List V}, Mem X.K ex H ρ st → Reps X.K ex H ρ xs vs → PostV X.K ex H ρ (cl f xs st) (xOf xa W σ) Q → CallOk X.K cl f vs H Q (fun e H' => ∀ cls dd, xa e cls dd H' → W cls dd σ H') :=
    fun {ex H ρ st σ Q xs vs} M r q => ⟨ex, ρ, st, xs, M, r, q⟩
  cases as with
  | nil =>
    match es, hp with
    | [], _ =>
      refine (den_call0 (g := fun st => cl f [] st) F g.tk (g.glob hg) (okName_of hx).1 hl.symm fun {ex H ρ st σ Q} M q => key M (show Reps X.K ex H ρ [] [] from rfl) q).imp fun σ H Q q => ?_
      simp only [evL, R.bind_ok] at q
      exact q
  | cons a as =>
    refine den_callN (g := fun xs st => cl f xs st) F g.tk (g.glob hg) (okName_of hx).1 hl ha (hp.pa ha) (fun ds st xs st' h => ?_) fun M r q => key M r q
    rw [evL_len cl es ds st xs st' h, hp.length]
    exact hl
end
section
variable {X : Cx} {xa : XA} {W : WX} {cl : Cl} {G : Gam}
theorem pes_len : ∀ {es : List E} {xs : List Expr}, PEs X xa W cl es xs → es.length = xs.length
  | [], [], _ => rfl
  | _ :: es, _ :: xs, h => by rw [List.length_cons, List.length_cons, pes_len h.2]
  | [], _ :: _, h => h.elim
  | _ :: _, [], h => h.elim
theorem boot_VEx : bootBuiltins "ValueError" = some (.type "ValueError") := by decide +kernel
theorem mkx_ok (g : Good X xa W cl G) {c : Nat} {x : Str} {p pos : Pos} {as : List Expr} {es : List E} (h1 : clsB G c x = true) (h2 : as.all plainArg = true) (h3 : (decide (as.length = 1) || (decide (c = 2) && decide (as.length = 2))) = true) (hp : PEs X xa W cl es as) :
    PE X (.Call (.Name x p) as [] pos) (denE X.K xa W (evE cl (.mkx c es))) := by
  unfold clsB at h1
  simp only [Bool.and_eq_true, Bool.or_eq_true, decide_eq_true_eq] at h1 h3
  obtain ⟨⟨⟨⟨c1, c2⟩, c3⟩, c4⟩, c5⟩ := h1
  have hg : Gl X x := by
    show X.env.scope.names.lookup _ = _
    rw [g.sc]
    exact glo_of c4
  cases as with
  | nil => simp at h3
  | cons a0 as =>
    by_cases hc : c = 2
    · subst hc
      refine (den_mkx2 (fs := evL cl es) c3 (g.xc 2 c2) g.rm hg (okName_of c5).1 h2 (by rcases h3 with h3 | h3; exact .inl h3; exact .inr h3.2) (hp.pa h2) fun ds st xs st' q => ?_).imp fun σ H Q q => ?_
      · rw [evL_len cl es ds st xs st' q, pes_len hp]
      · simp only [evE] at q
        exact q
    · have h3 : (a0 :: as).length = 1 := h3.resolve_right fun q => hc q.1
      have : as = [] := by simpa using h3
      subst this
      obtain ⟨e, rfl, he⟩ := hp.one
      rw [List.all_cons, Bool.and_eq_true] at h2
      refine (den_mkx1 hc c1 c3 (g.xc c c2) hg (okName_of c5).1 h2.1 he).imp fun σ H Q q => ?_
      simp only [evE, bnd1] at q
      exact q
theorem isx_ok (g : Good X xa W cl G) {c : Nat} {f y : Str} {p1 p3 pos : Pos} {x : Expr} {a : E}
    (h : ((List.range 9).all (fun k => decide (k ∈ G.exs)) && decide (f = "isinstance") && gloB G.sc f && plainArg x && gloB G.sc y && okName y && ((decide (c < 9) && decide (c ∈ G.exs) && decide (y = clsName c)) || (decide (c = 9) && decide (y = "ValueError")))) = true)
    (he : PE X x (denE X.K xa W (evE cl a))) : PE X (.Call (.Name f p1) [x, .Name y p3] [] pos) (denE X.K xa W (evE cl (.isx c a))) := by
  simp only [Bool.and_eq_true, Bool.or_eq_true, decide_eq_true_eq, List.all_eq_true] at h
  obtain ⟨⟨⟨⟨⟨⟨h0, rfl⟩, h2⟩, h3⟩, h4⟩, h5⟩, h6⟩ := h
  have gl : ∀ {z : Str}, gloB G.sc z = true → Gl X z := fun hz => by
    show X.env.scope.names.lookup _ = _
    rw [g.sc]
    exact glo_of hz
  have h9 : ∀ k, k < 9 → k ∈ G.exs := fun k hk => h0 k (List.mem_range.mpr hk)
  rcases h6 with ⟨⟨h6, h7⟩, rfl⟩ | ⟨rfl, rfl⟩
  · refine (den_isx (pos := pos) (p1 := p1) (c := c) (w := .ref (He.ga X.K (clsName c))) (cv := .ref (He.ga X.K (clsName c))) (gl h2) (g.blt _ (by decide)) (pe_glob (gl h4) (g.xc c h7).glo rfl (okName_of h5).1) (fun u r => r) h3 he fun k hk => ⟨(g.xc k (h9 k hk)).ec, g.xm k (h9 k hk) c h7⟩).imp fun σ H Q q => ?_
    simp only [evE] at q
    exact q
  · refine (den_isx (pos := pos) (p1 := p1) (c := 9) (w := .ty "ValueError") (cv := .type "ValueError") (gl h2) (g.blt _ (by decide)) (pe_bltn (gl h4) (g.blt _ (by decide)) boot_VEx rfl (by decide) (by decide)) (fun u r => r) h3 he fun k hk => ⟨(g.xc k (h9 k hk)).ec, ?_⟩).imp fun σ H Q q => ?_
    · rw [(g.xc k (h9 k hk)).ve]
      rfl
    · simp only [evE] at q
      exact q
end
mutual
theorem sndE {xa : XA} {cl : Cl} : ∀ (e : E) {X : Cx} {W : WX} {G : Gam}, Good X xa W cl G → ∀ {ex : Expr}, chkE G e ex = true → Shown X xa W cl e ex
  | .var i, X, W, G, g, ex, h => by
    simp only [chkE] at h
    split at h
    · rename_i x pos
      simp only [Bool.and_eq_true, decide_eq_true_eq] at h
      obtain ⟨⟨h1, h2⟩, h3⟩ := h
      have hv : Vis X.env.scope x := by rw [g.sc]; exact vis_of h2
      refine .plain rfl ((den_var (pe_var (by rw [g.names]; exact h1) hv (okName_of h3).1 (okName_of h3).2.1) (xa := xa) (W := W)).imp (t' := denE X.K xa W (evE cl (.var i))) fun σ H Q q => ?_)
      simp only [evE] at q
      exact q
    · cases h
  | .k d, X, W, G, g, ex, h => by
    simp only [chkE] at h
    split at h
    · refine .plain rfl ((k_ok (xa := xa) (W := W) h).imp fun σ H Q q => ?_)
      simp only [evE] at q
      exact q
    · cases h
  | .glob x d, X, W, G, g, ex, h => by
    simp only [chkE] at h
    split at h
    · rename_i y pos
      simp only [Bool.and_eq_true, decide_eq_true_eq] at h
      obtain ⟨⟨⟨rfl, h2⟩, h3⟩, h4⟩ := h
      split at h4
      · rename_i d' hd
        have := sameD_eq h4
        subst this
        obtain ⟨v, u, q1, q2, q3⟩ := g.gl _ _ hd
        refine .plain rfl ((den_val (d := d) (xa := xa) (W := W) (pe_glob (g.glob h2) q1 q2 (okName_of h3).1) q3).imp fun σ H Q q => ?_)
        simp only [evE] at q
        exact q
      · cases h4
    · cases h
  | .pr p es, X, W, G, g, ex, h => by
    simp only [chkE] at h
    split at h
    · rename_i as ha
      have hp := sndL es g h
      refine ⟨(prim_ok g ha hp).imp fun σ H Q q => ?_, (primT_ok g ha hp).imp fun σ H Q q => ?_, fun q => ?_⟩
      · simp only [evE] at q; exact q
      · simp only [evE] at q; exact q
      · exfalso
        unfold argsP at ha
        cases ex <;> simp [isBoolOp] at q
        split at ha <;> first | (simp at ha; done) | (obtain ⟨x, n, p1, pos, _, q2, _⟩ := blt_args ha; cases q2)
    · cases h
  | .mth p o es, X, W, G, g, ex, h => by
    simp only [chkE] at h
    split at h
    · rename_i ob as ha
      rw [Bool.and_eq_true] at h
      exact .plain (methT ha) (meth_ok g ha (sndE o g h.1).1 (sndL es g h.2))
    · cases h
  | .slc m hl hh a lo hi, X, W, G, g, ex, h => by
    simp only [chkE] at h
    split at h
    · rename_i x l hc p2 pos
      simp only [Bool.and_eq_true] at h
      obtain ⟨⟨h1, h2⟩, h3⟩ := h
      have plo : PartOk X xa W hl l (evE cl lo) := by
        cases l with
        | none => simp only [Bool.not_eq_true'] at h2; subst h2; exact part_none
        | some y => simp only [Bool.and_eq_true] at h2; obtain ⟨h2, h4⟩ := h2; subst h2; exact part_some (sndE lo g h4).1
      have phi : PartOk X xa W hh hc (evE cl hi) := by
        cases hc with
        | none => simp only [Bool.not_eq_true'] at h3; subst h3; exact part_none
        | some y => simp only [Bool.and_eq_true] at h3; obtain ⟨h3, h4⟩ := h3; subst h3; exact part_some (sndE hi g h4).1
      refine .plain rfl ((den_slc (m := m) (pos := pos) (p2 := p2) (sndE a g h1).1 plo phi).imp fun σ H Q q => ?_)
      simp only [evE] at q
      exact q
    · cases h
  | .and a b, X, W, G, g, ex, h => by
    simp only [chkE] at h
    split at h
    · rename_i x y pos
      rw [Bool.and_eq_true] at h
      obtain ⟨a1, a2, a3⟩ := sndE a g h.1
      obtain ⟨b1, b2, b3⟩ := sndE b g h.2
      have w := (pt_den_and (pos := pos) a2 (pw_and1 (pos := pos) b2)).imp (t' := denT X.K xa W (evE cl (.and a b))) fun σ H Q q => by simp only [evE] at q; exact q
      exact ⟨(den_and (pos := pos) a1 (pe_bool1 b1)).imp fun σ H Q q => by simp only [evE] at q; exact q, w.pt, fun _ => w⟩
    · rename_i x y z r pos
      rw [Bool.and_eq_true] at h
      obtain ⟨a1, a2, a3⟩ := sndE a g h.1
      obtain ⟨b1, b2, b3⟩ := sndE b g h.2
      have w := (pt_den_and (pos := pos) a2 (b3 rfl)).imp (t' := denT X.K xa W (evE cl (.and a b))) fun σ H Q q => by simp only [evE] at q; exact q
      exact ⟨(den_and (pos := pos) a1 b1).imp fun σ H Q q => by simp only [evE] at q; exact q, w.pt, fun _ => w⟩
    · cases h
  | .or a b, X, W, G, g, ex, h => by
    simp only [chkE] at h
    split at h
    · rename_i x y pos
      rw [Bool.and_eq_true] at h
      obtain ⟨a1, a2, a3⟩ := sndE a g h.1
      obtain ⟨b1, b2, b3⟩ := sndE b g h.2
      have w := (pt_den_or (pos := pos) a2 (pw_or1 (pos := pos) b2)).imp (t' := denT X.K xa W (evE cl (.or a b))) fun σ H Q q => by simp only [evE] at q; exact q
      exact ⟨(den_or (pos := pos) a1 (pe_bool1 b1)).imp fun σ H Q q => by simp only [evE] at q; exact q, w.pt, fun _ => w⟩
    · rename_i x y z r pos
      rw [Bool.and_eq_true] at h
      obtain ⟨a1, a2, a3⟩ := sndE a g h.1
      obtain ⟨b1, b2, b3⟩ := sndE b g h.2
      have w := (pt_den_or (pos := pos) a2 (b3 rfl)).imp (t' := denT X.K xa W (evE cl (.or a b))) fun σ H Q q => by simp only [evE] at q; exact q
      exact ⟨(den_or (pos := pos) a1 b1).imp fun σ H Q q => by simp only [evE] at q; exact q, w.pt, fun _ => w⟩
    · cases h
  | .not a, X, W, G, g, ex, h => by
    simp only [chkE] at h
    split at h
    · rename_i x pos
      obtain ⟨a1, a2, a3⟩ := sndE a g h
      exact ⟨(den_not (pos := pos) a1).imp fun σ H Q q => by simp only [evE] at q; exact q, (pt_den_not (pos := pos) a2).imp fun σ H Q q => by simp only [evE] at q; exact q, fun q => by simp [isBoolOp] at q⟩
    · cases h
  | .ife c a b, X, W, G, g, ex, h => by
    simp only [chkE] at h
    split at h
    · rename_i x y z pos
      simp only [Bool.and_eq_true] at h
      obtain ⟨c1, c2, c3⟩ := sndE c g h.1.1
      obtain ⟨a1, a2, a3⟩ := sndE a g h.1.2
      obtain ⟨b1, b2, b3⟩ := sndE b g h.2
      exact ⟨(den_ife (pos := pos) c2 a1 b1).imp fun σ H Q q => by simp only [evE] at q; exact q, (pt_ife (pos := pos) c2 a2 b2).imp fun σ H Q q => by simp only [evE] at q; exact iteTT q, fun q => by simp [isBoolOp] at q⟩
    · cases h
  | .chain o o' a b c, X, W, G, g, ex, h => by
    simp only [chkE] at h
    split at h
    · rename_i x op op' y z pos
      simp only [Bool.and_eq_true, decide_eq_true_eq] at h
      obtain ⟨⟨⟨⟨⟨h1, h2⟩, h3⟩, h4⟩, h5⟩, h6⟩ := h
      obtain ⟨a1, a2, a3⟩ := sndE a g h4
      obtain ⟨b1, b2, b3⟩ := sndE b g h5
      obtain ⟨c1, c2, c3⟩ := sndE c g h6
      obtain ⟨r, k1, k2⟩ := cmp_ok (X := X) g.un2 h1
      obtain ⟨r', k3, k4⟩ := cmp_ok (X := X) g.un2 h2
      have hm : lastMarks [op, op'] [y, z] = false := noSet_hm h3 op'
      refine ⟨(den_chain (pos := pos) k1 k3 k2 k4 a1 b1 c1 hm).imp fun σ H Q q => by simp only [evE] at q; exact q, (pt_chain (pos := pos) k1 k3 a1 b1 c1 hm).imp fun σ H Q q => ?_, fun q => by simp [isBoolOp] at q⟩
      simp only [evE] at q
      exact chain_den k2 k4 q
    · cases h
  | .call f raw es, X, W, G, g, ex, h => by
    simp only [chkE] at h
    split at h
    · rename_i x p1 as pos
      split at h
      · rename_i y n hf
        simp only [Bool.and_eq_true, decide_eq_true_eq] at h
        obtain ⟨⟨⟨⟨⟨rfl, h2⟩, h3⟩, h4⟩, h5⟩, h6⟩ := h
        refine .plain rfl ((call_ok (raw := raw) g hf h2 h3 h4 h5 (sndL es g h6)).imp fun σ H Q q => ?_)
        simp only [evE] at q
        exact q
      · cases h
    · cases h
  | .callM f es, X, W, G, g, ex, h => by
    simp only [chkE] at h
    split at h
    · rename_i x p1 as pos
      split at h
      · rename_i y n hf
        simp only [Bool.and_eq_true, decide_eq_true_eq] at h
        obtain ⟨⟨⟨⟨⟨rfl, h2⟩, h3⟩, h4⟩, h5⟩, h6⟩ := h
        refine .plain rfl ((callM_ok g hf h2 h3 h4 h5 (sndL es g h6)).imp fun σ H Q q => ?_)
        simp only [evE] at q
        exact q
      · cases h
    · cases h
  | .callX k f es, X, W, G, g, ex, h => by
    simp only [chkE] at h
    split at h
    · rename_i x p1 as pos
      split at h
      · rename_i y n hf
        simp only [Bool.and_eq_true, decide_eq_true_eq] at h
        obtain ⟨⟨⟨⟨⟨rfl, h2⟩, h3⟩, h4⟩, h5⟩, h6⟩ := h
        refine .plain rfl ((callX_ok (k := k) g hf h2 h3 h4 h5 (sndL es g h6)).imp fun σ H Q q => ?_)
        simp only [evE] at q
        exact q
      · cases h
    · cases h
  | .comp m v elt k src cond, X, W, G, g, ex, h => by
    simp only [chkE] at h
    split at h
    · rename_i el x tgp iter ifs scope pos
      split at h
      · rename_i as ha
        simp only [Bool.and_eq_true] at h
        obtain ⟨⟨⟨⟨h1, h2⟩, h3⟩, h4⟩, h5⟩ := h
        obtain ⟨b1, b2, b3⟩ := blk_ok h2
        have B : Blk X xa x tgp v el ifs scope (evE cl elt) (evE cl cond) := by
          refine ⟨by rw [g.names, g.sc]; exact b1, fun s H C cl' fp => g.blkG b2 b3 s H C cl' fp, fun s H C cl' fp => ?_, fun s H C cl' fp => (sndE elt (g.blk s H C cl' fp) h3).1⟩
          split at h5
          · split at h5
            · exact pts_yes
            · cases h5
          · exact pts_one (sndE cond (g.blk s H C cl' fp) h5).2.1
          · cases h5
        by_cases hk : k = .itv
        · subst hk
          obtain ⟨i, rfl⟩ := isVar_eq h4
          simp only [argsI] at ha
          split at ha
          · rename_i z p2
            cases ha
            simp only [chkL, chkE, Bool.and_true, Bool.and_eq_true, decide_eq_true_eq] at h1
            obtain ⟨⟨q1, q2⟩, q3⟩ := h1
            have hv : Vis X.env.scope z := by rw [g.sc]; exact vis_of q2
            refine .plain rfl ((den_compItv (W := W) (m := m) (pos := pos) g.calm g.nd B (pe_var (i := i) (by rw [g.names]; exact q1) hv (okName_of q3).1 (okName_of q3).2.1)).imp fun σ H Q q => ?_)
            simp only [evE] at q
            rw [show (fun ds st => (evL cl [.var i] ds st).bind fun xs st' => compF m (evE cl elt) (evE cl cond) v .itv xs ds st') = fComp m (evE cl elt) (evE cl cond) v .itv (one (fvar i)) by
              rw [evL_one, evE_var]; rfl] at q
            exact q
          · cases ha
        · by_cases hkx : k = .itx
          · subst hkx
            obtain ⟨i, c, rfl⟩ := isIx_eq h4
            simp only [argsI] at ha
            split at ha
            · rename_i hb
              cases ha
              have hp := sndL (cl := cl) _ g h1
              obtain ⟨e, he, hpe⟩ := PEs.one hp
              cases he
              obtain ⟨l1, l2⟩ := ix_src cl i c
              refine .plain rfl ((den_compItx (W := W) (m := m) (pos := pos) g.calm g.nd B hpe (fun z => noSet_fold hb _ z) l1 l2).imp fun σ H Q q => ?_)
              rw [evE_itx] at q
              exact q
            · cases ha
          obtain ⟨s1, s2⟩ := src_ok (tg := .Name x tgp) g ha hk hkx (sndL src g h1)
          refine .plain rfl ((den_comp (m := m) (pos := pos) g.calm g.nd hk hkx B s1 s2).imp fun σ H Q q => ?_)
          simp only [evE] at q
          exact q
      · cases h
    · cases h
  | .exis _, X, W, G, g, ex, h => by simp [chkE] at h
  | .exat, X, W, G, g, ex, h => by simp [chkE] at h
  | .exk _, X, W, G, g, ex, h => by simp [chkE] at h
  | .mkx c es, X, W, G, g, ex, h => by
    simp only [chkE] at h
    split at h
    · rename_i x p as pos
      rw [Bool.and_eq_true, Bool.and_eq_true, Bool.and_eq_true] at h
      obtain ⟨⟨⟨h1, h2⟩, h3⟩, h4⟩ := h
      exact .plain rfl (mkx_ok g h1 h2 h3 (sndL es g h4))
    · cases h
  | .isx c a, X, W, G, g, ex, h => by
    simp only [chkE] at h
    split at h
    · rename_i f p1 x y p3 pos
      rw [Bool.and_eq_true] at h
      exact .plain rfl (isx_ok g h.1 (sndE a g h.2).1)
    · cases h
  | .atx a, X, W, G, g, ex, h => by
    simp only [chkE] at h
    split at h
    · rename_i n p f pos
      simp only [Bool.and_eq_true, decide_eq_true_eq] at h
      obtain ⟨⟨rfl, h1⟩, h2⟩ := h
      refine .plain rfl ((den_atx (pos := pos) ((g.xc 2 h1).bad rfl) (sndE a g h2).1).imp fun σ H Q q => ?_)
      simp only [evE] at q
      exact q
    · cases h
theorem sndL {xa : XA} {cl : Cl} : ∀ (es : List E) {X : Cx} {W : WX} {G : Gam}, Good X xa W cl G → ∀ {xs : List Expr}, chkL G es xs = true → PEs X xa W cl es xs
  | [], X, W, G, g, xs, h => by
    cases xs with
    | nil => trivial
    | cons _ _ => simp [chkL] at h
  | e :: es, X, W, G, g, xs, h => by
    cases xs with
    | nil => simp [chkL] at h
    | cons x xs =>
      simp only [chkL, Bool.and_eq_true] at h
      exact ⟨(sndE e g h.1).1, sndL es g h.2⟩
end
end MP
end
section
set_option maxRecDepth 100000
set_option maxHeartbeats 8000000
namespace MP
open PySem PySem.Spec PyProof.Rows L2 L2H HotX
section
variable {prog : Program} {w : World} {A : Around} {E : Value → Shared → Prop} {s : Shared} {it l x1 : Addr}
theorem pyNext_list_end_hot {i : Nat} {items : Array Value} {Q : Option Value → Shared → Prop} (hot : HotAt A x1 s.heap) (hit : s.heap.IsListIter it l i) (hl : s.heap.IsList l items) (hx : items[i]? = none)
    (hQ : ∀ h', (∀ b o, b ≠ it → s.heap.get? b = some o → h'.get? b = some o) → Q none { s with heap := h' }) : wpAny (model prog w) A (pyNext (.ref it)) Q E s := by
  obtain ⟨o, ho, hc, hd⟩ := id hit
  obtain ⟨ol, hol, _, nl, hdl⟩ := hl
  obtain ⟨hh, o1, vs1, h1, d1, c1⟩ := hot
  have hne : it ≠ x1 := fun z => by
    rw [z, h1] at ho
    cases ho
    rw [d1] at hd
    cases hd
    cases c1
  unfold pyNext
  refine wpAny_bind (wpAny_attempt (wpAny_callSpecial?_slot (name := Str.ofString "__next__") hit.typeIs slot_listiter_next
    (wpAny_call_entry slot_listiter_next hit.typeIs entry_listiter_next ?_ (args_listiter_next _))))
  show wpAny _ _ (field (.ref it) 0 >>= _) _ _ s
  refine wpAny_bind (wpAny_field ho hd (x := .ref l) rfl ?_)
  show wpAny _ _ (if (Value.ref l == Value.none) = true then _ else _) _ _ s
  rw [if_neg (show ¬ ((Value.ref l == Value.none) = true) from Bool.false_ne_true)]
  show wpAny _ _ (field (.ref it) 1 >>= _) _ _ s
  refine wpAny_bind (wpAny_field ho hd (x := .int i 0) rfl ?_)
  show wpAny _ _ (seqItems? (.ref l) >>= _) _ _ s
  refine wpAny_bind (wpAny_seqItems hol hdl ?_)
  simp only [Int.toNat_natCast, hx]
  refine wpAny_bind (wpAny_rule (wpAny_bind (wpAny_setField ho hd (by simp) ?_)))
  show wpAny _ _ (newExc (.type "StopIteration") [] >>= _) _ _ _
  refine wpAny_bind ?_
  simp only [newExc, newTuple]
  refine wpAny_bind (wpAny_newObj_type ?_ (by size_fits))
  refine wpAny_bind (m := firstArgMember _ _) (wpAny_of_eq (a := Value.none) (by first | rfl | (simp only [firstArgMember]; rfl)) ?_)
  refine wpAny_newObj_type ?_ (by size_fits)
  have h2 : (s.heap.update it (Obj.mapFields (·.setIfInBounds 0 .none))).get? x1 = some o1 := (Heap.get?_update_other _ _ hne).trans h1
  refine raiseNew_hot ⟨hh, o1, vs1, Heap.get?_push_of_some _ (Heap.get?_push_of_some _ h2), d1, c1⟩ (Nat.ne_of_lt (Heap.lt_size (Heap.get?_push_of_some _ h2))) (Heap.get?_push_size _ rfl) rfl (by first | (simp; done) | (simp; omega) | (simp only [Array.size_append]; simp; omega)) ?_
  refine wpAny_bind (wpAny_isInstance (T := "StopIteration") (b := true) ⟨_, Heap.get?_update_self _ (Heap.get?_push_size _ rfl) rfl, rfl⟩ isSubtype_stop ?_)
  refine wpAny_pure (hQ _ fun b ob nb e => ?_)
  have e2 : (s.heap.update it (Obj.mapFields (·.setIfInBounds 0 .none))).get? b = some ob := (Heap.get?_update_other _ _ (Ne.symm nb)).trans e
  rw [Heap.get?_update_other _ _ (Nat.ne_of_gt (Heap.lt_size (Heap.get?_push_of_some _ e2)))]
  exact Heap.get?_push_of_some _ (Heap.get?_push_of_some _ e2)
theorem walks_listH {o1 : Obj} {vs1 : Array Value} (hh : A.handled = some (.ref x1)) (d1 : o1.data = .fields vs1) (c1 : vs1[2]? = some .none) (I ax : Addr) (hne : ax ≠ I) (hn1 : x1 ≠ I) (items : Array Value) :
    Walks prog w A I [I, ax, x1] [I] items.size (fun i v => items[i]? = some v) (fun i h => h.IsListIter I ax i ∧ h.IsList ax items ∧ h.get? x1 = some o1) where
  sub := fun b hb => by simp at hb; simp [hb]
  frame := fun _ _ _ st hk => ⟨st.1.at fun o e => hk I (by simp) o e, st.2.1.at fun o e => hk ax (by simp) o e, hk x1 (by simp) _ st.2.2⟩
  item := fun i s Q E hi st hQ => by
    refine wpAny_pyNext_list_item st.1 st.2.1 (x := items[i]) (by simp [hi]) fun h' hit' hs' => ?_
    exact hQ _ h' s.toks (by simp [hi]) ⟨hit', st.2.1.extBut hs'.extBut hne, hs'.extBut _ _ hn1 st.2.2⟩ fun b o hb e => hs'.extBut b o (fun h => hb (by simp [h])) e
  done := fun s Q E st hQ => pyNext_list_end_hot ⟨hh, o1, vs1, st.2.2, d1, c1⟩ st.1 st.2.1 (by simp) fun h' he' => hQ h' s.toks fun b o hb e => he' b o (fun h => hb (by simp [h])) e
  self := fun _ _ _ _ st hQ => wpAny_pyIter_listiter st.1 hQ
theorem sum_hot {its : List Value} {ns : List Int} {Q : Value → Shared → Prop} (hot : HotAt A x1 s.heap) (hl : s.heap.IsList l its.toArray) (hi : IntsAre its ns)
    (h : ∀ h' tk t', (∀ b o, s.heap.get? b = some o → h'.get? b = some o) → Q (.int ns.sum t') { s with heap := h', toks := tk }) : wpAny (model prog w) A (call (.builtin "sum") [.ref l]) Q E s := by
  obtain ⟨xs, e⟩ := hi.allInts.items
  have hn : numsOf (intItems xs).toList = ns := by rw [← e]; exact hi.numsOf
  rw [nums_intItems] at hn
  rw [e] at hl
  obtain ⟨hh, o1, vs1, h1, d1, c1⟩ := hot
  refine call_sum_walkG (iter_intList hl fun s₂ e st hfp hlI => ?_)
  subst e
  have hx : x1 < s.heap.objs.size := Heap.lt_size h1
  refine ⟨_, _, _, _, _, _, numAt xs, rfl, walks_listH (A := A.in1) hh d1 c1 _ l hlI (Nat.ne_of_lt hx) (intItems xs), ⟨st.1, st.2, Heap.get?_push_of_some _ h1⟩, fun b hb => ?_, (fun _ _ => intItems_at), fun h' tk t' hk => ?_⟩
  · rcases List.mem_cons.mp hb with rfl | hb
    · exact hfp _ (by simp)
    · rcases List.mem_cons.mp hb with rfl | hb
      · exact hfp _ (by simp)
      · rw [List.mem_singleton.mp hb]
        show x1 < (s.heap.push _).objs.size
        rw [Heap.size_push]
        exact Nat.lt_succ_of_lt hx
  · have := h h' tk t' (old_kept hk)
    have e : preSum (numAt xs) (intItems xs).size = ns.sum := by
      rw [preSum_eq, List.take_of_length_le (by simp [intItems]), hn]
    rw [e]
    exact this
end
theorem cr_sumH {X : Cx} (hc : HotC X) : CallR X (.builtin "sum") (rSum X.K) := by
  intro pins s σ H vs us Q I r h
  obtain ⟨a, ns, rfl, hs, q⟩ := h
  obtain ⟨its, rv, hl, _⟩ := I.list hs
  rw [Vals.ref1 r]
  obtain ⟨x1, hot⟩ := hc.at I
  exact sum_hot hot hl.isList rv.ints fun h' tk t' hk => ⟨.int _, H, I.kept hk, ⟨_, rfl⟩, q⟩
section
variable {X : Cx}
theorem lcH_core {elt tg iter : Expr} {scope : Scope} {own : List (Str × Nat)} {pos : Pos} {g : TG} {te : TE} {pins : List (Addr × Obj)} {σ : L2.St} {H2 : Hp} {s2 : Shared} {Q : VK} {p : Addr × Obj} {it : Addr} {n : Nat} (hot : Hot1 X.A p) (hp : p ∈ X.pn) (hN : X.N.Nodup) (ok : BlkOk X.N X.env.scope scope own)
    (hg : ∀ (s : Shared) (H : Hp) (C : Addr) (cl : List (Str × Addr)) (fp : List Addr), PG (X.blk s H scope (compEnvC scope cl C X.env) fp) tg g)
    (he : ∀ (s : Shared) (H : Hp) (C : Addr) (cl : List (Str × Addr)) (fp : List Addr), PE (X.blk s H scope (compEnvC scope cl C X.env) fp) elt te)
    (I2 : Inv X pins σ H2 s2) (st2 : IsRangeIter s2.heap it 0 (n : Int) 1) (f2 : FpOk X pins H2 it)
    (q : ∀ D, H2 D = none → ∃ W : Nat → Nat → Hp → Prop, (∃ m, W 0 m (upd H2 D (.lst []))) ∧ ∀ i m H, W i m H →
      ((Itr 0 n).stop i H ∧ Q (.ref D) H) ∨ ((Itr 0 n).go i H ∧ ∃ Nx : Hp → Prop, (∀ H', Nx H' → ∃ m', m' < m ∧ W (i + 1) m' H') ∧ ∀ x H', (Itr 0 n).yld i H x H' → g x (wipe σ (own.map (·.2))) H' fun σ2 H2 => wipe σ2 (own.map (·.2)) = wipe σ (own.map (·.2)) ∧ tYes σ2 H2 fun b H3 =>
        if b = true then te σ2 H3 fun y H4 => ∃ acc, H4 D = some (.lst acc) ∧ acc.length < sizeLine ∧ Nx (upd H4 D (.lst (acc ++ [y]))) else Nx H3)) :
    wpAny (model X.prog X.w) X.A (newList []) (fun acc s₃ => wpAny (model X.prog X.w) X.A (newFunctionEnv scope X.env.globals (cloFrom X.env.cells scope.names []) [] X.env.qual none .none (some X.env)) (fun cenv s₄ =>
      codeAny (model X.prog X.w) X.A (.compStart (.ListComp elt [⟨tg, iter, [], 0⟩] scope pos) 0 (.ref it) acc { cenv with scope := relabel scope X.env }) (compPost (model X.prog X.w) X.A X.xe none (EP X pins σ Q) acc cenv.locals) s₄) X.xe s₃) X.xe s2 := by
  refine wpAny_newObj_type (newEnv_comp ?_) (by show 0 ≤ sizeLine; decide)
  generalize hD : s2.heap.objs.size = D
  have hDn : H2 D = none := I2.hok.fresh (Nat.le_of_eq hD)
  obtain ⟨W, ⟨m0, w0⟩, turn⟩ := q D hDn
  generalize hs3 : ({ s2 with heap := s2.heap.push { cls := .type "list", data := .seq ([] : List Value).toArray } } : Shared) = s3
  have I3 : Inv X pins σ (upd H2 D (.lst [])) s3 := by
    rw [← hs3]
    refine I2.laid (t' := s2.toks) (fun b o e => Heap.get?_push_of_some _ e) (Nat.le_of_eq hD) ⟨Nat.zero_le _, [], 0, .nil, ?_⟩
    rw [← hD]
    exact Heap.get?_push_size _ rfl
  have h3 : s3.heap = s2.heap.push { cls := .type "list", data := .seq ([] : List Value).toArray } := by rw [← hs3]
  have hlt : it < s2.heap.objs.size := Heap.lt_size st2
  have f3 : ∀ b ∈ [it], FpOk X pins (upd H2 D (.lst [])) b ∧ b < s3.heap.objs.size := fun b hb => by
    rw [List.mem_singleton.mp hb]
    refine ⟨⟨?_, f2.2⟩, by rw [h3, Heap.size_push]; exact Nat.lt_succ_of_lt hlt⟩
    rw [upd_ne (by rw [← hD]; exact Nat.ne_of_lt hlt)]
    exact f2.1
  have st3 : IsRangeIter s3.heap it 0 (n : Int) 1 := by rw [h3]; exact Heap.get?_push_of_some _ st2
  have I4 := block_start I3 ok hN f3
  have pg := hg s3 (upd H2 D (.lst [])) s3.heap.objs.size (cellsFrom (s3.heap.objs.size + 1) scope.names (cloFrom X.env.cells scope.names [])) [it]
  have pe := he s3 (upd H2 D (.lst [])) s3.heap.objs.size (cellsFrom (s3.heap.objs.size + 1) scope.names (cloFrom X.env.cells scope.names [])) [it]
  show codeAny _ _ (.compStart (.ListComp elt [⟨tg, iter, [], 0⟩] scope pos) 0 (.ref it) (.ref D) (compEnvC scope (cellsFrom (s3.heap.objs.size + 1) scope.names (cloFrom X.env.cells scope.names [])) s3.heap.objs.size X.env)) (compPost (model X.prog X.w) X.A X.xe none (EP X pins σ Q) (.ref D) s3.heap.objs.size) { s3 with heap := pushCells (s3.heap.push { cls := .type "dict", data := .dict #[] }) scope.names }
  have nit : (upd H2 D (.lst [])) it = none := (f3 it (by simp)).1.1
  have P3 := I3.pin p (List.mem_append_left _ hp)
  generalize hce : compEnvC scope (cellsFrom (s3.heap.objs.size + 1) scope.names (cloFrom X.env.cells scope.names [])) s3.heap.objs.size X.env = ce at I4 pg pe ⊢
  have cL : ce.locals = s3.heap.objs.size := by subst hce; rfl
  generalize hH3 : upd H2 D (.lst []) = H3 at I3 I4 pg pe w0 nit f3 P3
  have kp : ∀ b o, s3.heap.get? b = some o → (pushCells (s3.heap.push { cls := .type "dict", data := .dict #[] }) scope.names).get? b = some o := fun b o e => pushCells_keeps _ _ _ _ (Heap.get?_push_of_some _ e)
  have I4p : Inv (X.blk s3 H3 scope ce [it]) [p] (wipe σ (own.map (·.2))) H3 { s3 with heap := pushCells (s3.heap.push { cls := .type "dict", data := .dict #[] }) scope.names } := I4.pins_of fun r hr => by
    rw [List.mem_singleton.mp hr]
    refine ⟨kp _ _ P3.1, P3.2.1, ?_, fun hm => ?_, P3.2.2.2.2⟩
    · show p.1 ≠ ce.locals
      rw [cL]
      exact Nat.ne_of_lt (Heap.lt_size P3.1)
    · exact (List.mem_cons.mp (I3.stkSub p.1 hm)).elim P3.2.2.1 P3.2.2.2.1
  have st4 : IsRangeIter (pushCells (s3.heap.push { cls := .type "dict", data := .dict #[] }) scope.names) it 0 (n : Int) 1 := kp _ _ st3
  generalize hs4 : ({ s3 with heap := pushCells (s3.heap.push { cls := .type "dict", data := .dict #[] }) scope.names } : Shared) = s4 at I4 I4p ⊢
  have st4' : IsRangeIter s4.heap it 0 (n : Int) 1 := by rw [← hs4]; exact st4
  have hpit : p.1 ≠ it := f2.2.2.2.2.2 p (List.mem_append_left _ hp)
  have stat : ∀ {σ' : L2.St} {H' : Hp} {s' : Shared}, Inv (X.blk s3 H3 scope ce [it]) [p] σ' H' s' → H' it = none → FpOk (X.blk s3 H3 scope ce [it]) [p] H' it := fun {σ' H' s'} I' hn =>
    ⟨hn, (I'.ok.exf it (by simp)).1, I'.ok.exfs it (by simp), .inl (by simp), fun x c e => (I'.ok.exf it (by simp)).2 x c e, fun r hr => by
      have hr : r ∈ ([] : List (Addr × Obj)) ++ [p] := hr
      rw [List.nil_append] at hr
      rw [List.mem_singleton.mp hr]
      exact hpit⟩
  have hotS : ∀ {σ' : L2.St} {H' : Hp} {s' : Shared}, Inv (X.blk s3 H3 scope ce [it]) [p] σ' H' s' → HotAt X.A p.1 s'.heap := fun {σ' H' s'} I' => by
    obtain ⟨hh, vs1, d1, c1⟩ := hot
    exact ⟨hh, p.2, vs1, (I'.pin p (List.mem_append_right _ (by simp))).1, d1, c1⟩
  have loop : codeAny (model X.prog X.w) X.A (.compLoop (.ListComp elt [⟨tg, iter, [], 0⟩] scope pos) 0 (.ref it) (.ref D) ce) (compPost (model X.prog X.w) X.A X.xe none (EP X pins σ Q) (.ref D) s3.heap.objs.size) s4 := by
    refine compLoop_any (fun k s' => ∃ (i : Nat) (H' : Hp), Inv (X.blk s3 H3 scope ce [it]) [p] (wipe σ (own.map (·.2))) H' s' ∧ IsRangeIter s'.heap it ((i : Nat) : Int) ((n : Int) - ((i : Nat) : Int)) 1 ∧ H' it = none ∧ W i k H') ?_ m0 ⟨0, H3, I4p, by simpa using st4', nit, w0⟩
    rintro k s5 ⟨i, H5, I5, st5, n5, w5⟩
    rcases turn i k H5 w5 with ⟨stop, qq⟩ | ⟨go, Nx, hNx, step⟩
    · refine thnF (pyNext_range_end_hot (E := fun _ _ => False) (Q := fun r s6 => r = none ∧ Inv (X.blk s3 H3 scope ce [it]) [p] (wipe σ (own.map (·.2))) H5 s6) (hotS I5) st5 (by have : n ≤ i := stop; omega) fun h' eb => ⟨rfl, I5.kept (t' := s5.toks) eb⟩) fun r s6 ⟨hr, I6⟩ => ?_
      subst hr
      have I7 : Inv X pins σ H5 s6 := I3.call' (ch := [it]) I6.os I6.base I6.hok I6.bare fun b hb => ⟨(f3 b hb).1.2.2.2.1, (f3 b hb).1.2.1, (f3 b hb).1.2.2.2.2.1, (f3 b hb).1.2.2.2.2.2⟩
      have nC : H5 s3.heap.objs.size = none := by
        have z : H5 ce.locals = none := I6.free
        rw [cL] at z
        exact z
      obtain ⟨m, hn, _⟩ := I6.loc
      have hn : s6.heap.Ns ce.locals m := hn
      rw [cL] at hn
      refine ⟨m, hn, fun h'' sb => ?_⟩
      obtain ⟨f0, f1, f2, f3, f4, f5⟩ := I3.fpOk (H' := H5) (Nat.le_refl _) nC
      exact ⟨.ref D, H5, I7.turned (t' := s6.toks) (fun b o hb e => (sb.2 b hb).trans e) f0 f1 f3 f4 f5, rfl, qq⟩
    · have hlt : i < n := go
      obtain ⟨g0, g1, g2, g3, g4, g5⟩ := stat I5 n5
      refine thnF (wpAny_pyNext_range_item (E := fun _ _ => False) (Q := fun r s6 => ∃ tk, r = some (.int i tk) ∧ Inv (X.blk s3 H3 scope ce [it]) [p] (wipe σ (own.map (·.2))) H5 s6 ∧ IsRangeIter s6.heap it (((i + 1 : Nat)) : Int) ((n : Int) - ((i + 1 : Nat) : Int)) 1) st5 (by omega) fun h' st' sb => ?_) fun r s6 ⟨tk, hr, I6, st6⟩ => ?_
      · have e1 : ((i : Nat) : Int) + 1 = ((i + 1 : Nat) : Int) := by omega
        have e2 : (n : Int) - ((i : Nat) : Int) - 1 = (n : Int) - ((i + 1 : Nat) : Int) := by omega
        rw [e1, e2] at st'
        exact ⟨_, rfl, I5.turned (fun b o hb e => (sb.2 b hb).trans e) g0 g1 g3 g4 g5, st'⟩
      subst hr
      refine go_of (n := "range_iterator") st6 rfl rfl (by decide) ?_
      have I6' := I6.pinned (fp := [it]) (fun b hb => by rw [List.mem_singleton.mp hb]; exact stat I6 n5) (fun b hb => by rw [List.mem_singleton.mp hb]; exact ⟨_, st6, fun v z => by cases z⟩)
      have y6 : (Itr 0 n).yld i H5 (.int i) H5 := ⟨rfl, by rw [Int.zero_add]⟩
      refine thnF (pg.run _ s6 _ H5 (.int i) _ _ I6' ⟨tk, rfl⟩ (step (.int i) H5 y6)) fun _ s8 ⟨σ8, H8, I8, hw8, q8⟩ => ?_
      refine wpAny_tests_nil ?_
      simp only [tYes, if_true] at q8
      rw [if_pos rfl]
      have fin : ∀ {s' : Shared} {H' : Hp}, Inv (X.blk s3 H3 scope ce [it]) ([p] ++ pinsAt [it] s6.heap) σ8 H' s' → Nx H' → ∃ m, m < k ∧ ∃ (i : Nat) (H' : Hp), Inv (X.blk s3 H3 scope ce [it]) [p] (wipe σ (own.map (·.2))) H' s' ∧ IsRangeIter s'.heap it ((i : Nat) : Int) ((n : Int) - ((i : Nat) : Int)) 1 ∧ H' it = none ∧ W i m H' := fun {s' H'} I' nx => by
        obtain ⟨m', hm, w'⟩ := hNx H' nx
        have pin' := I'.pin (it, _) (List.mem_append_right _ (List.mem_append_right _ (mem_pinsAt (by simp) st6)))
        have hl : (wipe σ (own.map (·.2))).length = σ8.length := by rw [← hw8, wipe_length]
        refine ⟨m', hm, i + 1, H', (I'.unpinned (pins := [p])).weak hl (fun j v e => ?_), pin'.1, pin'.2.1, w'⟩
        rw [← hw8] at e
        exact (wipe_some e).1
      refine thnF (pe.run _ s8 σ8 H8 _ I8 q8) fun z s10 ⟨yv, H10, I10, r10, acc, hD10, hz10, nx⟩ => ?_
      exact app_ok (X := X.blk s3 H3 scope ce [it]) I10 hD10 hz10 r10 fun s11 I11 => fin I11 nx
  exact codeAny_compStart_list loop (wpAny_pyIter_rangeiter st4' loop)
theorem pe_lcH {elt tg a : Expr} {scope : Scope} {own : List (Str × Nat)} {pos p rp : Pos} {ta : TA} {g : TG} {te : TE} (hc : HotC X) (hN : X.N.Nodup) (hgl : Gl X "range") (hm : X.mg "range" = none) (ha : PA X [a] ta) (hst : starEach [a] X.env = [(false, eval a X.env)])
    (ok : BlkOk X.N X.env.scope scope own)
    (hg : ∀ (s : Shared) (H : Hp) (C : Addr) (cl : List (Str × Addr)) (fp : List Addr), PG (X.blk s H scope (compEnvC scope cl C X.env) fp) tg g)
    (he : ∀ (s : Shared) (H : Hp) (C : Addr) (cl : List (Str × Addr)) (fp : List Addr), PE (X.blk s H scope (compEnvC scope cl C X.env) fp) elt te) :
    PE X (.ListComp elt [⟨tg, .Call (.Name "range" p) [a] [] rp, [], 0⟩] scope pos) (tLc (iRng1 ta) g tYes te (own.map (·.2))) := by
  refine ⟨fun pins s σ H Q I h => ?_⟩
  rw [eval_ListComp]
  have hfree : ∀ y ∈ scope.names, y.2 = .free → ∃ c, X.env.cells.lookup y.1 = some c := fun y hy e => by
    rcases ok.free y hy e with k | k
    · exact I.ok.has _ (.inl k)
    · exact I.ok.has _ (.inr k)
  refine wpAny_comprehension_free rfl (fun _ => rfl) (closure_ok hfree) ok.kind (fun y hy e => by rw [ok.uniq y hy, e]) ?_
  -- the range and its iterator
  refine Call_ (ld_blt I hgl hm boot_range (PyProof.Rows.callWith_type1 (thn (ha.run rp pins s σ H _ I h) fun us s1 ⟨vs, H1, I1, r1, q1⟩ => ?_) hst rfl))
  obtain ⟨j, e, q1, q2, q⟩ := q1
  subst e
  cases r1 with
  | cons r rr =>
  cases rr
  obtain ⟨t, rfl⟩ := r
  refine call_range_1 ?_
  refine wpAny_pyIter_range (IsRange.new ..) (small_one (by omega) (by omega) q1 q2) ?_
  obtain ⟨p0, hot, hp⟩ := hc
  have I1' : Inv X pins σ H1 { s1 with heap := s1.heap.push { cls := .type "range", data := .fields #[.int 0 s1.toks, .int j t, .int 1 (s1.toks + 1)] }, toks := s1.toks + 1 + 1 } := I1.kept fun b o e => Heap.get?_push_of_some _ e
  refine lcH_core (n := j.toNat) hot hp hN ok hg he (I1'.kept fun b o e => Heap.get?_push_of_some _ e) ?_ (I1'.fpOk (Nat.le_refl _) (I1'.hok.fresh (Nat.le_refl _))) q
  have e2 : ((j.toNat : Nat) : Int) = Builtin.Range.rangeSize 0 j 1 := by rw [rangeSize_one]; split <;> omega
  rw [e2]
  exact Heap.get?_push_size _ rfl
end
end MP
end
section
set_option maxRecDepth 100000
set_option maxHeartbeats 8000000
namespace MP
open PySem PySem.Spec PyProof.Rows L2
def onI (o : Option Nat) (a : Addr) (σ : L2.St) : L2.St := match o with
  | none => σ
  | some i => σ.set i (some (.ref a))
def offI (o : Option Nat) (σ : L2.St) : L2.St := match o with
  | none => σ
  | some i => σ.set i none
def endI (o : Option Nat) (D : Ends) : Ends := { nx := fun σ H => D.nx (offI o σ) H, rt := D.rt, bk := fun σ H => D.bk (offI o σ) H, ct := fun σ H => D.ct (offI o σ) H }
structure Clz where
  cls : Value
  nm : Option Nat
  ts : Addr → Value → Option Addr → TS
def wMix (K : PySem.W.Frag) (Wout : WX) (D : Ends) : List Clz → WX
  | [] => Wout
  | k :: r => fun cls d σ H => ∃ b, PySem.W.exmOne K cls k.cls = some b ∧ (b = true → ∀ a, H a = none → k.ts a cls d (endI k.nm D) (onI k.nm a σ) H) ∧ (b = false → wMix K Wout D r cls d σ H)
def NmOk (X : Cx) : Option Str → Option Nat → Prop
  | none, none => True
  | some n, some i => X.N[i]? = some n ∧ X.env.kindOf n = some .local
  | _, _ => False
inductive ClzOk (X : Cx) : List ExceptHandler → List Clz → Prop
  | nil : ClzOk X [] []
  | cons {x : Str} {np pos : Pos} {nm : Option Str} {b₀ : Stmt} {su : List Stmt} {hs : List ExceptHandler} {k : Clz} {ks : List Clz} (hc : Names X x k.cls) (hn : NmOk X nm k.nm)
      (hsu : ∀ (a : Addr) (oe : Obj) (cls : Value) (d : Option Addr) (pn : List (Addr × Obj)), L2N.Zn cls d oe → (∃ vs, oe.data = .fields vs) → PSs (X.suite a ((a, oe) :: pn)) (b₀ :: su) (k.ts a cls d)) (r : ClzOk X hs ks) :
      ClzOk X (.ExceptHandler (some (.Name x np)) nm (b₀ :: su) pos :: hs) (k :: ks)
section
variable {X : Cx}
structure Came (X : Cx) (pins : List (Addr × Obj)) (σ : L2.St) (H : Hp) (a : Addr) (s : Shared) : Prop where
  inv : Inv X pins σ H s
  new : H a = none
  loc : a ≠ X.env.locals
  fs : a ∉ X.fs
theorem try_mix {body : List Stmt} {h₀ : ExceptHandler} {hds : List ExceptHandler} {ks : List Clz} {pos : Pos} {tb : WX → TS} {Wout : WX} (hs : X.stack = X.env :: X.outer) (hf : X.env.frame = some X.env.locals) (hN : X.N.Nodup) (tk : L2N.Takes X Wout)
    (hb : ∀ (W : WX) (pn : List (Addr × Obj)) (xe : Value → Shared → Prop), L2N.Takes (X.tr pn xe) W → PassesOwn (model X.prog X.w) X.A X.env xe → PSs (X.tr pn xe) body (tb W))
    (hh : ClzOk X (h₀ :: hds) ks) : PS X (.Try body (h₀ :: hds) [] [] pos) (fun D σ H => tb (wMix X.K Wout D ks) D σ H) := by
  refine ⟨fun pins s σ H D I h => ?_⟩
  have ok := I.ok
  have hfr : X.A.frames = some (X.env :: X.outer) := by rw [ok.frames, hs]
  refine wpAny_Try_except ?_
  refine wpAny_mono ((hb (wMix X.K Wout D ks) (X.pn ++ pins) (fun e s₁ => wpAny (model X.prog X.w) X.A (noteFrame e X.env) (fun _ s₂ => wpAny (model X.prog X.w) X.A (setFlight e none) (fun _ s₃ =>
    wpAny (model X.prog X.w) X.A (handleBy e X.env (h₀ :: hds)) (SP X pins D) X.xe s₃) X.xe s₂) X.xe s₁) (fun u s' xx => ?_) PassesOwn.looking).run [] s σ H D (I.toTry _) h) (fun f s1 done => ?_) (fun _ _ e => e)
  · obtain ⟨a, B, s0, pins', σ1, H1, cls, d, rfl, J', nb, up, sky, na, os, ag, w⟩ := xx
    have J := J'.ofTry ok
    show wpAny (model X.prog X.w) X.A (noteFrame (.ref a) X.env) _ _ _
    refine L2N.Sky.land L2N.Zn.steady hfr hf (by rw [← hs]; exact sky) fun hp fl upl => ?_
    have C : Came X pins σ1 H1 a { s' with heap := hp } := by
      obtain ⟨oe, vs, he, _, hd⟩ := fl.there
      have nfr : a ∉ frs (X.env :: X.outer) := fun hm => by
        obtain ⟨_, o', e', hnf⟩ := fl.2.2.1.mem hm
        rw [he] at e'
        cases e'
        exact hnf _ hd
      refine ⟨J.landed nb fl.1 (up.trans upl) os ag, na, fun z => nfr (List.mem_filterMap.mpr ⟨X.env, List.mem_cons_self, by rw [hf, z]⟩), fun hm => ?_⟩
      obtain ⟨e, he', q⟩ := List.mem_filterMap.mp hm
      exact nfr (List.mem_filterMap.mpr ⟨e, List.mem_cons_of_mem _ he', q⟩)
    -- clause by clause
    have run : ∀ {hs' : List ExceptHandler} {ks' : List Clz}, ClzOk X hs' ks' → wMix X.K Wout D ks' cls d σ1 H1 → wpAny (model X.prog X.w) X.A (handleBy (.ref a) X.env hs') (SP X pins D) X.xe { s' with heap := hp } := by
      intro hs' ks' hk
      induction hk with
      | nil =>
        intro w
        refine wpAny_handleBy_nil ?_
        obtain ⟨_, _, _, oe, vs, tb', _, _, he, _, hd, h1, _⟩ := id fl
        unfold PySem.passOn
        refine wpAny_bind (wpAny_field he hd h1 ?_)
        rw [if_neg (show ¬ ((Value.ref tb' == Value.none) = true) from by simp)]
        have out : wpAny (model X.prog X.w) X.A (setFlight (.ref a) X.env.frame) (fun _ s4 => wpAny (model X.prog X.w) X.A (throw (.ref a) : Sem Flow) (SP X pins D) X.xe s4) X.xe { s' with heap := hp } := by
          rw [hf]
          exact HandSPX.setFlight_upZ fl fun h4 hh4 up4 => wpAny_throw (tk _ _ ⟨a, B, s0, pins, σ1, H1, cls, d, rfl, J, nb, (up.trans upl).trans up4, .inr (.inr (by rw [hs]; exact hh4)), na, os, ag, w⟩)
        first
          | exact wpAny_bind (wpAny_pure (wpAny_bind out))
          | exact wpAny_bind out
      | @cons x np pos' nm b₀ su hs2 k ks2 hc hn hsu r ih =>
        intro w
        obtain ⟨b, hb1, yes, no⟩ := w
        obtain ⟨oe, vs, he, hz, hd⟩ := fl.there
        refine wpAny_handleBy_cons (codeAny_handlers_test ?_) (by intro q; cases q)
        have looks : PySem.W.Looks (model X.prog X.w) hp (typeOf (.ref a)) cls := fun A Q E s k q => wpAny_typeOf_ref (k _ _ he) (by rw [hz.1]; exact q)
        have S := C.inv.suite he hd na C.loc C.fs
        have head : ∀ {Q : Value → Shared → Prop} {E : Value → Shared → Prop}, Q k.cls { s' with heap := hp } → wpAny (model X.prog X.w) (X.A.mark (some (.ref a))) (eval (.Name x np) X.env) Q E { s' with heap := hp } := fun {Q E} q => by
          obtain ⟨hg, hdbg, hm | ⟨hm, hv, hnn⟩⟩ := hc
          · exact ld_glob (X := X.suite a ((a, oe) :: (X.pn ++ pins))) S hg hm q hdbg
          · exact ld_blt (X := X.suite a ((a, oe) :: (X.pn ++ pins))) S hg hm hv q hnn hdbg
        refine head ((PySem.W.exm_one (M := model X.prog X.w) C.inv.kIn looks hb1).here ?_)
        cases b with
        | false =>
          show wpAny _ X.A (handleBy (.ref a) X.env hs2) _ _ _
          exact ih (no rfl)
        | true =>
          have yes := yes rfl a na
          cases nm with
          | none =>
            have e0 : k.nm = none := by
              cases hk : k.nm with
              | none => rfl
              | some i => rw [hk] at hn; exact hn.elim
            rw [e0] at yes
            refine codeAny_handlers_suite (HandSPX.lands_againZ fl fun h4 fl4 up4 => ?_)
            obtain ⟨oe4, vs4, he4, hz4, hd4⟩ := fl4.there
            have J4 : Inv X pins σ1 H1 { s' with heap := h4 } := J.landed nb fl4.1 ((up.trans upl).trans up4) os ag
            have S4 := J4.suite he4 hd4 na C.loc C.fs
            refine wpAny_mono ((hsu a oe4 cls d (X.pn ++ pins) hz4 ⟨_, hd4⟩).run [] _ _ H1 _ S4 yes) (fun f s6 e6 => ?_) (fun _ _ z => False.elim z)
            cases f with
            | ret u => obtain ⟨v6, σ6, H6, S6, r6, q6⟩ := e6; exact ⟨_, _, _, S6.unsuite ok, r6, q6⟩
            | _ => obtain ⟨σ6, H6, S6, q6⟩ := e6; exact ⟨_, _, S6.unsuite ok, q6⟩
          | some n =>
            obtain ⟨i, e0, hi, hln⟩ : ∃ i, k.nm = some i ∧ X.N[i]? = some n ∧ X.env.kindOf n = some .local := by
              cases hk : k.nm with
              | none => rw [hk] at hn; exact hn.elim
              | some i => rw [hk] at hn; exact ⟨i, rfl, hn.1, hn.2⟩
            rw [e0] at yes
            refine codeAny_handlers_suite_as (HandSPX.lands_againZ fl fun h4 fl4 up4 => ?_)
            obtain ⟨oe4, vs4, he4, hz4, hd4⟩ := fl4.there
            have J4 : Inv X pins σ1 H1 { s' with heap := h4 } := J.landed nb fl4.1 ((up.trans upl).trans up4) os ag
            have S4 := J4.suite he4 hd4 na C.loc C.fs
            refine store_ok (X := X.suite a ((a, oe4) :: (X.pn ++ pins))) (v := .ref a) S4 hN hi (.inl hln) rfl (fun s5 S5 => ?_) (.inr hln)
            refine wpAny_mono ((hsu a oe4 cls d (X.pn ++ pins) hz4 ⟨_, hd4⟩).run [] s5 _ H1 _ S5 yes) (fun f s6 e6 => ?_) (fun _ _ z => False.elim z)
            have leave : ∀ {σ6 : L2.St} {H6 : Hp} {Q : Shared → Prop}, Inv (X.suite a ((a, oe4) :: (X.pn ++ pins))) [] σ6 H6 s6 → (∀ s7, Inv X pins (σ6.set i none) H6 s7 → Q s7) →
                wpAny (model X.prog X.w) X.A (do bindName X.env n .none; unbindBehindTheSuite X.env n pos') (fun _ s7 => Q s7) X.xe s6 := fun {σ6 H6 Q} S6 hq => gone_ok (S6.unsuite ok) hN hi hln hq
            cases f with
            | ret u => obtain ⟨v6, σ6, H6, S6, r6, q6⟩ := e6; exact leave S6 fun s7 J7 => ⟨_, _, _, J7, r6, q6⟩
            | next => obtain ⟨σ6, H6, S6, q6⟩ := e6; exact leave S6 fun s7 J7 => ⟨_, _, J7, q6⟩
            | brk => obtain ⟨σ6, H6, S6, q6⟩ := e6; exact leave S6 fun s7 J7 => ⟨_, _, J7, q6⟩
            | cont => obtain ⟨σ6, H6, S6, q6⟩ := e6; exact leave S6 fun s7 J7 => ⟨_, _, J7, q6⟩
    exact run hh w
  · cases f with
    | next => obtain ⟨σ2, H2, J2, q⟩ := done; exact wpAny_execs_nil ⟨σ2, H2, J2.ofTry ok, q⟩
    | brk => obtain ⟨σ2, H2, J2, q⟩ := done; exact ⟨σ2, H2, J2.ofTry ok, q⟩
    | cont => obtain ⟨σ2, H2, J2, q⟩ := done; exact ⟨σ2, H2, J2.ofTry ok, q⟩
    | ret u => obtain ⟨v, σ2, H2, J2, r, q⟩ := done; exact ⟨v, σ2, H2, J2.ofTry ok, r, q⟩
end
end MP
end
section
set_option maxRecDepth 100000
set_option maxHeartbeats 8000000
namespace MP
open PySem PySem.Spec PyProof.Rows L2 L2H
def pinS (pn : Option (Nat × Addr)) (σ : L2.St) : Prop := match pn with
  | none => True
  | some p => σ[p.1]? = some (some (.ref p.2))
def denX (pn : Option (Nat × Addr)) (K : PySem.W.Frag) (xa : XA) (f : DS → Store → RE) : TE := fun σ H Q => pinS pn σ ∧ denE K xa W0 f σ H Q
def denLX (pn : Option (Nat × Addr)) (K : PySem.W.Frag) (xa : XA) (f : DS → Store → R (List D)) : TA := fun σ H Q => pinS pn σ ∧ denL K xa W0 f σ H Q
section
variable {K : PySem.W.Frag} {xa : XA} {W : WX} {f : DS → Store → RE} {g : DS → Store → R (List D)} {σ : L2.St} {H : Hp} {pn : Option (Nat × Addr)}
theorem den_mono {Q Q' : VK} (h : denE K xa W f σ H Q) (i : ∀ v H', Q v H' → Q' v H') : denE K xa W f σ H Q' := by
  obtain ⟨ex, ρ, ds, st, M, S, q⟩ := h
  exact ⟨ex, ρ, ds, st, M, S, q.imp i⟩
end
structure UC0 (X : Cx) (pn : Option (Nat × Addr)) (xa : XA) (cl : Cl) (G : Gam) : Prop where
  names : X.N = G.N
  nd : X.N.Nodup
  sc : X.env.scope = G.sc
  un : X.A.units + 90 < cLine
  blt : ∀ x ∈ bltNames, X.mg x = none
  hc : pn.isSome = true → HotC X
  is : ∀ c ex, isXB G (pn.map (·.1)) c ex = true → PE X ex (denX pn X.K xa (evE cl (.exis c)))
  exk : ∀ f ex, exkB G (pn.map (·.1)) f ex = true → PE X ex (denX pn X.K xa (evE cl (.exk f)))
  at_ : ∀ ex, atB G (pn.map (·.1)) ex = true → PE X ex (denX pn X.K xa (evE cl .exat))
structure UC (X : Cx) (pn : Option (Nat × Addr)) (xa : XA) (cl : Cl) (G : Gam) : Prop extends UC0 X pn xa cl G where
  fn : ∀ x, X.fn x = true
section
variable {X : Cx} {xa : XA} {cl : Cl} {G : Gam} {pn : Option (Nat × Addr)}
def PEx (X : Cx) (pn : Option (Nat × Addr)) (xa : XA) (cl : Cl) : List E → List Expr → Prop
  | [], [] => True
  | e :: es, x :: xs => PE X x (denX pn X.K xa (evE cl e)) ∧ PEx X pn xa cl es xs
  | _, _ => False
theorem PEx.one {es : List E} {x : Expr} (h : PEx X pn xa cl es [x]) : ∃ e, es = [e] ∧ PE X x (denX pn X.K xa (evE cl e)) := by
  match es, h with
  | [e], h => exact ⟨e, rfl, h.1⟩
  | [], h => exact h.elim
  | _ :: _ :: _, h => exact h.2.elim
theorem PEx.two {es : List E} {x y : Expr} (h : PEx X pn xa cl es [x, y]) : ∃ e f, es = [e, f] ∧ PE X x (denX pn X.K xa (evE cl e)) ∧ PE X y (denX pn X.K xa (evE cl f)) := by
  match es, h with
  | [e, f], h => exact ⟨e, f, rfl, h.1, h.2.1⟩
  | [], h => exact h.elim
  | [_], h => exact h.2.elim
  | _ :: _ :: _ :: _, h => exact h.2.2.elim
theorem PEx.pa : ∀ {es : List E} {xs : List Expr}, PEx X pn xa cl es xs → xs.all plainArg = true → PA X xs (denLX pn X.K xa (evL cl es))
  | [], [], _, _ => pa_nil.imp fun σ H Q ⟨_, ex, ρ, ds, st, M, S, q⟩ => by simp only [evL] at q; exact q [] H ρ (Ext.refl _ _) M rfl
  | e :: es, x :: xs, h, p => by
    rw [List.all_cons, Bool.and_eq_true] at p
    refine (pa_cons h.1 (PEx.pa h.2 p.2) (star_cons p.1 _ _)).imp fun σ H Q ⟨hp, ex, ρ, ds, st, M, S, q⟩ => ?_
    refine ⟨hp, ex, ρ, ds, st, M, S, ?_⟩
    simp only [evL] at q
    cases e1 : evE cl e ds st with
    | no => rw [e1] at q; exact q
    | exc x s => rw [e1] at q; exact q
    | ok x st1 =>
      rw [e1] at q
      intro v H1 ρ1 x1 M1 r1
      refine ⟨hp, ex, ρ1, ds, st1, M1, S.ext x1, ?_⟩
      simp only [R.bind] at q
      cases e2 : evL cl es ds st1 with
      | no => rw [e2] at q; exact q
      | exc x s => rw [e2] at q; exact fun H' ρ' e' M' => q H' ρ' (x1.trans e') M'
      | ok xs st2 =>
        rw [e2] at q
        exact fun vs H2 ρ2 x2 M2 r2 => q (v :: vs) H2 ρ2 (x1.trans x2) M2 ⟨v, vs, rfl, r1.ext x2, r2⟩
  | [], _ :: _, h, _ => h.elim
  | _ :: _, [], h, _ => h.elim
theorem UC0.glob (g : UC0 X pn xa cl G) {x : Str} (h : gloB G.sc x = true) : Gl X x := by
  show X.env.scope.names.lookup x = _
  rw [g.sc]
  exact glo_of h
theorem primU_ok (g : UC0 X pn xa cl G) {p : P} {es : List E} {ex : Expr} {as : List Expr} (hu : (uP p || (pn.isSome && isSum p)) = true) (h : argsP G.sc p ex = some as) (hp : PEx X pn xa cl es as) : PE X ex (denX pn X.K xa fun ds st => (evL cl es ds st).bind fun xs st' => primF p xs st') := by
  have un65 : X.A.units + 65 < cLine := by have := g.un; omega
  cases p with
  | op o =>
    simp only [argsP] at h
    split at h
    · rename_i l op r pos
      split at h
      · rename_i hb
        cases h
        obtain ⟨e, f, rfl, he, hf⟩ := hp.two
        obtain ⟨rr, h1, h2⟩ := bin_ok (X := X) hb
        exact (pe_op (pos := pos) h1 he hf).imp fun σ H Q ⟨q0, q⟩ => by
          simp only [bnd2] at q
          exact ⟨q0, den_mono (den_two (g := fun x y st2 => opF o x y st2) q fun ex H2 ρ2 st2 x y v u M r1 r2 q => h2 M r1 r2 q) fun v H1 z => ⟨q0, z⟩⟩
      · cases h
    · rename_i l op r pos
      split at h
      · rename_i hb
        cases h
        obtain ⟨e, f, rfl, he, hf⟩ := hp.two
        obtain ⟨rr, h1, h2⟩ := cmp_ok (X := X) g.un hb.1
        exact (pe_cmpR (pos := pos) h1 he hf (noSet_hm hb.2 _)).imp fun σ H Q ⟨q0, q⟩ => by
          simp only [bnd2] at q
          exact ⟨q0, den_mono (den_two (g := fun x y st2 => opF o x y st2) q fun ex H2 ρ2 st2 x y v u M r1 r2 q => h2 M r1 r2 q) fun v H1 z => ⟨q0, z⟩⟩
      · cases h
    · cases h
  | int1 =>
    have h : bltArgs G.sc .int1 ex = some as := h
    obtain ⟨x, n, p1, pos, hb, rfl, hg, ha, hl⟩ := blt_args h
    cases hb
    obtain ⟨a, rfl⟩ := len_one hl
    obtain ⟨e, rfl, he⟩ := hp.one
    simp only [List.all_cons, List.all_nil, Bool.and_true] at ha
    refine (pe_callTy (pos := pos) (p := p1) call_intM (g.glob hg) (g.blt _ (by decide)) bootL_int (pa_cons he pa_nil (star_cons ha _ _)) (by decide) (by decide) (star_cons ha _ _) rfl).imp fun σ H Q ⟨q0, q⟩ => ?_
    simp only [bnd1] at q
    exact ⟨q0, den_one (g := fun v st1 => prim1F .int1 v st1) q fun ex H2 ρ2 st2 y v M r q => ok_int1 M r q⟩
  | ix =>
    simp only [argsP] at h
    split at h
    · rename_i a b pos
      split at h
      · rename_i hb
        cases h
        obtain ⟨e, f, rfl, he, hf⟩ := hp.two
        exact (pe_ix (pos := pos) (IxR.or ix_seq (ix_dM un65)) he hf (plainIx_of hb)).imp fun σ H Q ⟨q0, q⟩ => by
          simp only [bnd2] at q
          exact ⟨q0, den_mono (den_two (g := fun x y st2 => prim2F .ix x y st2) q fun ex H2 ρ2 st2 x y v u M r1 r2 q => ok_ix M r1 r2 q) fun v H1 z => ⟨q0, z⟩⟩
      · cases h
    · cases h
  | tup =>
    simp only [argsP] at h
    split at h
    · split at h
      · rename_i hb
        cases h
        refine (pe_tup (hp.pa hb)).imp fun σ H Q ⟨q0, q⟩ => ⟨q0, ?_⟩
        refine den_lift (es := []) (g := fun xs st1 => primF .tup xs st1) q fun ex H2 ρ2 st2 xs vs M r q => ?_
        simp only [primF] at q
        split at q
        · rename_i hl
          refine ⟨by rw [← r.length]; exact Nat.le_trans hl (by decide), fun p hp => ?_⟩
          have e : Ext ρ2 H2 ρ2 (upd H2 p (.tup vs)) := Ext.laid hp
          exact q (.ref p) _ ρ2 e (M.laid hp) ⟨p, vs, rfl, .inl upd_same, r.ext e⟩
        · exact q.elim
      · cases h
    · cases h
  | lst m =>
    simp only [argsP] at h
    split at h
    · split at h
      · rename_i hb
        cases h
        refine (pe_lst (hp.pa hb)).imp fun σ H Q ⟨q0, q⟩ => ⟨q0, ?_⟩
        refine den_lift (es := []) (g := fun xs st1 => primF (.lst m) xs st1) q fun ex H2 ρ2 st2 xs vs M r q => ?_
        simp only [primF] at q
        split at q
        · rename_i hl
          exact ⟨by rw [← r.length]; exact Nat.le_trans hl (by decide), fun p hp => q.newL M r p hp⟩
        · exact q.elim
      · cases h
    · cases h
  | sum =>
    have h : bltArgs G.sc .sum ex = some as := h
    obtain ⟨x, n, p1, pos, hb, rfl, hg, ha, hl⟩ := blt_args h
    cases hb
    obtain ⟨a, rfl⟩ := len_one hl
    obtain ⟨e, rfl, he⟩ := hp.one
    simp only [List.all_cons, List.all_nil, Bool.and_true] at ha
    have hs : pn.isSome = true := by simpa [uP, isSum] using hu
    refine (pe_callB (pos := pos) (p := p1) (cr_sumH (g.hc hs)) (g.glob hg) (g.blt _ (by decide)) bootL_sum (pa_cons he pa_nil (star_cons ha _ _)) (by decide) (by decide) (star_cons ha _ _) rfl).imp fun σ H Q ⟨q0, q⟩ => ?_
    simp only [bnd1] at q
    exact ⟨q0, den_one (g := fun v st1 => prim1F .sum v st1) q fun ex H2 ρ2 st2 y v M r q => ok_sum M r q⟩
  | _ => simp [uP, isSum] at hu
theorem isR1_eq {k : SK} (h : isR1 k = true) : k = .rng1 := by cases k <;> first | rfl | (simp [isR1] at h)
theorem isYes_eq {e : E} (h : isYes e = true) : e = .k (.bl true) := by
  unfold isYes at h
  split at h
  · rfl
  · cases h
theorem sameCs_eq {src : List E} {as : List Expr} (h : sameCs src as = true) : ∃ d c j pos, src = [.k d] ∧ as = [.Constant c j pos] ∧ sameC d c = true := by
  unfold sameCs at h
  split at h
  · exact ⟨_, _, _, _, rfl, rfl, h⟩
  · cases h
theorem UC0.blk (g : UC0 X pn xa cl G) {scope : Scope} (s : Shared) (H : Hp) (C : Addr) (cl' : List (Str × Addr)) (fp : List Addr) : UC0 (X.blk s H scope (compEnvC scope cl' C X.env) fp) none xa cl { G with sc := relS scope G.sc } where
  names := g.names
  nd := g.nd
  sc := by
    show relabel scope X.env = _
    rw [← g.sc]
    rfl
  un := g.un
  blt := g.blt
  hc := fun h => nomatch h
  is := fun c ex h => by simp [isXB] at h
  exk := fun c ex h => by simp [exkB] at h
  at_ := fun ex h => by simp [atB] at h
theorem UC0.blkG (g : UC0 X pn xa cl G) {scope : Scope} {x : Str} {v : Nat} {tgp : Pos} (h3 : G.N[v]? = some x) (h6 : locB scope x = true) (s : Shared) (H : Hp) (C : Addr) (cl' : List (Str × Addr)) (fp : List Addr) :
    PG (X.blk s H scope (compEnvC scope cl' C X.env) fp) (.Name x tgp) (gName v) := by
  have e : (X.blk s H scope (compEnvC scope cl' C X.env) fp).env.scope.names = (scope.names.map fun (n, k) => if (k == .free && X.env.scope.kind == .function && X.env.scope.names.lookup n == some .cell) = true then (n, NameKind.cell) else (n, k)) := rfl
  have hl := look_rel (sc := X.env.scope) (x := x) (names := scope.names)
  rcases loc_of h6 with q | q
  · refine pg_name g.nd (by show X.N[v]? = _; rw [g.names]; exact h3) (.inl ?_) (.inr ?_)
    · rw [e]; exact hl.1 q
    · rw [e]; exact hl.1 q
  · refine pg_name g.nd (by show X.N[v]? = _; rw [g.names]; exact h3) (.inr ?_) (.inl ?_)
    · rw [e]; exact hl.2 q
    · show (scope.names.lookup x == some .cell) = true
      rw [q]; rfl
theorem hot_comp (g : UC0 X pn xa cl G) {m : Bool} {v : Nat} {el iter : Expr} {elt : E} {x : Str} {tgp pos : Pos} {scope : Scope} {as : List Expr} {src : List E} (hs : pn.isSome = true) (ha : argsI G.sc .rng1 iter = some as) (hc : sameCs src as = true) (hb : blkB G.N G.sc scope x v = true)
    (he : ∀ (s : Shared) (H : Hp) (C : Addr) (cl' : List (Str × Addr)) (fp : List Addr), PE (X.blk s H scope (compEnvC scope cl' C X.env) fp) el (denX none X.K xa (evE cl elt))) :
    PE X (.ListComp el [⟨.Name x tgp, iter, [], 0⟩] scope pos) (denX pn X.K xa (evE cl (.comp m v elt .rng1 src (.k (.bl true))))) := by
  obtain ⟨d, c, j, cp, rfl, rfl, hd⟩ := sameCs_eq hc
  obtain ⟨b1, b2, b3⟩ := blk_ok hb
  simp only [argsI] at ha
  split at ha
  · rename_i f p1 a rp
    split at ha
    · rename_i hb2
      cases ha
      simp only [Bool.and_eq_true, decide_eq_true_eq] at hb2
      obtain ⟨⟨rfl, h2⟩, h3⟩ := hb2
      have hk : PE X (.Constant c j cp) (denE X.K xa W0 fun _ st => .ok d st) := k_ok (xa := xa) (W := W0) hd
      refine (pe_lcH (pos := pos) (g.hc hs) g.nd (g.glob h2) (g.blt _ (by decide)) (pa_cons hk pa_nil (star_cons h3 _ _)) (star_cons h3 _ _) (own := [(x, v)]) (by rw [g.names, g.sc]; exact b1) (fun s H C cl' fp => g.blkG b2 b3 s H C cl' fp) he).imp fun σ H Q ⟨q0, ex, ρ, ds, st, M, S, q⟩ => ?_
      simp only [evE] at q
      refine comp_reading (X := X) (xa := xa) (W := W0) (m := m) (k := .rng1) (fe := evE cl elt) (fc := evE cl (.k (.bl true))) (v := v) (fs := fun ds st => (.ok [d] st : R (List D))) ?_ ?_ (fun _ _ _ h => ⟨trivial, h⟩) ?_ M S (fun xs st1 _ n items => srcF_free (k := .rng1) (by intro h; cases h) (by intro h; cases h)) ?_
      · intro ex H ρ st σ ds xs items st1 R M S h hs q
        cases h
        refine ⟨ex, ρ, ds, st, M, S, ?_⟩
        intro v H1 ρ1 e1 M1 r1
        cases d with
        | int n =>
          cases r1
          simp only [srcF] at hs
          split at hs
          · rename_i hn
            cases hs
            refine ⟨n, rfl, hn.1, hn.2, q _ H1 ρ1 e1 M1 ?_⟩
            have := jok_range (K := X.K) (ex := ex) (ρ := ρ1) (H := H1) 0 n.toNat
            unfold rangeD
            rw [Int.sub_zero]
            exact this
          · cases hs
        | _ => simp [srcF] at hs
      · intro ex H ρ st σ ds e st1 R M S h q
        cases h
      · intro σ H Q ⟨ex, ρ, ds, st, M, S, h⟩
        simp only [evE] at h
        obtain ⟨c, e, q1⟩ := h (.bl true) H ρ (Ext.refl _ _) M rfl
        cases e
        exact q1
      · exact q
    · cases ha
  · cases ha
theorem denX_and {a b : Expr} {rest : List Expr} {pos : Pos} {fa fb : DS → Store → RE} (ha : PE X a (denX pn X.K xa fa)) (hb : PE X (.BoolOp .And (b :: rest) pos) (denX pn X.K xa fb)) :
    PE X (.BoolOp .And (a :: b :: rest) pos) (denX pn X.K xa fun ds st => (fa ds st).bind fun x st1 => match x with
    | .bl true => fb ds st1
    | .bl false => .ok (.bl false) st1
    | _ => .no) := by
  refine (pe_and ha hb).imp fun σ H Q ⟨q0, h⟩ => ⟨q0, ?_⟩
  obtain ⟨ex, ρ, ds, st, M, S, q⟩ := h
  refine ⟨ex, ρ, ds, st, M, S, (PostV.bind q).imp fun v H1 ⟨x, st1, ρ1, e1, M1, r1, q1⟩ => ?_⟩
  split at q1
  · cases r1
    exact ⟨true, rfl, iteT ⟨q0, ex, ρ1, ds, st1, M1, S.ext e1, q1⟩⟩
  · cases r1
    exact ⟨false, rfl, iteF (q1.here M1 rfl)⟩
  · exact q1.elim
theorem peX_bool1 {a : Expr} {pos : Pos} {t : TE} (h : PE X a t) : PE X (.BoolOp .And [a] pos) t := pe_bool1 h
end
mutual
theorem sndU {xa : XA} {cl : Cl} {G : Gam} {pn : Option (Nat × Addr)} : ∀ (e : E) {X : Cx}, UC0 X pn xa cl G → ∀ {ex : Expr}, chkU G (pn.map (·.1)) e ex = true → PE X ex (denX pn X.K xa (evE cl e))
  | .k d, X, g, ex, h => by
    simp only [chkU] at h
    split at h
    · refine (k_ok (xa := xa) (W := W0) h).imp fun σ H Q ⟨q0, q⟩ => ?_
      simp only [evE] at q
      exact q
    · cases h
  | .var j, X, g, ex, h => by
    simp only [chkU] at h
    split at h
    · rename_i x pos
      simp only [Bool.and_eq_true, decide_eq_true_eq] at h
      obtain ⟨⟨h1, h2⟩, h3⟩ := h
      have hv : Vis X.env.scope x := by rw [g.sc]; exact vis_of h2
      refine (den_var (pe_var (by rw [g.names]; exact h1) hv (okName_of h3).1 (okName_of h3).2.1) (xa := xa) (W := W0)).imp fun σ H Q ⟨q0, q⟩ => ?_
      simp only [evE] at q
      exact q
    · cases h
  | .exis c, X, g, ex, h => by
    simp only [chkU] at h
    exact g.is c ex h
  | .pr p es, X, g, ex, h => by
    simp only [chkU, Bool.and_eq_true] at h
    obtain ⟨hu, h⟩ := h
    split at h
    · rename_i as ha
      refine (primU_ok g (by simpa using hu) ha (sndUL es g h)).imp fun σ H Q q => ?_
      simp only [evE] at q
      exact q
    · cases h
  | .and a b, X, g, ex, h => by
    simp only [chkU] at h
    split at h
    · rename_i x y pos
      rw [Bool.and_eq_true] at h
      exact (denX_and (pos := pos) (sndU a g h.1) (peX_bool1 (sndU b g h.2))).imp fun σ H Q q => by simp only [evE] at q; exact q
    · rename_i x y z r pos
      rw [Bool.and_eq_true] at h
      exact (denX_and (pos := pos) (sndU a g h.1) (sndU b g h.2)).imp fun σ H Q q => by simp only [evE] at q; exact q
    · cases h
  | .glob _ _, X, g, ex, h => by simp [chkU] at h
  | .mth _ _ _, X, g, ex, h => by simp [chkU] at h
  | .slc _ _ _ _ _ _, X, g, ex, h => by simp [chkU] at h
  | .or _ _, X, g, ex, h => by simp [chkU] at h
  | .not _, X, g, ex, h => by simp [chkU] at h
  | .ife _ _ _, X, g, ex, h => by simp [chkU] at h
  | .chain _ _ _ _ _, X, g, ex, h => by simp [chkU] at h
  | .call _ _ _, X, g, ex, h => by simp [chkU] at h
  | .callM _ _, X, g, ex, h => by simp [chkU] at h
  | .callX _ _ _, X, g, ex, h => by simp [chkU] at h
  | .mkx _ _, X, g, ex, h => by simp [chkU] at h
  | .isx _ _, X, g, ex, h => by simp [chkU] at h
  | .atx _, X, g, ex, h => by simp [chkU] at h
  | .comp m v elt k src cond, X, g, ex, h => by
    simp only [chkU, Bool.and_eq_true] at h
    obtain ⟨⟨⟨h1, h2⟩, h3⟩, h⟩ := h
    cases isR1_eq h2
    cases isYes_eq h3
    split at h
    · rename_i el x tgp iter scope pos
      split at h
      · rename_i as ha
        simp only [Bool.and_eq_true] at h
        exact hot_comp g (by simpa using h1) ha h.1.1 h.1.2 fun s H C cl' fp => sndU elt (g.blk s H C cl' fp) h.2
      · cases h
    · cases h
  | .exat, X, g, ex, h => by
    simp only [chkU] at h
    exact g.at_ ex h
  | .exk f, X, g, ex, h => by
    simp only [chkU] at h
    exact g.exk f ex h
theorem sndUL {xa : XA} {cl : Cl} {G : Gam} {pn : Option (Nat × Addr)} : ∀ (es : List E) {X : Cx}, UC0 X pn xa cl G → ∀ {xs : List Expr}, chkUL G (pn.map (·.1)) es xs = true → PEx X pn xa cl es xs
  | [], X, g, xs, h => by
    cases xs with
    | nil => trivial
    | cons _ _ => simp [chkUL] at h
  | e :: es, X, g, xs, h => by
    cases xs with
    | nil => simp [chkUL] at h
    | cons x xs =>
      simp only [chkUL, Bool.and_eq_true] at h
      exact ⟨sndU e g h.1, sndUL es g h.2⟩
end
end MP
end
section
set_option maxRecDepth 100000
set_option maxHeartbeats 8000000
namespace MP
open PySem PySem.Spec PyProof.Rows L2 L2H
theorem noComp_sw {a : Expr} (h : noComp a = true) (t : Option Expr) (l : Nat) (env : Env) : swapsWith a t l env = pure false := by
  cases a <;> first | rfl | (simp [noComp] at h)
def PostW (pn : Option (Nat × Addr)) (K : PySem.W.Frag) (ex : Addr → Prop) (H : Hp) (ρ : List Addr) (res : RS) (D : Ends) : Prop := match res with
  | .nx ds' st' => ∀ σ' H' ρ', Ext ρ H ρ' H' → Mem K ex H' ρ' st' → Slots K ex H' ρ' σ' ds' → pinS pn σ' → D.nx σ' H'
  | .rt d st' => ∀ v H' ρ', Ext ρ H ρ' H' → Mem K ex H' ρ' st' → Rep K ex H' ρ' d v → D.rt v H'
  | .bk ds' st' => ∀ σ' H' ρ', Ext ρ H ρ' H' → Mem K ex H' ρ' st' → Slots K ex H' ρ' σ' ds' → pinS pn σ' → D.bk σ' H'
  | .ct ds' st' => ∀ σ' H' ρ', Ext ρ H ρ' H' → Mem K ex H' ρ' st' → Slots K ex H' ρ' σ' ds' → pinS pn σ' → D.ct σ' H'
  | .exc _ _ _ => False
  | .no => False
def denW (pn : Option (Nat × Addr)) (K : PySem.W.Frag) (f : DS → Store → RS) : TS := fun D σ H => pinS pn σ ∧ ∃ ex ρ ds st, Mem K ex H ρ st ∧ Slots K ex H ρ σ ds ∧ PostW pn K ex H ρ (f ds st) D
section
variable {K : PySem.W.Frag} {ex : Addr → Prop} {H H' : Hp} {ρ ρ' : List Addr} {st : Store} {σ : L2.St} {ds : DS} {xa : XA} {En : Ends} {pn : Option (Nat × Addr)}
theorem PostW.step {x : RS} (e : Ext ρ H ρ' H') (h : PostW pn K ex H ρ x En) : PostW pn K ex H' ρ' x En := by
  cases x with
  | nx d s => exact fun v H2 ρ2 e2 => h v H2 ρ2 (e.trans e2)
  | rt d s => exact fun v H2 ρ2 e2 => h v H2 ρ2 (e.trans e2)
  | bk d s => exact fun v H2 ρ2 e2 => h v H2 ρ2 (e.trans e2)
  | ct d s => exact fun v H2 ρ2 e2 => h v H2 ρ2 (e.trans e2)
  | exc x d s => exact h
  | no => exact h
theorem PostW.bind {x : RE} {g : D → Store → RS} (h : PostW pn K ex H ρ (x.bindS ds g) En) :
    PostV K ex H ρ x (xOf xa W0 σ) fun v H1 => ∃ d st1 ρ1, Ext ρ H ρ1 H1 ∧ Mem K ex H1 ρ1 st1 ∧ Rep K ex H1 ρ1 d v ∧ PostW pn K ex H1 ρ1 (g d st1) En := by
  cases x with
  | ok d s => exact fun v H2 ρ2 e2 M r => ⟨d, s, ρ2, e2, M, r, PostW.step e2 (show PostW pn K ex H ρ (g d s) En from h)⟩
  | exc x s => exact h.elim
  | no => exact h
theorem pinS_set {i : Nat} {v : Option V} (hi : pn.map (·.1) ≠ some i) (h : pinS pn σ) : pinS pn (σ.set i v) := by
  cases pn with
  | none => trivial
  | some p =>
    have : p.1 ≠ i := fun e => hi (by rw [← e]; rfl)
    show (σ.set i v)[p.1]? = _
    rw [List.getElem?_set_ne (Ne.symm this)]
    exact h
end
section
variable {X : Cx} {xa : XA} {cl : Cl} {G : Gam} {pn : Option (Nat × Addr)}
theorem testX {a : Expr} {fa : DS → Store → RE} (hb : noBool a = true) (ha : PE X a (denX pn X.K xa fa)) : PT X a (fun σ H Q => denX pn X.K xa fa σ H fun v H' => ∃ c, v = .bl c ∧ Q c H') :=
  pt_val ha (fun whole => plainT_is (by cases a <;> first | rfl | simp [noBool] at hb) _ _)
theorem testC (g : UC0 X pn xa cl G) {o : Op} {op : CmpOp} {e f : E} {l r : Expr} {pos : Pos} (hb : cmpOf o = some op ∧ noSet r = true) (he : PE X l (denX pn X.K xa (evE cl e))) (hf : PE X r (denX pn X.K xa (evE cl f))) :
    PT X (.Compare l [op] [r] pos) (fun σ H Q => denX pn X.K xa (evE cl (.pr (.op o) [e, f])) σ H fun v H' => ∃ c, v = .bl c ∧ Q c H') := by
  obtain ⟨rr, h1, h2⟩ := cmp_ok (X := X) g.un hb.1
  exact (pt_cmpR (pos := pos) h1 he hf (noSet_hm hb.2 _)).imp fun σ H Q ⟨q0, q⟩ => by
    simp only [evE, bnd2] at q
    exact ⟨q0, den_mono (den_two (g := fun x y st2 => opF o x y st2) q fun ex H2 ρ2 st2 x y v u M r1 r2 q => h2 M r1 r2 q) fun v H1 z => ⟨q0, z⟩⟩
theorem testU (g : UC0 X pn xa cl G) {c : E} {t : Expr} (h1 : okTest c t = true) (h2 : chkU G (pn.map (·.1)) c t = true) : PT X t (fun σ H Q => denX pn X.K xa (evE cl c) σ H fun v H' => ∃ c, v = .bl c ∧ Q c H') := by
  by_cases hb : noBool t = true
  · exact testX hb (sndU (xa := xa) c g h2)
  · unfold okTest at h1
    rw [Bool.not_eq_true] at hb
    rw [hb, Bool.false_or] at h1
    split at h1
    · rename_i o es l op r pos
      simp only [chkU, Bool.and_eq_true] at h2
      obtain ⟨_, h2⟩ := h2
      simp only [argsP] at h2
      by_cases hc : cmpOf o = some op ∧ noSet r = true
      · rw [if_pos hc] at h2
        obtain ⟨e, f, rfl, he, hf⟩ := (sndUL (xa := xa) (cl := cl) es g h2).two
        exact testC g hc he hf
      · rw [if_neg hc] at h2
        cases h2
    · cases h1
end
section
variable {K : PySem.W.Frag} {ex : Addr → Prop} {H H' : Hp} {ρ ρ' : List Addr} {st : Store} {σ : L2.St} {ds : DS} {d : Addr} {fs : List (Str × V)}
theorem rd_some {a : Addr} {u : HO} (r : Rd H a u) : H a ≠ none := by
  rcases r with r | ⟨o, r⟩ <;> rw [r] <;> simp
theorem rd_ne {a : Addr} {u : HO} (hd : H d = some (.xd fs)) (hu : Plain u) (r : Rd H a u) : a ≠ d := fun z => by
  subst z
  rcases r with r | ⟨o, r⟩ <;> rw [hd] at r
  · cases r
    exact hu
  · cases r
theorem Mem.noX (M : Mem K ex H ρ st) (hd : H d = some (.xd fs)) : d ∉ ρ := fun hm => by
  obtain ⟨n, hn⟩ := List.mem_iff_getElem?.mp hm
  have hl : n < st.length := by rw [← M.len]; exact (List.getElem?_eq_some_iff.mp hn).1
  have h := M.cell n d _ hn (List.getElem?_eq_getElem hl)
  cases e : st[n] with
  | lst xs => rw [e] at h; obtain ⟨vs, e1, _⟩ := h; rw [hd] at e1; cases e1
  | dct xs => rw [e] at h; obtain ⟨vs, e1, _⟩ := h; rw [hd] at e1; cases e1
  | lckL xs => rw [e] at h; obtain ⟨o, vs, e1, _⟩ := h; rw [hd] at e1; cases e1
  | lckD xs => rw [e] at h; obtain ⟨o, vs, e1, _⟩ := h; rw [hd] at e1; cases e1
def lessA (ex : Addr → Prop) (d : Addr) : Addr → Prop := fun a => ex a ∧ a ≠ d
theorem hk_out (hd : H d = some (.xd fs)) : ∀ a u, Plain u → Rd H a u → a ∉ ρ → ¬ ex a → Rd (L2.del H d) a u ∧ a ∉ ρ ∧ ¬ lessA ex d a := fun a u hu r n x => by
  have ne := rd_ne hd hu r
  refine ⟨?_, n, fun q => x q.1⟩
  rcases r with r | ⟨o, r⟩
  · exact .inl (by rw [del_ne ne]; exact r)
  · exact .inr ⟨o, by rw [del_ne ne]; exact r⟩
theorem ht_out (hd : H d = some (.xd fs)) : KeepsT H (L2.del H d) := by
  refine ⟨fun a vs h => ?_, fun a vs h => ?_⟩
  · rw [del_ne fun z => by rw [z, hd] at h; cases h]
    exact h
  · rw [del_ne fun z => by rw [z, hd] at h; cases h]
    exact h
theorem Mem.outX (M : Mem K ex H ρ st) (hd : H d = some (.xd fs)) : Mem K (lessA ex d) (L2.del H d) ρ st :=
  M.gen (hk_out hd) (ht_out hd) (fun a m => del_ne fun z => M.noX hd (by rw [← z]; exact m)) (fun a q => by rw [del_ne q.2]; exact M.exT a q.1) fun a m q => M.exD a m q.1
theorem Slots.outX (S : Slots K ex H ρ σ ds) (hd : H d = some (.xd fs)) : Slots K (lessA ex d) (L2.del H d) ρ σ ds :=
  ⟨S.1, fun i x h => let ⟨v, h1, h2⟩ := S.2 i x h; ⟨v, h1, h2.gen (hk_out hd) (ht_out hd) (fun _ _ h => h)⟩⟩
theorem hk_in (hn : H' d = none) : ∀ a u, Plain u → Rd H' a u → a ∉ ρ' → ¬ lessA ex d a → Rd (upd H' d (.xd fs)) a u ∧ a ∉ ρ' ∧ ¬ ex a := fun a u hu r n x => by
  have ne : a ≠ d := fun z => rd_some r (by rw [z]; exact hn)
  refine ⟨?_, n, fun q => x ⟨q, ne⟩⟩
  rcases r with r | ⟨o, r⟩
  · exact .inl (by rw [upd_ne ne]; exact r)
  · exact .inr ⟨o, by rw [upd_ne ne]; exact r⟩
theorem ht_in (hn : H' d = none) : KeepsT H' (upd H' d (.xd fs)) := by
  refine ⟨fun a vs h => ?_, fun a vs h => ?_⟩
  · rw [upd_ne fun z => by rw [z, hn] at h; cases h]
    exact h
  · rw [upd_ne fun z => by rw [z, hn] at h; cases h]
    exact h
theorem Mem.notX {st' : Store} (M : Mem K (lessA ex d) H' ρ' st') (hn : H' d = none) : d ∉ ρ' := fun m => M.tracked m hn
theorem Mem.inX {st' : Store} (M : Mem K (lessA ex d) H' ρ' st') (hn : H' d = none) : Mem K ex (upd H' d (.xd fs)) ρ' st' :=
  M.gen (hk_in hn) (ht_in hn) (fun a m => upd_ne fun z => M.notX hn (by rw [← z]; exact m)) (fun a q => by
    by_cases z : a = d
    · rw [z, upd_same]; simp
    · rw [upd_ne z]; exact M.exT a ⟨q, z⟩) fun a m q => M.exD a m ⟨q, fun z => M.notX hn (by rw [← z]; exact m)⟩
theorem Slots.inX {σ' : L2.St} {ds' : DS} (S : Slots K (lessA ex d) H' ρ' σ' ds') (hn : H' d = none) : Slots K ex (upd H' d (.xd fs)) ρ' σ' ds' :=
  ⟨S.1, fun i x h => let ⟨v, h1, h2⟩ := S.2 i x h; ⟨v, h1, h2.gen (hk_in hn) (ht_in hn) (fun _ _ h => h)⟩⟩
theorem Ext.inX (e : Ext ρ (L2.del H d) ρ' H') (hd : H d = some (.xd fs)) (hn : H' d = none) (hp : d ∉ ρ') : Ext ρ H ρ' (upd H' d (.xd fs)) where
  keep := fun a o q n => by
    by_cases z : a = d
    · rw [z, hd] at q; cases q; rw [z, upd_same]
    · rw [upd_ne z]; exact e.keep a o (by rw [del_ne z]; exact q) n
  tups := fun a vs q => by
    have z : a ≠ d := fun z => by rw [z, hd] at q; cases q
    rw [upd_ne z]; exact e.tups a vs (by rw [del_ne z]; exact q)
  frzs := fun a o u q => by
    have z : a ≠ d := fun z => by rw [z, hd] at q; cases q
    rw [upd_ne z]; exact e.frzs a o u (by rw [del_ne z]; exact q)
  pre := e.pre
  new := fun a m => (e.new a m).imp _root_.id fun q => by
    have z : a ≠ d := fun z => hp (by rw [← z]; exact m)
    rw [del_ne z] at q; exact q
  trk := fun a q => by
    by_cases z : a = d
    · rw [z, upd_same]; simp
    · rw [upd_ne z]; exact e.trk a (by rw [del_ne z]; exact q)
theorem PostW.outX {pn : Option (Nat × Addr)} {res : RS} {D : Ends} (hd : H d = some (.xd fs)) (q : PostW pn K ex H ρ res D) : PostW pn K (lessA ex d) (L2.del H d) ρ res (outD d fs D) := by
  cases res with
  | nx ds' st' => exact fun σ' H' ρ' e M S p hn => q σ' _ ρ' (e.inX hd hn (M.notX hn)) (M.inX hn) (S.inX hn) p
  | rt x st' => exact fun v H' ρ' e M r hn => q v _ ρ' (e.inX hd hn (M.notX hn)) (M.inX hn) (r.gen (hk_in hn) (ht_in hn) (fun _ _ h => h))
  | bk ds' st' => exact fun σ' H' ρ' e M S p hn => q σ' _ ρ' (e.inX hd hn (M.notX hn)) (M.inX hn) (S.inX hn) p
  | ct ds' st' => exact fun σ' H' ρ' e M S p hn => q σ' _ ρ' (e.inX hd hn (M.notX hn)) (M.inX hn) (S.inX hn) p
  | exc _ _ _ => exact q
  | no => exact q
theorem denW_outX {pn : Option (Nat × Addr)} {f : DS → Store → RS} {D : Ends} (hd : H d = some (.xd fs)) (h : denW pn K f D σ H) : denW pn K f (outD d fs D) σ (L2.del H d) := by
  obtain ⟨q0, ex, ρ, ds, st, M, S, q⟩ := h
  exact ⟨q0, _, ρ, ds, st, M.outX hd, S.outX hd, q.outX hd⟩
end
theorem suite_at {X : Cx} {sts : List Stmt} {d : Addr} {fs : List (Str × V)} {pn : Option (Nat × Addr)} {f : DS → Store → RS}
    (h : ∀ od, (∀ g v, fs.lookup g = some v → ∃ u, PySem.W.lookIn g od = some (some u) ∧ RelV v u) → PSs (pinX X (d, od)) sts (denW pn X.K f)) : PSs X sts (fun D σ H => H d = some (.xd fs) ∧ denW pn X.K f D σ H) := by
  have P := pss_pinned (X := X) (sts := sts) (d := d) (fs := fs) (t := denW pn X.K f) h
  exact ⟨fun pins s σ H D I ⟨hd, q⟩ => P.run pins s σ H D I ⟨hd, denW_outX hd q⟩⟩
mutual
theorem sndV {xa : XA} {cl : Cl} {G : Gam} {pn : Option (Nat × Addr)} : ∀ (s : S) {X : Cx}, UC X pn xa cl G → ∀ {st : Stmt}, chkV G (pn.map (·.1)) s st = true → PS X st (denW pn X.K (evS cl s))
  | .set j e, X, g, st, h => by
    simp only [chkV] at h
    split at h
    · rename_i x p1 a pos
      simp only [Bool.and_eq_true, decide_eq_true_eq] at h
      obtain ⟨⟨⟨⟨h1, h2⟩, h3⟩, h4⟩, h5⟩ := h
      refine (ps_set (pos := pos) g.nd (by rw [g.names]; exact h2) (by rw [g.sc]; exact loc_of h3) (sndU (xa := xa) e g.toUC0 h5) (noComp_sw h4 _ _ _) (.inl (g.fn x))).imp fun D σ H ⟨q0, ex, ρ, ds, st, M, S, q⟩ => ?_
      simp only [evS] at q
      refine ⟨q0, ex, ρ, ds, st, M, S, (PostW.bind q).imp fun v H1 ⟨d, st1, ρ1, e1, M1, r1, q1⟩ => ?_⟩
      exact q1 (σ.set j (some v)) H1 ρ1 (Ext.refl _ _) M1 ((S.ext e1).set j r1) (pinS_set h1 q0)
    · cases h
  | .ret e, X, g, st, h => by
    simp only [chkV] at h
    split at h
    · refine (ps_ret (sndU (xa := xa) e g.toUC0 h)).imp fun D σ H ⟨q0, ex, ρ, ds, st, M, S, q⟩ => ?_
      simp only [evS] at q
      refine ⟨q0, ex, ρ, ds, st, M, S, (PostW.bind q).imp fun v H1 ⟨d, st1, ρ1, e1, M1, r1, q1⟩ => ?_⟩
      exact q1 v H1 ρ1 (Ext.refl _ _) M1 r1
    · cases h
  | .ifs c a b, X, g, st, h => by
    simp only [chkV] at h
    split at h
    · simp only [Bool.and_eq_true] at h
      obtain ⟨⟨⟨h1, h2⟩, h3⟩, h4⟩ := h
      refine (ps_if (testU g.toUC0 h1 h2) (sndVs a g h3) (sndVs b g h4)).imp fun D σ H ⟨q0, ex, ρ, ds, st, M, S, q⟩ => ?_
      simp only [evS] at q
      refine ⟨q0, ex, ρ, ds, st, M, S, (PostW.bind q).imp fun v H1 ⟨d, st1, ρ1, e1, M1, r1, q1⟩ => ?_⟩
      split at q1
      · cases r1
        exact ⟨true, rfl, iteT ⟨q0, ex, ρ1, ds, st1, M1, S.ext e1, q1⟩⟩
      · cases r1
        exact ⟨false, rfl, iteF ⟨q0, ex, ρ1, ds, st1, M1, S.ext e1, q1⟩⟩
      · exact q1.elim
    · cases h
  | .setix _ _ _, X, g, st, h => by simp [chkV] at h
  | .expr _, X, g, st, h => by simp [chkV] at h
  | .whl _ _, X, g, st, h => by simp [chkV] at h
  | .for _ _ _ _, X, g, st, h => by simp [chkV] at h
  | .forE _ _ _ _, X, g, st, h => by simp [chkV] at h
  | .brk, X, g, st, h => by simp [chkV] at h
  | .cnt, X, g, st, h => by simp [chkV] at h
  | .pass, X, g, st, h => by simp [chkV] at h
  | .raise _ _ _, X, g, st, h => by simp [chkV] at h
  | .tri _ _, X, g, st, h => by simp [chkV] at h
  | .hd _ _ _, X, g, st, h => by simp [chkV] at h
  | .dead, X, g, st, h => by
    refine ⟨fun pins s σ H D I q => ?_⟩
    obtain ⟨q0, ex, ρ, ds, st', M, S, q⟩ := q
    simp only [evS] at q
    exact q.elim
  | .strk _ _ _, X, g, st, h => by simp [chkV] at h
  | .strx _ _ _, X, g, st, h => by simp [chkV] at h
theorem sndVs {xa : XA} {cl : Cl} {G : Gam} {pn : Option (Nat × Addr)} : ∀ (b : List S) {X : Cx}, UC X pn xa cl G → ∀ {sts : List Stmt}, chkVs G (pn.map (·.1)) b sts = true → PSs X sts (denW pn X.K (evB cl b))
  | [], X, g, sts, h => by
    cases sts with
    | nil => exact pss_nil.imp fun D σ H ⟨q0, ex, ρ, ds, st, M, S, q⟩ => by simp only [evB] at q; exact q σ H ρ (Ext.refl _ _) M S q0
    | cons _ _ => simp [chkVs] at h
  | s :: b, X, g, sts, h => by
    cases sts with
    | nil => simp [chkVs] at h
    | cons x xs =>
      simp only [chkVs, Bool.and_eq_true] at h
      refine (pss_cons (sndV s g h.1) (sndVs b g h.2)).imp fun D σ H ⟨q0, ex, ρ, ds, st, M, S, q⟩ => ?_
      refine ⟨q0, ex, ρ, ds, st, M, S, ?_⟩
      simp only [evB] at q
      cases e : evS cl s ds st with
      | nx ds' st' => rw [e] at q; exact fun σ' H' ρ' e1 M1 S1 p1 => ⟨p1, ex, ρ', ds', st', M1, S1, PostW.step e1 q⟩
      | rt d s => rw [e] at q; exact q
      | bk d s => rw [e] at q; exact q
      | ct d s => rw [e] at q; exact q
      | exc x d s => rw [e] at q; exact q
      | no => rw [e] at q; exact q
end
theorem excCB_ok {K : PySem.W.Frag} {D : Addr} (h : excCB K D = true) : ExcC K D := by
  unfold excCB at h
  simp only [Bool.and_eq_true, decide_eq_true_eq] at h
  obtain ⟨⟨⟨⟨⟨⟨⟨h1, h2⟩, h3⟩, h4⟩, h5⟩, h6⟩, h7⟩, h8⟩ := h
  exact ⟨h1, h2, h3, h4, h5, h6, h7, h8⟩
def XOk (mg : Str → Option Value) (es : List Nat) (e : Ex) (cls : Value) (dd : Option Addr) (H : Hp) : Prop := e.cls ∈ es ∧ (∃ C, mg (clsName e.cls) = some (.ref C) ∧ cls = .ref C) ∧ match e.at_ with
  | none => dd = none
  | some i => e.cls = 2 ∧ ∃ d, dd = some d ∧ H d = some (.xd [("at", V.int i)])
structure ExcTab (K : PySem.W.Frag) (mg : Str → Option Value) (xa : XA) (es : List Nat) : Prop where
  glo : ∀ x ∈ es, ∃ C, mg (clsName x) = some (.ref C)
  own : ∀ x ∈ es, x ≠ 2 → ∀ C, mg (clsName x) = some (.ref C) → PySem.W.excIn K C He.veBase "ValueError.__new__" = true ∧ PySem.W.keepIn K (.ref C) = true ∧ PySem.W.subIn K (.ref C) (.type "BaseException") = some true ∧ PySem.W.typeIn K (.ref C) = some (.type "type")
  ec : ∀ x ∈ es, ∀ C, mg (clsName x) = some (.ref C) → ExcC K C
  exm : ∀ x ∈ es, ∀ y ∈ es, ∀ C D, mg (clsName x) = some (.ref C) → mg (clsName y) = some (.ref D) → PySem.W.exmOne K (.ref C) (.ref D) = some (isCls x y) ∧ PySem.W.kitOne K (.ref C) (.ref D) = some (isCls x y)
  ve : ∀ x ∈ es, ∀ C, mg (clsName x) = some (.ref C) → PySem.W.kitOne K (.ref C) (.type "ValueError") = some true
  xmk : ∀ x ∈ es, ∀ C, mg (clsName x) = some (.ref C) → ∀ H, xa ⟨x, none⟩ (.ref C) none H
  bad : 2 ∈ es → ∀ C, mg (clsName 2) = some (.ref C) → XfC K C ∧ PySem.W.findIn K (.ref C) "at" = some none
  mk2 : 2 ∈ es → ∀ C, mg (clsName 2) = some (.ref C) → MkAt K mg C
  xmk2 : 2 ∈ es → ∀ C, mg (clsName 2) = some (.ref C) → ∀ i d H, H d = some (.xd [("at", V.int i)]) → xa ⟨2, some i⟩ (.ref C) (some d) H
  xof : ∀ e cls dd H, xa e cls dd H → XOk mg es e cls dd H
  adr : ∀ x ∈ es, ∀ C, mg (clsName x) = some (.ref C) → C = He.ga K (clsName x)
theorem ExcTab.at_ {K : PySem.W.Frag} {mg : Str → Option Value} {xa : XA} {es : List Nat} (T : ExcTab K mg xa es) {c : Nat} (h : c ∈ es) : mg (clsName c) = some (.ref (He.ga K (clsName c))) := by
  obtain ⟨C, hC⟩ := T.glo c h
  rw [hC, T.adr c h C hC]
theorem ExcTab.xc {X : Cx} {xa : XA} {es : List Nat} (T : ExcTab X.K X.mg xa es) : ∀ c ∈ es, XcOk X c := fun c h =>
  ⟨T.at_ h, fun h2 => ⟨(T.own c h h2 _ (T.at_ h)).1, (T.own c h h2 _ (T.at_ h)).2.1⟩, T.ec c h _ (T.at_ h), T.ve c h _ (T.at_ h), fun e => by subst e; exact T.bad h _ (T.at_ h), fun e => by subst e; exact T.mk2 h _ (T.at_ h)⟩
theorem ExcTab.xm {X : Cx} {xa : XA} {es : List Nat} (T : ExcTab X.K X.mg xa es) : ∀ c ∈ es, ∀ d ∈ es, PySem.W.kitOne X.K (.ref (He.ga X.K (clsName c))) (.ref (He.ga X.K (clsName d))) = some (isCls c d) := fun c h d h2 =>
  (T.exm c h d h2 _ _ (T.at_ h) (T.at_ h2)).2
theorem boot_VE : bootBuiltins "ValueError" = some (.type "ValueError") := by decide +kernel
section
variable {X : Cx} {xa : XA} {W : WX} {cl : Cl} {G : Gam}
theorem UC.plain (g : Good X xa W cl G) (hf : ∀ x, X.fn x = true) (a : Addr) (pn : List (Addr × Obj)) : UC (X.suite a pn) none xa cl G :=
  ⟨⟨g.names, g.nd, g.sc, g.un2, g.blt, (fun h => nomatch h), fun c ex h => by simp [isXB] at h, fun c ex h => by simp [exkB] at h, fun ex h => by simp [atB] at h⟩, hf⟩
theorem UC.gen (names : X.N = G.N) (nd : X.N.Nodup) (sc : X.env.scope = G.sc) (un : X.A.units + 90 < cLine) (blt : ∀ x ∈ bltNames, X.mg x = none) (fn : ∀ x, X.fn x = true) (T : ExcTab X.K X.mg xa G.exs) {a C : Addr} {oe : Obj} {i : Nat} {e : Ex} {dd : Option (Addr × Obj)} (he : e.cls ∈ G.exs) (hC : X.mg (clsName e.cls) = some (.ref C))
    (ep : ExPin X.pn C a oe dd) (hat : ∀ k, e.at_ = some k → e.cls = 2 ∧ ∃ q u, dd = some q ∧ PySem.W.lookIn "at" q.2 = some (some u) ∧ RelV (V.int k) u) (hhot : Hot1 X.A (a, oe)) (hk : ∀ f ex, exkB G (some i) f ex = true → PE X ex (denX (some (i, a)) X.K xa (evE (clE cl e) (.exk f)))) : UC X (some (i, a)) xa (clE cl e) G := by
  refine ⟨⟨names, nd, sc, un, blt, fun _ => ⟨(a, oe), hhot, ep.2.2.1⟩, fun c ex h => ?_, hk, fun ex h => ?_⟩, fn⟩
  simp only [isXB, Option.map_some] at h
  split at h
  · rename_i f p1 n p2 y p3 pos
    simp only [Bool.and_eq_true, Bool.or_eq_true, decide_eq_true_eq] at h
    obtain ⟨⟨⟨⟨⟨⟨⟨rfl, h1⟩, h2⟩, h3⟩, h4⟩, h5⟩, h6⟩, h7⟩ := h
    have gl : ∀ {z : Str}, gloB G.sc z = true → Gl X z := fun hz => by
      show X.env.scope.names.lookup _ = _
      rw [sc]
      exact glo_of hz
    have hv : Vis X.env.scope n := by rw [sc]; exact vis_of h3
    have pv : PE X (.Name n p2) (tVar i) := pe_var (by rw [names]; exact h2) hv (okName_of h4).1 (okName_of h4).2.1
    have key : ∀ (c' : V) (cv : Value), PE X (.Name y p3) (tC c') → (∀ u, RelV c' u → u = cv) → PySem.W.kitOne X.K (.ref C) cv = some (isCls e.cls c) → c < 10 →
        PE X (.Call (.Name "isinstance" p1) [.Name n p2, .Name y p3] [] pos) (denX (some (i, a)) X.K xa (evE (clE cl e) (.exis c))) := fun c' cv pc hc hk hlt => by
      refine (pe_callB (isE_pinD (T.ec _ he C hC) ep) (gl h1) (blt _ (by decide)) boot_isinstance (pa_cons pv (pa_cons pc pa_nil rfl) rfl) (by decide) (by decide) rfl rfl).imp fun σ H Q ⟨q0, ex, ρ, ds, st, M, S, q⟩ => ?_
      have ev : evE (clE cl e) (.exis c) ds st = .ok (.bl (isCls e.cls c)) st := by
        simp only [evE, clE]
        rw [if_neg (by omega), if_neg (by omega), if_pos (by omega), Nat.add_sub_cancel_left]
      rw [ev] at q
      refine ⟨.ref a, q0, c', cv, isCls e.cls c, rfl, hc, hk, q.here M rfl⟩
    rcases h7 with ⟨⟨h7, h8⟩, rfl⟩ | ⟨rfl, rfl⟩
    · obtain ⟨D, hD⟩ := T.glo c h8
      exact key (.ref D) (.ref D) (pe_glob (gl h5) hD rfl (okName_of h6).1) (fun u r => r) (T.exm _ he _ h8 C D hC hD).2 (by omega)
    · refine key (.ty "ValueError") (.type "ValueError") (pe_bltn (gl h5) (blt _ (by decide)) boot_VE rfl (by decide) (by decide)) (fun u r => r) ?_ (by omega)
      rw [T.ve _ he C hC]
      rfl
  · cases h
  · simp only [atB, Option.map_some] at h
    split at h
    · rename_i n p2 f pos
      simp only [Bool.and_eq_true, decide_eq_true_eq] at h
      obtain ⟨⟨⟨rfl, h2⟩, h3⟩, h4⟩ := h
      have hv : Vis X.env.scope n := by rw [sc]; exact vis_of h3
      have pv : PE X (.Name n p2) (tVar i) := pe_var (by rw [names]; exact h2) hv (okName_of h4).1 (okName_of h4).2.1
      cases ea : e.at_ with
      | none => exact ⟨fun pins s σ H Q I ⟨q0, ex, ρ, ds, st, M, S, q⟩ => by simp only [evE, clE, ea] at q; exact q.elim⟩
      | some k =>
        obtain ⟨h5, q, u, rfl, h6, h7⟩ := hat k ea
        obtain ⟨t1, t2⟩ := T.bad (by rw [← h5]; exact he) C (by rw [← h5]; exact hC)
        refine (pe_atD t1 t2 ep h6 h7 pv).imp fun σ H Q ⟨q0, ex, ρ, ds, st, M, S, q⟩ => ⟨q0, ?_⟩
        simp only [evE, clE, ea] at q
        exact q.here M rfl
    · cases h
theorem UC.named (g : Good X xa W cl G) (T : ExcTab X.K X.mg xa G.exs) (hf : ∀ x, X.fn x = true) {a C : Addr} {oe : Obj} {pn : List (Addr × Obj)} {i : Nat} {e : Ex} (dd : Option (Addr × Obj)) (he : e.cls ∈ G.exs) (hC : X.mg (clsName e.cls) = some (.ref C)) (hz : L2N.Zn (.ref C) (dd.map (·.1)) oe) (hd : ∃ vs, oe.data = .fields vs)
    (hat : ∀ k, e.at_ = some k → e.cls = 2 ∧ ∃ q u, dd = some q ∧ PySem.W.lookIn "at" q.2 = some (some u) ∧ RelV (V.int k) u) : UC (pinD (X.suite a ((a, oe) :: pn)) dd) (some (i, a)) xa (clE cl e) G := by
  have key : ∀ (Y : Cx), Y.N = X.N → Y.env = X.env → Y.A = (X.suite a ((a, oe) :: pn)).A → Y.mg = X.mg → Y.K = X.K → Y.fn = X.fn → Y.prog = X.prog → Y.w = X.w → Y.base = X.base → (a, oe) ∈ Y.pn → (∀ q, dd = some q → q ∈ Y.pn) → UC Y (some (i, a)) xa (clE cl e) G := fun Y y1 y2 y3 y4 y5 y6 y7 y8 y9 y10 y11 => by
    have hot0 : Hot1 Y.A (a, oe) := by
      obtain ⟨vs, hvs⟩ := hd
      rw [y3]
      exact ⟨rfl, vs, hvs, hz.2.2 vs hvs⟩
    refine UC.gen (X := Y) (by rw [y1]; exact g.names) (by rw [y1]; exact g.nd) (by rw [y2]; exact g.sc) (by rw [y3]; exact g.un2) (by rw [y4]; exact g.blt) (by rw [y6]; exact hf) (by rw [y5, y4]; exact T) he (by rw [y4]; exact hC) ⟨hz.zc, hd, y10, y11⟩ hat hot0 fun f ex h => ?_
    simp only [exkB] at h
    split at h
    · rename_i x q n p2 pos
      simp only [Bool.and_eq_true, decide_eq_true_eq] at h
      obtain ⟨⟨⟨⟨⟨h1, h2⟩, h3⟩, h4⟩, h5⟩, h6⟩ := h
      obtain ⟨k, b, fd, ps, F, hr, hm, hk, hb⟩ := (g.hotf f x h1).ex
      have hv : Vis Y.env.scope n := by rw [y2, g.sc]; exact vis_of h5
      have pv : PE Y (.Name n p2) (tVar i) := pe_var (by rw [y1, g.names]; exact h4) hv (okName_of h6).1 (okName_of h6).2.1
      have hgl : Gl Y x := by
        show Y.env.kindOf x = _
        rw [y2]
        exact g.glob h2
      refine (pe_callX (X := Y) (p := (a, oe)) (C := C) (dd := dd) (k := k) (f := b) (fd := fd) (ps := ps) (sp := hotSp X.K X.mg G.exs cl f) (by rw [y7, y8, y5, y4, y9]; exact F) (by rw [y3]; exact ⟨hr.dp, hr.un⟩) hot0 y10 y11 hz hd hgl (by rw [y4]; exact hm) (by rw [y5]; exact hk) (by rw [y5]; exact hb) pv (okName_of h3).1).imp fun σ H Q ⟨q0, ex, ρ, ds, st, M, S, q⟩ => ?_
      rw [y5] at M q
      refine ⟨q0, e.cls, ex, ρ, st, he, hC, M, ?_⟩
      have ev : evE (clE cl e) (.exk f) ds st = cl f [.int e.cls] st := by
        simp only [evE, clE]
        rw [if_pos (by omega), Nat.add_sub_cancel_left]
      rw [ev] at q
      cases hr2 : cl f [.int e.cls] st with
      | ok d s => rw [hr2] at q; exact q
      | exc x s => exact fun _ _ _ _ => trivial
      | no => rw [hr2] at q; exact q
    · cases h
  cases dd with
  | none => exact key _ rfl rfl rfl rfl rfl rfl rfl rfl rfl List.mem_cons_self (fun q h => nomatch h)
  | some q => exact key _ rfl rfl rfl rfl rfl rfl rfl rfl rfl (List.mem_cons_of_mem _ List.mem_cons_self) (fun q' h => by cases h; exact List.mem_cons_self)
theorem suite_named (g : Good X xa W cl G) (T : ExcTab X.K X.mg xa G.exs) (hf : ∀ x, X.fn x = true) {a : Addr} {oe : Obj} {cls : Value} {dd : Option Addr} {pn : List (Addr × Obj)} {i : Nat} {b : List S} {su : List Stmt} (hz : L2N.Zn cls dd oe) (hd : ∃ vs, oe.data = .fields vs) (h4 : chkVs G (some i) b su = true) :
    PSs (X.suite a ((a, oe) :: pn)) su (fun D σ H => ∃ e : Ex, XOk X.mg G.exs e cls dd H ∧ denW (some (i, a)) X.K (evB (clE cl e) b) D σ H) := by
  refine ⟨fun pins s σ H D I ⟨e, ⟨he, ⟨C', hC', hcl⟩, hm⟩, hw⟩ => ?_⟩
  subst hcl
  cases ea : e.at_ with
  | none =>
    rw [ea] at hm
    subst hm
    exact (sndVs (xa := xa) (pn := some (i, a)) b (UC.named g T hf none he hC' hz hd (fun k h => by rw [ea] at h; cases h)) h4).run pins s σ H D I hw
  | some k =>
    rw [ea] at hm
    obtain ⟨h2, d, rfl, hx⟩ := hm
    refine (suite_at (X := X.suite a ((a, oe) :: pn)) (d := d) (fs := [("at", V.int k)]) (pn := some (i, a)) (f := evB (clE cl e) b) (fun od hl => ?_)).run pins s σ H D I ⟨hx, hw⟩
    obtain ⟨u, hu, ru⟩ := hl "at" (.int k) rfl
    exact sndVs (xa := xa) (pn := some (i, a)) b (UC.named g T hf (some (d, od)) he hC' hz hd (fun k' h => by rw [ea] at h; cases h; exact ⟨h2, (d, od), u, rfl, hu, ru⟩)) h4
theorem hd_names (g : Good X xa W cl G) (T : ExcTab X.K X.mg xa G.exs) {c : Nat} {x : Str} (h : hdB G c x = true) : ∃ C, X.mg (clsName c) = some (.ref C) ∧ c ∈ G.exs ∧ Names X x (.ref C) := by
  unfold hdB at h
  simp only [Bool.and_eq_true, decide_eq_true_eq] at h
  obtain ⟨⟨⟨⟨h1, h2⟩, rfl⟩, h4⟩, h5⟩ := h
  obtain ⟨C, hC⟩ := T.glo c h2
  exact ⟨C, hC, h2, g.glob h4, (okName_of h5).1, .inl hC⟩
theorem Slots.hole {K : PySem.W.Frag} {ex : Addr → Prop} {H : Hp} {ρ : List Addr} {σ : L2.St} {ds : DS} (s : Slots K ex H ρ σ ds) (i : Nat) (v : Option V) : Slots K ex H ρ (σ.set i v) (ds.set i none) := by
  refine ⟨by rw [List.length_set, List.length_set]; exact s.1, fun j e h => ?_⟩
  by_cases hj : j = i
  · subst hj
    have hl : j < ds.length := by have := (List.getElem?_eq_some_iff.mp h).1; rwa [List.length_set] at this
    rw [List.getElem?_set_self hl] at h
    cases h
  · rw [List.getElem?_set_ne (Ne.symm hj)] at h
    rw [List.getElem?_set_ne (Ne.symm hj)]
    exact s.2 j e h
theorem hds_ok (g : Good X xa W cl G) (T : ExcTab X.K X.mg xa G.exs) (hf : ∀ x, X.fn x = true) : ∀ (hs : List S) (hds : List ExceptHandler), chkH G hs hds = true → ∃ l, ClzOk X hds l ∧
    ∀ {ex : Addr → Prop} {H : Hp} {ρ : List Addr} {st : Store} {σ : L2.St} {ds : DS} {e : Ex} {D : Ends} {cls : Value} {dd : Option Addr}, Mem X.K ex H ρ st → Slots X.K ex H ρ σ ds → xa e cls dd H → PostS X.K ex H ρ (evH cl hs e ds st) xa W D → wMix X.K W D l cls dd σ H
  | [], hds, h => by
    cases hds with
    | nil => exact ⟨[], .nil, fun {ex H ρ st σ ds e D cls dd} M S hx q => by simp only [evH] at q; exact q σ H ρ (Ext.refl _ _) M S cls dd hx⟩
    | cons _ _ => simp [chkH] at h
  | s :: r, hds, h => by
    simp only [chkH] at h
    split at h
    · rename_i c b x np b0 su pos hs'
      simp only [Bool.and_eq_true] at h
      obtain ⟨⟨h1, h2⟩, h3⟩ := h
      obtain ⟨l, hl, kl⟩ := hds_ok g T hf r hs' h3
      obtain ⟨C, hC, hc, hn⟩ := hd_names g T h1
      refine ⟨⟨.ref C, none, fun a _ _ => denW none X.K (evB cl b)⟩ :: l, .cons hn trivial (fun a oe cls d pn hz hd => sndVs (xa := xa) (pn := none) b (UC.plain g hf a _) h2) hl, fun {ex H ρ st σ ds e D cls dd} M S hx q => ?_⟩
      have hx0 := hx
      obtain ⟨he, ⟨C', hC', rfl⟩, _⟩ := T.xof _ _ _ _ hx
      refine ⟨isCls e.cls c, (T.exm _ he _ hc C' C hC' hC).1, fun hb a _ => ⟨trivial, ex, ρ, ds, st, M, S, ?_⟩, fun hb => ?_⟩
      · simp only [evH] at q
        rw [if_pos hb] at q
        cases eb : evB cl b ds st with
        | nx d s => rw [eb] at q; exact fun σ' H' ρ' e1 M1 S1 _ => q σ' H' ρ' e1 M1 S1
        | rt d s => rw [eb] at q; exact q
        | bk d s => rw [eb] at q; exact fun σ' H' ρ' e1 M1 S1 _ => q σ' H' ρ' e1 M1 S1
        | ct d s => rw [eb] at q; exact fun σ' H' ρ' e1 M1 S1 _ => q σ' H' ρ' e1 M1 S1
        | exc x d s => rw [eb] at q; exact q
        | no => rw [eb] at q; exact q
      · simp only [evH] at q
        rw [if_neg (by rw [hb]; decide)] at q
        exact kl M S hx q
    · rename_i c i b x np n b0 su pos hs'
      simp only [Bool.and_eq_true, decide_eq_true_eq] at h
      obtain ⟨⟨⟨⟨h1, h2⟩, h3⟩, h4⟩, h5⟩ := h
      obtain ⟨l, hl, kl⟩ := hds_ok g T hf r hs' h5
      obtain ⟨C, hC, hm, hn⟩ := hd_names g T h1
      refine ⟨⟨.ref C, some i, fun a cls dd D σ H => ∃ e : Ex, XOk X.mg G.exs e cls dd H ∧ denW (some (i, a)) X.K (evB (clE cl e) b) D σ H⟩ :: l,
        .cons hn ⟨by rw [g.names]; exact h2, by show X.env.scope.names.lookup n = _; rw [g.sc]; exact h3⟩ (fun a oe cls dd pn hz hd => suite_named g T hf hz hd h4) hl, fun {ex H ρ st σ ds e D cls dd} M S hx q => ?_⟩
      · have hx' := hx
        have hok := T.xof _ _ _ _ hx
        obtain ⟨he, ⟨C', hC', rfl⟩, _⟩ := T.xof _ _ _ _ hx
        refine ⟨isCls e.cls c, (T.exm _ he _ hm C' C hC' hC).1, fun hb1 a _ => ?_, fun hb1 => ?_⟩
        · simp only [evH] at q
          rw [if_pos hb1] at q
          split at q
          · rename_i hi
            have hi' : i < σ.length := by rw [S.1]; exact hi
            refine ⟨e, hok, List.getElem?_set_self hi', ex, ρ, ds.set i none, st, M, S.hole i _, ?_⟩
            cases es : evB (clE cl e) b (ds.set i none) st with
            | nx d s => rw [es] at q; exact fun σ2 H2 ρ2 e2 M2 S2 _ => q (σ2.set i none) H2 ρ2 e2 M2 (S2.hole i none)
            | rt d s => rw [es] at q; exact q
            | bk d s => rw [es] at q; exact q.elim
            | ct d s => rw [es] at q; exact q.elim
            | exc x d s => rw [es] at q; exact q.elim
            | no => rw [es] at q; exact q.elim
          · exact q.elim
        · simp only [evH] at q
          rw [if_neg (by rw [hb1]; decide)] at q
          exact kl M S hx' q
    · cases h
theorem Good.tr (g : Good X xa W cl G) {W' : WX} {pn : List (Addr × Obj)} {xe : Value → Shared → Prop} (tk : L2N.Takes (X.tr pn xe) W') : Good (X.tr pn xe) xa W' cl G :=
  ⟨g.names, g.nd, g.sc, g.calm, g.un2, g.blt, g.gl, fun f x np h => ⟨(g.fn f x np h).ex⟩, tk, fun f x h => ⟨(g.hotf f x h).ex⟩, fun c h => ⟨(g.xc c h).glo, (g.xc c h).own, (g.xc c h).ec, (g.xc c h).ve, (g.xc c h).bad, (g.xc c h).mk2⟩, g.xm, g.rm⟩
structure SCx (X : Cx) (xa : XA) (G : Gam) : Prop where
  hp : PassesOwn (model X.prog X.w) X.A X.env X.xe
  hf : ∀ x, X.fn x = true
  exc : ExcTab X.K X.mg xa G.exs
  stk : X.stack = X.env :: X.outer
  frm : X.env.frame = some X.env.locals
  rm : Room 2 X.A
theorem raise_ok (g : Good X xa W cl G) (T : ExcTab X.K X.mg xa G.exs) {c : Nat} {m a : E} {st : Stmt} (hc : c ≠ 2) (h : raiseB G c m a st = true) : PS X st (denS X.K xa W (evS cl (.raise c m a))) := by
  unfold raiseB at h
  split at h
  · rename_i x p1 z j p2 pos pos'
    rw [Bool.and_eq_true] at h
    obtain ⟨h1, h2⟩ := h
    obtain ⟨C, hC, hm, hn⟩ := hd_names g T h1
    split at h2
    · rename_i s
      obtain ⟨o1, o2, o3, o4⟩ := T.own c hm hc C hC
      have hx : X.mg x = some (.ref C) := by
        unfold hdB at h1
        simp only [Bool.and_eq_true, decide_eq_true_eq] at h1
        rw [h1.1.1.2]
        exact hC
      refine (L2N.ps_raise g.calm g.tk (L2N.pmk_own PySem.F.excBase_ValueError o1 hx o2 (raises_own o3 o4) hn.1 hn.2.1)).imp fun D σ H ⟨ex, ρ, ds, sto, M, S, q⟩ => ?_
      have e : evS cl (.raise c (.k (.str s)) (.k .non)) ds sto = .exc ⟨c, none⟩ ds sto := by simp only [evS, evE, R.bindS, if_neg hc]
      rw [e] at q
      exact q σ H ρ (Ext.refl _ _) M S (.ref C) none (T.xmk c hm C hC H)
    · cases h2
  · cases h
theorem raise2_ok (g : Good X xa W cl G) (kx : SCx X xa G) (snd : ∀ (a : E) (ex : Expr), chkE G a ex = true → PE X ex (denE X.K xa W (evE cl a))) {m a : E} {st : Stmt} (h : raiseB2 G m a st = true) : PS X st (denS X.K xa W (evS cl (.raise 2 m a))) := by
  unfold raiseB2 at h
  split at h
  · rename_i x p1 z j p2 ex pos pos'
    simp only [Bool.and_eq_true] at h
    obtain ⟨⟨⟨h1, h2⟩, h3⟩, h4⟩ := h
    obtain ⟨C, hC, hm, hn⟩ := hd_names g kx.exc h1
    have hx : X.mg x = some (.ref C) := by
      unfold hdB at h1
      simp only [Bool.and_eq_true, decide_eq_true_eq] at h1
      rw [h1.1.1.2]
      exact hC
    split at h2
    · rename_i s
      have A := kx.exc.mk2 hm C hC
      obtain ⟨fI, fd, i1, i2, i3, i4, _⟩ := A.ini
      have hk : PE X (.Constant (.str z) j p2) (denE X.K xa W fun _ st => .ok (.str s) st) := k_ok h2
      refine (L2N.ps_raise g.calm g.tk (pmk_at A.oex A.no i1 i2 (i3 X.prog X.w X.base) kx.rm i4 (fun pins σ s H er s' I hq => by obtain ⟨_, _, _, _, _, _, _, _, _, _, _, _, z⟩ := hq; exact z.elim) hn.1 hx (pa_cons hk (pa_cons (snd a ex h4) pa_nil (star_cons h3 _ _)) (star_cons rfl _ _)) hn.2.1 (star_cons rfl _ _) (by rw [star_cons h3]; rfl))).imp fun D σ H ⟨ex, ρ, ds, sto, M, S, q⟩ => ?_
      have e : evS cl (.raise 2 (.k (.str s)) a) ds sto = (evE cl a ds sto).bindS ds fun x st2 => raise2F x ds st2 := by
        simp only [evS, evE, R.bindS, if_pos]
        cases evE cl a ds sto with
        | ok x s => cases x <;> rfl
        | exc _ _ => rfl
        | no => rfl
      rw [e] at q
      refine ⟨ex, ρ, ds, sto, M, S, fun v1 H1 ρ1 e1 M1 r1 => ⟨ex, ρ1, ds, sto, M1, S.ext e1, ?_⟩⟩
      refine (PostS.bind (S.ext e1) (PostS.step e1 q)).imp fun v2 H2 ⟨d, st1, ρ2, e2, M2, r2, q2⟩ => ?_
      cases d with
      | int i =>
        cases r2
        refine ⟨v1, .int i, rfl, fun dx hd => ?_⟩
        exact q2 σ _ ρ2 (Ext.laid hd) (M2.laid hd) (((S.ext e1).ext e2).ext (Ext.laid hd)) (.ref C) (some dx) (kx.exc.xmk2 hm C hC i dx _ upd_same)
      | _ => exact q2.elim
    · cases h2
  · cases h
theorem as_ok (g : Good X xa W cl G) (kx : SCx X xa G) {b : List S} {bd : List Stmt} {c : Nat} {v : Option Nat} {su : List S} {h : ExceptHandler} {pos : Pos} (hA : chkA G c v su h = true)
    (hb : ∀ (W' : WX) (pn : List (Addr × Obj)) (xe : Value → Shared → Prop), L2N.Takes (X.tr pn xe) W' → PassesOwn (model X.prog X.w) X.A X.env xe → PSs (X.tr pn xe) bd (denS X.K xa W' (evB cl b))) :
    PS X (.Try bd [h] [] [] pos) (denS X.K xa W (evS cl (.tri b [.hd c v su]))) := by
  unfold chkA at hA
  split at hA
  · rename_i i x np n b0 sus pos'
    simp only [Bool.and_eq_true, decide_eq_true_eq] at hA
    obtain ⟨⟨⟨h1, h2⟩, h3⟩, h4⟩ := hA
    obtain ⟨C, hC, hm, hn⟩ := hd_names g kx.exc h1
    refine (L2N.ps_try_as (i := i) (Wout := W) (tb := fun W' => denS X.K xa W' (evB cl b)) (ts := fun a cls dd D σ H => ∃ e : Ex, XOk X.mg G.exs e cls dd H ∧ denW (some (i, a)) X.K (evB (clE cl e) su) D σ H)
      kx.stk kx.frm g.nd (by rw [g.names]; exact h2) (by show X.env.scope.names.lookup n = _; rw [g.sc]; exact h3) hn g.tk hb ?_).imp fun D σ H ⟨ex, ρ, ds, sto, M, S, q⟩ => ?_
    · intro a oe cls dd pn hz hd
      exact suite_named g kx.exc kx.hf hz hd h4
    · refine ⟨ex, ρ, ds, sto, M, S, ?_⟩
      simp only [evS] at q
      cases eb : evB cl b ds sto with
      | nx d s => rw [eb] at q; exact q
      | rt d s => rw [eb] at q; exact q
      | bk d s => rw [eb] at q; exact q
      | ct d s => rw [eb] at q; exact q
      | no => rw [eb] at q; exact q
      | exc e ds' st' =>
        rw [eb] at q
        intro σ' H' ρ' x1 M1 S1 cls dd hx
        have hx' := hx
        have hok := kx.exc.xof _ _ _ _ hx
        obtain ⟨he, ⟨C', hC', rfl⟩, _⟩ := kx.exc.xof _ _ _ _ hx
        refine ⟨isCls e.cls c, (kx.exc.exm _ he _ hm C' C hC' hC).1, fun hb1 a _ => ?_, fun hb1 => ?_⟩
        · simp only [evH] at q
          rw [if_pos hb1] at q
          split at q
          · rename_i hi
            have hi' : i < σ'.length := by rw [S1.1]; exact hi
            refine ⟨e, hok, List.getElem?_set_self hi', ex, ρ', ds'.set i none, st', M1, S1.hole i _, ?_⟩
            have q' := PostS.step x1 q
            cases es : evB (clE cl e) su (ds'.set i none) st' with
            | nx d s => rw [es] at q'; exact fun σ2 H2 ρ2 e2 M2 S2 _ => q' (σ2.set i none) H2 ρ2 e2 M2 (S2.hole i none)
            | rt d s => rw [es] at q'; exact q'
            | bk d s => rw [es] at q'; exact q'.elim
            | ct d s => rw [es] at q'; exact q'.elim
            | exc x d s => rw [es] at q'; exact q'.elim
            | no => rw [es] at q'; exact q'.elim
          · exact q.elim
        · simp only [evH] at q
          rw [if_neg (by rw [hb1]; decide)] at q
          exact q σ' H' ρ' x1 M1 S1 _ _ hx'
  · cases hA
theorem many_ok (g : Good X xa W cl G) (kx : SCx X xa G) {b : List S} {bd : List Stmt} {s : S} {r : List S} {h : ExceptHandler} {hds : List ExceptHandler} {pos : Pos} (hA : chkH G (s :: r) (h :: hds) = true)
    (hb : ∀ (W' : WX) (pn : List (Addr × Obj)) (xe : Value → Shared → Prop), L2N.Takes (X.tr pn xe) W' → PassesOwn (model X.prog X.w) X.A X.env xe → PSs (X.tr pn xe) bd (denS X.K xa W' (evB cl b))) :
    PS X (.Try bd (h :: hds) [] [] pos) (denS X.K xa W (evS cl (.tri b (s :: r)))) := by
  obtain ⟨l, hl, kl⟩ := hds_ok g kx.exc kx.hf (s :: r) (h :: hds) hA
  refine (try_mix (tb := fun W' => denS X.K xa W' (evB cl b)) kx.stk kx.frm g.nd g.tk hb hl).imp fun D σ H ⟨ex, ρ, ds, sto, M, S, q⟩ => ?_
  refine ⟨ex, ρ, ds, sto, M, S, ?_⟩
  simp only [evS] at q
  cases eb : evB cl b ds sto with
  | nx d s => rw [eb] at q; exact q
  | rt d s => rw [eb] at q; exact q
  | bk d s => rw [eb] at q; exact q
  | ct d s => rw [eb] at q; exact q
  | no => rw [eb] at q; exact q
  | exc e ds' st' =>
    rw [eb] at q
    exact fun σ' H' ρ' x1 M1 S1 cls dd hx => kl M1 S1 hx (PostS.step x1 q)
theorem try_ok (g : Good X xa W cl G) (kx : SCx X xa G) {b hs : List S} {bd : List Stmt} {hds : List ExceptHandler} {pos : Pos}
    (h : (match hs, hds with
      | [.hd c v su], [h] => chkA G c v su h || chkH G [.hd c v su] [h]
      | s :: r, h :: hds => chkH G (s :: r) (h :: hds)
      | _, _ => false) = true)
    (hb : ∀ (W' : WX) (pn : List (Addr × Obj)) (xe : Value → Shared → Prop), L2N.Takes (X.tr pn xe) W' → PassesOwn (model X.prog X.w) X.A X.env xe → PSs (X.tr pn xe) bd (denS X.K xa W' (evB cl b))) :
    PS X (.Try bd hds [] [] pos) (denS X.K xa W (evS cl (.tri b hs))) := by
  split at h
  · rename_i c v su h'
    rw [Bool.or_eq_true] at h
    rcases h with h | h
    · exact as_ok g kx h hb
    · exact many_ok g kx h hb
  · exact many_ok g kx h hb
  · cases h
end
end MP
end
section
set_option maxRecDepth 100000
set_option maxHeartbeats 8000000
namespace MP
open PySem PySem.Spec PyProof.Rows L2
section
variable {X : Cx} {xa : XA} {W : WX} {cl : Cl} {G : Gam}
theorem comp_get (g : Good X xa W cl G) {e : E} {el : Expr} {gens : List Comprehension} {scope : Scope} {pos : Pos} (h : chkE G e (.ListComp el gens scope pos) = true) :
    ∃ m v elt k src cond x tgp iter ifs, e = .comp m v elt k src cond ∧ gens = [⟨.Name x tgp, iter, ifs, 0⟩] ∧ Blk X xa x tgp v el ifs scope (evE cl elt) (evE cl cond) ∧
      ((k = .itv ∧ ∃ z p2 w, iter = .Name z p2 ∧ src = [.var w] ∧ PE X (.Name z p2) (tVar w)) ∨ (k = .itx ∧ ∃ e0, src = [e0] ∧ PE X iter (denE X.K xa W (evE cl e0)) ∧ (∀ z, foldedSetIterable iter X.env z = pure z) ∧ LockSrc (evE cl e0) ∧ ∀ ds st e st', evE cl e0 ds st ≠ .exc e st') ∨
        (k ≠ .itv ∧ k ≠ .itx ∧ SrcOk X xa W (.Name x tgp) iter k (evL cl src) ∧ ∀ z, foldedSetIterable iter X.env z = pure z)) := by
  cases e with
  | comp m v elt k src cond =>
    simp only [chkE] at h
    split at h
    · rename_i el x tgp iter ifs scope pos heq
      cases heq
      split at h
      · rename_i as ha
        simp only [Bool.and_eq_true] at h
        obtain ⟨⟨⟨⟨h1, h2⟩, h3⟩, h4⟩, h5⟩ := h
        obtain ⟨b1, b2, b3⟩ := blk_ok h2
        refine ⟨m, v, elt, k, src, cond, x, tgp, iter, ifs, rfl, rfl, ?_, ?_⟩
        · refine ⟨by rw [g.names, g.sc]; exact b1, fun s H C cl' fp => g.blkG b2 b3 s H C cl' fp, fun s H C cl' fp => ?_, fun s H C cl' fp => (sndE elt (g.blk s H C cl' fp) h3).1⟩
          split at h5
          · split at h5
            · exact pts_yes
            · cases h5
          · exact pts_one (sndE cond (g.blk s H C cl' fp) h5).2.1
          · cases h5
        · by_cases hk : k = .itv
          · subst hk
            obtain ⟨i, rfl⟩ := isVar_eq h4
            simp only [argsI] at ha
            split at ha
            · rename_i z p2
              cases ha
              simp only [chkL, chkE, Bool.and_true, Bool.and_eq_true, decide_eq_true_eq] at h1
              obtain ⟨⟨q1, q2⟩, q3⟩ := h1
              have hv : Vis X.env.scope z := by rw [g.sc]; exact vis_of q2
              exact .inl ⟨rfl, z, p2, i, rfl, rfl, pe_var (i := i) (by rw [g.names]; exact q1) hv (okName_of q3).1 (okName_of q3).2.1⟩
            · cases ha
          · by_cases hkx : k = .itx
            · subst hkx
              obtain ⟨i, c, rfl⟩ := isIx_eq h4
              simp only [argsI] at ha
              split at ha
              · rename_i hb
                cases ha
                obtain ⟨e, he, hpe⟩ := PEs.one (sndL (cl := cl) _ g h1)
                cases he
                obtain ⟨l1, l2⟩ := ix_src cl i c
                exact .inr (.inl ⟨rfl, _, rfl, hpe, fun z => noSet_fold hb _ z, l1, l2⟩)
              · cases ha
            · obtain ⟨s1, s2⟩ := src_ok (tg := .Name x tgp) g ha hk hkx (sndL src g h1)
              exact .inr (.inr ⟨hk, hkx, s1, s2⟩)
      · cases h
    · cases h
  | exis c => simp [chkE] at h
  | exat => simp [chkE] at h
  | mkx _ _ =>
    simp [chkE] at h
  | isx _ _ =>
    simp [chkE] at h
  | atx _ =>
    simp [chkE] at h
  | exk _ => simp [chkE] at h
  | var i => simp [chkE] at h
  | k d => simp [chkE] at h
  | glob x d => simp [chkE] at h
  | pr p es =>
    simp only [chkE] at h
    split at h
    · rename_i as ha
      exfalso
      unfold argsP at ha
      split at ha <;> first | (simp at ha; done) | (obtain ⟨x, n, p1, pos, _, q2, _⟩ := blt_args ha; cases q2)
    · cases h
  | mth p o es =>
    simp only [chkE] at h
    split at h
    · rename_i ob as ha
      exfalso
      unfold argsM at ha
      split at ha <;> simp at ha
    · cases h
  | slc m hl hh a lo hi => simp [chkE] at h
  | and a b => simp [chkE] at h
  | or a b => simp [chkE] at h
  | not a => simp [chkE] at h
  | ife a b c => simp [chkE] at h
  | chain o o' a b c => simp [chkE] at h
  | call f raw es => simp [chkE] at h
  | callM f es => simp [chkE] at h
  | callX k f es => simp [chkE] at h
theorem sw_sub {a b c : Expr} {p : Pos} (l : Nat) (env : Env) : swapsWithSole [.Subscript a b p] c l env = pure false := by
  cases c <;> rfl
theorem swst_sub {a b c : Expr} {p : Pos} (env : Env) : swappedStores [.Subscript a b p] c env = pure none := by
  cases c <;> rfl
theorem asn_sub {a b : Expr} {p : Pos} (h : noSlice b = true) (env : Env) (v : Value) : assign (.Subscript a b p) env v = (do
      let ov ← holding [v] (eval a env)
      let iv ← holding [v, ov] (eval b env)
      standAt p
      holding [v, ov, iv] (setItem ov iv v)
      release [v, ov, iv] []) := by
  cases b <;> first | rfl | (simp [noSlice] at h)
theorem sw_name {x : Str} {p1 : Pos} {el : Expr} {gens : List Comprehension} {scope : Scope} {pos : Pos} {l : Nat} {env : Env} : swapsWith (.ListComp el gens scope pos) (some (.Name x p1)) l env = pure (env.blockKind == .function && env.kindOf x == some .local && p1.line == pos.line && !(scope.names.any fun (n, k) => n == x && (k == .local || k == .cell))) := rfl
theorem set_ok (g : Good X xa W cl G) (hf : ∀ x, X.fn x = true) {i : Nat} {e : E} {x : Str} {p1 pos : Pos} {a : Expr} (h1 : G.N[i]? = some x) (h2 : locB G.sc x = true) (hb : okSet a = true) (h3 : chkE G e a = true) :
    PS X (.Assign [.Name x p1] a pos) (denS X.K xa W (evS cl (.set i e))) := by
  have hN : X.N[i]? = some x := by rw [g.names]; exact h1
  have hl : Loc X.env.scope x := by rw [g.sc]; exact loc_of h2
  have usual : (swapsWith a (some (.Name x p1)) pos.line X.env = pure false) → PS X (.Assign [.Name x p1] a pos) (denS X.K xa W (evS cl (.set i e))) := fun hs =>
    (den_set (pos := pos) g.nd hN hl (sndE e g h3).1 hs (.inl (hf x))).imp fun D σ H q => by simp only [evS] at q; exact q
  by_cases hn : noComp a = true
  · exact usual (noComp_sw hn _ _ _)
  · cases a with
    | ListComp el gens scope cpos =>
      cases hsw : (X.env.blockKind == .function && X.env.kindOf x == some .local && p1.line == cpos.line && !(scope.names.any fun (n, k) => n == x && (k == .local || k == .cell))) with
      | false => exact usual (by rw [sw_name, hsw])
      | true =>
        have hlo : X.env.scope.names.lookup x = some .local := by
          simp only [Bool.and_eq_true] at hsw
          simpa [Env.kindOf] using hsw.1.1.2
        have hs : swapsWith (.ListComp el gens scope cpos) (some (.Name x p1)) pos.line X.env = pure true := by rw [sw_name, hsw]
        obtain ⟨m, v, elt, k, src, cond, y, tgp, iter, ifs, rfl, rfl, B, hk⟩ := comp_get g h3
        rcases hk with ⟨rfl, z, p2, w, rfl, rfl, hv⟩ | ⟨rfl, e0, rfl, hpe, hfs, l1, l2⟩ | ⟨hk, hkx, s1, s2⟩
        · refine (den_setcItv (W := W) (m := m) (spos := pos) g.calm g.nd hN hlo hs B hv).imp fun D σ H q => ?_
          simp only [evS, evE] at q
          rw [show (fun ds st => ((evL cl [.var w] ds st).bind fun xs st' => compF m (evE cl elt) (evE cl cond) v .itv xs ds st').bindS ds fun d st' => RS.nx (ds.set i (some d)) st') = (fun ds st => (fComp m (evE cl elt) (evE cl cond) v .itv (one (fvar w)) ds st).bindS ds fun d st' => RS.nx (ds.set i (some d)) st') by
            rw [evL_one, evE_var]; rfl] at q
          exact q
        · refine (den_setcItx (W := W) (m := m) (spos := pos) g.calm g.nd hN hlo hs B hpe hfs l1 l2).imp fun D σ H q => ?_
          simp only [evS] at q
          rw [evE_itx] at q
          exact q
        · refine (den_setc (m := m) (spos := pos) g.calm g.nd hk hkx hN hlo hs B s1 s2).imp fun D σ H q => ?_
          simp only [evS, evE] at q
          exact q
    | SetComp _ _ _ _ => simp [okSet] at hb
    | DictComp _ _ _ _ _ => simp [okSet] at hb
    | _ => simp [noComp] at hn
end
section
variable {X : Cx} {xa : XA} {W : WX} {cl : Cl} {G : Gam}
theorem strk_ok (g : Good X xa W cl G) (hf : ∀ x, X.fn x = true) {i c : Nat} {n : Int} {st : Stmt} (h : strkB G i n c st = true) : PS X st (denS X.K xa W (evS cl (.strk i n c))) := by
  unfold strkB at h
  split at h
  · rename_i le k j cp cpos x p1 y p2 m apos z j0 c0 w j1 c1 pos spos ipos
    simp only [Bool.and_eq_true, decide_eq_true_eq] at h
    obtain ⟨⟨⟨⟨⟨⟨⟨⟨⟨h1, rfl⟩, h3⟩, rfl⟩, h5⟩, h6⟩, rfl⟩, rfl⟩, rfl⟩, h10⟩ := h
    have hl : Loc X.env.scope y := by rw [g.sc]; exact loc_of h5
    have hv : Vis X.env.scope y := by
      rcases hl with hl | hl
      · exact .inl hl
      · exact .inr (.inl hl)
    refine (den_strk (i := i) g.nd (by rw [g.names]; exact h3) hl hv hf (okName_of h6).1 (okName_of h6).2.1 h10 (sndE (.pr .len [.var i]) g h1).1).imp fun D σ H q => ?_
    simp only [evS] at q
    exact q
  · cases h
end
theorem strx_ok (g : Good X xa W cl G) (hf : ∀ x, X.fn x = true) {i j c : Nat} {st : Stmt} (h : strxB G i j c st = true) : PST X st (denS X.K xa W (evS cl (.strx i j c))) := by
  unfold strxB at h
  split at h
  · rename_i x p1 y p2 m apos z j0 c0 w j1 c1 pos spos
    simp only [Bool.and_eq_true, decide_eq_true_eq] at h
    obtain ⟨⟨⟨⟨⟨⟨⟨⟨h1, h2⟩, h3⟩, h4⟩, h5⟩, rfl⟩, rfl⟩, rfl⟩, h10⟩ := h
    have hl : Loc X.env.scope x := by rw [g.sc]; exact loc_of h3
    have hv : Vis X.env.scope y := by rw [g.sc]; exact vis_of h4
    have key := den_strx (xa := xa) (W := W) (c := c) (p1 := p1) (p2 := p2) (c0 := c0) (c1 := c1) (j0 := j0) (j1 := j1) (spos := spos) g.nd (by rw [g.names]; exact h1) (by rw [g.names]; exact h2) hl hv hf (okName_of h5).1 (okName_of h5).2.1 h10
    exact fun pins s σ H D h0 I q => key pins s σ H D h0 I (by simp only [evS] at q; exact q)
  · cases h
mutual
theorem sndS {xa : XA} {cl : Cl} : ∀ (s : S) {X : Cx} {W : WX} {G : Gam}, Good X xa W cl G → SCx X xa G → ∀ {st : Stmt}, chkS G s st = true → PS X st (denS X.K xa W (evS cl s))
  | .set i e, X, W, G, g, kx, st, h => by
    simp only [chkS] at h
    split at h
    · rename_i x p1 a pos
      simp only [Bool.and_eq_true, decide_eq_true_eq] at h
      exact set_ok g kx.hf h.1.1.1 h.1.1.2 h.1.2 h.2
    · cases h
  | .setix o i v, X, W, G, g, kx, st, h => by
    simp only [chkS] at h
    split at h
    · rename_i a b p1 c pos
      simp only [Bool.and_eq_true] at h
      obtain ⟨⟨⟨h1, h2⟩, h3⟩, h4⟩ := h
      refine (den_setix (pos := pos) (p1 := p1) g.un (sndE v g h3).1 (sndE o g h1).1 (sndE i g h2).1 (sw_sub _ _) (swst_sub _) rfl (fun v => asn_sub h4 _ _)).imp fun D σ H q => ?_
      simp only [evS] at q
      exact q
    · cases h
  | .expr e, X, W, G, g, kx, st, h => by
    simp only [chkS] at h
    split at h
    · rw [Bool.and_eq_true] at h
      refine (den_expr (sndE e g h.1).1 (noComp_sw h.2 _ _ _)).imp fun D σ H q => ?_
      simp only [evS] at q
      exact q
    · cases h
  | .ret e, X, W, G, g, kx, st, h => by
    simp only [chkS] at h
    split at h
    · refine (den_ret (sndE e g h).1).imp fun D σ H q => ?_
      simp only [evS] at q
      exact q
    · cases h
  | .ifs c a b, X, W, G, g, kx, st, h => by
    simp only [chkS] at h
    split at h
    · simp only [Bool.and_eq_true] at h
      refine (den_if (sndE c g h.1.1).2.1 (sndB a g kx h.1.2) (sndB b g kx h.2)).imp fun D σ H q => ?_
      simp only [evS] at q
      exact q
    · cases h
  | .whl c b, X, W, G, g, kx, st, h => by
    simp only [chkS] at h
    split at h
    · simp only [Bool.and_eq_true] at h
      refine (den_while kx.hp (sndE c g h.1).2.1 (sndB b g kx h.2) whlFuel).imp fun D σ H q => ?_
      simp only [evS] at q
      exact q
    · cases h
  | .for v k src b, X, W, G, g, kx, st, h => by
    simp only [chkS] at h
    split at h
    · rename_i x tgp iter bd pos
      split at h
      · rename_i as ha
        simp only [Bool.and_eq_true, decide_eq_true_eq] at h
        obtain ⟨⟨⟨⟨h1, h2⟩, h3⟩, h4⟩, h5⟩ := h
        have hl : Loc X.env.scope x := by rw [g.sc]; exact loc_of h3
        have hg : PG X (.Name x tgp) (gName v) := pg_name g.nd (by rw [g.names]; exact h2) hl (.inl (kx.hf x))
        by_cases hk : k = .itv
        · subst hk
          obtain ⟨i, rfl⟩ := isVar_eq h5
          simp only [argsI] at ha
          split at ha
          · rename_i z p2
            cases ha
            simp only [chkL, chkE, Bool.and_true, Bool.and_eq_true, decide_eq_true_eq] at h1
            obtain ⟨⟨q1, q2⟩, q3⟩ := h1
            have hv : Vis X.env.scope z := by rw [g.sc]; exact vis_of q2
            refine (den_forItv (pos := pos) kx.hp g.calm (pe_var (i := i) (by rw [g.names]; exact q1) hv (okName_of q3).1 (okName_of q3).2.1) hg (sndB b g kx h4)).imp fun D σ H q => ?_
            simp only [evS, evL_one, evE_var] at q
            exact q
          · cases ha
        · by_cases hkx : k = .itx
          · subst hkx; cases h5
          obtain ⟨s1, s2⟩ := src_ok (tg := .Name x tgp) g ha hk hkx (sndL src g h1)
          refine (den_for (pos := pos) kx.hp g.calm hk hkx s1 hg (sndB b g kx h4) s2).imp fun D σ H q => ?_
          simp only [evS] at q
          exact q
      · cases h
    · cases h
  | .forE i v src b, X, W, G, g, kx, st, h => by
    simp only [chkS] at h
    split at h
    · rename_i x q1 y q2 k2 tp f p1 e p2 bd pos
      simp only [Bool.and_eq_true, decide_eq_true_eq] at h
      obtain ⟨⟨⟨⟨⟨⟨⟨⟨h1, h2⟩, h3⟩, h4⟩, h5⟩, h6⟩, rfl⟩, h8⟩, h9⟩ := h
      have hl1 : Loc X.env.scope x := by rw [g.sc]; exact loc_of h3
      have hl2 : Loc X.env.scope y := by rw [g.sc]; exact loc_of h5
      have hg1 : PG X (.Name x q1) (gName i) := pg_name g.nd (by rw [g.names]; exact h2) hl1 (.inl (kx.hf x))
      have hg2 : PG X (.Name y q2) (gName v) := pg_name g.nd (by rw [g.names]; exact h4) hl2 (.inl (kx.hf y))
      refine (den_forE (pos := pos) kx.hp g.calm (g.glob h8) (g.blt _ (by decide)) h9 (sndE src g h1).1 hg1 hg2 (sndB b g kx h6)).imp fun D σ H q => ?_
      simp only [evS] at q
      exact q
    · cases h
  | .brk, X, W, G, g, kx, st, h => by
    simp only [chkS] at h
    split at h
    · exact den_brk.imp fun D σ H q => by simp only [evS] at q; exact q
    · cases h
  | .cnt, X, W, G, g, kx, st, h => by
    simp only [chkS] at h
    split at h
    · exact den_cnt.imp fun D σ H q => by simp only [evS] at q; exact q
    · cases h
  | .pass, X, W, G, g, kx, st, h => by
    simp only [chkS] at h
    split at h
    · exact den_pass.imp fun D σ H q => by simp only [evS] at q; exact q
    · cases h
  | .raise c m a, X, W, G, g, kx, st, h => by
    simp only [chkS, Bool.or_eq_true, Bool.and_eq_true, decide_eq_true_eq] at h
    rcases h with h | ⟨rfl, h⟩
    · exact raise_ok g kx.exc h.1 h.2
    · exact raise2_ok g kx (fun a ex h => (sndE a g h).1) h
  | .hd _ _ _, X, W, G, g, kx, st, h => by simp [chkS] at h
  | .strk i n c, X, W, G, g, kx, st, h => by
    simp only [chkS] at h
    exact strk_ok g kx.hf h
  | .strx _ _ _, X, W, G, g, kx, st, h => by simp [chkS] at h
  | .tri b hs, X, W, G, g, kx, st, h => by
    simp only [chkS] at h
    split at h
    · rename_i bd hds pos
      rw [Bool.and_eq_true] at h
      exact try_ok g kx h.2 fun W' pn xe tk hp => sndB b (g.tr tk) ⟨hp, kx.hf, kx.exc, kx.stk, kx.frm, kx.rm⟩ h.1
    · cases h
  | .dead, X, W, G, g, kx, st, h => ⟨fun pins s σ H D i ⟨ex, ρ, ds, sto, M, r, q⟩ => by
      simp only [evS] at q
      exact q.elim⟩
theorem sndB {xa : XA} {cl : Cl} : ∀ (b : List S) {X : Cx} {W : WX} {G : Gam}, Good X xa W cl G → SCx X xa G → ∀ {sts : List Stmt}, chkB G b sts = true → PSs X sts (denS X.K xa W (evB cl b))
  | [], X, W, G, g, kx, sts, h => by
    cases sts with
    | nil => exact den_bnil.imp fun D σ H q => by simp only [evB] at q; exact q
    | cons _ _ => simp [chkB] at h
  | s :: b, X, W, G, g, kx, sts, h => by
    cases sts with
    | nil => simp [chkB] at h
    | cons x xs =>
      simp only [chkB, Bool.and_eq_true] at h
      exact (den_bcons (sndS s g kx h.1) (sndB b g kx h.2)).imp fun D σ H q => by simp only [evB] at q; exact q
end
theorem chkT_facts {G : Gam} {n : Nat} {b : List S} {sts : List Stmt} (h : chkT G n b sts = true) : (∀ y ∈ G.sc.names, y.2 ≠ .cell) ∧ 1 ≤ n := by
  unfold chkT at h
  split at h
  · simp only [Bool.and_eq_true, decide_eq_true_eq, List.all_eq_true] at h
    obtain ⟨⟨⟨h1, h2⟩, h3⟩, h4⟩ := h
    exact ⟨h3, h4⟩
  · cases h
theorem sndT {xa : XA} {cl : Cl} {X : Cx} {W : WX} {G : Gam} {n : Nat} (g : Good X xa W cl G) (kx : SCx X xa G) {b : List S} {sts : List Stmt} (h : chkT G n b sts = true) :
    PSsT X sts (denS X.K xa W (evB cl b)) := by
  unfold chkT at h
  split at h
  · rename_i i j c b st r
    simp only [Bool.and_eq_true, decide_eq_true_eq, List.all_eq_true] at h
    obtain ⟨⟨⟨h1, h2⟩, h3⟩, h4⟩ := h
    have key := den_bconsT (strx_ok g kx.hf h1) (sndB b g kx h2)
    exact fun pins s σ H D h0 I q => key pins s σ H D h0 I (by simp only [evB] at q; exact q)
  · cases h
end MP
end
section
set_option maxRecDepth 100000
set_option maxHeartbeats 8000000
namespace MP
open PySem PySem.Spec PyProof.Rows L2 L2H
def tabG (tab : List Ent) (f : Nat) : Option Ent := tab.find? fun e => e.id == f
theorem tabG_mem {tab : List Ent} {f : Nat} {e : Ent} (h : tabG tab f = some e) : e ∈ tab := List.mem_of_find?_eq_some h
def Ent.hot (e : Ent) : Bool := decide (e.fn.np = hotNp)
def fnG (tab : List Ent) (f : Nat) : Option (Str × Nat) := (tabG tab f).bind fun e => if e.hot = true then none else some (e.x, e.ps.length)
def hotG (tab : List Ent) (f : Nat) : Option Str := (tabG tab f).bind fun e => if e.hot = true then some e.x else none
theorem fnG_some {tab : List Ent} {f : Nat} {x : Str} {np : Nat} (h : fnG tab f = some (x, np)) : ∃ e, tabG tab f = some e ∧ e.hot = false ∧ e.x = x ∧ e.ps.length = np := by
  unfold fnG at h
  obtain ⟨e, h1, h2⟩ := Option.bind_eq_some_iff.mp h
  by_cases hh : e.hot = true
  · rw [if_pos hh] at h2; cases h2
  · rw [if_neg hh] at h2
    cases h2
    exact ⟨e, h1, by simpa using hh, rfl, rfl⟩
theorem hotG_some {tab : List Ent} {f : Nat} {x : Str} (h : hotG tab f = some x) : ∃ e, tabG tab f = some e ∧ e.hot = true ∧ e.x = x := by
  unfold hotG at h
  obtain ⟨e, h1, h2⟩ := Option.bind_eq_some_iff.mp h
  by_cases hh : e.hot = true
  · rw [if_pos hh] at h2
    cases h2
    exact ⟨e, h1, hh, rfl⟩
  · rw [if_neg hh] at h2; cases h2
def Ent.gam (tab : List Ent) (gl : Str → Option D) (es : List Nat) (sc : Scope) (e : Ent) : Gam := { N := e.N, sc := sc, fn := fnG tab, gl := gl, exs := es, hot := hotG tab }
def Ent.gamH (gl : Str → Option D) (es : List Nat) (sc : Scope) (e : Ent) : Gam := { N := e.N, sc := sc, fn := fun _ => none, gl := gl, exs := es }
def tabF (tab : List Ent) : Nat → Option Fn := fun f => (tabG tab f).map (·.fn)
def entB (tab : List Ent) (gl : Str → Option D) (es : List Nat) (st : Stmt) (e : Ent) : Bool :=
  if e.hot = true then chkVs (e.gamH gl es (defScope st)) (some 0) e.fn.body (defBody st) && scopeB e.N e.ps (defScope st) && decide (e.ps.length = 1) && decide (e.fn.ns = e.N.length)
  else (chkB (e.gam tab gl es (defScope st)) e.fn.body (defBody st) || chkT (e.gam tab gl es (defScope st)) e.ps.length e.fn.body (defBody st)) && scopeB e.N e.ps (defScope st) && decide (e.fn.np = e.ps.length) && decide (e.fn.ns = e.N.length)
theorem scope_ok {N ps : List Str} {sc : Scope} (h : scopeB N ps sc = true) : FnScope N ps sc := by
  unfold scopeB at h
  simp only [Bool.and_eq_true, decide_eq_true_eq, List.all_eq_true] at h
  obtain ⟨⟨⟨⟨⟨⟨h1, h2⟩, h3⟩, h4⟩, h5⟩, h6⟩, h7⟩ := h
  exact ⟨h1, h2, h3, h4, h5, fun x hx => loc_of (h6 x hx), h7⟩
def exA (mg : Str → Option Value) (es : List Nat) : XA := fun e cls dd H => XOk mg es e cls dd H
structure TabOk (K : PySem.W.Frag) (mg : Str → Option Value) (tab : List Ent) (st : Nat → Stmt) (gl : Str → Option D) (es : List Nat) : Prop where
  exc : ExcTab K mg (exA mg es) es
  def_ : ∀ (f : Nat) (e : Ent), tabG tab f = some e → ∃ a fd, FunD K e.x e.x (defArgs (st e.i)) (defBody (st e.i)) (defScope (st e.i)) [] [] a fd ∧ mg e.x = some (.ref a) ∧ Binds K fd e.ps []
  blt : ∀ x ∈ bltNames, mg x = none
  glo : ∀ x d, gl x = some d → ∃ v u, mg x = some u ∧ RelV v u ∧ ∀ ex H ρ, Rep K ex H ρ d v
  chk : ∀ e : Ent, e ∈ tab → entB tab gl es (st e.i) e = true
theorem callF_zero (T : Nat → Option Fn) (f : Nat) (args : List D) (st : Store) : callF T 0 f args st = .no := rfl
theorem replicate_get {α : Type} {n i : Nat} {a b : α} (h : (List.replicate n a)[i]? = some b) : b = a := by
  rw [List.getElem?_replicate] at h
  split at h <;> simp_all
section
variable {P : Program} {w : World} {K : PySem.W.Frag} {mg : Str → Option Value} {base : Heap} {tab : List Ent} {st : Nat → Stmt} {gl : Str → Option D} {es : List Nat}
theorem start_slots {N : List Str} {ex : Addr → Prop} {H : Hp} {ρ : List Addr} {args : List D} {vs : List V} (r : Reps K ex H ρ args vs) (hl : args.length ≤ N.length) : Slots K ex H ρ (L2.start N vs) (args.map some ++ List.replicate (N.length - args.length) none) := by
  have e := r.length
  refine ⟨?_, fun i d h => ?_⟩
  · unfold L2.start
    rw [List.length_append, List.length_append, List.length_map, List.length_map, List.length_replicate, List.length_replicate, e]
  · unfold L2.start
    by_cases hi : i < args.length
    · rw [List.getElem?_append_left (by simpa using hi), List.getElem?_map] at h
      obtain ⟨d', hd, e2⟩ := Option.map_eq_some_iff.mp h
      cases e2
      obtain ⟨v, hv, rv⟩ := r.get hd
      exact ⟨v, by rw [List.getElem?_append_left (by rw [List.length_map]; omega), List.getElem?_map, hv]; rfl, rv⟩
    · rw [List.getElem?_append_right (by simpa using hi)] at h
      have := replicate_get h
      cases this
theorem hot_all (T : TabOk K mg tab st gl es) : ∀ (n f : Nat) (e : Ent), tabG tab f = some e → e.hot = true → ∀ (a : Addr) (fd : FuncData), FunD K e.x e.x (defArgs (st e.i)) (defBody (st e.i)) (defScope (st e.i)) [] [] a fd →
    FnX P w K mg base (n + 2) a fd e.ps (hotSp K mg es (callF (tabF tab) n) f)
  | 0, f, e, he, hh, a, fd, F => by
    have hc := T.chk e (tabG_mem he)
    unfold entB at hc
    rw [if_pos hh] at hc
    simp only [Bool.and_eq_true, decide_eq_true_eq] at hc
    refine ⟨hc.1.2, fun A outer s H args Q p C _ _ _ _ _ _ _ _ _ h => ?_⟩
    obtain ⟨c, ex, ρ, st, _, _, M, q⟩ := h
    exact q.elim
  | n + 1, f, e, he, hh, a, fd, F => by
    have hc := T.chk e (tabG_mem he)
    unfold entB at hc
    rw [if_pos hh] at hc
    simp only [Bool.and_eq_true, decide_eq_true_eq] at hc
    obtain ⟨⟨⟨c1, c2⟩, c3⟩, c4⟩ := hc
    have S := scope_ok c2
    have hpl : e.ps.length ≤ e.N.length := by have := congrArg List.length S.pre; rw [List.length_take] at this; omega
    obtain ⟨oc, od, dV, kV, doc, pm, an, cdv, ct, osl, rfl, lk, hcd, _, _⟩ := F.ex
    refine fn_ofX lk hcd S c3 fun A outer s H Q p C dd hot hz hd hr h => ?_
    obtain ⟨c, ex, ρ, sto, hce, hC, M, q⟩ := h
    have hT : tabF tab f = some e.fn := by unfold tabF; rw [he]; rfl
    have hnp : e.fn.np = hotNp := by simpa [Ent.hot] using hh
    have q' := q
    unfold callF at q'
    rw [hT] at q'
    simp only [hnp, if_true] at q'
    have ec : (⟨((c : Int)).toNat, none⟩ : Ex) = ⟨c, none⟩ := by simp
    rw [ec] at q'
    have key : ∀ (Y : Cx), Y.N = e.N → Y.env.scope = defScope (st e.i) → Y.A = (cxH (L2N.CX P w) P w K mg base e.N e.x (defScope (st e.i)) a cdv A outer s H (fun _ _ _ => False) p).A → Y.mg = mg → Y.K = K → Y.fn = (fun _ => true) → (p.1, p.2) ∈ Y.pn → (∀ q, dd = some q → q ∈ Y.pn) →
        UC Y (some (0, p.1)) (exA mg es) (clE (callF (tabF tab) n) ⟨c, none⟩) (e.gamH gl es (defScope (st e.i))) := fun Y y1 y2 y3 y4 y5 y6 y7 y8 => by
      refine UC.gen (X := Y) (e := ⟨c, none⟩) y1 (by rw [y1]; exact S.nd) y2 ?_ (by rw [y4]; exact T.blt) (by rw [y6]; exact fun _ => rfl) (by rw [y4, y5]; exact T.exc) hce (by rw [y4]; exact hC) ⟨hz.zc, hd, y7, y8⟩ (fun k h => nomatch h) (by rw [y3]; exact ⟨hot.1, hot.2⟩) fun f' ex' hk => ?_
      · have := hr.un
        rw [y3]
        show (A.deeper _).units + 90 < cLine
        omega
      · simp only [exkB] at hk
        split at hk
        · simp [Ent.gamH] at hk
        · cases hk
    have U : UC (pinD (cxH (L2N.CX P w) P w K mg base e.N e.x (defScope (st e.i)) a cdv A outer s H (fun _ _ _ => False) p) dd) (some (0, p.1)) (exA mg es) (clE (callF (tabF tab) n) ⟨c, none⟩) (e.gamH gl es (defScope (st e.i))) := by
      cases dd with
      | none => exact key _ rfl rfl rfl rfl rfl rfl (show (p.1, p.2) ∈ [p] by simp) (fun q h => nomatch h)
      | some q => exact key _ rfl rfl rfl rfl rfl rfl (show (p.1, p.2) ∈ [q, p] by simp) (fun q' h => by cases h; exact List.mem_cons_self)
    have hK : (pinD (cxH (L2N.CX P w) P w K mg base e.N e.x (defScope (st e.i)) a cdv A outer s H (fun _ _ _ => False) p) dd).K = K := by cases dd <;> rfl
    refine ⟨_, sndVs e.fn.body U c1, ?_⟩
    rw [hK]
    refine ⟨?_, ex, ρ, List.replicate e.N.length none, sto, M, ?_, ?_⟩
    · show (L2.start e.N [V.ref p.1])[0]? = _
      unfold L2.start
      rfl
    · have hr0 : Reps K ex H ρ [] [] := rfl
      refine ⟨?_, fun i d h => ?_⟩
      · unfold L2.start
        rw [List.length_append, List.length_map, List.length_replicate, List.length_replicate]
        simp only [List.length_cons, List.length_nil]
        omega
      · have := replicate_get h
        cases this
    · rw [c4] at q'
      cases eb : evB (clE (callF (tabF tab) n) ⟨c, none⟩) e.fn.body (List.replicate e.N.length none) sto with
      | nx ds' st' => rw [eb] at q'; exact fun σ' H' ρ' e1 M1 S1 _ => q' .non H' ρ' e1 M1 rfl
      | rt d st' => rw [eb] at q'; exact fun v H' ρ' e1 M1 r1 => q' v H' ρ' e1 M1 r1
      | exc x ds' st' => rw [eb] at q'; exact q'.elim
      | bk _ _ => rw [eb] at q'; exact q'.elim
      | ct _ _ => rw [eb] at q'; exact q'.elim
      | no => rw [eb] at q'; exact q'.elim
theorem fn_all (T : TabOk K mg tab st gl es) : ∀ (n f : Nat) (e : Ent), tabG tab f = some e → e.hot = false → ∀ (a : Addr) (fd : FuncData), FunD K e.x e.x (defArgs (st e.i)) (defBody (st e.i)) (defScope (st e.i)) [] [] a fd →
    FnOk P w K mg base (L2N.CX P w) (n + 2) a fd e.ps (spC K (exA mg es) (callF (tabF tab) n) f e.ps.length)
  | 0, f, e, he, hh, a, fd, F => by
    refine ⟨fun vs H Q E h => h.1, fun A outer s H args us vs Q E _ _ _ _ h => ?_⟩
    obtain ⟨_, ex, ρ, st, ds, M, r, q⟩ := h
    exact q.elim
  | n + 1, f, e, he, hh, a, fd, F => by
    have hc := T.chk e (tabG_mem he)
    unfold entB at hc
    rw [if_neg (by rw [hh]; decide)] at hc
    rw [Bool.and_eq_true, Bool.and_eq_true, Bool.and_eq_true, decide_eq_true_eq, decide_eq_true_eq, Bool.or_eq_true] at hc
    obtain ⟨⟨⟨c1, c2⟩, c3⟩, c4⟩ := hc
    have S := scope_ok c2
    have hpl : e.ps.length ≤ e.N.length := by have := congrArg List.length S.pre; rw [List.length_take] at this; omega
    have G0 : ∀ (cdv : Value) (A : Around) (outer : List Env) (s : Shared) (H : Hp) (E : XK), Room (n + 2) (A.deeper (envOfC e.x (defScope (st e.i)) s.heap.objs.size a cdv)) →
        Good (cxOf (L2N.CX P w) P w K mg base e.N e.x (defScope (st e.i)) a cdv A outer s H E) (exA mg es) (fun cls d _ H => E cls d H) (callF (tabF tab) n) (e.gam tab gl es (defScope (st e.i))) := fun cdv A outer s H E hr => by
      refine ⟨rfl, S.nd, rfl, rfl, ?_, T.blt, T.glo, fun f' x np h => ?_, L2N.takes_of rfl rfl rfl rfl, fun f' x h => ?_, ExcTab.xc (X := cxOf (L2N.CX P w) P w K mg base e.N e.x (defScope (st e.i)) a cdv A outer s H E) T.exc, ExcTab.xm (X := cxOf (L2N.CX P w) P w K mg base e.N e.x (defScope (st e.i)) a cdv A outer s H E) T.exc, hr.mono (by omega)⟩
      · have := hr.un
        show (A.deeper _).units + 90 < cLine
        omega
      · obtain ⟨e', he', hh', rfl, rfl⟩ := fnG_some h
        obtain ⟨a', fd', F', hm', hb'⟩ := T.def_ f' e' he'
        have FO := fn_all T n f' e' he' hh' a' fd' F'
        exact ⟨n + 2, a', fd', e'.ps, FO, hr, hm', F'.kp, hb'⟩
      · obtain ⟨e', he', hh', rfl⟩ := hotG_some h
        obtain ⟨a', fd', F', hm', hb'⟩ := T.def_ f' e' he'
        have FO := hot_all (base := base) (P := P) (w := w) T n f' e' he' hh' a' fd' F'
        exact ⟨n + 2, a', fd', e'.ps, FO, roomH_of hr, hm', F'.kp, hb'⟩
    have G1 : ∀ (cdv : Value) (A : Around) (outer : List Env) (s : Shared) (H : Hp) (vs : List V) (Q : VK) (E : XK), Room (n + 2) (A.deeper (envOfC e.x (defScope (st e.i)) s.heap.objs.size a cdv)) → spC K (exA mg es) (callF (tabF tab) (n + 1)) f e.ps.length vs H Q E →
        denS K (exA mg es) (fun cls d _ H => E cls d H) (evB (callF (tabF tab) n) e.fn.body) { nx := fun _ H' => Q .non H', rt := Q } (L2.start e.N vs) H := fun cdv A outer s H vs Q E hr h => by
      obtain ⟨hl, ex, ρ, sto, args, M, r, q⟩ := h
      have hal : args.length = e.ps.length := by rw [r.length, hl]
      refine ⟨ex, ρ, args.map some ++ List.replicate (e.N.length - args.length) none, sto, M, start_slots r (by omega), ?_⟩
      have hT : tabF tab f = some e.fn := by unfold tabF; rw [he]; rfl
      have q' := q
      unfold callF at q'
      rw [hT] at q'
      simp only at q'
      rw [if_neg (by simpa [Ent.hot] using hh), if_pos (by rw [c3]; exact hal)] at q'
      rw [show e.fn.ns - e.fn.np = e.N.length - args.length by rw [c4, c3, hal]] at q'
      cases eb : evB (callF (tabF tab) n) e.fn.body (args.map some ++ List.replicate (e.N.length - args.length) none) sto with
      | nx ds' st' => rw [eb] at q'; exact fun σ' H' ρ' e1 M1 S1 => q' .non H' ρ' e1 M1 rfl
      | rt d st' => rw [eb] at q'; exact fun v H' ρ' e1 M1 r1 => q' v H' ρ' e1 M1 r1
      | exc x ds' st' => rw [eb] at q'; exact fun σ' H' ρ' e1 M1 S1 => q' H' ρ' e1 M1
      | bk _ _ => rw [eb] at q'; exact q'.elim
      | ct _ _ => rw [eb] at q'; exact q'.elim
      | no => rw [eb] at q'; exact q'.elim
    rcases c1 with c1 | c1
    · refine F.ok S (fun vs H Q E h => h.1) fun cdv A outer s H vs Q E hr h => ?_
      exact ⟨_, sndB e.fn.body (G0 cdv A outer s H E hr) ⟨passes_of rfl, fun _ => rfl, T.exc, rfl, rfl, hr.mono (by omega)⟩ c1, G1 cdv A outer s H vs Q E hr h⟩
    · obtain ⟨oc, od, dV, kV, doc, pm, an, cdv, ct, osl, rfl, lk, hcd, _, _⟩ := F.ex
      obtain ⟨n1, n2⟩ := chkT_facts c1
      refine fn_ofT lk hcd S n1 n2 (fun vs H Q E h => h.1) fun A outer s H vs Q E hr h => ?_
      exact ⟨_, sndT (G0 cdv A outer s H E hr) ⟨passes_of rfl, fun _ => rfl, T.exc, rfl, rfl, hr.mono (by omega)⟩ c1, G1 cdv A outer s H vs Q E hr h⟩
end
end MP
end
section
set_option maxRecDepth 100000
set_option maxHeartbeats 8000000
namespace MP
open PySem PySem.Spec PySem.Calls PyProof.Rows L2 L2H
theorem oexCB_ok {K : PySem.W.Frag} {C : Addr} (h : oexCB K C = true) : OexC K C := by
  unfold oexCB at h
  simp only [Bool.and_eq_true, decide_eq_true_eq] at h
  obtain ⟨q, h1, h2, h3, h4⟩ := h
  refine ⟨?_, h1, h2, h3, h4⟩
  split at q
  · rename_i dd cd sl ho
    split at q
    · rename_i C' bm k0 k1 k2 k3 n k5 hm hs
      simp only [Bool.and_eq_true, beq_iff_eq, Bool.not_eq_true'] at q
      obtain ⟨⟨⟨⟨rfl, rfl⟩, hdel⟩, hdi⟩, hr⟩ := q
      obtain ⟨nm, bs, mro, ns, qn, hd, sn, sub, ab, col, del⟩ := cd
      dsimp only at hm hdel hdi
      subst hm hdel hdi
      have hsl : sl = #[k0, k1, k2, k3, some (.builtin "ValueError.__new__"), k5] := by
        obtain ⟨l⟩ := sl
        simp only at hs
        rw [hs]
      subst hsl
      exact ⟨nm, qn, ns, bs, bm, sn, sub, ab, col, dd, k0, k1, k2, k3, k5, ho, hr⟩
    · cases q
  · cases q
theorem mkAtB_ok {K : PySem.W.Frag} {mg : Str → Option Value} {h : Heap} (KX : K.In h) (G : h.Ns mainGlobals mg) (c : mkAtB K = true) : MkAt K mg (He.ga K "BadFormula") := by
  unfold mkAtB at c
  simp only [Bool.and_eq_true, decide_eq_true_eq] at c
  obtain ⟨c1, c2, c3, c4, c5⟩ := c
  refine ⟨oexCB_ok c1, c2, ?_⟩
  unfold iniB at c5
  split at c5
  · rename_i nm q a1 n1 z1 a2 n2 z2 a3 n3 z3 df b p1 m q2 s p3 w p4 q5 q6 s2 p7 f p8 t p9 p10 sc g bi hw
    simp only [Bool.and_eq_true, decide_eq_true_eq, Bool.not_eq_true', List.all_eq_true] at c5
    obtain ⟨rfl, rfl, rfl, rfl, rfl, rfl, rfl, rfl, rfl, rfl, rfl, rfl, e1, e2, e3, e4, e5, e6, e7, e8, e9, e10, e11⟩ := c5
    obtain ⟨fd, F⟩ := He.DefD.funD (K := K) (d := ⟨iniAt, "__init__", q, ⟨[], [⟨"self", n1, z1⟩, ⟨"words", n2, z2⟩, ⟨"at", n3, z3⟩], none, [], [], none, [df]⟩, [.Expr (.Call (.Attribute (.Name b p1) "__init__" q2) [.Name "self" p3, .Name "words" p4] [] q5) q6, .Assign [.Attribute (.Name "self" p7) "at" p8] (.Name "at" p9) p10], sc, [.int 0], []⟩) hw
      (by unfold He.DefD.ok; rw [e10, Bool.true_and]; exact e11)
    refine ⟨_, fd, c3, c4, fun P w base => init_at F (scope_ok e2) e3 e4 e5 e1 (He.glo_ok KX G e6) e7 e8 (by split at e9 <;> first | (rename_i hv; rw [hv, beq_iff_eq.mp e9]) | cases e9), ?_⟩
    obtain ⟨ds, hv, hb⟩ := F.binds1 (ps := ["self", "words", "at"]) 3 1 (by simp [He.DefD.dvs]) rfl fun T kV doc pm an cdv ct us its h1 h2 => by
      match us, h1 with
      | [x, y, z], _ =>
        match its, h2 with
        | [i], _ => exact ⟨_, rfl, rfl⟩
    cases hv
    obtain ⟨ds2, hv2, hb2⟩ := F.binds1 (ps := ["self", "words", "at"]) 2 0 (by simp [He.DefD.dvs]) rfl fun T kV doc pm an cdv ct us its h1 h2 => by
      match us, h1 with
      | [x, y], _ =>
        match its, h2 with
        | [i], _ => exact ⟨_, rfl, rfl⟩
    exact ⟨hb, ds2, hv2, hb2⟩
  · cases c5
end MP
end
section
set_option maxRecDepth 100000
set_option maxHeartbeats 8000000
namespace MP
open PySem PySem.Spec PyProof.Rows L2
def conOf : List Con → Str → Option D
  | [], _ => none
  | c :: cs, x => if x = c.name then some c.val else conOf cs x
theorem conOf_mem : ∀ {cs : List Con} {x : Str} {d : D}, conOf cs x = some d → ∃ c ∈ cs, x = c.name ∧ d = c.val
  | [], _, _, h => by cases h
  | c :: cs, x, d, h => by
    unfold conOf at h
    split at h
    · rename_i e
      cases h
      exact ⟨c, List.mem_cons_self, e, rfl⟩
    · obtain ⟨c', h1, h2⟩ := conOf_mem h
      exact ⟨c', List.mem_cons_of_mem _ h1, h2⟩
theorem SaysC.toD {fa : List He.Fa} {fn : List He.DefD} {ts : Tps} {K : PySem.W.Frag} (c : SaysC fa fn ts K) : He.SaysD fa fn K := congrArg Prod.snd c
theorem SaysC.tup {fa : List He.Fa} {fn : List He.DefD} {ts : Tps} {K : PySem.W.Frag} (c : SaysC fa fn ts K) {t : Str × List He.Dv} (h : t ∈ ts.1) : He.tupB K t.1 t.2 = true := List.all_eq_true.mp (Bool.and_eq_true_iff.mp (congrArg Prod.fst c)).1 t h
theorem SaysC.exc {fa : List He.Fa} {fn : List He.DefD} {ts : Tps} {K : PySem.W.Frag} (c : SaysC fa fn ts K) : excB ts.2 K = true := (Bool.and_eq_true_iff.mp (congrArg Prod.fst c)).2
theorem tupB_obj {K : PySem.W.Frag} {x : Str} {vs : List He.Dv} (h : He.tupB K x vs = true) : ∃ (o : Obj) (its : Array Value) (n : Nat), K.lookup (He.ga K x) = some o ∧ o.cls = .type "tuple" ∧ o.data = .seq its n ∧ its.size ≤ sizeLine ∧ Vals (vs.map (He.Dv.v K)) its.toList := by
  rcases He.tupB_ok h (fun _ => none) with h | h
  · rcases h with h | ⟨o, h⟩ <;> cases h
  · exact h
theorem reps_strs {K : PySem.W.Frag} {ex : Addr → Prop} {H : Hp} {ρ : List Addr} : ∀ (zs : List Tx), (∀ z ∈ zs, txOk z) → Reps K ex H ρ (zs.map D.str) ((zs.map fun z => He.Dv.str (strOf z)).map (He.Dv.v K))
  | [], _ => rfl
  | z :: zs, h => ⟨_, _, rfl, ⟨rfl, h z List.mem_cons_self⟩, reps_strs zs fun y hy => h y (List.mem_cons_of_mem _ hy)⟩
def BindOk (e : Ent) (st : Stmt) : Prop := ∀ (kV doc pm : Value) (an : Option Addr) (cdv ct : Value) (us : List Value), us.length = e.ps.length → bindArgs (PySem.W.fnOf e.x e.x (defArgs st) (defBody st) (defScope st) .none kV doc pm an cdv ct) ⟨us, []⟩ = pure (e.ps.zip us)
def AllB (st : Nat → Stmt) : List Ent → Prop
  | [] => True
  | e :: r => BindOk e (st e.i) ∧ AllB st r
theorem AllB.mem {st : Nat → Stmt} : ∀ {tab : List Ent}, AllB st tab → ∀ e : Ent, e ∈ tab → BindOk e (st e.i)
  | [], _, e, he => by cases he
  | a :: r, h, e, he => (List.mem_cons.mp he).elim (fun q => by rw [q]; exact h.1) (fun q => AllB.mem h.2 e q)
section
variable {K : PySem.W.Frag} {mg : Str → Option Value} {h : Heap} {tab : List Ent} {st : Nat → Stmt} {cs : List Con}
theorem says_fact (c : He.SaysD (faTab tab cs) (fnTab tab st) K) {f : He.Fa} (hf : f ∈ faTab tab cs) : f.ok K = true := by
  obtain ⟨i, hi⟩ := List.getElem?_of_mem hf
  exact c.fact i hi
theorem exc_tab {es : List Nat} (KX : K.In h) (G : h.Ns mainGlobals mg) (c : excB es K = true) : ExcTab K mg (exA mg es) es := by
  obtain ⟨c, cb⟩ := Bool.and_eq_true_iff.mp (show (excB0 es K && badB es K) = true from c)
  unfold excB0 at c
  simp only [List.all_eq_true, Bool.and_eq_true, Bool.or_eq_true, decide_eq_true_eq, beq_iff_eq] at c
  have gl : ∀ x ∈ es, mg (clsName x) = some (.ref (He.ga K (clsName x))) := fun x hx => He.glo_ok KX G (c x hx).1.1.1.1
  have ga : ∀ x ∈ es, ∀ C, mg (clsName x) = some (.ref C) → C = He.ga K (clsName x) := fun x hx C h => by
    rw [gl x hx] at h
    injection h with h
    injection h with h
    exact h.symm
  refine ⟨fun x hx => ⟨_, gl x hx⟩, fun x hx h2 C hC => ?_, fun x hx C hC => ?_, fun x hx y hy C D hC hD => ?_, fun x hx C hC => ?_, fun x hx C hC H => ⟨hx, ⟨C, hC, rfl⟩, rfl⟩, fun h2 C hC => ?_, fun h2 C hC => ?_, fun h2 C hC i d H hd => ⟨h2, ⟨C, hC, rfl⟩, rfl, d, rfl, hd⟩, fun e cls dd H h => h, ga⟩
  · rw [ga x hx C hC]
    exact He.exc_ok ((c x hx).1.1.1.2.resolve_left h2)
  · rw [ga x hx C hC]
    exact excCB_ok (c x hx).1.1.2
  · rw [ga x hx C hC, ga y hy D hD]
    exact ⟨He.exm_ok ((c x hx).2 y hy).1, ((c x hx).2 y hy).2⟩
  · rw [ga x hx C hC]
    exact (c x hx).1.2
  · have h := List.all_eq_true.mp cb 2 h2
    simp only [bne_self_eq_false, Bool.false_or, Bool.and_eq_true, decide_eq_true_eq] at h
    rw [ga 2 h2 C hC]
    exact ⟨xfB_ok h.1, h.2.1⟩
  · have h := List.all_eq_true.mp cb 2 h2
    simp only [bne_self_eq_false, Bool.false_or, Bool.and_eq_true, decide_eq_true_eq] at h
    rw [ga 2 h2 C hC]
    exact mkAtB_ok KX G h.2.2
theorem tab_ok {es : List Nat} (KX : K.In h) (G : h.Ns mainGlobals mg) (c' : SaysC (faTab tab cs) (fnTab tab st) (tupsOf cs es) K) (hb : ∀ e : Ent, e ∈ tab → BindOk e (st e.i)) (hc : ∀ e : Ent, e ∈ tab → entB tab (conOf cs) es (st e.i) e = true) (hg : cs.all Con.good = true) : TabOk K mg tab st (conOf cs) es where
  exc := exc_tab KX G c'.exc
  def_ := fun f e he => by
    have c := c'.toD
    obtain ⟨j, hj⟩ := List.getElem?_of_mem (tabG_mem he)
    obtain ⟨fd, F⟩ := c.def_ j (d := ⟨(e.x, none), e.x, e.x, defArgs (st e.i), defBody (st e.i), defScope (st e.i), [], []⟩) (by unfold fnTab; rw [List.getElem?_map, hj]; rfl)
    exact ⟨_, fd, F, He.glo_ok KX G (says_fact c (List.mem_append.mpr (.inl (List.mem_map.mpr ⟨e, tabG_mem he, rfl⟩)))), FunD.bindsN F (hb e (tabG_mem he))⟩
  blt := fun x hx => He.free_ok KX G (says_fact c'.toD (List.mem_append.mpr (.inr (List.mem_append.mpr (.inl (List.mem_map.mpr ⟨x, hx, rfl⟩))))))
  glo := fun x d hx => by
    have c := c'.toD
    obtain ⟨k, hk, rfl, rfl⟩ := conOf_mem hx
    have hf := says_fact c (f := k.fa) (List.mem_append.mpr (.inr (List.mem_append.mpr (.inr (List.mem_map.mpr ⟨k, hk, rfl⟩)))))
    have hgk := List.all_eq_true.mp hg k hk
    cases k with
    | int x i =>
      obtain ⟨t, ht⟩ := He.int_ok KX G hf
      exact ⟨.int i, _, ht, ⟨t, rfl⟩, fun _ _ _ => rfl⟩
    | str x z =>
      obtain ⟨t, ht⟩ := He.str_ok KX G hf
      refine ⟨.str (strOf z), _, ht, ⟨t, rfl⟩, fun _ _ _ => ⟨rfl, fun c hc => ?_⟩⟩
      exact of_decide_eq_true (List.all_eq_true.mp (show z.all (fun c => decide (c < 0x110000)) = true from hgk) c hc)
    | tup x zs =>
      have hg2 : (decide (zs.length ≠ 2) && zs.all fun z => z.all fun c => decide (c < 0x110000)) = true := hgk
      obtain ⟨hl, hz⟩ := Bool.and_eq_true_iff.mp hg2
      obtain ⟨o, its, n, q1, q2, q3, q4, q5⟩ := tupB_obj (c'.tup (t := (x, zs.map fun z => .str (strOf z))) (List.mem_filterMap.mpr ⟨_, hk, rfl⟩))
      refine ⟨.ref (He.ga K x), _, He.glo_ok KX G hf, rfl, fun ex H ρ => ⟨_, _, rfl, .inr ⟨?_, o, its, n, q1, q2, q3, q4, q5⟩, reps_strs zs fun z hz' c hc => ?_⟩⟩
      · simpa using of_decide_eq_true hl
      · exact of_decide_eq_true (List.all_eq_true.mp (List.all_eq_true.mp hz z hz') c hc)
  chk := hc
end
theorem law_tab {l : PySem.W.OpenLaw} {q : Program} {loose : List Str} {XP : (Str → Option Value) → Heap → Prop} {d : DefRec} {tab : List Ent} {st : Nat → Stmt} {cs : List Con} {es : List Nat} {L n : Nat} {e : Ent} {x : Str}
    (hn : l.most = some 63) (hdf : d.params.defaults = []) (hr : Room (n + 2) callerA) (he : tabG tab L = some e) (hx : e.x = d.name) (hps : e.ps = [x])
    (hb : ∀ e : Ent, e ∈ tab → BindOk e (st e.i)) (hc : ∀ e : Ent, e ∈ tab → entB tab (conOf cs) es (st e.i) e = true) (hg : cs.all Con.good = true)
    (law : ∀ ns : List Int, ns.length ≤ 63 → ∃ s, callF (tabF tab) n L [.scr ns] [] = .ok (.bl true) s) :
    PySem.W.WalkO q loose XP (hookC 4 (faTab tab cs) (fnTab tab st) (tupsOf cs es)).says l.row.toRowW d [] (fun f vs => PySem.call f vs) := by
  refine Att.attach_call hn hdf fun w s₀ s₁ mg mb fa o pm cd doc a vs ns G Y ho hd hcd hmg hobj hints hlen hgn => ?_
  obtain ⟨K, KX, c⟩ := Y
  have T := tab_ok KX G.T.g c hb hc hg
  obtain ⟨a', fd, F, hm, _⟩ := T.def_ L e he
  rw [hx, hmg] at hm
  cases hm
  have hbd : ∀ (s : Shared) (u : Value), BindsTo s fd ⟨[u], []⟩ [(x, u)] := fun s u => by
    have := FunD.bindsA (ps := e.ps) F (hb e (tabG_mem he)) s [u] (by rw [hps]; rfl)
    rw [hps] at this
    exact this
  have hh : e.hot = false := by
    cases hq : e.hot with
    | false => rfl
    | true =>
      obtain ⟨s, hs⟩ := law [] (by simp)
      have hT : tabF tab L = some e.fn := by unfold tabF; rw [he]; rfl
      have hnp : e.fn.np = hotNp := by simpa [Ent.hot] using hq
      cases n with
      | zero => rw [callF_zero] at hs; cases hs
      | succ n =>
        unfold callF at hs
        rw [hT] at hs
        simp only [hnp, if_true] at hs
        cases hs
  have hsame : ∀ base : Heap, K.In base → base.Ns mainGlobals mg → FnOk l.prog w K mg base (L2N.CX l.prog w) (n + 2) fa fd [x] (spC K (exA mg es) (callF (tabF tab) n) L 1) := fun base hK hB => by
    have FO := fn_all (P := l.prog) (w := w) (base := base) T n L e he hh fa fd F
    rw [hps] at FO
    exact FO
  refine law_call KX G.T.g G.T.b G.T.builtins G.T.nolimit hgn hobj hints (Nat.le_trans hlen (by decide)) hr hsame hbd (fun H hO hS => ?_) fun H z s' hz => ?_
  · obtain ⟨st', es⟩ := law ns hlen
    refine ⟨rfl, fun _ => False, [], [], [.scr ns], Mem.nil H _ (fun _ z => z.elim), ⟨.ref a, [], rfl, ⟨a, rfl, ?_⟩, rfl⟩, ?_⟩
    · rcases hS with hS | hS
      · exact .inl ⟨hS, by simp, fun z => z⟩
      · exact .inr hS
    · rw [es]
      exact fun v H' ρ' _ _ r => r
  · obtain ⟨_, _, _, _, _, _, _, _, _, _, _, _, z⟩ := hz
    exact z
end MP
end
section
set_option maxRecDepth 100000
set_option maxHeartbeats 8000000
namespace MP
def brR (x : D) (a b : RE) : RE := match x with
  | .bl true => a
  | .bl false => b
  | _ => .no
def brS (x : D) (a b : RS) : RS := match x with
  | .bl true => a
  | .bl false => b
  | _ => .no
@[simp] theorem brR_bl (b : Bool) (x y : RE) : brR (.bl b) x y = if b = true then x else y := by cases b <;> rfl
@[simp] theorem brS_bl (b : Bool) (x y : RS) : brS (.bl b) x y = if b = true then x else y := by cases b <;> rfl
def notR (x : D) (st : Store) : RE := match x with
  | .bl b => .ok (.bl (!b)) st
  | _ => .no
@[simp] theorem notR_bl (b : Bool) (st : Store) : notR (.bl b) st = .ok (.bl (!b)) st := (rfl)
def RS.seq (x : RS) (f : DS → Store → RS) : RS := match x with
  | .nx ds st => f ds st
  | x => x
@[simp] theorem seq_nx (ds : DS) (st : Store) (f : DS → Store → RS) : (RS.nx ds st).seq f = f ds st := (rfl)
@[simp] theorem seq_rt (d : D) (st : Store) (f : DS → Store → RS) : (RS.rt d st).seq f = .rt d st := (rfl)
@[simp] theorem seq_bk (ds : DS) (st : Store) (f : DS → Store → RS) : (RS.bk ds st).seq f = .bk ds st := (rfl)
@[simp] theorem seq_ct (ds : DS) (st : Store) (f : DS → Store → RS) : (RS.ct ds st).seq f = .ct ds st := (rfl)
@[simp] theorem seq_ite {c : Prop} [Decidable c] (x y : RS) (f : DS → Store → RS) : (if c then x else y).seq f = if c then x.seq f else y.seq f := by split <;> rfl
@[simp] theorem bind_ite {α β : Type} {c : Prop} [Decidable c] (x y : R α) (f : α → Store → R β) : (if c then x else y).bind f = if c then x.bind f else y.bind f := by split <;> rfl
@[simp] theorem bindS_ite {α : Type} {c : Prop} [Decidable c] (x y : R α) (ds : DS) (f : α → Store → RS) : (if c then x else y).bindS ds f = if c then x.bindS ds f else y.bindS ds f := by split <;> rfl
def RS.fin (x : RS) : RE := match x with
  | .rt d st => .ok d st
  | .nx _ st => .ok .non st
  | .exc e _ st => .exc e st
  | _ => .no
@[simp] theorem fin_rt (d : D) (st : Store) : (RS.rt d st).fin = .ok d st := (rfl)
@[simp] theorem fin_nx (ds : DS) (st : Store) : (RS.nx ds st).fin = .ok .non st := (rfl)
@[simp] theorem fin_ite {c : Prop} [Decidable c] (x y : RS) : (if c then x else y).fin = if c then x.fin else y.fin := by split <;> rfl
section
variable (cl : Cl) (ds : DS) (st : Store)
def slot (ds : DS) (i : Nat) (st : Store) : RE := match ds[i]? with
  | some (some d) => .ok d st
  | _ => .no
@[simp] theorem slot_zero (d : D) (ds : DS) (st : Store) : slot (some d :: ds) 0 st = .ok d st := (rfl)
@[simp] theorem slot_succ (o : Option D) (ds : DS) (i : Nat) (st : Store) : slot (o :: ds) (i + 1) st = slot ds i st := (rfl)
@[simp] theorem evE_var' (i : Nat) : evE cl (.var i) ds st = slot ds i st := by rw [evE]; rfl
@[simp] theorem evE_k (d : D) : evE cl (.k d) ds st = .ok d st := by rw [evE]
@[simp] theorem evE_glob (x : PySem.Str) (d : D) : evE cl (.glob x d) ds st = .ok d st := by rw [evE]
@[simp] theorem evE_pr0 (p : P) : evE cl (.pr p []) ds st = primF p [] st := by simp only [evE, evL, R.bind_ok]
@[simp] theorem evE_pr1 (p : P) (a : E) : evE cl (.pr p [a]) ds st = (evE cl a ds st).bind fun x st1 => primF p [x] st1 := by
  rw [evE, bnd1]
@[simp] theorem evE_pr2 (p : P) (a b : E) : evE cl (.pr p [a, b]) ds st = (evE cl a ds st).bind fun x st1 => (evE cl b ds st1).bind fun y st2 => primF p [x, y] st2 := by
  rw [evE, bnd2]
@[simp] theorem evE_prL (p : P) (a b c : E) (es : List E) : evE cl (.pr p (a :: b :: c :: es)) ds st = (evL cl (a :: b :: c :: es) ds st).bind fun xs st' => primF p xs st' := by
  rw [evE]
@[simp] theorem evL_nil : evL cl [] ds st = .ok [] st := by rw [evL]
@[simp] theorem evL_cons (e : E) (es : List E) : evL cl (e :: es) ds st = (evE cl e ds st).bind fun x st1 => (evL cl es ds st1).bind fun xs st2 => .ok (x :: xs) st2 := by rw [evL]
@[simp] theorem evE_mth (p : P) (o : E) (es : List E) : evE cl (.mth p o es) ds st = (evE cl o ds st).bind fun x st1 => if okRecv p x st1 = true then (evL cl es ds st1).bind fun ys st2 => primF p (x :: ys) st2 else .no := by rw [evE]
@[simp] theorem evE_and (a b : E) : evE cl (.and a b) ds st = (evE cl a ds st).bind fun x st1 => brR x (evE cl b ds st1) (.ok (.bl false) st1) := by rw [evE]; rfl
@[simp] theorem evE_or (a b : E) : evE cl (.or a b) ds st = (evE cl a ds st).bind fun x st1 => brR x (.ok (.bl true) st1) (evE cl b ds st1) := by rw [evE]; rfl
@[simp] theorem evE_not (a : E) : evE cl (.not a) ds st = (evE cl a ds st).bind fun x st1 => notR x st1 := by rw [evE]; rfl
@[simp] theorem evE_ife (c a b : E) : evE cl (.ife c a b) ds st = (evE cl c ds st).bind fun x st1 => brR x (evE cl a ds st1) (evE cl b ds st1) := by rw [evE]; rfl
@[simp] theorem evE_chain (o o' : Op) (a b c : E) : evE cl (.chain o o' a b c) ds st = (evE cl a ds st).bind fun x st1 => (evE cl b ds st1).bind fun y st2 => (opF o x y st2).bind fun z st3 => brR z ((evE cl c ds st3).bind fun w st4 => opF o' y w st4) (.ok (.bl false) st3) := by rw [evE]; rfl
@[simp] theorem evE_call (f : Nat) (raw : Bool) (es : List E) : evE cl (.call f raw es) ds st = (evL cl es ds st).bind fun xs st' => pcall cl f raw xs st' := by rw [evE]
@[simp] theorem evE_callX (k f : Nat) (es : List E) : evE cl (.callX k f es) ds st = (evL cl es ds st).bind fun xs st' => xcall k cl f xs st' := by rw [evE]
@[simp] theorem evE_callM (f : Nat) (es : List E) : evE cl (.callM f es) ds st = (evL cl es ds st).bind fun xs st' => cl f xs st' := by rw [evE]
@[simp] theorem evE_comp (m : Bool) (v : Nat) (elt : E) (k : SK) (src : List E) (cond : E) : evE cl (.comp m v elt k src cond) ds st = (evL cl src ds st).bind fun xs st' => compF m (evE cl elt) (evE cl cond) v k xs ds st' := by rw [evE]
@[simp] theorem evE_slc (m hl hh : Bool) (a lo hi : E) : evE cl (.slc m hl hh a lo hi) ds st = (evE cl a ds st).bind fun x st1 => (partR hl (evE cl lo ds st1) st1).bind fun l st2 => (partR hh (evE cl hi ds st2) st2).bind fun h st3 => slcF m x l h st3 := by rw [evE]
@[simp] theorem evS_set (i : Nat) (e : E) : evS cl (.set i e) ds st = (evE cl e ds st).bindS ds fun d st' => .nx (ds.set i (some d)) st' := by rw [evS]
@[simp] theorem evS_expr (e : E) : evS cl (.expr e) ds st = (evE cl e ds st).bindS ds fun _ st' => .nx ds st' := by rw [evS]
@[simp] theorem evS_ret (e : E) : evS cl (.ret e) ds st = (evE cl e ds st).bindS ds fun d st' => .rt d st' := by rw [evS]
@[simp] theorem evS_ifs (c : E) (a b : List S) : evS cl (.ifs c a b) ds st = (evE cl c ds st).bindS ds fun x st' => brS x (evB cl a ds st') (evB cl b ds st') := by rw [evS]; rfl
@[simp] theorem evS_whl (c : E) (b : List S) : evS cl (.whl c b) ds st = whlB (evE cl c) (evB cl b) whlFuel ds st := by rw [evS]
def forR (cl : Cl) (b : List S) (v : Nat) (k : SK) (ds : DS) (xs : List D) (st' : Store) : RS := match srcF k xs st' with
  | some (none, items) => filtS k (forB (evB cl b) v items ds st')
  | some (some n, items) => match lock n st' with
    | some st1 => unlockS n (forB (evB cl b) v items ds st1)
    | none => .no
  | none => .no
@[simp] theorem evS_for (v : Nat) (k : SK) (src : List E) (b : List S) : evS cl (.for v k src b) ds st = (evL cl src ds st).bindS ds fun xs st' => forR cl b v k ds xs st' := by rw [evS]; rfl
def forER (cl : Cl) (b : List S) (i v : Nat) (ds : DS) (d : D) (st : Store) : RS := match d with
  | .lst items => forE (evB cl b) i v 0 items ds st
  | _ => .no
@[simp] theorem evS_forE (i v : Nat) (src : E) (b : List S) : evS cl (.forE i v src b) ds st = (evE cl src ds st).bindS ds fun d st' => forER cl b i v ds d st' := by rw [evS]; rfl
@[simp] theorem forER_lst (cl : Cl) (b : List S) (i v : Nat) (ds : DS) (items : List D) (st : Store) : forER cl b i v ds (.lst items) st = forE (evB cl b) i v 0 items ds st := (rfl)
@[simp] theorem evS_brk : evS cl .brk ds st = .bk ds st := by rw [evS]
@[simp] theorem evS_cnt : evS cl .cnt ds st = .ct ds st := by rw [evS]
@[simp] theorem evS_pass : evS cl .pass ds st = .nx ds st := by rw [evS]
def setR (o i v : D) (ds : DS) (st : Store) : RS := match setixF o i v st with
  | some st4 => .nx ds st4
  | none => .no
@[simp] theorem evS_setix (o i v : E) : evS cl (.setix o i v) ds st = (evE cl v ds st).bindS ds fun x st1 => (evE cl o ds st1).bindS ds fun y st2 => (evE cl i ds st2).bindS ds fun z st3 => setR y z x ds st3 := by rw [evS]; rfl
@[simp] theorem evB_nil : evB cl [] ds st = .nx ds st := by rw [evB]
@[simp] theorem evB_cons (s : S) (r : List S) : evB cl (s :: r) ds st = (evS cl s ds st).seq (evB cl r) := by rw [evB]; rfl
end
@[simp] theorem seq_exc (e : Ex) (ds : DS) (st : Store) (f : DS → Store → RS) : (RS.exc e ds st).seq f = .exc e ds st := (rfl)
@[simp] theorem fin_exc (e : Ex) (ds : DS) (st : Store) : (RS.exc e ds st).fin = .exc e st := (rfl)
def triR (cl : Cl) (hs : List S) (x : RS) : RS := match x with
  | .exc e ds st => evH cl hs e ds st
  | x => x
@[simp] theorem triR_nx (cl : Cl) (hs : List S) (ds : DS) (st : Store) : triR cl hs (.nx ds st) = .nx ds st := (rfl)
@[simp] theorem triR_rt (cl : Cl) (hs : List S) (d : D) (st : Store) : triR cl hs (.rt d st) = .rt d st := (rfl)
@[simp] theorem triR_exc (cl : Cl) (hs : List S) (e : Ex) (ds : DS) (st : Store) : triR cl hs (.exc e ds st) = evH cl hs e ds st := (rfl)
@[simp] theorem triR_ite {c : Prop} [Decidable c] (cl : Cl) (hs : List S) (x y : RS) : triR cl hs (if c then x else y) = if c then triR cl hs x else triR cl hs y := by split <;> rfl
@[simp] theorem evS_tri (cl : Cl) (ds : DS) (st : Store) (b hs : List S) : evS cl (.tri b hs) ds st = triR cl hs (evB cl b ds st) := by rw [evS]; rfl
def noX (x : RS) : RS := match x with
  | .exc _ _ _ => .no
  | x => x
@[simp] theorem noX_nx (ds : DS) (st : Store) : noX (.nx ds st) = .nx ds st := (rfl)
@[simp] theorem noX_rt (d : D) (st : Store) : noX (.rt d st) = .rt d st := (rfl)
@[simp] theorem evH_nil (cl : Cl) (e : Ex) (ds : DS) (st : Store) : evH cl [] e ds st = .exc e ds st := by rw [evH]
@[simp] theorem evH_n (cl : Cl) (c : Nat) (b r : List S) (e : Ex) (ds : DS) (st : Store) : evH cl (.hd c none b :: r) e ds st = if isCls e.cls c = true then noX (evB cl b ds st) else evH cl r e ds st := by rw [evH]; rfl
@[simp] theorem evH_s (cl : Cl) (c i : Nat) (b r : List S) (e : Ex) (ds : DS) (st : Store) : evH cl (.hd c (some i) b :: r) e ds st = if isCls e.cls c = true then (if i < ds.length then unb i (evB (clE cl e) b (ds.set i none) st) else .no) else evH cl r e ds st := by rw [evH]
@[simp] theorem unb_nx (i : Nat) (ds : DS) (st : Store) : unb i (.nx ds st) = .nx (ds.set i none) st := (rfl)
@[simp] theorem unb_rt (i : Nat) (d : D) (st : Store) : unb i (.rt d st) = .rt d st := (rfl)
@[simp] theorem unb_ite {c : Prop} [Decidable c] (i : Nat) (x y : RS) : unb i (if c then x else y) = if c then unb i x else unb i y := by split <;> rfl
@[simp] theorem isCls_eq (x y : Nat) : isCls x y = (decide (y = 9) || decide (y = 0) || decide (x = y)) := by
  unfold isCls
  by_cases h1 : y = 9 <;> by_cases h2 : y = 0 <;> by_cases h3 : x = y <;> simp [h1, h2, h3]
@[simp] theorem evE_exis (cl : Cl) (e : Ex) (c : Nat) (ds : DS) (st : Store) (h : c < 10) : evE (clE cl e) (.exis c) ds st = .ok (.bl (isCls e.cls c)) st := by
  simp only [evE, clE]
  rw [if_neg (by omega), if_neg (by omega), if_pos (by omega), Nat.add_sub_cancel_left]
@[simp] theorem evE_exk (cl : Cl) (e : Ex) (f : Nat) (ds : DS) (st : Store) : evE (clE cl e) (.exk f) ds st = cl f [.int e.cls] st := by
  simp only [evE, clE]
  rw [if_pos (by omega), Nat.add_sub_cancel_left]
@[simp] theorem evS_strk (cl : Cl) (ds : DS) (st : Store) (i : Nat) (n : Int) (c : Nat) : evS cl (.strk i n c) ds st = strkF i n c (evE cl (.pr .len [.var i])) ds st := by simp only [evS]
@[simp] theorem evE_mkx (cl : Cl) (ds : DS) (st : Store) (c : Nat) (es : List E) : evE cl (.mkx c es) ds st = (evL cl es ds st).bind fun xs st' => mkxF c xs st' := by simp only [evE]
@[simp] theorem evE_isx (cl : Cl) (ds : DS) (st : Store) (c : Nat) (a : E) : evE cl (.isx c a) ds st = (evE cl a ds st).bind fun x st' => isxF c x st' := by simp only [evE]
@[simp] theorem evE_atx (cl : Cl) (ds : DS) (st : Store) (a : E) : evE cl (.atx a) ds st = (evE cl a ds st).bind fun x st' => atxF x st' := by simp only [evE]
@[simp] theorem mkxF_1 (c : Nat) (x : D) (st : Store) : mkxF c [x] st = .ok (.exc c (if c = 2 then some 0 else none)) st := rfl
@[simp] theorem mkxF_2 (x : D) (i : Int) (st : Store) : mkxF 2 [x, .int i] st = .ok (.exc 2 (some i)) st := rfl
@[simp] theorem isxF_exc (c k : Nat) (i : Option Int) (st : Store) : isxF c (.exc k i) st = .ok (.bl (isCls k c)) st := rfl
@[simp] theorem atxF_exc (k : Nat) (i : Int) (st : Store) : atxF (.exc k (some i)) st = .ok (.int i) st := rfl
@[simp] theorem evS_strx (cl : Cl) (ds : DS) (st : Store) (i j c : Nat) : evS cl (.strx i j c) ds st = strxF i j c ds st := by simp only [evS]
@[simp] theorem evS_raise (cl : Cl) (ds : DS) (st : Store) (c : Nat) (z : Tx) (h : c ≠ 2) : evS cl (.raise c (.k (.str z)) (.k .non)) ds st = .exc ⟨c, none⟩ ds st := by simp only [evS, evE, R.bindS, if_neg h]
@[simp] theorem evS_raise2 (cl : Cl) (ds : DS) (st : Store) (z : Tx) (a : E) : evS cl (.raise 2 (.k (.str z)) a) ds st = (evE cl a ds st).bindS ds fun x st2 => raise2F x ds st2 := by
  simp only [evS, evE, R.bindS, if_pos]
  cases evE cl a ds st with
  | ok x s => cases x <;> rfl
  | exc _ _ => rfl
  | no => rfl
@[simp] theorem raise2F_int (i : Int) (ds : DS) (st : Store) : raise2F (.int i) ds st = .exc ⟨2, some i⟩ ds st := (rfl)
@[simp] theorem evE_exat (cl : Cl) (c : Nat) (i : Int) (ds : DS) (st : Store) : evE (clE cl ⟨c, some i⟩) .exat ds st = .ok (.int i) st := by simp [evE, clE]
theorem call_eq {T : Nat → Option Fn} {f : Nat} {fn : Fn} (h : T f = some fn) (n : Nat) (args : List D) (st : Store) (hl : args.length = fn.np) (hh : (fn.np == hotNp) = false := by rfl) :
    callF T (n + 1) f args st = (evB (callF T n) fn.body (args.map some ++ List.replicate (fn.ns - fn.np) none) st).fin := by
  unfold callF
  rw [h]
  have hh : ¬ fn.np = hotNp := by simpa using hh
  simp only [hl, if_true, if_neg hh]
  cases evB (callF T n) fn.body (args.map some ++ List.replicate (fn.ns - fn.np) none) st <;> rfl
section
variable (st : Store)
@[simp] theorem pF1 (p : P) (a : D) (h : (match p with | .tup => false | .lst _ => false | .dnew => false | _ => true) = true) : primF p [a] st = prim1F p a st := by cases p <;> first | rfl | simp at h
@[simp] theorem pF2 (p : P) (a b : D) (h : (match p with | .tup => false | .lst _ => false | .dnew => false | _ => true) = true) : primF p [a, b] st = prim2F p a b st := by cases p <;> first | rfl | simp at h
@[simp] theorem pF_tup (ds : List D) (h : ds.length ≤ 1000) : primF .tup ds st = .ok (.tup ds) st := by simp only [primF, h, if_true]
@[simp] theorem pF_lst (m : Bool) (ds : List D) (h : ds.length ≤ 1000) : primF (.lst m) ds st = mkL m ds st := by simp only [primF, h, if_true]
@[simp] theorem pF_dnew : primF .dnew [] st = mkD true [] st := (rfl)
@[simp] theorem mkL_f (xs : List D) : mkL false xs st = .ok (.lst xs) st := (rfl)
@[simp] theorem mkL_t (xs : List D) : mkL true xs st = .ok (.ref st.length) (st ++ [.lst xs]) := (rfl)
@[simp] theorem p2_op (o : Op) (a b : D) : prim2F (.op o) a b st = opF o a b st := (rfl)
@[simp] theorem op_add (m : Bool) (i j : Int) : opF (.add m) (.int i) (.int j) st = .ok (.int (i + j)) st := (rfl)
@[simp] theorem op_sub (i j : Int) : opF .sub (.int i) (.int j) st = .ok (.int (i - j)) st := (rfl)
@[simp] theorem op_mul (i j : Int) (h : j.natAbs < 2 ^ 64 ∨ i.natAbs < 2 ^ 64) : opF .mul (.int i) (.int j) st = .ok (.int (i * j)) st := by
  unfold opF
  simp only
  split
  · rfl
  · split
    · rfl
    · rw [if_pos (h.resolve_left (by assumption))]
theorem op_mulB (i j : Int) (hi : i.natAbs < 2 ^ 1000) (hj : j.natAbs < 2 ^ 1000) : opF .mul (.int i) (.int j) st = .ok (.int (i * j)) st := by
  unfold opF
  simp only
  rw [if_pos]
  have h1 : i.natAbs.log2 ≤ 1000 := by
    by_cases h : i.natAbs = 0
    · rw [h]; decide
    · exact Nat.le_of_lt ((Nat.log2_lt h).mpr hi)
  have h2 : j.natAbs.log2 ≤ 1000 := by
    by_cases h : j.natAbs = 0
    · rw [h]; decide
    · exact Nat.le_of_lt ((Nat.log2_lt h).mpr hj)
  omega
@[simp] theorem p_int1_bl (b : Bool) : prim1F .int1 (.bl b) st = .ok (.int (if b = true then 1 else 0)) st := (rfl)
@[simp] theorem p_int1_int (i : Int) : prim1F .int1 (.int i) st = .ok (.int i) st := (rfl)
@[simp] theorem op_mod (i j : Int) (h : 0 < j) : opF .mod (.int i) (.int j) st = .ok (.int (i % j)) st := by simp only [opF, h, if_true]
@[simp] theorem op_fdiv (i j : Int) (h : 0 < j) (h2 : j < 2 ^ 64) : opF .fdiv (.int i) (.int j) st = .ok (.int (i / j)) st := by
  have h3 : j.natAbs < 2 ^ 64 := by omega
  have h4 := (Nat.log2_lt (by omega)).mpr h3
  simp only [opF, show j ≠ 0 by omega, show j.natAbs.log2 < 9000 by omega, ne_eq, not_false_eq_true, and_self, if_true]
  rw [Int.fdiv_eq_ediv_of_nonneg i (by omega)]
@[simp] theorem op_pow (i j : Int) (h : 0 ≤ j) (h2 : j ≤ 1000000) (h3 : i.natAbs < 2 ^ 64) : opF .pow (.int i) (.int j) st = .ok (.int (i ^ j.toNat)) st := by simp only [opF, h, h2, h3, and_self, if_true]
@[simp] theorem op_ltp (p q : Pl) : opF .lt (plD p) (plD q) st = .ok (.bl (plLt p q)) st := (rfl)
@[simp] theorem op_lt (i j : Int) : opF .lt (.int i) (.int j) st = .ok (.bl (decide (i < j))) st := (rfl)
@[simp] theorem op_le (i j : Int) : opF .le (.int i) (.int j) st = .ok (.bl (decide (i ≤ j))) st := (rfl)
@[simp] theorem op_gt (i j : Int) : opF .gt (.int i) (.int j) st = .ok (.bl (decide (j < i))) st := (rfl)
@[simp] theorem op_ge (i j : Int) : opF .ge (.int i) (.int j) st = .ok (.bl (decide (j ≤ i))) st := (rfl)
@[simp] theorem op_eq (a b : D) : opF .eq a b st = ofO st ((eqVal st a b).map .bl) := (rfl)
@[simp] theorem op_ne (a b : D) : opF .ne a b st = ofO st ((eqVal st a b).map fun k => .bl (!k)) := (rfl)
@[simp] theorem op_in (a b : D) : opF .isin a b st = ofO st ((inVal st a b).map .bl) := (rfl)
@[simp] theorem op_ni (a b : D) : opF .notin a b st = ofO st ((inVal st a b).map fun k => .bl (!k)) := (rfl)
@[simp] theorem eqv_int (i j : Int) : eqVal st (.int i) (.int j) = some (decide (i = j)) := (rfl)
@[simp] theorem eqv_non : eqVal st .non .non = some true := (rfl)
@[simp] theorem eqv_bl (i j : Bool) : eqVal st (.bl i) (.bl j) = some (i == j) := (rfl)
@[simp] theorem eqv_str (s t : Tx) : eqVal st (.str s) (.str t) = some (s == t) := (rfl)
@[simp] theorem eqv_non_int (i : Int) : eqVal st .non (.int i) = some false := (rfl)
@[simp] theorem eqv_int_non (i : Int) : eqVal st (.int i) .non = some false := (rfl)
@[simp] theorem eqv_pl (a b c d : Int) : eqVal st (.tup [.int a, .int b]) (.tup [.int c, .int d]) = some (decide (a = c) && decide (b = d)) := by
  have : eqD (.tup [.int a, .int b]) (.tup [.int c, .int d]) = (decide (a = c) && decide (b = d)) := by
    simp [eqD, eqDs]
    rfl
  simp [eqVal, scalar, rsv, noRef, noRefs, cmpD, cmpDs, dep, deps, this]
@[simp] theorem scalar_i (i : Int) : scalar (.int i) = true := (rfl)
@[simp] theorem scalar_s (i : Tx) : scalar (.str i) = true := (rfl)
@[simp] theorem scalar_b (i : Bool) : scalar (.bl i) = true := (rfl)
@[simp] theorem scalar_n : scalar .non = true := (rfl)
@[simp] theorem eqD_ss (s t : Tx) : eqD (.str s) (.str t) = (s == t) := (rfl)
@[simp] theorem eqD_si (s : Tx) (i : Int) : eqD (.str s) (.int i) = false := (rfl)
@[simp] theorem eqD_is (s : Tx) (i : Int) : eqD (.int i) (.str s) = false := (rfl)
@[simp] theorem eqD_sn (s : Tx) : eqD (.str s) .non = false := (rfl)
@[simp] theorem eqD_sb (s : Tx) (b : Bool) : eqD (.str s) (.bl b) = false := (rfl)
@[simp] theorem eqD_st (s : Tx) (xs : List D) : eqD (.str s) (.tup xs) = false := (rfl)
@[simp] theorem eqD_ii (i j : Int) : eqD (.int i) (.int j) = (i == j) := (rfl)
@[simp] theorem eqD_in (i : Int) : eqD (.int i) .non = false := (rfl)
@[simp] theorem eqD_nn : eqD .non .non = true := (rfl)
@[simp] theorem eqD_nt (xs : List D) : eqD .non (.tup xs) = false := (rfl)
@[simp] theorem eqD_tn (xs : List D) : eqD (.tup xs) .non = false := (rfl)
theorem in_tup (a : D) (xs : List D) (h : (scalar a && xs.all scalar) = true) : inVal st a (.tup xs) = some (xs.any fun y => eqD y a) := by
  unfold inVal
  simp only [dctOf, seqOf, h, if_true]
@[simp] theorem p_neg (i : Int) : prim1F .neg (.int i) st = .ok (.int (-i)) st := (rfl)
@[simp] theorem p_isn_non : prim1F .isn .non st = .ok (.bl true) st := (rfl)
@[simp] theorem p_isn_int (i : Int) : prim1F .isn (.int i) st = .ok (.bl false) st := (rfl)
@[simp] theorem p_isn_tup (xs : List D) : prim1F .isn (.tup xs) st = .ok (.bl false) st := (rfl)
@[simp] theorem p_isn_str (xs : Tx) : prim1F .isn (.str xs) st = .ok (.bl false) st := (rfl)
@[simp] theorem p_isn_bl (b : Bool) : prim1F .isn (.bl b) st = .ok (.bl false) st := (rfl)
@[simp] theorem p_isn_lst (xs : List D) : prim1F .isn (.lst xs) st = .ok (.bl false) st := (rfl)
@[simp] theorem p_notn_non : prim1F .notn .non st = .ok (.bl false) st := (rfl)
@[simp] theorem p_notn_int (i : Int) : prim1F .notn (.int i) st = .ok (.bl true) st := (rfl)
@[simp] theorem p_notn_tup (xs : List D) : prim1F .notn (.tup xs) st = .ok (.bl true) st := (rfl)
@[simp] theorem p_notn_str (xs : Tx) : prim1F .notn (.str xs) st = .ok (.bl true) st := (rfl)
@[simp] theorem p_notn_bl (b : Bool) : prim1F .notn (.bl b) st = .ok (.bl true) st := (rfl)
@[simp] theorem p_notn_lst (xs : List D) : prim1F .notn (.lst xs) st = .ok (.bl true) st := (rfl)
@[simp] theorem p_len_scr (ns : List Int) : prim1F .len (.scr ns) st = .ok (.int ns.length) st := by simp [prim1F, dctOf, seqOf, lstOf]
@[simp] theorem p_len_lst (ns : List D) : prim1F .len (.lst ns) st = .ok (.int ns.length) st := by cases ns <;> rfl
@[simp] theorem p_len_tup (ns : List D) : prim1F .len (.tup ns) st = .ok (.int ns.length) st := by cases ns <;> rfl
@[simp] theorem p_max2 (i j : Int) : prim2F .max2 (.int i) (.int j) st = .ok (.int (max i j)) st := by
  simp only [prim2F]
  congr 2
  omega
@[simp] theorem p_min2 (i j : Int) : prim2F .min2 (.int i) (.int j) st = .ok (.int (min i j)) st := by
  simp only [prim2F]
  congr 2
  omega
@[simp] theorem p_min3 (i j k : Int) : prim3F .min3 (.int i) (.int j) (.int k) st = .ok (.int (min (min i j) k)) st := by
  simp only [prim3F]
  congr 2
  omega
@[simp] theorem p_abs (i : Int) : prim1F .abs (.int i) st = .ok (.int (if i < 0 then -i else i)) st := (rfl)
theorem atL_nat {α : Type} (xs : List α) (i : Int) (h0 : 0 ≤ i) (h : i < xs.length) : atL xs i = xs[i.toNat]? := by
  have e : L2.ixN xs.length i = some i.toNat := by
    unfold L2.ixN
    rw [if_pos h0, if_pos h]
  simp only [atL, e, Option.bind_some]
@[simp] theorem p_ix_scr (ns : List Int) (i : Int) (h0 : 0 ≤ i) (h : i < ns.length) : prim2F .ix (.scr ns) (.int i) st = .ok (.int (ns.getD i.toNat 0)) st := by
  have : (ns.map D.int)[i.toNat]? = some (.int (ns.getD i.toNat 0)) := by
    rw [List.getElem?_map, List.getD_eq_getElem?_getD, List.getElem?_eq_getElem (by omega)]
    rfl
  simp [prim2F, dctOf, seqOf, lstOf, atL_nat (ns.map D.int) i h0 (by simpa using h), this]
@[simp] theorem p_ix_pl0 (a b : D) : prim2F .ix (.tup [a, b]) (.int 0) st = .ok a st := (rfl)
@[simp] theorem p_ix_pl1 (a b : D) : prim2F .ix (.tup [a, b]) (.int 1) st = .ok b st := (rfl)
theorem p_ix_str (s : Tx) (i : Int) (h0 : 0 ≤ i) (h : i < s.length) (hl : s.length ≤ lim) : prim2F .ix (.str s) (.int i) st = ofO st (s[i.toNat]?.map oneS) := by
  simp only [prim2F, hl, if_true, atL_nat s i h0 h]
@[simp] theorem p_all (xs : List D) : prim1F .all (.lst xs) st = ofO st ((blsOf xs).map fun bs => .bl (bs.all id)) := (rfl)
@[simp] theorem bls_nil : blsOf [] = some [] := (rfl)
@[simp] theorem bls_cons (b : Bool) (xs : List D) : blsOf (.bl b :: xs) = (blsOf xs).map (b :: ·) := (rfl)
@[simp] theorem p_ix_l0 (a : D) (xs : List D) : prim2F .ix (.lst (a :: xs)) (.int 0) st = .ok a st := by simp [prim2F, dctOf, seqOf, lstOf, atL_nat (a :: xs) 0 (by omega) (by simp <;> omega)]
@[simp] theorem p_ix_l1 (a b : D) (xs : List D) : prim2F .ix (.lst (a :: b :: xs)) (.int 1) st = .ok b st := by simp [prim2F, dctOf, seqOf, lstOf, atL_nat (a :: b :: xs) 1 (by omega) (by simp <;> omega)]
@[simp] theorem p_isi_int (i : Int) (t : Ty) : prim1F (.isi t) (.int i) st = .ok (.bl (decide (t = .int))) st := by cases t <;> rfl
@[simp] theorem p_isi_tup (xs : List D) (t : Ty) : prim1F (.isi t) (.tup xs) st = .ok (.bl (decide (t = .tuple))) st := by cases t <;> rfl
@[simp] theorem p_isi_lst (xs : List D) (t : Ty) : prim1F (.isi t) (.lst xs) st = .ok (.bl (decide (t = .list))) st := by cases t <;> rfl
@[simp] theorem p_isi_str (xs : Tx) (t : Ty) : prim1F (.isi t) (.str xs) st = .ok (.bl (decide (t = .str))) st := by cases t <;> rfl
@[simp] theorem p_isi_bl (b : Bool) (t : Ty) : prim1F (.isi t) (.bl b) st = .ok (.bl (decide (t = .bool) || decide (t = .int))) st := by cases t <;> rfl
@[simp] theorem p_isi_non (t : Ty) : prim1F (.isi t) .non st = .ok (.bl false) st := by cases t <;> rfl
end
theorem rsvs_nr {st : Store} : ∀ {xs : List D}, noRefs xs = true → rsvs st xs = some xs
  | [], _ => rfl
  | x :: xs, h => by
    simp only [noRefs, Bool.and_eq_true] at h
    simp only [rsvs, rsv, h.1, if_true, rsvs_nr h.2]
end MP
end
section
set_option maxRecDepth 100000
set_option maxHeartbeats 8000000
namespace MP
mutual
theorem shift_nr (k : Nat) : ∀ (d : D), noRef d = true → shift k d = d
  | .tup xs, h => by rw [shift, shifts_nr k xs (by simpa [noRef] using h)]
  | .lst xs, h => by rw [shift, shifts_nr k xs (by simpa [noRef] using h)]
  | .dct es, h => by rw [shift, shiftE_nr k es (by simpa [noRef] using h)]
  | .ref _, h => by simp [noRef] at h
  | .non, _ => rfl
  | .bl _, _ => rfl
  | .int _, _ => rfl
  | .str _, _ => rfl
  | .scr _, _ => rfl
  | .exc _ _, _ => rfl
theorem shifts_nr (k : Nat) : ∀ (xs : List D), noRefs xs = true → shifts k xs = xs
  | [], _ => rfl
  | x :: xs, h => by
    simp only [noRefs, Bool.and_eq_true] at h
    rw [shifts, shift_nr k x h.1, shifts_nr k xs h.2]
theorem shiftE_nr (k : Nat) : ∀ (xs : List (Pl × D)), noRefE xs = true → shiftE k xs = xs
  | [], _ => rfl
  | (p, x) :: xs, h => by
    simp only [noRefE, Bool.and_eq_true] at h
    rw [shiftE, shift_nr k x h.1, shiftE_nr k xs h.2]
end
mutual
theorem mapRef_nr (g : Nat → Option D) : ∀ (d : D), noRef d = true → mapRef g d = some d
  | .tup xs, h => by rw [mapRef, mapRefs_nr g xs (by simpa [noRef] using h)]; rfl
  | .lst xs, h => by rw [mapRef, mapRefs_nr g xs (by simpa [noRef] using h)]; rfl
  | .dct es, h => by rw [mapRef, mapRefE_nr g es (by simpa [noRef] using h)]; rfl
  | .ref _, h => by simp [noRef] at h
  | .non, _ => by rw [mapRef]
  | .bl _, _ => by rw [mapRef]
  | .int _, _ => by rw [mapRef]
  | .str _, _ => by rw [mapRef]
  | .scr _, _ => by rw [mapRef]
  | .exc _ _, _ => by rw [mapRef]
theorem mapRefs_nr (g : Nat → Option D) : ∀ (xs : List D), noRefs xs = true → mapRefs g xs = some xs
  | [], _ => by rw [mapRefs]
  | x :: xs, h => by
    simp only [noRefs, Bool.and_eq_true] at h
    rw [mapRefs, mapRef_nr g x h.1, mapRefs_nr g xs h.2]
theorem mapRefE_nr (g : Nat → Option D) : ∀ (xs : List (Pl × D)), noRefE xs = true → mapRefE g xs = some xs
  | [], _ => by rw [mapRefE]
  | (p, x) :: xs, h => by
    simp only [noRefE, Bool.and_eq_true] at h
    rw [mapRefE, mapRef_nr g x h.1, mapRefE_nr g xs h.2]
end
theorem rsv_nr {st : Store} {d : D} (h : noRef d = true) : rsv st d = some d := by simp [rsv, h]
mutual
theorem eqD_refl : ∀ (d : D), cmpD d = true → eqD d d = true
  | .tup xs, h => by rw [eqD]; exact eqDs_refl xs (by simpa [cmpD] using h)
  | .lst xs, h => by rw [eqD]; exact eqDs_refl xs (by simpa [cmpD] using h)
  | .dct _, h => by simp [cmpD] at h
  | .ref _, h => by simp [cmpD] at h
  | .scr _, h => by simp [cmpD] at h
  | .exc _ _, h => by simp [cmpD] at h
  | .non, _ => by rw [eqD]
  | .bl b, _ => by simp [eqD]
  | .int i, _ => by simp [eqD]
  | .str s, _ => by simp [eqD]
theorem eqDs_refl : ∀ (xs : List D), cmpDs xs = true → eqDs xs xs = true
  | [], _ => by rw [eqDs]
  | x :: xs, h => by
    simp only [cmpDs, Bool.and_eq_true] at h
    rw [eqDs, eqD_refl x h.1, eqDs_refl xs h.2]
    rfl
end
def plsD (ps : List Pl) : List D := ps.map plD
def rangeI (a b : Int) : List Int := (List.range (b - a).toNat).map fun (i : Nat) => a + i
theorem rangeD_eq (a b : Int) : rangeD a b = (rangeI a b).map D.int := by simp [rangeD, rangeI, Function.comp_def]
theorem mem_rangeI {a b x : Int} : x ∈ rangeI a b ↔ a ≤ x ∧ x < b := by
  simp only [rangeI, List.mem_map, List.mem_range]
  constructor
  · rintro ⟨i, h, rfl⟩
    omega
  · rintro ⟨h1, h2⟩
    exact ⟨(x - a).toNat, by omega, by omega⟩
theorem rangeI_length (a b : Int) : (rangeI a b).length = (b - a).toNat := by simp [rangeI]
theorem p_append {st : Store} {n : Nat} {xs : List D} (b : D) (h : st[n]? = some (.lst xs)) (hl : xs.length < lim) : prim2F .append (.ref n) b st = .ok .non (st.set n (.lst (xs ++ [b]))) := by
  simp only [prim2F, h, hl, if_true]
@[simp] theorem p_append0 (xs : List D) (b : D) (st : Store) (hl : xs.length < lim) : prim2F .append (.ref 0) b (.lst xs :: st) = .ok .non (.lst (xs ++ [b]) :: st) := p_append b rfl hl
@[simp] theorem p_append1 (c : Cell) (xs : List D) (b : D) (st : Store) (hl : xs.length < lim) : prim2F .append (.ref 1) b (c :: .lst xs :: st) = .ok .non (c :: .lst (xs ++ [b]) :: st) := p_append b rfl hl
@[simp] theorem p_append2 (c c' : Cell) (xs : List D) (b : D) (st : Store) (hl : xs.length < lim) : prim2F .append (.ref 2) b (c :: c' :: .lst xs :: st) = .ok .non (c :: c' :: .lst (xs ++ [b]) :: st) := p_append b rfl hl
@[simp] theorem rcv_append (n : Nat) (st : Store) (h : (lstOf st (.ref n)).isSome = true) : okRecv .append (.ref n) st = true := h
@[simp] theorem rcv0 (xs : List D) (st : Store) : okRecv .append (.ref 0) (.lst xs :: st) = true := (rfl)
@[simp] theorem rcv1 (c : Cell) (xs : List D) (st : Store) : okRecv .append (.ref 1) (c :: .lst xs :: st) = true := (rfl)
@[simp] theorem rcv2 (c c' : Cell) (xs : List D) (st : Store) : okRecv .append (.ref 2) (c :: c' :: .lst xs :: st) = true := (rfl)
@[simp] theorem lstOf0 (xs : List D) (st : Store) : lstOf (.lst xs :: st) (.ref 0) = some xs := (rfl)
@[simp] theorem lstOf1 (c : Cell) (xs : List D) (st : Store) : lstOf (c :: .lst xs :: st) (.ref 1) = some xs := (rfl)
@[simp] theorem lstOf2 (c c' : Cell) (xs : List D) (st : Store) : lstOf (c :: c' :: .lst xs :: st) (.ref 2) = some xs := (rfl)
theorem forR_rng2 (cl : Cl) (b : List S) (v : Nat) (ds : DS) (x y : Int) (st : Store) (h : -4611686018427387904 ≤ x ∧ x < 4611686018427387904 ∧ -4611686018427387904 ≤ y ∧ y < 4611686018427387904) : forR cl b v .rng2 ds [.int x, .int y] st = forB (evB cl b) v ((rangeI x y).map .int) ds st := by
  have e : srcF .rng2 [.int x, .int y] st = some (none, rangeD x y) := if_pos (by omega)
  unfold forR
  rw [e]
  simp only [rangeD_eq, filtS]
@[simp] theorem forR_lst (cl : Cl) (b : List S) (v : Nat) (ds : DS) (xs : List D) (st : Store) : forR cl b v .it ds [.lst xs] st = forB (evB cl b) v xs ds st := (rfl)
@[simp] theorem forR_tup (cl : Cl) (b : List S) (v : Nat) (ds : DS) (xs : List D) (st : Store) : forR cl b v .it ds [.tup xs] st = forB (evB cl b) v xs ds st := (rfl)
@[simp] theorem forR_scr (cl : Cl) (b : List S) (v : Nat) (ds : DS) (xs : List Int) (st : Store) : forR cl b v .it ds [.scr xs] st = forB (evB cl b) v (xs.map .int) ds st := (rfl)
theorem p_len_cell {st : Store} {n : Nat} {xs : List D} (h : st[n]? = some (.lst xs)) : prim1F .len (.ref n) st = .ok (.int xs.length) st := by simp [prim1F, dctOf, seqOf, lstOf, h]
theorem eqv_same {st : Store} {a b d : D} (ha : rsv st a = some d) (hb : rsv st b = some d) (hc : cmpD d = true) (hd : dep d ≤ 64) : eqVal st a b = some true := by
  unfold eqVal
  split
  · rename_i hs
    have na : noRef a = true := by cases a <;> simp [scalar] at hs <;> rfl
    have nb : noRef b = true := by cases b <;> simp [scalar] at hs <;> rfl
    rw [rsv_nr na] at ha
    rw [rsv_nr nb] at hb
    cases ha
    cases hb
    rw [eqD_refl _ hc]
  · rw [ha, hb]
    simp [hc, hd, eqD_refl _ hc]
theorem plsOf_pls : ∀ ps : List Pl, plsOf (plsD ps) = some ps
  | [] => rfl
  | p :: ps => by
    have := plsOf_pls ps
    simp only [plsD] at this
    simp [plsD, plsOf, plD, plOf, this]
end MP
end
section
set_option maxRecDepth 100000
set_option maxHeartbeats 8000000
namespace MP
class At (T : Nat → Option Fn) (i : Nat) (f : outParam Fn) : Prop where
  eq : T i = some f
theorem call_at {T : Nat → Option Fn} {f : Nat} {fn : Fn} [h : At T f fn] {N : Nat} {args : List D} {st : Store} (hN : 1 ≤ N) (hl : args.length = fn.np) (hh : (fn.np == hotNp) = false := by rfl) :
    callF T N f args st = (evB (callF T (N - 1)) fn.body (args.map some ++ List.replicate (fn.ns - fn.np) none) st).fin := by
  obtain ⟨n, rfl⟩ : ∃ n, N = n + 1 := ⟨N - 1, by omega⟩
  exact call_eq h.eq n args st hl hh
@[simp] theorem hotR_rt (d : D) (st : Store) : hotR (.rt d st) = .ok d st := (rfl)
@[simp] theorem hotR_nx (ds : DS) (st : Store) : hotR (.nx ds st) = .ok .non st := (rfl)
def frz2 (nr : Bool) (o : Option D) (st : Store) : RE := match o with
  | some d => if (nr || flat d) = true then .ok d st else .no
  | none => .no
def frz (nr : Bool) (x : RE) (st : Store) : RE := match x with
  | .ok d S => frz2 nr (rsv S d) st
  | .exc e _ => .exc e st
  | .no => .no
@[simp] theorem frz_ok (nr : Bool) (d : D) (S st : Store) : frz nr (.ok d S) st = frz2 nr (rsv S d) st := (rfl)
@[simp] theorem frz_exc (nr : Bool) (e : Ex) (S st : Store) : frz nr (.exc e S) st = .exc e st := (rfl)
@[simp] theorem frz_ite {c : Prop} [Decidable c] (nr : Bool) (x y : RE) (st : Store) : frz nr (if c then x else y) st = if c then frz nr x st else frz nr y st := by split <;> rfl
@[simp] theorem frz2_ok {nr : Bool} {d : D} (h : (nr || flat d) = true) (st : Store) : frz2 nr (some d) st = .ok d st := by simp only [frz2, h, if_true]
@[simp] theorem frz2_t {d : D} (st : Store) : frz2 true (some d) st = .ok d st := (rfl)
def pcA (o : Option (List D)) (nr : Bool) (cl : Cl) (f : Nat) (st : Store) : RE := match o with
  | some a => frz nr (cl f a []) st
  | none => .no
@[simp] theorem pcA_some (a : List D) (nr : Bool) (cl : Cl) (f : Nat) (st : Store) : pcA (some a) nr cl f st = frz nr (cl f a []) st := (rfl)
@[simp] theorem pcall_f (cl : Cl) (f : Nat) (args : List D) (st : Store) : pcall cl f false args st = pcA (rsvs st args) (noRefs args) cl f st := by
  unfold pcall pcA frz frz2
  cases rsvs st args with
  | none => rfl
  | some a =>
    simp only
    cases cl f a [] with
    | ok d S =>
      simp only [Bool.false_eq_true, if_false] <;> cases rsv S d <;> rfl
    | exc e S => rfl
    | no => rfl
def raw2 (nr : Bool) (x : RE) (st : Store) : RE := match x with
  | .ok d S => if (nr || (flatR d && S.all flatC)) = true then .ok (shift st.length d) (st ++ S.map (shiftC st.length)) else .no
  | .exc e _ => .exc e st
  | .no => .no
def pcR (o : Option (List D)) (nr : Bool) (cl : Cl) (f : Nat) (st : Store) : RE := match o with
  | some a => raw2 nr (cl f a []) st
  | none => .no
@[simp] theorem pcR_some (a : List D) (nr : Bool) (cl : Cl) (f : Nat) (st : Store) : pcR (some a) nr cl f st = raw2 nr (cl f a []) st := (rfl)
@[simp] theorem pcall_r (cl : Cl) (f : Nat) (args : List D) (st : Store) : pcall cl f true args st = pcR (rsvs st args) (noRefs args) cl f st := by
  unfold pcall pcR raw2
  cases rsvs st args with
  | none => rfl
  | some a =>
    simp only
    cases cl f a [] with
    | ok d S => rfl
    | exc e S => rfl
    | no => rfl
@[simp] theorem raw2_l {nr : Bool} {xs : List D} {st : Store} (h : noRefs xs = true) (h2 : (nr || flatRs xs) = true) : raw2 nr (.ok (.ref 0) [.lst xs]) st = .ok (.ref st.length) (st ++ [.lst xs]) := by
  unfold raw2
  simp only [flatR, List.all_cons, List.all_nil, flatC, Bool.and_true, Bool.true_and, h2, if_true, shift, Nat.add_zero, List.map_cons, List.map_nil, shiftC, shifts_nr _ xs h]
@[simp] theorem raw2_d {nr : Bool} {xs : List (Pl × D)} {st : Store} (h : noRefE xs = true) (h2 : (nr || flatRE xs) = true) : raw2 nr (.ok (.ref 0) [.dct xs]) st = .ok (.ref st.length) (st ++ [.dct xs]) := by
  unfold raw2
  simp only [flatR, List.all_cons, List.all_nil, flatC, Bool.and_true, Bool.true_and, h2, if_true, shift, Nat.add_zero, List.map_cons, List.map_nil, shiftC, shiftE_nr _ xs h]
def semiR (o : Option (D × Cell)) (st : Store) : RE := match o with
  | some (d, c) => .ok d (st ++ [c])
  | none => .no
def scR (nr : Bool) (x : RE) (st : Store) : RE := if nr then (match x with
    | .ok (.tup ds) S => semiR (semiD ds S st.length) st
    | .ok _ _ => .no
    | .exc e _ => .exc e st
    | .no => .no) else .no
@[simp] theorem scR_ok (ds : List D) (S st : Store) : scR true (.ok (.tup ds) S) st = semiR (semiD ds S st.length) st := (rfl)
@[simp] theorem scR_exc (e : Ex) (S st : Store) : scR true (.exc e S) st = .exc e st := (rfl)
@[simp] theorem semiR_s (d : D) (c : Cell) (st : Store) : semiR (some (d, c)) st = .ok d (st ++ [c]) := (rfl)
@[simp] theorem xcall_0 (cl : Cl) (f : Nat) (args : List D) (st : Store) : xcall 0 cl f args st = scR (noRefs args) (cl f args []) st := by
  unfold xcall scall scR semiR
  refine (if_pos rfl).trans ?_
  first
    | rfl
    | (cases noRefs args with
      | false => rfl
      | true =>
        simp only [if_true]
        cases cl f args [] with
        | ok d S =>
          cases d with
          | tup ds => simp only; cases semiD ds S st.length <;> rfl
          | _ => rfl
        | exc e S => rfl
        | no => rfl)
def dcA (x : RE) (st : Store) : RE := match x with
  | .ok d _ => if lstO d then .ok d st else .no
  | .exc e _ => .exc e st
  | .no => .no
def dcR (o : Option (List D)) (cl : Cl) (f : Nat) (st : Store) : RE := match o with
  | some a => dcA (cl f a []) st
  | none => .no
@[simp] theorem dcA_ok {d : D} (h : lstO d = true) (S st : Store) : dcA (.ok d S) st = .ok d st := by simp only [dcA, h, if_true]
@[simp] theorem dcA_exc (e : Ex) (S st : Store) : dcA (.exc e S) st = .exc e st := (rfl)
@[simp] theorem dcR_some (a : List D) (cl : Cl) (f : Nat) (st : Store) : dcR (some a) cl f st = dcA (cl f a []) st := (rfl)
@[simp] theorem xcall_1 (cl : Cl) (f : Nat) (args : List D) (st : Store) : xcall 1 cl f args st = dcR (dctFs st args) cl f st := by
  unfold xcall dcall dcR dcA
  refine (if_neg (by decide)).trans ?_
  first
    | rfl
    | (cases dctFs st args with
      | none => rfl
      | some a => simp only; cases cl f a [] <;> rfl)
def dqC : Option Cell → Option D
  | some (.dct es) => if noRefE es then some (.dct es) else none
  | some (.lckD es) => if noRefE es then some (.dct es) else none
  | _ => none
@[simp] theorem dqC_d {es : List (Pl × D)} (h : noRefE es = true) : dqC (some (.dct es)) = some (.dct es) := by simp only [dqC, h, if_true]
@[simp] theorem dqC_ld {es : List (Pl × D)} (h : noRefE es = true) : dqC (some (.lckD es)) = some (.dct es) := by simp only [dqC, h, if_true]
@[simp] theorem dctF_ref (st : Store) (n : Nat) : dctF st (.ref n) = dqC st[n]? := by
  rw [dctF]
  cases st[n]? with
  | none => rfl
  | some c => cases c <;> rfl
@[simp] theorem dctFs_nil (st : Store) : dctFs st [] = some [] := by rw [dctFs]
@[simp] theorem dctFs_cons (st : Store) (x : D) (xs : List D) : dctFs st (x :: xs) = (match dctF st x, dctFs st xs with | some y, some ys => some (y :: ys) | _, _ => none) := by rw [dctFs] <;> rfl
mutual
theorem dctF_n {st : Store} : ∀ {d : D}, noRef d = true → dctF st d = some d
  | .non, _ => by rw [dctF]
  | .bl _, _ => by rw [dctF]
  | .int _, _ => by rw [dctF]
  | .str _, _ => by rw [dctF]
  | .scr _, _ => by rw [dctF]
  | .exc _ _, _ => by rw [dctF]
  | .tup xs, h => by rw [dctF, dctFs_n (by simpa [noRef] using h)]; rfl
  | .lst xs, h => by rw [dctF, if_pos (by simpa [noRef] using h)]
  | .dct xs, h => by rw [dctF, if_pos (by simpa [noRef] using h)]
  | .ref _, h => by simp [noRef] at h
theorem dctFs_n {st : Store} : ∀ {xs : List D}, noRefs xs = true → dctFs st xs = some xs
  | [], _ => by rw [dctFs]
  | x :: xs, h => by
    rw [noRefs, Bool.and_eq_true] at h
    rw [dctFs, dctF_n h.1, dctFs_n h.2]
end
@[simp] theorem dctF_nr {st : Store} {d : D} (h : noRef d = true) : dctF st d = some d := dctF_n h
@[simp] theorem rsvs_nil (st : Store) : rsvs st [] = some [] := (rfl)
def cons2 (o : Option D) (r : Option (List D)) : Option (List D) := match o, r with
  | some x, some xs => some (x :: xs)
  | _, _ => none
@[simp] theorem cons2_some (x : D) (xs : List D) : cons2 (some x) (some xs) = some (x :: xs) := (rfl)
@[simp] theorem rsvs_cons (st : Store) (x : D) (xs : List D) : rsvs st (x :: xs) = cons2 (rsv st x) (rsvs st xs) := by
  rw [rsvs]
  cases rsv st x <;> cases rsvs st xs <;> rfl
@[simp] theorem rsv_n {st : Store} {d : D} (h : noRef d = true) : rsv st d = some d := rsv_nr h
def rsvC : Option Cell → Option D
  | some (.lst xs) => some (.lst xs)
  | some (.lckL xs) => some (.lst xs)
  | some (.dct es) => some (.dct es)
  | some (.lckD es) => some (.dct es)
  | none => none
def nrC : Option Cell → Bool
  | some (.lst xs) => noRefs xs
  | some (.lckL xs) => noRefs xs
  | some (.dct es) => noRefE es
  | some (.lckD es) => noRefE es
  | none => false
@[simp] theorem rsvC_l (xs : List D) : rsvC (some (.lst xs)) = some (.lst xs) := (rfl)
@[simp] theorem rsvC_ll (xs : List D) : rsvC (some (.lckL xs)) = some (.lst xs) := (rfl)
@[simp] theorem rsvC_d (xs : List (Pl × D)) : rsvC (some (.dct xs)) = some (.dct xs) := (rfl)
@[simp] theorem rsvC_ld (xs : List (Pl × D)) : rsvC (some (.lckD xs)) = some (.dct xs) := (rfl)
@[simp] theorem nrC_l (xs : List D) : nrC (some (.lst xs)) = noRefs xs := (rfl)
@[simp] theorem nrC_ll (xs : List D) : nrC (some (.lckL xs)) = noRefs xs := (rfl)
@[simp] theorem nrC_d (xs : List (Pl × D)) : nrC (some (.dct xs)) = noRefE xs := (rfl)
@[simp] theorem nrC_ld (xs : List (Pl × D)) : nrC (some (.lckD xs)) = noRefE xs := (rfl)
def gN (st : Store) (k : Nat) : Nat → Option D := fun n => match st[n]? with
    | some (.lst xs) => (mapRefs (fun m => rsvN st k (.ref m)) xs).map .lst
    | some (.lckL xs) => (mapRefs (fun m => rsvN st k (.ref m)) xs).map .lst
    | some (.dct es) => (mapRefE (fun m => rsvN st k (.ref m)) es).map .dct
    | some (.lckD es) => (mapRefE (fun m => rsvN st k (.ref m)) es).map .dct
    | none => none
theorem rsvN_succ (st : Store) (k : Nat) (d : D) : rsvN st (k + 1) d = mapRef (gN st k) d := by rw [rsvN]; rfl
theorem rsv_gN (st : Store) (d : D) (h : ¬ noRef d = true) : rsv st d = mapRef (gN st 39) d := by rw [rsv, if_neg h, rsvN_succ]
@[simp] theorem rsv_r {st : Store} {n : Nat} (h : nrC st[n]? = true) : rsv st (.ref n) = rsvC st[n]? := by
  rw [rsv_gN st _ (by simp [noRef]), mapRef]
  revert h
  unfold gN
  cases st[n]? with
  | none => simp [nrC]
  | some c => cases c with
    | lst xs => intro h; simp only [rsvC]; rw [mapRefs_nr _ xs (by simpa using h)]; rfl
    | lckL xs => intro h; simp only [rsvC]; rw [mapRefs_nr _ xs (by simpa using h)]; rfl
    | dct xs => intro h; simp only [rsvC]; rw [mapRefE_nr _ xs (by simpa using h)]; rfl
    | lckD xs => intro h; simp only [rsvC]; rw [mapRefE_nr _ xs (by simpa using h)]; rfl
theorem mapRefs_rsvs (st : Store) : ∀ (xs : List D), mapRefs (gN st 39) xs = rsvs st xs
  | [] => by rw [mapRefs]; rfl
  | x :: xs => by
    rw [mapRefs, rsvs, mapRefs_rsvs st xs]
    by_cases h : noRef x = true
    · rw [mapRef_nr _ x h, rsv_nr h]
    · rw [rsv_gN st x h]
@[simp] theorem rsv_tup (st : Store) (xs : List D) : rsv st (.tup xs) = (rsvs st xs).map .tup := by
  by_cases h : noRefs xs = true
  · rw [rsv_nr (by simpa [noRef] using h), rsvs_nr h]; rfl
  · rw [rsv_gN st _ (by simpa [noRef] using h), mapRef, mapRefs_rsvs]
@[simp] theorem nr_int (i : Int) : noRef (.int i) = true := (rfl)
@[simp] theorem nr_bl (i : Bool) : noRef (.bl i) = true := (rfl)
@[simp] theorem nr_str (i : Tx) : noRef (.str i) = true := (rfl)
@[simp] theorem nr_non : noRef .non = true := (rfl)
@[simp] theorem nr_scr (ns : List Int) : noRef (.scr ns) = true := (rfl)
@[simp] theorem nr_exc (c : Nat) (i : Option Int) : noRef (.exc c i) = true := (rfl)
@[simp] theorem nr_tup (xs : List D) : noRef (.tup xs) = noRefs xs := by rw [noRef]
@[simp] theorem nr_lst (xs : List D) : noRef (.lst xs) = noRefs xs := by rw [noRef]
@[simp] theorem nr_dct (xs : List (Pl × D)) : noRef (.dct xs) = noRefE xs := by rw [noRef]
@[simp] theorem nr_ref (n : Nat) : noRef (.ref n) = false := (rfl)
@[simp] theorem nrs_nil : noRefs [] = true := (rfl)
@[simp] theorem nrs_cons (x : D) (xs : List D) : noRefs (x :: xs) = (noRef x && noRefs xs) := by rw [noRefs]
@[simp] theorem nrs_app : ∀ (xs ys : List D), noRefs (xs ++ ys) = (noRefs xs && noRefs ys)
  | [], ys => by simp
  | x :: xs, ys => by simp [nrs_app xs ys, Bool.and_assoc]
@[simp] theorem nrE_nil : noRefE [] = true := (rfl)
@[simp] theorem nrE_cons (p : Pl) (x : D) (xs : List (Pl × D)) : noRefE ((p, x) :: xs) = (noRef x && noRefE xs) := by rw [noRefE]
@[simp] theorem fl_int (i : Int) : flat (.int i) = true := (rfl)
@[simp] theorem fl_bl (i : Bool) : flat (.bl i) = true := (rfl)
@[simp] theorem fl_str (i : Tx) : flat (.str i) = true := (rfl)
@[simp] theorem fl_non : flat .non = true := (rfl)
@[simp] theorem fl_tup (xs : List D) : flat (.tup xs) = flats xs := by rw [flat]
@[simp] theorem fls_nil : flats [] = true := (rfl)
@[simp] theorem fls_cons (x : D) (xs : List D) : flats (x :: xs) = (flat x && flats xs) := by rw [flats]
@[simp] theorem fR_int (i : Int) : flatR (.int i) = true := (rfl)
@[simp] theorem fR_bl (i : Bool) : flatR (.bl i) = true := (rfl)
@[simp] theorem fR_str (i : Tx) : flatR (.str i) = true := (rfl)
@[simp] theorem fR_non : flatR .non = true := (rfl)
@[simp] theorem fR_ref (n : Nat) : flatR (.ref n) = true := (rfl)
@[simp] theorem fR_tup (xs : List D) : flatR (.tup xs) = flatRs xs := by rw [flatR]
@[simp] theorem fRs_nil : flatRs [] = true := (rfl)
@[simp] theorem fRs_cons (x : D) (xs : List D) : flatRs (x :: xs) = (flatR x && flatRs xs) := by rw [flatRs]
class Enc (α : Type) where
  enc : α → D
  nr : ∀ a, noRef (enc a) = true
open Enc
theorem nrs_map {α : Type} {f : α → D} (h : ∀ a, noRef (f a) = true) : ∀ (xs : List α), noRefs (xs.map f) = true
  | [] => rfl
  | x :: xs => by simp [h, nrs_map h xs]
@[simp] theorem nrs_ints (xs : List Int) : noRefs (xs.map D.int) = true := nrs_map (fun _ => rfl) xs
@[simp] theorem nrs_pl (xs : List Pl) : noRefs (xs.map plD) = true := nrs_map (fun _ => rfl) xs
@[simp] theorem nr_pl (p : Pl) : noRef (plD p) = true := (rfl)
@[simp] theorem fl_pl (p : Pl) : flat (plD p) = true := (rfl)
@[simp] theorem fR_pl (p : Pl) : flatR (plD p) = true := (rfl)
section
variable (st : Store) (n : Nat)
def lstC : Option Cell → Option (List D)
  | some (.lst xs) => some xs
  | some (.lckL xs) => some xs
  | _ => none
def dctC : Option Cell → Option (List (Pl × D))
  | some (.dct xs) => some xs
  | some (.lckD xs) => some xs
  | _ => none
@[simp] theorem lstC_l (xs : List D) : lstC (some (.lst xs)) = some xs := (rfl)
@[simp] theorem lstC_k (xs : List D) : lstC (some (.lckL xs)) = some xs := (rfl)
@[simp] theorem lstC_d (xs : List (Pl × D)) : lstC (some (.dct xs)) = none := (rfl)
@[simp] theorem lstC_e (xs : List (Pl × D)) : lstC (some (.lckD xs)) = none := (rfl)
@[simp] theorem dctC_l (xs : List D) : dctC (some (.lst xs)) = none := (rfl)
@[simp] theorem dctC_k (xs : List D) : dctC (some (.lckL xs)) = none := (rfl)
@[simp] theorem dctC_d (xs : List (Pl × D)) : dctC (some (.dct xs)) = some xs := (rfl)
@[simp] theorem dctC_e (xs : List (Pl × D)) : dctC (some (.lckD xs)) = some xs := (rfl)
@[simp] theorem lstOf_ref : lstOf st (.ref n) = lstC st[n]? := by
  cases h : st[n]? with
  | none => simp [lstOf, lstC, h]
  | some c => cases c <;> simp [lstOf, lstC, h]
@[simp] theorem lstOf_lst (xs : List D) : lstOf st (.lst xs) = some xs := (rfl)
@[simp] theorem lstOf_scr (xs : List Int) : lstOf st (.scr xs) = some (xs.map .int) := (rfl)
@[simp] theorem lstOf_tup (xs : List D) : lstOf st (.tup xs) = none := (rfl)
@[simp] theorem seqOf_ref : seqOf st (.ref n) = lstC st[n]? := by
  have := lstOf_ref st n
  unfold seqOf
  exact this
@[simp] theorem seqOf_lst (xs : List D) : seqOf st (.lst xs) = some xs := (rfl)
@[simp] theorem seqOf_tup (xs : List D) : seqOf st (.tup xs) = some xs := (rfl)
@[simp] theorem dctOf_ref : dctOf st (.ref n) = dctC st[n]? := by
  cases h : st[n]? with
  | none => simp [dctOf, dctC, h]
  | some c => cases c <;> simp [dctOf, dctC, h]
@[simp] theorem dctOf_lst (xs : List D) : dctOf st (.lst xs) = none := (rfl)
@[simp] theorem dctOf_tup (xs : List D) : dctOf st (.tup xs) = none := (rfl)
@[simp] theorem dctOf_scr (xs : List Int) : dctOf st (.scr xs) = none := (rfl)
@[simp] theorem dctOf_dct (xs : List (Pl × D)) : dctOf st (.dct xs) = some xs := (rfl)
@[simp] theorem or_append (x : D) : okRecv .append x st = (lstOf st x).isSome := (rfl)
@[simp] theorem or_pop (x : D) : okRecv .pop x st = (lstOf st x).isSome := (rfl)
@[simp] theorem or_insert (x : D) : okRecv .insert x st = (lstOf st x).isSome := (rfl)
@[simp] theorem or_clear (x : D) : okRecv .clear x st = (lstOf st x).isSome := (rfl)
@[simp] theorem or_dget (x : D) : okRecv .dget x st = (dctOf st x).isSome := (rfl)
@[simp] theorem or_join (x : Tx) : okRecv .join (.str x) st = true := (rfl)
def apC (o : Option Cell) (n : Nat) (b : D) (st : Store) : RE := match o with
  | some (.lst xs) => if xs.length < lim then .ok .non (st.set n (.lst (xs ++ [b]))) else .no
  | _ => .no
@[simp] theorem p_append_ref (b : D) : prim2F .append (.ref n) b st = apC st[n]? n b st := (rfl)
@[simp] theorem apC_l (n : Nat) {xs : List D} (b : D) (st : Store) (h : xs.length < lim) : apC (some (.lst xs)) n b st = .ok .non (st.set n (.lst (xs ++ [b]))) := by simp only [apC, h, if_true]
def popC (o : Option Cell) (n : Nat) (st : Store) : RE := match o with
  | some (.lst xs) => match xs[xs.length - 1]? with
    | some y => .ok y (st.set n (.lst xs.dropLast))
    | none => .no
  | _ => .no
@[simp] theorem p_pop_ref : prim1F .pop (.ref n) st = popC st[n]? n st := (rfl)
@[simp] theorem popC_l (n : Nat) (xs : List D) (y : D) (st : Store) : popC (some (.lst (xs ++ [y]))) n st = .ok y (st.set n (.lst xs)) := by simp [popC]
def clrC (o : Option Cell) (n : Nat) (st : Store) : RE := match o with
  | some (.lst xs) => .ok .non (st.set n (.lst []))
  | _ => .no
@[simp] theorem p_clear_ref : prim1F .clear (.ref n) st = clrC st[n]? n st := (rfl)
@[simp] theorem clrC_l (n : Nat) (xs : List D) (st : Store) : clrC (some (.lst xs)) n st = .ok .non (st.set n (.lst [])) := (rfl)
def insC (o : Option Cell) (n : Nat) (i : Int) (c : D) (st : Store) : RE := match o with
  | some (.lst xs) => if xs.length < lim ∧ 0 ≤ i ∧ i < 2 ^ 63 then .ok .non (st.set n (.lst (xs.take i.toNat ++ [c] ++ xs.drop i.toNat))) else .no
  | _ => .no
@[simp] theorem p_insert_ref (i : Int) (c : D) : prim3F .insert (.ref n) (.int i) c st = insC st[n]? n i c st := (rfl)
@[simp] theorem pF3 (p : P) (a b c : D) (h : (match p with | .tup => false | .lst _ => false | .dnew => false | _ => true) = true) : primF p [a, b, c] st = prim3F p a b c st := by cases p <;> first | rfl | simp at h
@[simp] theorem insC_l (n : Nat) {xs : List D} (i : Int) (b : D) (st : Store) (h : xs.length < lim) (h0 : 0 ≤ i) (h1 : i < 9223372036854775808) : insC (some (.lst xs)) n i b st = .ok .non (st.set n (.lst (xs.take i.toNat ++ [b] ++ xs.drop i.toNat))) := by
  have : xs.length < lim ∧ 0 ≤ i ∧ i < 2 ^ 63 := ⟨h, h0, by omega⟩
  simp only [insC, this, if_true, and_self]
def lenQ (d : Option (List (Pl × D))) (s : Option (List D)) (st : Store) : RE := match d with
  | some es => .ok (.int es.length) st
  | none => match s with
    | some xs => .ok (.int xs.length) st
    | none => .no
@[simp] theorem p_len_ref : prim1F .len (.ref n) st = lenQ (dctC st[n]?) (lstC st[n]?) st := by
  have h1 := dctOf_ref st n
  have h2 := seqOf_ref st n
  simp only [prim1F, h1, h2] <;> rfl
@[simp] theorem p_len_dct (es : List (Pl × D)) : prim1F .len (.dct es) st = .ok (.int es.length) st := (rfl)
@[simp] theorem lenQ_s (es : List (Pl × D)) (s : Option (List D)) : lenQ (some es) s st = .ok (.int es.length) st := (rfl)
@[simp] theorem lenQ_n (xs : List D) : lenQ none (some xs) st = .ok (.int xs.length) st := (rfl)
@[simp] theorem p_len_str (s : Tx) (h : s.length ≤ lim) : prim1F .len (.str s) st = .ok (.int s.length) st := by simp only [prim1F, h, if_true]
def ixL (s : Option (List D)) (b : D) (st : Store) : RE := match s, b with
  | some xs, .int j => ofO st (atL xs j)
  | _, _ => .no
def ixD (es : List (Pl × D)) (b : D) (st : Store) : RE := match plOf b with
  | some k => ofO st (dget es k)
  | none => .no
def ixQ (d : Option (List (Pl × D))) (s : Option (List D)) (b : D) (st : Store) : RE := match d with
  | some es => ixD es b st
  | none => ixL s b st
@[simp] theorem p_ix_ref (b : D) : prim2F .ix (.ref n) b st = ixQ (dctC st[n]?) (lstC st[n]?) b st := by
  have h1 := dctOf_ref st n
  have h2 := seqOf_ref st n
  simp only [prim2F, h1, h2] <;> rfl
@[simp] theorem p_ix_dct (es : List (Pl × D)) (b : D) : prim2F .ix (.dct es) b st = ixD es b st := (rfl)
@[simp] theorem ixQ_s (es : List (Pl × D)) (s : Option (List D)) (b : D) : ixQ (some es) s b st = ixD es b st := (rfl)
@[simp] theorem ixQ_n (s : Option (List D)) (b : D) : ixQ none s b st = ixL s b st := (rfl)
@[simp] theorem ixL_i (xs : List D) (j : Int) : ixL (some xs) (.int j) st = ofO st (atL xs j) := (rfl)
@[simp] theorem plOf_pl (p : Pl) : plOf (plD p) = some p := (rfl)
@[simp] theorem plOf_tup (a b : Int) : plOf (.tup [.int a, .int b]) = some (a, b) := (rfl)
@[simp] theorem ixD_pl (es : List (Pl × D)) (p : Pl) : ixD es (plD p) st = ofO st (dget es p) := (rfl)
@[simp] theorem ixD_tup (es : List (Pl × D)) (a b : Int) : ixD es (.tup [.int a, .int b]) st = ofO st (dget es (a, b)) := (rfl)
@[simp] theorem atL_0 {α : Type} (x : α) (xs : List α) : atL (x :: xs) 0 = some x := by rw [atL_nat (x :: xs) 0 (by omega) (by simp <;> omega)]; rfl
@[simp] theorem atL_1 {α : Type} (x y : α) (xs : List α) : atL (x :: y :: xs) 1 = some y := by rw [atL_nat (x :: y :: xs) 1 (by omega) (by simp <;> omega)]; rfl
@[simp] theorem atL_2 {α : Type} (x y z : α) (xs : List α) : atL (x :: y :: z :: xs) 2 = some z := by rw [atL_nat (x :: y :: z :: xs) 2 (by omega) (by simp <;> omega)]; rfl
@[simp] theorem atL_3 {α : Type} (x y z u : α) (xs : List α) : atL (x :: y :: z :: u :: xs) 3 = some u := by rw [atL_nat (x :: y :: z :: u :: xs) 3 (by omega) (by simp <;> omega)]; rfl
theorem atL_get {α : Type} (xs : List α) (i : Nat) (x : α) (h : xs[i]? = some x) : atL xs (i : Int) = some x := by
  have := (List.getElem?_eq_some_iff.mp h).1
  rw [atL_nat xs i (by omega) (by omega)]
  simpa using h
@[simp] theorem atL_last {α : Type} (xs : List α) (x : α) : atL (xs ++ [x]) (-1) = some x := by
  unfold atL L2.ixN
  rw [if_neg (by omega), if_pos (by simp <;> omega)]
  rw [Option.bind_some, show (-1 + ((xs ++ [x]).length : Int)).toNat = xs.length by simp <;> omega]
  simp
@[simp] theorem p_ix_tupA (xs : List D) (j : Int) : prim2F .ix (.tup xs) (.int j) st = ofO st (atL xs j) := (rfl)
@[simp] theorem p_ix_lstA (xs : List D) (j : Int) : prim2F .ix (.lst xs) (.int j) st = ofO st (atL xs j) := (rfl)
@[simp] theorem p_ix_pld0 (p : Pl) : prim2F .ix (plD p) (.int 0) st = .ok (.int p.1) st := (rfl)
@[simp] theorem p_ix_pld1 (p : Pl) : prim2F .ix (plD p) (.int 1) st = .ok (.int p.2) st := (rfl)
def lstQ (m : Bool) (d : Option (List (Pl × D))) (s : Option (List D)) (st : Store) : RE := match d with
  | some es => mkL m (es.map fun e => plD e.1) st
  | none => match s with
    | some xs => mkL m xs st
    | none => .no
@[simp] theorem p_list_ref (m : Bool) : prim1F (.list m) (.ref n) st = lstQ m (dctC st[n]?) (lstC st[n]?) st := by
  have h1 := dctOf_ref st n
  have h2 := seqOf_ref st n
  simp only [prim1F, h1, h2] <;> rfl
@[simp] theorem p_list_lst (m : Bool) (xs : List D) : prim1F (.list m) (.lst xs) st = mkL m xs st := (rfl)
@[simp] theorem p_list_tup (m : Bool) (xs : List D) : prim1F (.list m) (.tup xs) st = mkL m xs st := (rfl)
@[simp] theorem p_list_dct (m : Bool) (es : List (Pl × D)) : prim1F (.list m) (.dct es) st = mkL m (es.map fun e => plD e.1) st := (rfl)
@[simp] theorem lstQ_s (m : Bool) (es : List (Pl × D)) (s : Option (List D)) : lstQ m (some es) s st = mkL m (es.map fun e => plD e.1) st := (rfl)
@[simp] theorem lstQ_n (m : Bool) (xs : List D) : lstQ m none (some xs) st = mkL m xs st := (rfl)
def isiC (t : Ty) : Option Cell → Bool
  | some (.lst _) => decide (t = .list)
  | some (.lckL _) => decide (t = .list)
  | some (.dct _) => decide (t = .dict)
  | some (.lckD _) => decide (t = .dict)
  | none => false
@[simp] theorem isiC_l (t : Ty) (xs : List D) : isiC t (some (.lst xs)) = decide (t = .list) := (rfl)
@[simp] theorem isiC_k (t : Ty) (xs : List D) : isiC t (some (.lckL xs)) = decide (t = .list) := (rfl)
@[simp] theorem isiC_d (t : Ty) (xs : List (Pl × D)) : isiC t (some (.dct xs)) = decide (t = .dict) := (rfl)
@[simp] theorem isiC_e (t : Ty) (xs : List (Pl × D)) : isiC t (some (.lckD xs)) = decide (t = .dict) := (rfl)
@[simp] theorem p_isi_ref (t : Ty) (h : n < st.length) : prim1F (.isi t) (.ref n) st = .ok (.bl (isiC t st[n]?)) st := by
  rw [List.getElem?_eq_getElem h]
  simp only [prim1F, isTy, tyOf, List.getElem?_eq_getElem h] <;> cases st[n] <;> cases t <;> rfl
@[simp] theorem p_isi_pl (p : Pl) (t : Ty) : prim1F (.isi t) (plD p) st = .ok (.bl (decide (t = .tuple))) st := by cases t <;> rfl
@[simp] theorem p_isi_dct (p : List (Pl × D)) (t : Ty) : prim1F (.isi t) (.dct p) st = .ok (.bl (decide (t = .dict))) st := by cases t <;> rfl
@[simp] theorem p_sum_lst (xs : List Int) : prim1F .sum (.lst (xs.map .int)) st = .ok (.int xs.sum) st := by
  have : intsOf (xs.map .int) = some xs := by
    induction xs with
    | nil => rfl
    | cons x r ih => simp [intsOf, ih]
  simp [prim1F, lstOf, this]
def sumQ (s : Option (List D)) (st : Store) : RE := match s with
  | some xs => ofO st ((intsOf xs).map fun is => .int is.sum)
  | none => .no
@[simp] theorem sumQ_i (xs : List Int) : sumQ (some (xs.map .int)) st = .ok (.int xs.sum) st := by
  rw [show sumQ (some (xs.map .int)) st = prim1F .sum (.lst (xs.map .int)) st from rfl, p_sum_lst]
@[simp] theorem p_sum_ref : prim1F .sum (.ref n) st = sumQ (lstC st[n]?) st := by
  have h1 := lstOf_ref st n
  simp only [prim1F, h1] <;> rfl
@[simp] theorem p_dget_ref (b : D) : prim2F .dget (.ref n) b st = (match dctC st[n]?, plOf b with
  | some es, some k => .ok ((dget es k).getD .non) st
  | _, _ => .no) := by
  have h1 := dctOf_ref st n
  simp only [prim2F, h1] <;> rfl
@[simp] theorem p_dget_dct (es : List (Pl × D)) (p : Pl) : prim2F .dget (.dct es) (plD p) st = .ok ((dget es p).getD .non) st := (rfl)
@[simp] theorem p_dget_dct2 (es : List (Pl × D)) (a b : Int) : prim2F .dget (.dct es) (.tup [.int a, .int b]) st = .ok ((dget es (a, b)).getD .non) st := (rfl)
@[simp] theorem op_add_lst (m : Bool) (xs ys : List D) (h : xs.length + ys.length ≤ lim) : opF (.add m) (.lst xs) (.lst ys) st = mkL m (xs ++ ys) st := by simp only [opF, lstOf, h, if_true]
@[simp] theorem op_add_str (m : Bool) (xs ys : Tx) (h : xs.length + ys.length ≤ lim) : opF (.add m) (.str xs) (.str ys) st = .ok (.str (xs ++ ys)) st := by simp only [opF, h, if_true]
def addQ (m : Bool) (a b : Option (List D)) (st : Store) : RE := match a, b with
  | some xs, some ys => if xs.length + ys.length ≤ lim then mkL m (xs ++ ys) st else .no
  | _, _ => .no
@[simp] theorem addQ_s (m : Bool) (xs ys : List D) (h : xs.length + ys.length ≤ lim) : addQ m (some xs) (some ys) st = mkL m (xs ++ ys) st := by simp only [addQ, h, if_true]
@[simp] theorem op_add_rl (m : Bool) (ys : List D) : opF (.add m) (.ref n) (.lst ys) st = addQ m (lstC st[n]?) (some ys) st := by
  have h1 := lstOf_ref st n
  simp only [opF, h1, lstOf_lst, addQ] <;> cases lstC st[n]? <;> rfl
@[simp] theorem op_add_lr (m : Bool) (ys : List D) : opF (.add m) (.lst ys) (.ref n) st = addQ m (some ys) (lstC st[n]?) st := by
  have h1 := lstOf_ref st n
  simp only [opF, h1, lstOf_lst, addQ] <;> cases lstC st[n]? <;> rfl
@[simp] theorem partR_t (i : Int) (st st' : Store) : partR true (.ok (.int i) st) st' = .ok (.int i) st := (rfl)
@[simp] theorem partR_f (r : RE) (st' : Store) : partR false r st' = .ok .non st' := (rfl)
end
@[simp] theorem filtS_nx (k : SK) (ds : DS) (st : Store) : filtS k (.nx ds st) = .nx ds st := by cases k <;> rfl
@[simp] theorem filtS_rt (k : SK) (ds : D) (st : Store) : filtS k (.rt ds st) = .rt ds st := by cases k <;> rfl
@[simp] theorem forR_itv_lst (cl : Cl) (b : List S) (v : Nat) (ds : DS) (xs : List D) (st : Store) : forR cl b v .itv ds [.lst xs] st = filtS .itv (forB (evB cl b) v xs ds st) := (rfl)
@[simp] theorem forR_itv_dct (cl : Cl) (b : List S) (v : Nat) (ds : DS) (xs : List (Pl × D)) (st : Store) : forR cl b v .itv ds [.dct xs] st = filtS .itv (forB (evB cl b) v (xs.map fun e => plD e.1) ds st) := (rfl)
@[simp] theorem forR_str (cl : Cl) (b : List S) (v : Nat) (ds : DS) (xs : Tx) (st : Store) : forR cl b v .it ds [.str xs] st = filtS .it (forB (evB cl b) v (xs.map oneS) ds st) := (rfl)
def itvC (cl : Cl) (b : List S) (v : Nat) (ds : DS) (n : Nat) (st : Store) : Option Cell → RS
  | some (.lst xs) => unlockS n (forB (evB cl b) v xs ds (st.set n (.lckL xs)))
  | some (.dct es) => unlockS n (forB (evB cl b) v (es.map fun e => plD e.1) ds (st.set n (.lckD es)))
  | some (.lckL xs) => filtS .itv (forB (evB cl b) v xs ds st)
  | some (.lckD es) => filtS .itv (forB (evB cl b) v (es.map fun e => plD e.1) ds st)
  | none => .no
@[simp] theorem itvC_l (cl : Cl) (b : List S) (v : Nat) (ds : DS) (n : Nat) (st : Store) (xs : List D) : itvC cl b v ds n st (some (.lst xs)) = unlockS n (forB (evB cl b) v xs ds (st.set n (.lckL xs))) := (rfl)
@[simp] theorem itvC_d (cl : Cl) (b : List S) (v : Nat) (ds : DS) (n : Nat) (st : Store) (es : List (Pl × D)) : itvC cl b v ds n st (some (.dct es)) = unlockS n (forB (evB cl b) v (es.map fun e => plD e.1) ds (st.set n (.lckD es))) := (rfl)
@[simp] theorem forR_itv_ref (cl : Cl) (b : List S) (v : Nat) (ds : DS) (n : Nat) (st : Store) : forR cl b v .itv ds [.ref n] st = itvC cl b v ds n st st[n]? := by
  cases h : st[n]? with
  | none => simp only [forR, srcF, h] <;> rfl
  | some c => cases c <;> simp only [forR, srcF, h, lock] <;> rfl
def ulkC (n : Nat) (st : Store) (k : Store → RS) : Option Cell → RS
  | some (.lckL xs) => k (st.set n (.lst xs))
  | some (.lckD xs) => k (st.set n (.dct xs))
  | _ => .no
@[simp] theorem ulkC_l (n : Nat) (st : Store) (k : Store → RS) (xs : List D) : ulkC n st k (some (.lckL xs)) = k (st.set n (.lst xs)) := (rfl)
@[simp] theorem ulkC_d (n : Nat) (st : Store) (k : Store → RS) (xs : List (Pl × D)) : ulkC n st k (some (.lckD xs)) = k (st.set n (.dct xs)) := (rfl)
@[simp] theorem unlockS_nx (n : Nat) (ds : DS) (st : Store) : unlockS n (.nx ds st) = ulkC n st (RS.nx ds) st[n]? := by
  cases h : st[n]? with
  | none => simp only [unlockS, unlock, h] <;> rfl
  | some c => cases c <;> simp only [unlockS, unlock, h] <;> rfl
@[simp] theorem unlockS_rt (n : Nat) (d : D) (st : Store) : unlockS n (.rt d st) = ulkC n st (RS.rt d) st[n]? := by
  cases h : st[n]? with
  | none => simp only [unlockS, unlock, h] <;> rfl
  | some c => cases c <;> simp only [unlockS, unlock, h] <;> rfl
def RS.cont : RS → RS
  | .ct ds st => .nx ds st
  | x => x
@[simp] theorem cont_nx (ds : DS) (st : Store) : (RS.nx ds st).cont = .nx ds st := (rfl)
@[simp] theorem cont_ct (ds : DS) (st : Store) : (RS.ct ds st).cont = .nx ds st := (rfl)
@[simp] theorem cont_rt (d : D) (st : Store) : (RS.rt d st).cont = .rt d st := (rfl)
@[simp] theorem cont_ite {c : Prop} [Decidable c] (x y : RS) : (if c then x else y).cont = if c then x.cont else y.cont := by split <;> rfl
theorem forB_cons (body : DS → Store → RS) (v : Nat) (d : D) (r : List D) (ds : DS) (st : Store) : forB body v (d :: r) ds st = match (body (ds.set v (some d)) st).cont with
    | .nx ds' st' => forB body v r ds' st'
    | .bk ds' st' => .nx ds' st'
    | x => x := by
  rw [forB]
  cases body (ds.set v (some d)) st <;> rfl
theorem compF_map {α β : Type} {elt cond : DS → Store → RE} {v : Nat} {ds : DS} {st : Store} {m : Bool} (enc : α → D) (encR : β → D) (f : α → β) (p : α → Bool) (xs : List α) (hl : xs.length ≤ lim)
    (hc : ∀ x ∈ xs, cond (ds.set v (some (enc x))) st = .ok (.bl (p x)) st) (he : ∀ x ∈ xs, p x = true → elt (ds.set v (some (enc x))) st = .ok (encR (f x)) st) :
    compF m elt cond v .it [.lst (xs.map enc)] ds st = mkL m (((xs.filter p).map f).map encR) st := by
  have key : ∀ (xs : List α) (acc : List D), acc.length + xs.length ≤ lim → (∀ x ∈ xs, cond (ds.set v (some (enc x))) st = .ok (.bl (p x)) st) → (∀ x ∈ xs, p x = true → elt (ds.set v (some (enc x))) st = .ok (encR (f x)) st) →
      compB elt cond v (xs.map enc) acc ds st = some (acc ++ ((xs.filter p).map f).map encR, st) := by
    intro xs
    induction xs with
    | nil => intro acc _ _ _; simp [compB]
    | cons x r ih =>
      intro acc hl hc he
      simp only [List.length_cons] at hl
      rw [List.map_cons, compB, hc x List.mem_cons_self]
      cases hp : p x with
      | true =>
        simp only
        rw [he x List.mem_cons_self hp]
        simp only [show acc.length < lim by omega, if_true]
        rw [ih (acc ++ [encR (f x)]) (by rw [List.length_append, List.length_singleton]; omega) (fun z hz => hc z (List.mem_cons_of_mem _ hz)) (fun z hz => he z (List.mem_cons_of_mem _ hz))]
        simp [hp]
      | false =>
        simp only
        rw [ih acc (by omega) (fun z hz => hc z (List.mem_cons_of_mem _ hz)) (fun z hz => he z (List.mem_cons_of_mem _ hz))]
        simp [hp]
  unfold compF
  simp only [srcF]
  rw [key xs [] (by simpa using hl) hc he]
  simp
theorem compF_all {α β : Type} {elt : DS → Store → RE} {cl : Cl} {v : Nat} {ds : DS} {st : Store} {m : Bool} (enc : α → D) (encR : β → D) (f : α → β) (xs : List α) (hl : xs.length ≤ lim)
    (he : ∀ x ∈ xs, elt (ds.set v (some (enc x))) st = .ok (encR (f x)) st) :
    compF m elt (evE cl (.k (.bl true))) v .it [.lst (xs.map enc)] ds st = mkL m ((xs.map f).map encR) st := by
  rw [compF_map enc encR f (fun _ => true) xs hl (fun x _ => by simp) (fun x hx _ => he x hx), List.filter_eq_self.mpr (fun _ _ => rfl)]
@[simp] theorem compF_tup (m : Bool) (elt cond : DS → Store → RE) (v : Nat) (ds : DS) (st : Store) (xs : List D) : compF m elt cond v .it [.tup xs] ds st = compF m elt cond v .it [.lst xs] ds st := (rfl)
@[simp] theorem compF_itv (m : Bool) (elt cond : DS → Store → RE) (v : Nat) (ds : DS) (st : Store) (xs : List D) : compF m elt cond v .itv [.lst xs] ds st = compF m elt cond v .it [.lst xs] ds st := (rfl)
theorem compF_rng1 (m : Bool) (elt cond : DS → Store → RE) (v : Nat) (ds : DS) (st : Store) (x : Int) (h : -4611686018427387904 ≤ x ∧ x < 4611686018427387904) : compF m elt cond v .rng1 [.int x] ds st = compF m elt cond v .it [.lst ((rangeI 0 x).map .int)] ds st := by
  have e : srcF .rng1 [.int x] st = some (none, rangeD 0 x) := if_pos (by omega)
  unfold compF
  rw [e]
  simp only [rangeD_eq, srcF]
@[simp] theorem st_at0 (j : Store) (c : Cell) : (j ++ [c])[j.length]? = some c := by simp
@[simp] theorem st_at1 (j : Store) (c d : Cell) : (j ++ [c, d])[j.length + 1]? = some d := by simp
@[simp] theorem st_at10 (j : Store) (c d : Cell) : (j ++ [c, d])[j.length]? = some c := by simp
@[simp] theorem st_set0 (j : Store) (c d : Cell) : (j ++ [c]).set j.length d = j ++ [d] := by simp
theorem set_end1 : ∀ (j : List Cell) (c d e : Cell), (j ++ [c, d]).set (j.length + 1) e = j ++ [c, e]
  | [], _, _, _ => rfl
  | a :: j, c, d, e => congrArg (a :: ·) (set_end1 j c d e)
theorem set_end10 : ∀ (j : List Cell) (c d e : Cell), (j ++ [c, d]).set j.length e = j ++ [e, d]
  | [], _, _, _ => rfl
  | a :: j, c, d, e => congrArg (a :: ·) (set_end10 j c d e)
@[simp] theorem st_set1 (j : Store) (c d e : Cell) : (j ++ [c, d]).set (j.length + 1) e = j ++ [c, e] := set_end1 j c d e
@[simp] theorem st_set10 (j : Store) (c d e : Cell) : (j ++ [c, d]).set j.length e = j ++ [e, d] := set_end10 j c d e
def slcQ (m : Bool) (l h : Option (Option Int)) (s : Option (List D)) (st : Store) : RE := match l, h, s with
  | some l, some h, some xs => mkL m (cutL xs l h) st
  | _, _, _ => .no
@[simp] theorem slcQ_s (m : Bool) (l h : Option Int) (xs : List D) (st : Store) : slcQ m (some l) (some h) (some xs) st = mkL m (cutL xs l h) st := rfl
@[simp] theorem partOf_n : partOf .non = some none := rfl
@[simp] theorem partOf_i (i : Int) : partOf (.int i) = some (some i) := rfl
@[simp] theorem slcF_ref (m : Bool) (n : Nat) (lo hi : D) (st : Store) : slcF m (.ref n) lo hi st = slcQ m (partOf lo) (partOf hi) (lstC st[n]?) st := by
  have h1 := lstOf_ref st n
  unfold slcF slcQ
  cases partOf lo <;> cases partOf hi <;> simp only [h1] <;> cases lstC st[n]? <;> rfl
@[simp] theorem slcF_lst (m : Bool) (xs : List D) (lo hi : D) (st : Store) : slcF m (.lst xs) lo hi st = slcQ m (partOf lo) (partOf hi) (some xs) st := by
  unfold slcF slcQ
  cases partOf lo <;> cases partOf hi <;> rfl
theorem sIx_at {n : Nat} {d : Nat} {i : Int} (h0 : 0 ≤ i) (h1 : i ≤ n) : HT.sIx n d (some i) = i.toNat := by
  unfold HT.sIx
  simp only
  first | omega | (split <;> omega)
def RS.lp (x : RS) (k : DS → Store → RS) : RS := match x with
  | .nx ds st => k ds st
  | .ct ds st => k ds st
  | .bk ds st => .nx ds st
  | x => x
@[simp] theorem lp_nx (ds : DS) (st : Store) (k : DS → Store → RS) : (RS.nx ds st).lp k = k ds st := (rfl)
@[simp] theorem lp_ct (ds : DS) (st : Store) (k : DS → Store → RS) : (RS.ct ds st).lp k = k ds st := (rfl)
@[simp] theorem lp_bk (ds : DS) (st : Store) (k : DS → Store → RS) : (RS.bk ds st).lp k = .nx ds st := (rfl)
@[simp] theorem lp_rt (d : D) (st : Store) (k : DS → Store → RS) : (RS.rt d st).lp k = .rt d st := (rfl)
@[simp] theorem lp_ite {c : Prop} [Decidable c] (x y : RS) (k : DS → Store → RS) : (if c then x else y).lp k = if c then x.lp k else y.lp k := by split <;> rfl
theorem forB_c (body : DS → Store → RS) (v : Nat) (d : D) (r : List D) (ds : DS) (st : Store) : forB body v (d :: r) ds st = (body (ds.set v (some d)) st).lp (forB body v r) := by
  rw [forB]
  cases body (ds.set v (some d)) st <;> rfl
@[simp] theorem forB_nil (body : DS → Store → RS) (v : Nat) (ds : DS) (st : Store) : forB body v [] ds st = .nx ds st := (rfl)
def okThen (x : RE) (f : D → Store → R (List D)) : R (List D) := match x with
  | .ok y st => f y st
  | _ => .no
@[simp] theorem okThen_ok (y : D) (st : Store) (f : D → Store → R (List D)) : okThen (.ok y st) f = f y st := (rfl)
def compL (elt : DS → Store → RE) (v : Nat) (ds : DS) : List D → Store → R (List D)
  | [], st => .ok [] st
  | d :: r, st => okThen (elt (ds.set v (some d)) st) fun y st1 => (compL elt v ds r st1).bind fun ys st2 => .ok (y :: ys) st2
@[simp] theorem compL_nil (elt : DS → Store → RE) (v : Nat) (ds : DS) (st : Store) : compL elt v ds [] st = .ok [] st := (rfl)
@[simp] theorem compL_cons (elt : DS → Store → RE) (v : Nat) (ds : DS) (d : D) (r : List D) (st : Store) : compL elt v ds (d :: r) st = okThen (elt (ds.set v (some d)) st) fun y st1 => (compL elt v ds r st1).bind fun ys st2 => .ok (y :: ys) st2 := (rfl)
theorem compB_L (elt : DS → Store → RE) (cl : Cl) (v : Nat) (ds : DS) : ∀ (xs acc : List D) (st : Store), acc.length + xs.length ≤ lim →
    compB elt (evE cl (.k (.bl true))) v xs acc ds st = match compL elt v ds xs st with | .ok ys st' => some (acc ++ ys, st') | _ => none
  | [], acc, st, _ => by simp [compB]
  | d :: r, acc, st, h => by
    simp only [List.length_cons] at h
    rw [compB, evE_k, compL_cons]
    simp only
    cases elt (ds.set v (some d)) st with
    | ok y st1 =>
      simp only [show acc.length < lim by omega, if_true, okThen_ok]
      rw [compB_L elt cl v ds r (acc ++ [y]) st1 (by rw [List.length_append, List.length_singleton]; omega)]
      cases compL elt v ds r st1 <;> simp
    | exc e s => rfl
    | no => rfl
@[simp] theorem blsOf_map (bs : List Bool) : blsOf (bs.map .bl) = some bs := by
  induction bs with
  | nil => rfl
  | cons x r ih => simp [blsOf, ih]
@[simp] theorem p_all_map (bs : List Bool) (st : Store) : prim1F .all (.lst (bs.map .bl)) st = .ok (.bl (bs.all id)) st := by
  simp [prim1F, lstOf, blsOf_map]
@[simp] theorem slcF_tup1 (m : Bool) (x y : D) (r : List D) (st : Store) : slcF m (.tup (x :: y :: r)) (.int 1) .non st = .ok (.tup (y :: r)) st := by
  have e1 : HT.sIx (x :: y :: r).length 0 (some 1) = 1 := by rw [sIx_at (by omega) (by simp <;> omega)]; rfl
  have e2 : HT.sIx (x :: y :: r).length (x :: y :: r).length none = (x :: y :: r).length := rfl
  unfold slcF
  simp only [partOf, e1, e2]
  rw [cutL, e1, e2]
  simp
theorem eqv_refl {st : Store} {d : D} (h : noRef d = true) (hc : cmpD d = true) (hd : dep d ≤ 64) : eqVal st d d = some true := eqv_same (rsv_nr h) (rsv_nr h) hc hd
@[simp] theorem cmp_pl (p : Pl) : cmpD (plD p) = true := (rfl)
@[simp] theorem cmp_int (i : Int) : cmpD (.int i) = true := (rfl)
@[simp] theorem cmp_bl (i : Bool) : cmpD (.bl i) = true := (rfl)
@[simp] theorem cmp_str (i : Tx) : cmpD (.str i) = true := (rfl)
@[simp] theorem cmp_non : cmpD .non = true := (rfl)
@[simp] theorem cmp_tup (xs : List D) : cmpD (.tup xs) = cmpDs xs := by rw [cmpD]
@[simp] theorem cmp_lst (xs : List D) : cmpD (.lst xs) = cmpDs xs := by rw [cmpD]
@[simp] theorem cmps_nil : cmpDs [] = true := (rfl)
@[simp] theorem cmps_cons (x : D) (xs : List D) : cmpDs (x :: xs) = (cmpD x && cmpDs xs) := by rw [cmpDs]
@[simp] theorem dep_pl (p : Pl) : dep (plD p) = 1 := (rfl)
@[simp] theorem dep_int (i : Int) : dep (.int i) = 0 := (rfl)
@[simp] theorem dep_bl (i : Bool) : dep (.bl i) = 0 := (rfl)
@[simp] theorem dep_str (i : Tx) : dep (.str i) = 0 := (rfl)
@[simp] theorem dep_non : dep .non = 0 := (rfl)
@[simp] theorem dep_tup (xs : List D) : dep (.tup xs) = deps xs + 1 := by rw [dep]
@[simp] theorem dep_lst (xs : List D) : dep (.lst xs) = deps xs + 1 := by rw [dep]
@[simp] theorem deps_nil : deps [] = 0 := (rfl)
@[simp] theorem deps_cons (x : D) (xs : List D) : deps (x :: xs) = max (dep x) (deps xs) := by rw [deps]
theorem at_rng {α : Type} (xs : List α) {x : Int} (h : x ∈ rangeI 0 xs.length) : ∃ a, a ∈ xs ∧ xs[x.toNat]? = some a ∧ atL xs x = some a := by
  rw [mem_rangeI] at h
  have hx : x.toNat < xs.length := by omega
  refine ⟨xs[x.toNat], List.getElem_mem hx, List.getElem?_eq_getElem hx, ?_⟩
  rw [atL_nat xs x h.1 h.2, List.getElem?_eq_getElem hx]
def isDC : Option Cell → Bool
  | some (.dct _) => true
  | _ => false
@[simp] theorem isDC_d (es : List (Pl × D)) : isDC (some (.dct es)) = true := (rfl)
@[simp] theorem isDC_l (es : List D) : isDC (some (.lst es)) = false := (rfl)
@[simp] theorem or_dclr (n : Nat) (st : Store) : okRecv .dclr (.ref n) st = isDC st[n]? := by
  simp only [okRecv]
  cases st[n]? with
  | none => rfl
  | some c => cases c <;> rfl
@[simp] theorem or_dpop (n : Nat) (st : Store) : okRecv .dpop (.ref n) st = isDC st[n]? := by
  simp only [okRecv]
  cases st[n]? with
  | none => rfl
  | some c => cases c <;> rfl
@[simp] theorem or_dpop1 (n : Nat) (st : Store) : okRecv .dpop1 (.ref n) st = isDC st[n]? := by
  simp only [okRecv]
  cases st[n]? with
  | none => rfl
  | some c => cases c <;> rfl
@[simp] theorem or_rev (x : D) (st : Store) : okRecv .rev x st = (lstOf st x).isSome := (rfl)
@[simp] theorem or_index (x : D) (st : Store) : okRecv .index x st = (lstOf st x).isSome := (rfl)
@[simp] theorem or_sidx (x : Tx) (st : Store) : okRecv .sidx (.str x) st = true := (rfl)
def dclrC (o : Option Cell) (n : Nat) (st : Store) : RE := match o with
  | some (.dct es) => .ok .non (st.set n (.dct []))
  | _ => .no
@[simp] theorem p_dclr_ref (n : Nat) (st : Store) : prim1F .dclr (.ref n) st = dclrC st[n]? n st := (rfl)
@[simp] theorem dclrC_d (n : Nat) (es : List (Pl × D)) (st : Store) : dclrC (some (.dct es)) n st = .ok .non (st.set n (.dct [])) := (rfl)
def revC (o : Option Cell) (n : Nat) (st : Store) : RE := match o with
  | some (.lst xs) => .ok .non (st.set n (.lst xs.reverse))
  | _ => .no
@[simp] theorem p_rev_ref (n : Nat) (st : Store) : prim1F .rev (.ref n) st = revC st[n]? n st := (rfl)
@[simp] theorem revC_l (n : Nat) (xs : List D) (st : Store) : revC (some (.lst xs)) n st = .ok .non (st.set n (.lst xs.reverse)) := (rfl)
def dpopC (o : Option Cell) (n : Nat) (k : Pl) (c : Option D) (st : Store) : RE := match o with
  | some (.dct es) => match dget es k, c with
    | some v, _ => .ok v (st.set n (.dct (ddrop es k)))
    | none, some c => .ok c st
    | none, none => .no
  | _ => .no
@[simp] theorem p_index_pls (ps : List Pl) (p : Pl) (st : Store) (h : p ∈ ps) : prim2F .index (.lst (ps.map plD)) (plD p) st = .ok (.int (ps.idxOf p : Nat)) st := by
  have e : plOf (plD p) = some p := rfl
  have e2 : plsOf (ps.map plD) = some ps := plsOf_pls ps
  simp only [prim2F, lstOf_lst, e, e2, h, if_true]
theorem txsOf_mapI : ∀ ts : List Tx, txsOf (ts.map D.str) = some ts
  | [] => rfl
  | t :: r => by rw [List.map_cons, txsOf, txsOf_mapI r]; rfl
def eqEC (k : Bool → Bool) (st : Store) : Option (List D) → RE
  | some xs => .ok (.bl (k xs.isEmpty)) st
  | none => .no
@[simp] theorem op_eqE_ref (n : Nat) (st : Store) : opF .eqE (.ref n) (.lst []) st = eqEC (fun k => k) st (lstC st[n]?) := by
  have h := lstOf_ref st n
  simp only [opF, h]
  cases lstC st[n]? <;> rfl
@[simp] theorem op_neE_ref (n : Nat) (st : Store) : opF .neE (.ref n) (.lst []) st = eqEC (fun k => !k) st (lstC st[n]?) := by
  have h := lstOf_ref st n
  simp only [opF, h]
  cases lstC st[n]? <;> rfl
@[simp] theorem eqEC_some (k : Bool → Bool) (st : Store) (xs : List D) : eqEC k st (some xs) = .ok (.bl (k xs.isEmpty)) st := (rfl)
theorem lim_ok {a : Nat} (h : a ≤ 16777216) : a ≤ lim := h
end MP
end
section
set_option maxHeartbeats 0
namespace K11
open PySem MP
theorem checks : tab.all (fun e => entB tab (conOf cons) exs (st e.i) e) = true := by decide +kernel
theorem binds : AllB st tab := ⟨fun _ _ _ _ _ _ us hl => match us, hl with | [_, _], _ => rfl,
  fun _ _ _ _ _ _ us hl => match us, hl with | [_, _], _ => rfl,
  fun _ _ _ _ _ _ us hl => match us, hl with | [_], _ => rfl,
  fun _ _ _ _ _ _ us hl => match us, hl with | [_], _ => rfl,
  fun _ _ _ _ _ _ us hl => match us, hl with | [_], _ => rfl, trivial⟩
end K11
end
section
set_option maxRecDepth 100000
set_option maxHeartbeats 4000000
namespace FL
open MP
inductive Tr where
  | num (n : Int) | ref (p : Pl) (f : Bool × Bool) | gone
  | minus (a : Tr) | two (s : Tx) (a b : Tr) | pick (a b c : Tr) | over (w : Tx) (ps : List Tr)
  | area (p : Pl) (f : Bool × Bool) (q : Pl) (g : Bool × Bool)
  deriving Inhabited
def blD (f : Bool × Bool) : D := .tup [.bl f.1, .bl f.2]
def refD (p : Pl) (f : Bool × Bool) : D := .tup [.str [114, 101, 102], plD p, blD f]
mutual
def trD : Tr → D
  | .num n => .tup [.str [110, 117, 109], .int n]
  | .ref p f => refD p f
  | .gone => .tup [.str [103, 111, 110, 101]]
  | .minus a => .tup [.str [109, 105, 110, 117, 115], trD a]
  | .two s a b => .tup [.str [116, 119, 111], .str s, trD a, trD b]
  | .pick a b c => .tup [.str [112, 105, 99, 107], trD a, trD b, trD c]
  | .over w ps => .tup [.str [111, 118, 101, 114], .str w, .lst (trDs ps)]
  | .area p f q g => .tup [.str [97, 114, 101, 97], refD p f, refD q g]
def trDs : List Tr → List D
  | [] => []
  | t :: ts => trD t :: trDs ts
end
@[simp] theorem trDs_map : ∀ (ts : List Tr), trDs ts = ts.map trD
  | [] => rfl
  | t :: ts => by rw [trDs, trDs_map ts]; rfl
@[simp] theorem nr_bls (f : Bool × Bool) : noRef (blD f) = true := (rfl)
@[simp] theorem nr_refD (p : Pl) (f : Bool × Bool) : noRef (refD p f) = true := (rfl)
@[simp] theorem fl_bls (f : Bool × Bool) : flat (blD f) = true := (rfl)
@[simp] theorem fl_refD (p : Pl) (f : Bool × Bool) : flat (refD p f) = true := (rfl)
@[simp] theorem trD_num (n : Int) : trD (.num n) = .tup [.str [110, 117, 109], .int n] := by rw [trD]
@[simp] theorem trD_ref (p : Pl) (f : Bool × Bool) : trD (.ref p f) = .tup [.str [114, 101, 102], plD p, blD f] := by rw [trD]; rfl
@[simp] theorem trD_gone : trD .gone = .tup [.str [103, 111, 110, 101]] := by rw [trD]
@[simp] theorem trD_minus (a : Tr) : trD (.minus a) = .tup [.str [109, 105, 110, 117, 115], trD a] := by rw [trD]
@[simp] theorem trD_two (s : Tx) (a b : Tr) : trD (.two s a b) = .tup [.str [116, 119, 111], .str s, trD a, trD b] := by rw [trD]
@[simp] theorem trD_pick (a b c : Tr) : trD (.pick a b c) = .tup [.str [112, 105, 99, 107], trD a, trD b, trD c] := by rw [trD]
@[simp] theorem trD_over (w : Tx) (ps : List Tr) : trD (.over w ps) = .tup [.str [111, 118, 101, 114], .str w, .lst (ps.map trD)] := by rw [trD, trDs_map]
@[simp] theorem trD_area (p : Pl) (f : Bool × Bool) (q : Pl) (g : Bool × Bool) : trD (.area p f q g) = .tup [.str [97, 114, 101, 97], .tup [.str [114, 101, 102], plD p, blD f], .tup [.str [114, 101, 102], plD q, blD g]] := by rw [trD]; rfl
@[simp] theorem cmp_blD (f : Bool × Bool) : cmpD (blD f) = true := (rfl)
@[simp] theorem dep_blD (f : Bool × Bool) : dep (blD f) = 1 := (rfl)
def Tr.kids : Tr → List Tr
  | .minus a => [a]
  | .two _ a b => [a, b]
  | .pick a b c => [a, b, c]
  | .over _ ps => ps
  | _ => []
@[simp] theorem kids_num (n : Int) : (Tr.num n).kids = [] := (rfl)
@[simp] theorem kids_ref (p : Pl) (f : Bool × Bool) : (Tr.ref p f).kids = [] := (rfl)
@[simp] theorem kids_gone : Tr.gone.kids = [] := (rfl)
@[simp] theorem kids_minus (a : Tr) : (Tr.minus a).kids = [a] := (rfl)
@[simp] theorem kids_two (s : Tx) (a b : Tr) : (Tr.two s a b).kids = [a, b] := (rfl)
@[simp] theorem kids_pick (a b c : Tr) : (Tr.pick a b c).kids = [a, b, c] := (rfl)
@[simp] theorem kids_over (w : Tx) (ps : List Tr) : (Tr.over w ps).kids = ps := (rfl)
@[simp] theorem kids_area (p : Pl) (f : Bool × Bool) (q : Pl) (g : Bool × Bool) : (Tr.area p f q g).kids = [] := (rfl)
theorem Tr.ind {P : Tr → Prop} (h : ∀ t : Tr, (∀ k ∈ t.kids, P k) → P t) : ∀ t, P t := by
  have key : ∀ t : Tr, P t := fun t => Tr.rec (motive_1 := P) (motive_2 := fun ts => ∀ k ∈ ts, P k)
    (fun n => h _ (by simp)) (fun p f => h _ (by simp)) (h _ (by simp)) (fun a ha => h _ (by simpa using ha)) (fun s a b ha hb => h _ (by simpa using ⟨ha, hb⟩))
    (fun a b c ha hb hc => h _ (by simpa using ⟨ha, hb, hc⟩)) (fun w ps hp => h _ (by simpa using hp)) (fun p f q g => h _ (by simp))
    (by simp) (fun t ts ht hts => by simpa using ⟨ht, hts⟩) t
  exact key
mutual
def Tr.dep : Tr → Nat
  | .minus a => a.dep + 1
  | .two _ a b => max a.dep b.dep + 1
  | .pick a b c => max a.dep (max b.dep c.dep) + 1
  | .over _ ps => Tr.deps ps + 1
  | _ => 1
def Tr.deps : List Tr → Nat
  | [] => 0
  | t :: ts => max t.dep (Tr.deps ts)
end
theorem dep_eq (t : Tr) : t.dep = Tr.deps t.kids + 1 := by cases t <;> simp [Tr.dep, Tr.deps]
theorem dep_mem : ∀ {ts : List Tr} {t : Tr}, t ∈ ts → t.dep ≤ Tr.deps ts
  | t :: ts, u, h => by
    rw [Tr.deps]
    rcases List.mem_cons.mp h with rfl | h
    · omega
    · have := dep_mem h; omega
mutual
def Tr.nodes : Tr → Nat
  | .minus a => a.nodes + 1
  | .two _ a b => a.nodes + b.nodes + 1
  | .pick a b c => a.nodes + b.nodes + c.nodes + 1
  | .over _ ps => Tr.nodess ps + 1
  | _ => 1
def Tr.nodess : List Tr → Nat
  | [] => 0
  | t :: ts => t.nodes + Tr.nodess ts
end
theorem nodes_eq (t : Tr) : t.nodes = Tr.nodess t.kids + 1 := by cases t <;> simp [Tr.nodes, Tr.nodess] <;> omega
mutual
def Tr.leaves : Tr → Nat
  | .minus a => a.leaves
  | .two _ a b => a.leaves + b.leaves
  | .pick a b c => a.leaves + b.leaves + c.leaves
  | .over _ ps => if ps = [] then 1 else Tr.leavess ps
  | _ => 1
def Tr.leavess : List Tr → Nat
  | [] => 0
  | t :: ts => t.leaves + Tr.leavess ts
end
theorem leaves_eq (t : Tr) : t.leaves = if t.kids = [] then 1 else Tr.leavess t.kids := by cases t <;> simp [Tr.leaves, Tr.leavess] <;> omega
theorem leaves_pos : ∀ t : Tr, 1 ≤ t.leaves := Tr.ind fun t ih => by
  rw [leaves_eq]
  split
  · omega
  · rename_i h
    cases hk : t.kids with
    | nil => exact absurd hk h
    | cons k ks =>
      have := ih k (by rw [hk]; simp)
      rw [Tr.leavess]; omega
theorem nodess_le (d : Nat) : ∀ (ts : List Tr), (∀ t ∈ ts, t.nodes ≤ t.leaves * t.dep ∧ t.dep ≤ d) → Tr.nodess ts ≤ Tr.leavess ts * d
  | [], _ => by simp [Tr.nodess]
  | t :: ts, h => by
    have h1 := nodess_le d ts fun u hu => h u (List.mem_cons_of_mem _ hu)
    obtain ⟨h2, h3⟩ := h t List.mem_cons_self
    have h4 : t.leaves * t.dep ≤ t.leaves * d := Nat.mul_le_mul_left _ h3
    rw [Tr.nodess, Tr.leavess, Nat.add_mul]
    omega
theorem nodes_le : ∀ t : Tr, t.nodes ≤ t.leaves * t.dep := Tr.ind fun t ih => by
  have h := nodess_le (Tr.deps t.kids) t.kids fun k hk => ⟨ih k hk, dep_mem hk⟩
  rw [nodes_eq, leaves_eq, dep_eq]
  split
  · rename_i hk
    rw [hk] at h ⊢
    simp [Tr.nodess, Tr.deps]
  · rename_i hk
    have h1 : 1 ≤ Tr.leavess t.kids := by
      cases hk2 : t.kids with
      | nil => exact absurd hk2 hk
      | cons k ks => have := leaves_pos k; rw [Tr.leavess]; omega
    rw [Nat.mul_add]
    omega
def Sm : Nat → Tr → Prop
  | 0, _ => False
  | d + 1, t => t.kids.length ≤ 1000 ∧ ∀ k ∈ t.kids, Sm d k
theorem Sm.mono : ∀ {d e : Nat} {t : Tr}, Sm d t → d ≤ e → Sm e t
  | d + 1, 0, t, h, l => by omega
  | d + 1, e + 1, t, h, l => ⟨h.1, fun k hk => Sm.mono (h.2 k hk) (by omega)⟩
theorem nr_tr : ∀ (t : Tr), noRef (trD t) = true := Tr.ind fun t ih => by
  cases t with
  | num n => rfl
  | ref p f => rfl
  | gone => rfl
  | minus a => simp at ih; simp [ih]
  | two s a b => simp at ih; simp [ih]
  | pick a b c => simp at ih; simp [ih]
  | over w ps =>
    simp only [kids_over] at ih
    have : noRefs (ps.map trD) = true := by
      clear w
      induction ps with
      | nil => rfl
      | cons k ks ih2 => simp [ih k (by simp), ih2 fun j hj => ih j (by simp [hj])]
    simp [this]
  | area p f q g => rfl
@[simp] theorem nr_trD (t : Tr) : noRef (trD t) = true := nr_tr t
@[simp] theorem nrs_trs (ts : List Tr) : noRefs (ts.map trD) = true := nrs_map nr_tr ts
theorem cmpDs_map {α : Type} {f : α → D} : ∀ (xs : List α), (∀ x ∈ xs, cmpD (f x) = true) → cmpDs (xs.map f) = true
  | [], _ => rfl
  | x :: xs, h => by simp [cmpDs, h x (by simp), cmpDs_map xs fun y hy => h y (by simp [hy])]
def okW (w : Tx) : Prop := w = [83, 85, 77] ∨ w = [67, 79, 85, 78, 84] ∨ w = [77, 65, 88]
def okS (s : Tx) : Prop := s = [43] ∨ s = [45] ∨ s = [42] ∨ s = [47] ∨ s = [60] ∨ s = [61]
def inP (R C : Int) (p : Pl) : Prop := 0 ≤ p.1 ∧ p.1 < R ∧ 0 ≤ p.2 ∧ p.2 < C
def okA (R C : Int) : Tr → Prop
  | .area p _ q _ => inP R C p ∧ inP R C q ∧ p.1 ≤ q.1 ∧ p.2 ≤ q.2
  | _ => False
mutual
def Tr.Ok (R C : Int) : Tr → Prop
  | .num n => 0 ≤ n ∧ n < 1000000000000
  | .ref p _ => inP R C p
  | .gone => True
  | .minus a => a.Ok R C
  | .two s a b => okS s ∧ a.Ok R C ∧ b.Ok R C
  | .pick a b c => a.Ok R C ∧ b.Ok R C ∧ c.Ok R C
  | .over w ps => (okW w ∧ 1 ≤ ps.length ∧ ps.length ≤ 8) ∧ Tr.Oks R C ps
  | .area _ _ _ _ => False
def Tr.Oks (R C : Int) : List Tr → Prop
  | [] => True
  | t :: ts => (okA R C t ∨ t.Ok R C) ∧ Tr.Oks R C ts
end
structure Tree (R C : Int) (t : Tr) : Prop where
  ok : t.Ok R C
  dep : t.dep ≤ 12
  lvs : t.leaves ≤ 60
theorem Tree.nodes {R C : Int} {t : Tr} (h : Tree R C t) : t.nodes ≤ 720 := by
  have h1 := nodes_le t
  have h2 := h.dep
  have h3 := h.lvs
  have : t.leaves * t.dep ≤ 60 * 12 := Nat.mul_le_mul h3 h2
  omega
@[simp] theorem p_notn_tr (t : Tr) (st : Store) : prim1F .notn (trD t) st = .ok (.bl true) st := by cases t <;> simp
@[simp] theorem p_isn_tr (t : Tr) (st : Store) : prim1F .isn (trD t) st = .ok (.bl false) st := by cases t <;> simp
@[simp] theorem p_isi_tr (t : Tr) (y : Ty) (st : Store) : prim1F (.isi y) (trD t) st = .ok (.bl (decide (y = .tuple))) st := by cases t <;> simp
@[simp] theorem p_notn_pl (p : Pl) (st : Store) : prim1F .notn (plD p) st = .ok (.bl true) st := (rfl)
@[simp] theorem p_isn_pl (p : Pl) (st : Store) : prim1F .isn (plD p) st = .ok (.bl false) st := (rfl)

end FL
end
section
set_option maxRecDepth 100000
set_option maxHeartbeats 4000000
namespace FL
open MP
@[simp] theorem slcF_tup2 (m : Bool) (x y z : D) (r : List D) (st : Store) : slcF m (.tup (x :: y :: z :: r)) (.int 2) .non st = .ok (.tup (z :: r)) st := by
  have e1 : HT.sIx (x :: y :: z :: r).length 0 (some 2) = 2 := by rw [sIx_at (by omega) (by simp <;> omega)]; rfl
  have e2 : HT.sIx (x :: y :: z :: r).length (x :: y :: z :: r).length none = (x :: y :: z :: r).length := rfl
  unfold slcF
  simp only [partOf, e1, e2]
  rw [cutL, e1, e2]
  simp

end FL
end
section
set_option maxRecDepth 100000
set_option maxHeartbeats 4000000
namespace FL
open MP
section
variable {T : Nat → Option Fn} {N : Nat} [At T 1 fn_cell_at_L1]
def cellR (ns : List Int) (k : Nat) : Int := ns.getD k 0
theorem cellR_c (ns : List Int) (k : Nat) {nr : Bool} {st : Store} (hN : 1 ≤ N) : frz nr (callF T N 1 [.scr ns, .int k] []) st = .ok (.int (cellR ns k)) st := by
  rw [call_at (by omega) rfl]
  unfold cellR
  by_cases h : k < ns.length
  · have e : ns.getD k 0 = ns[k] := by simp [List.getD, h]
    have h2 : (k : Int) < ns.length := by omega
    simp (disch := first | assumption | omega | (simp [-List.map_map, -List.map_take, -List.map_drop]; done) | (refine MP.lim_ok ?_; simp [-List.map_map, -List.map_take, -List.map_drop] <;> omega) | (simp [lim, -List.map_map, -List.map_take, -List.map_drop] <;> omega) | fail) [-List.map_map, -List.map_take, -List.map_drop, fn_cell_at_L1, h2, e]
  · have e : ns.getD k 0 = 0 := by simp [List.getD, h]
    have h2 : ¬ (k : Int) < ns.length := by omega
    simp (disch := first | assumption | omega | (simp [-List.map_map, -List.map_take, -List.map_drop]; done) | (refine MP.lim_ok ?_; simp [-List.map_map, -List.map_take, -List.map_drop] <;> omega) | (simp [lim, -List.map_map, -List.map_take, -List.map_drop] <;> omega) | fail) [-List.map_map, -List.map_take, -List.map_drop, fn_cell_at_L1, h2, e]

end
end FL
end
section
set_option maxRecDepth 100000
set_option maxHeartbeats 4000000
namespace FL
open MP
section
variable {T : Nat → Option Fn} {N : Nat} [At T 2 fn_kinds_L]
theorem kinds_c (c : Nat) (i : Option Int) (hN : 1 ≤ N) (st : Store) : frz true (callF T N 2 [.exc c i] []) st = .ok (.lst [.bl (isCls c 1), .bl (isCls c 2), .bl (isCls c 3), .bl (isCls c 4), .bl (isCls c 5), .bl (isCls c 6), .bl (isCls c 7), .bl (isCls c 8)]) st := by
  rw [call_at (by omega) rfl]
  simp (disch := first | assumption | omega | (simp [-List.map_map, -List.map_take, -List.map_drop]; done) | (refine MP.lim_ok ?_; simp [-List.map_map, -List.map_take, -List.map_drop] <;> omega) | (simp [lim, -List.map_map, -List.map_take, -List.map_drop] <;> omega) | fail) [-List.map_map, -List.map_take, -List.map_drop, fn_kinds_L, -isCls_eq]

end
end FL
end
section
set_option maxRecDepth 100000
set_option maxHeartbeats 4000000
namespace FL
open MP
section
variable {T : Nat → Option Fn} {N : Nat} [At T 0 fn_made_L1]
theorem made1_c (k : Nat) (hk : k < 8) (w : Tx) (hN : 1 ≤ N) (st : Store) : frz true (callF T N 0 [.int (k : Nat), .str w] []) st = .ok (.exc (k + 1) (if k = 1 then some 0 else none)) st := by
  rw [call_at (by omega) rfl]
  obtain rfl | rfl | rfl | rfl | rfl | rfl | rfl | rfl : k = 0 ∨ k = 1 ∨ k = 2 ∨ k = 3 ∨ k = 4 ∨ k = 5 ∨ k = 6 ∨ k = 7 := by omega
  all_goals simp (disch := first | assumption | omega | (simp [-List.map_map, -List.map_take, -List.map_drop]; done) | (refine MP.lim_ok ?_; simp [-List.map_map, -List.map_take, -List.map_drop] <;> omega) | (simp [lim, -List.map_map, -List.map_take, -List.map_drop] <;> omega) | fail) [-List.map_map, -List.map_take, -List.map_drop, fn_made_L1]

end
end FL
end
section
set_option maxRecDepth 100000
set_option maxHeartbeats 4000000
namespace FL
open MP
section
variable {T : Nat → Option Fn} {N : Nat} [At T 3 fn_whole_L]
theorem whole_int (i : Int) {nr : Bool} {st : Store} (hN : 1 ≤ N) : frz nr (callF T N 3 [.int i] []) st = .ok (.bl true) st := by
  rw [call_at (by omega) rfl]
  simp (disch := first | assumption | omega | (simp [-List.map_map, -List.map_take, -List.map_drop]; done) | (refine MP.lim_ok ?_; simp [-List.map_map, -List.map_take, -List.map_drop] <;> omega) | (simp [lim, -List.map_map, -List.map_take, -List.map_drop] <;> omega) | fail) [-List.map_map, -List.map_take, -List.map_drop, fn_whole_L]

end
end FL
end
section
set_option maxRecDepth 100000
set_option maxHeartbeats 4000000
namespace FL
open MP
section
variable {T : Nat → Option Fn} {N : Nat} [At T 0 fn_made_L1] [At T 1 fn_cell_at_L1] [At T 2 fn_kinds_L] [At T 3 fn_whole_L] [At T 4 fn_law_k11]
theorem law_k11_ok (ns : List Int) (hl : ns.length ≤ 63) (hN : 20 ≤ N) : ∃ s, callF T N 4 [.scr ns] [] = .ok (.bl true) s := by
  have hc : ∀ (k : Nat) nr st, frz nr (callF T (N - 1) 1 [.scr ns, .int k] []) st = .ok (.int (cellR ns k)) st := fun k nr st => cellR_c (T := T) (N := N - 1) (nr := nr) (st := st) ns k (by omega)
  have c0 : ∀ nr st, frz nr (callF T (N - 1) 1 [.scr ns, .int 0] []) st = .ok (.int (cellR ns 0)) st := hc 0
  have c1 : ∀ nr st, frz nr (callF T (N - 1) 1 [.scr ns, .int 1] []) st = .ok (.int (cellR ns 1)) st := hc 1
  have c2 : ∀ nr st, frz nr (callF T (N - 1) 1 [.scr ns, .int 2] []) st = .ok (.int (cellR ns 2)) st := hc 2
  clear hc
  generalize cellR ns 0 = x0 at *
  generalize cellR ns 1 = x1 at *
  generalize cellR ns 2 = x2 at *
  have hpw : ∀ st, opF .pow (.int 10) (.int 9) st = .ok (.int 1000000000) st := fun st => rfl
  obtain ⟨k, hk, hk8⟩ : ∃ k : Nat, x0 % 8 = (k : Int) ∧ k < 8 := ⟨(x0 % 8).toNat, by omega, by omega⟩
  obtain ⟨w, hw⟩ : ∃ w : Tx, ∀ st, slcF false (.str [97, 98, 99, 100, 101, 102, 103, 104]) .non (.int (x1 % 9)) st = .ok (.str w) st := ⟨_, fun st => by simp only [slcF, partOf]; rfl⟩
  obtain ⟨n, hn⟩ : ∃ n : Int, n = x2 % 1000000000 := ⟨_, rfl⟩
  have hmade := fun st => made1_c (T := T) (N := N - 1) k hk8 w (by omega) st
  have hkinds := fun c i st => kinds_c (T := T) (N := N - 1) c i (by omega) st
  have hwh := fun (i : Int) nr st => whole_int (T := T) (N := N - 1) (nr := nr) (st := st) i (by omega)
  have hcm := fun ds st (h0 : ds.length = 7) (h1 : ds[1]? = some (some (.int (k : Nat)))) => compF_all (m := false) (elt := evE (callF T (N - 1)) fn_law_k11_e1) (cl := callF T (N - 1)) (v := 6) (ds := ds) (st := st) D.int D.bl (fun j => decide (j = (k : Int))) (rangeI 0 8) (by rw [rangeI_length]; simp [lim]) fun j hj => by
    match ds, h0, h1 with
    | [a0, a1, a2, a3, a4, a5, a6], _, h1 =>
      simp at h1
      subst h1
      simp (disch := first | assumption | omega | (simp [-List.map_map, -List.map_take, -List.map_drop]; done) | (refine MP.lim_ok ?_; simp [-List.map_map, -List.map_take, -List.map_drop] <;> omega) | (simp [lim, -List.map_map, -List.map_take, -List.map_drop] <;> omega) | fail) [-List.map_map, -List.map_take, -List.map_drop, fn_law_k11_e1]
  have hr := fun ds st => compF_rng1 false (evE (callF T (N - 1)) fn_law_k11_e1) (evE (callF T (N - 1)) (.k (.bl true))) 6 ds st 8 (by omega)
  have hq : ∀ st, eqVal st (.lst [.bl (isCls (k + 1) 1), .bl (isCls (k + 1) 2), .bl (isCls (k + 1) 3), .bl (isCls (k + 1) 4), .bl (isCls (k + 1) 5), .bl (isCls (k + 1) 6), .bl (isCls (k + 1) 7), .bl (isCls (k + 1) 8)]) (.lst (((rangeI 0 8).map fun j => decide (j = (k : Int))).map D.bl)) = some true := fun st => by
    obtain rfl | rfl | rfl | rfl | rfl | rfl | rfl | rfl : k = 0 ∨ k = 1 ∨ k = 2 ∨ k = 3 ∨ k = 4 ∨ k = 5 ∨ k = 6 ∨ k = 7 := by omega
    all_goals rfl
  have e0 : isCls (k + 1) 0 = true := by simp
  have e9 : isCls (k + 1) 9 = true := by simp
  have e20 : isCls 2 0 = true := by simp
  simp only [mkL, Bool.false_eq_true, if_false] at hcm
  generalize ((rangeI 0 8).map fun j => decide (j = (k : Int))).map D.bl = B at *
  rw [call_at (by omega) rfl]
  by_cases h1 : k = 1
  · subst h1
    have hk1 : x0 % 8 = 1 := hk
    have hmade1 : ∀ st, frz true (callF T (N - 1) 0 [.int 1, .str w] []) st = .ok (.exc 2 (some 0)) st := hmade
    have hcm1 : ∀ ds st, ds.length = 7 → ds[1]? = some (some (.int 1)) → compF false (evE (callF T (N - 1)) fn_law_k11_e1) (evE (callF T (N - 1)) (.k (.bl true))) 6 .it [.lst ((rangeI 0 8).map .int)] ds st = .ok (.lst B) st := hcm
    have hq1 : ∀ st, eqVal st (.lst [.bl (isCls 2 1), .bl (isCls 2 2), .bl (isCls 2 3), .bl (isCls 2 4), .bl (isCls 2 5), .bl (isCls 2 6), .bl (isCls 2 7), .bl (isCls 2 8)]) (.lst B) = some true := hq
    have e29 : isCls 2 9 = true := by simp
    clear hk hmade hcm hq
    refine ⟨[], ?_⟩
    simp (disch := first | assumption | omega | (simp [-List.map_map, -List.map_take, -List.map_drop]; done) | (refine MP.lim_ok ?_; simp [-List.map_map, -List.map_take, -List.map_drop] <;> omega) | (simp [lim, -List.map_map, -List.map_take, -List.map_drop] <;> omega) | fail) [-List.map_map, -List.map_take, -List.map_drop, fn_law_k11, fn_law_k11_t1, c0, c1, c2, hpw, hk1, hw, ← hn, hmade1, hkinds, hwh, hcm1, hr, hq1, -isCls_eq, e20, e29]
    try rfl
  · have h1' : ¬ (k : Int) = 1 := by omega
    refine ⟨[], ?_⟩
    simp (disch := first | assumption | omega | (simp [-List.map_map, -List.map_take, -List.map_drop]; done) | (refine MP.lim_ok ?_; simp [-List.map_map, -List.map_take, -List.map_drop] <;> omega) | (simp [lim, -List.map_map, -List.map_take, -List.map_drop] <;> omega) | fail) [-List.map_map, -List.map_take, -List.map_drop, fn_law_k11, fn_law_k11_t1, c0, c1, c2, hpw, hk, hw, ← hn, hmade, hkinds, hwh, hcm, hr, hq, h1, h1', -isCls_eq, e0, e9, e20]
    try rfl

end
end FL
end
set_option maxHeartbeats 0
namespace K11
open PySem MP
instance : At (tabF tab) 0 FL.fn_made_L1 := ⟨rfl⟩
instance : At (tabF tab) 1 FL.fn_cell_at_L1 := ⟨rfl⟩
instance : At (tabF tab) 2 FL.fn_kinds_L := ⟨rfl⟩
instance : At (tabF tab) 3 FL.fn_whole_L := ⟨rfl⟩
instance : At (tabF tab) 4 FL.fn_law_k11 := ⟨rfl⟩
theorem plain (ns : List Int) (h : ns.length ≤ 63) : ∃ s, callF (tabF tab) 60 4 [.scr ns] [] = .ok (.bl true) s := FL.law_k11_ok ns h (by omega)
end K11
open PySem PySem.W PySem.Calls PyProof.Rows
theorem PySem.Challenge.cw_slate_k11_refusals_apart_holds : PySem.Challenge.rw_slate_k11_refusals_apart.Holds := by
  w_on; o_law
  refine HandSHeadRun.head_any (r := K11.Rw) (q := view K11.Rw.prog [15]) (H := K11.hk) (ob := K11.ob) (M := 4000) (loose := K11.loose) (d := HandSHeadRun.topDef K11.Rw.prog 15) (kwd := []) K11.ob_eq
    ?h1 ?h2 K11.run ?h3 ?h4 ?h5 ?h6 ?h7 ?h8 ⟨rfl, rfl, rfl, rfl, rfl, by decide +kernel⟩ ?hw ?hc
  case hw => w_witness2
  case h1 => kernel_rfl
  case h2 => exact fun s => by kernel_rfl
  case h3 => kernel_rfl
  case h4 => kernel_rfl
  case h5 => kernel_rfl
  case h6 => rfl
  case h7 => first | assumption | decide +kernel
  case h8 => decide +kernel
  case hc => exact MP.law_tab (l := PySem.Challenge.rw_slate_k11_refusals_apart) (L := 4) (n := 60) (x := "_law_script") rfl (by kernel_rfl) ⟨rfl, by decide, by decide⟩ (e := ⟨4, 15, "law", ["_law_script"], ["_law_script", "_law_kind", "_law_words", "_law_error", "_law_number", "_law_stood_at", "_law_k"], FL.fn_law_k11⟩) rfl (by kernel_rfl) rfl (MP.AllB.mem K11.binds) (List.all_eq_true.mp K11.checks) (by decide +kernel) K11.plain
