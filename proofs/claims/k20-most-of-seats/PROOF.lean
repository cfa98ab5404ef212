import PyProof.Rows.All
import HandS.ForMost
import HandS.ForExc
import HandS.Flow
import HandS.TupAny
import HandS.TupMul
import HandS.IsInst
import HandS.SortInts
import HandS.SetFor
import HandS.Zip
import HandS.Head2
import HandS.HeadEnd
import HandS.HeadHook2
import HandS.HeadHook4
import HandS.Text
import HandS.StrMore
import HandS.Strs
import HandS.Style
import KE.IntTextLaws
import KE.DataCmp
import HandS.SortRule
import KE.KSortTupAny
import HandS.Iter
import KE.GoesMore
import HandS.ExcOwn
import KE.GoesRaise
import HandS.SetKeys
import HandS.HeadWalk
import HandS.ExcIs
import HandS.TryMany
import HandS.TryOnly
import HandS.HotCalls
import HandS.Small
import PySem.Challenge.RW_keeplog_k20_most_of_seats
/-! KLCore: a small functional core language: values, a store, an interpreter. Plain Lean. -/
set_option linter.all false
namespace KL

/-- a value: flat things, tuples; lst: a list that nobody changes any more; ref: a cell of the store -/
inductive D where
  | non | bl (b : Bool) | int (i : Int) | str (s : String) | tup (l : List D) | lst (l : List D) | ref (n : Nat)
  deriving Inhabited

/-- a dict's key -/
inductive DK where
  | int (i : Int)
  | str (z : String)
  deriving DecidableEq
inductive Cell where
  | lst (l : List D)
  | ins (c : String) (fs : List (String × D))
  | dct (kvs : List (DK × D))
  | tpc (ns : List Int)

abbrev Sto := List Cell
abbrev Env := List (Option D)

mutual
def D.refs : D → List Nat
  | .tup l => D.refsL l
  | .lst l => D.refsL l
  | .ref n => [n]
  | .non => []
  | .bl _ => []
  | .int _ => []
  | .str _ => []
def D.refsL : List D → List Nat
  | [] => []
  | d :: l => D.refs d ++ D.refsL l
end
def Cell.refs : Cell → List Nat
  | .lst l => D.refsL l
  | .ins _ fs => D.refsL (fs.map (·.2))
  | .dct kvs => D.refsL (kvs.map (·.2))
  | .tpc _ => []
def D.under (n : Nat) (d : D) : Prop := ∀ r ∈ d.refs, r < n
def Cell.under (n : Nat) (c : Cell) : Prop := ∀ r ∈ c.refs, r < n

mutual
/-- Python's == of data -/
def eqD : D → D → Bool
  | .non, .non => true
  | .bl a, .bl b => a == b
  | .bl a, .int j => (if a then 1 else 0) == j
  | .int i, .bl b => i == (if b then 1 else 0)
  | .int i, .int j => i == j
  | .str x, .str y => x == y
  | .tup xs, .tup ys => eqL xs ys
  | .lst xs, .lst ys => eqL xs ys
  | _, _ => false
def eqL : List D → List D → Bool
  | [], [] => true
  | x :: xs, y :: ys => eqD x y && eqL xs ys
  | _, _ => false
end
mutual
/-- data without refs, at most n deep -/
def deep : Nat → D → Bool
  | _, .non => true
  | _, .bl _ => true
  | _, .int _ => true
  | _, .str _ => true
  | _, .ref _ => false
  | 0, .tup _ => false
  | 0, .lst _ => false
  | n + 1, .tup l => deepL n l
  | n + 1, .lst l => deepL n l
def deepL : Nat → List D → Bool
  | _, [] => true
  | n, d :: l => deep n d && deepL n l
end
def flat : D → Bool
  | .non => true
  | .bl _ => true
  | .int _ => true
  | .str _ => true
  | _ => false

def lim : Nat := 1000000

/-- what an expression comes to: a value; a new list (nobody else has it); an exception of a class -/
inductive RE where
  | ok (d : D) (s : Sto)
  | new (l : List D) (s : Sto)
  | exn (c : String) (s : Sto)
  | bad
inductive RL where
  | ok (l : List D) (s : Sto)
  | exn (c : String) (s : Sto)
  | bad
inductive RB where
  | ok (b : Bool) (s : Sto)
  | exn (c : String) (s : Sto)
  | bad
def RE.bind (r : RE) (f : D → Sto → RE) : RE := match r with
  | .ok d s => f d s
  | .new l s => f (.lst l) s
  | .exn c s => .exn c s
  | .bad => .bad
def RE.bindL (r : RE) (f : D → Sto → RL) : RL := match r with
  | .ok d s => f d s
  | .new l s => f (.lst l) s
  | .exn c s => .exn c s
  | .bad => .bad
def RE.bindB (r : RE) (f : D → Sto → RB) : RB := match r with
  | .ok d s => f d s
  | .new l s => f (.lst l) s
  | .exn c s => .exn c s
  | .bad => .bad
def RL.bind (r : RL) (f : List D → Sto → RE) : RE := match r with
  | .ok l s => f l s
  | .exn c s => .exn c s
  | .bad => .bad
def RL.bindL (r : RL) (f : List D → Sto → RL) : RL := match r with
  | .ok l s => f l s
  | .exn c s => .exn c s
  | .bad => .bad
def RB.bind (r : RB) (f : Bool → Sto → RE) : RE := match r with
  | .ok b s => f b s
  | .exn c s => .exn c s
  | .bad => .bad
def RB.bindB (r : RB) (f : Bool → Sto → RB) : RB := match r with
  | .ok b s => f b s
  | .exn c s => .exn c s
  | .bad => .bad

inductive BinO where | add | sub | mul | fdiv | mod | pow
  deriving DecidableEq
inductive CmpO where | eq | ne | lt | le | gt | ge | in_ | notin | is_ | isnot
  deriving DecidableEq
inductive Ty where | int | bool | str | tuple | list
  deriving DecidableEq
inductive Bi where | len | tupN | tuple | list | sorted | max | min | all | int | str | dict
  deriving DecidableEq
inductive Me where | tcount | append | reverse | count | remove | pop | get | setd | clear | sfind | supper | sjoin | ssplit | slstrip
  deriving DecidableEq
inductive ItK where | seq | range1 | range2 | enum | zip
  deriving DecidableEq

inductive E where
  | var (i : Nat)
  | con (d : D)
  | tup (es : List E)
  | lst (es : List E)
  | bin (o : BinO) (a b : E)
  | neg (a : E)
  | not (a : E)
  | and (a b : E)
  | or (a b : E)
  | ite (c a b : E)
  | cmp (o : CmpO) (a b : E)
  | cmp2 (o p : CmpO) (a b c : E)
  | idx (a i : E)
  | slice (a : E) (lo hi : List E)
  | call (f : String) (es : List E)
  | bi (b : Bi) (es : List E)
  | met (m : Me) (o : E) (es : List E)
  | isi (a : E) (ts : List Ty)
  | comp (elt : E) (tg : List Nat) (k : ItK) (its : List E) (cs : List E)
  | compX (elt : E) (tg : List Nat) (k : ItK) (its : List E)
  | attr (a : E) (f : String)
  | umet (m : String) (o : E) (es : List E)
  | mk (c : String) (es : List E)
  | dnew
  | rev (a : E)
  | ddisp (ks : List String) (es : List E)
  | box (a : E)

/-! ### texts -/
def findC (c : Char) : List Char → Nat → Int
  | [], _ => -1
  | x :: l, k => if x = c then (k : Int) else findC c l (k + 1)
def upC (c : Char) : Char := if 97 ≤ c.toNat ∧ c.toNat ≤ 122 then Char.ofNat (c.toNat - 32) else c
def cutC (c : Char) : List Char → List Char → List (List Char)
  | acc, [] => [acc]
  | acc, x :: r => if x = c then acc :: cutC c [] r else cutC c (acc ++ [x]) r
def joinC (s : List Char) : List (List Char) → List Char
  | [] => []
  | [p] => p
  | p :: q :: r => p ++ (s ++ joinC s (q :: r))
def isFig (c : Char) : Bool := decide (48 ≤ c.toNat) && decide (c.toNat ≤ 57)
def figV (l : List Char) : Nat := l.foldl (fun n c => n * 10 + (c.toNat - 48)) 0
def intS : List Char → Option Int
  | [] => none
  | x :: l => if x = '-' then (if l ≠ [] ∧ l.all isFig = true then some (-(figV l : Int)) else none) else if (x :: l).all isFig = true then some (figV (x :: l) : Int) else none

/-! ### operations on values -/
def asL (s : Sto) : D → Option (List D)
  | .lst l => some l
  | .ref n => match s[n]? with
    | some (.lst l) => some l
    | _ => none
  | _ => none
def asSq (s : Sto) : D → Option (List D)
  | .tup l => some l
  | d => asL s d
/-- what stands at a ref to a tuple that is known whole -/
def cellT (s : Sto) : D → Option (List Int)
  | .ref n => match s[n]? with
    | some (.tpc ns) => some ns
    | _ => none
  | _ => none
def asSqT (s : Sto) (d : D) : Option (List D) := match cellT s d with
  | some ns => some (ns.map .int)
  | none => asSq s d
def asV (s : Sto) : D → D
  | .ref n => match s[n]? with
    | some (.lst l) => .lst l
    | _ => .ref n
  | d => d
def newIf (l : List D) (s : Sto) : RE := if l.length ≤ lim then .new l s else .bad
def binD : BinO → D → D → Sto → RE
  | .add, .int i, .int j, s => .ok (.int (i + j)) s
  | .add, .str a, .str b, s => if a.length + b.length ≤ lim then .ok (.str (a ++ b)) s else .bad
  | .add, .tup a, .tup b, s => if a.length + b.length ≤ lim then .ok (.tup (a ++ b)) s else .bad
  | .add, .lst a, .lst b, s => newIf (a ++ b) s
  | .add, .ref n, .lst b, s => match asL s (.ref n) with
    | some a => newIf (a ++ b) s
    | none => .bad
  | .add, .lst a, .ref m, s => match asL s (.ref m) with
    | some b => newIf (a ++ b) s
    | none => .bad
  | .add, .ref n, .ref m, s => match asL s (.ref n), asL s (.ref m) with
    | some a, some b => newIf (a ++ b) s
    | _, _ => .bad
  | .sub, .int i, .int j, s => .ok (.int (i - j)) s
  | .mul, .int i, .int j, s => if (-(2 ^ 64) < i ∧ i < 2 ^ 64) ∨ (-(2 ^ 64) < j ∧ j < 2 ^ 64) then .ok (.int (i * j)) s else .bad
  | .mul, .str z, .int k, s => if -(2 ^ 40) ≤ k ∧ k ≤ 2 ^ 40 ∧ z.length * k.toNat ≤ lim then .ok (.str (String.ofList (List.replicate k.toNat z.toList).flatten)) s else .bad
  | .mul, .lst a, .int k, s => if -(2 ^ 40) ≤ k ∧ k ≤ 2 ^ 40 ∧ a.length * k.toNat ≤ lim then .new (List.replicate k.toNat a).flatten s else .bad
  | .mul, .tup a, .int k, s => if a ≠ [] ∧ 2 ≤ k ∧ k ≤ 1000 ∧ a.length ≤ 1000 then .ok (.tup (List.replicate k.toNat a).flatten) s else .bad
  | .fdiv, .int i, .int j, s => if 0 < j ∧ j < 1073741824 then .ok (.int (i / j)) s else .bad
  | .mod, .int i, .int j, s => if 0 < j then .ok (.int (i % j)) s else .bad
  | .pow, .int i, .int j, s => if 0 ≤ j ∧ j ≤ 1000000 ∧ i.natAbs < 2 ^ 64 then .ok (.int (i ^ j.toNat)) s else if 0 ≤ j ∧ j ≤ 1000 ∧ i.natAbs.log2 < 1000 then .ok (.int (i ^ j.toNat)) s else .bad
  | _, _, _, _ => .bad
def inL (x : D) (l : List D) : Bool := l.any fun y => eqD y x
/-- one list of ints comes not before another -/
def geL : List Int → List Int → Bool
  | [], [] => true
  | [], _ :: _ => false
  | _ :: _, [] => true
  | x :: xs, y :: ys => if x = y then geL xs ys else decide (y ≤ x)
def toI0 : List D → Option (List Int)
  | [] => some []
  | .int i :: l => (toI0 l).map (i :: ·)
  | _ => none
def geD : Option (List D) → Option (List D) → Option Bool
  | some l, some m => match toI0 l, toI0 m with
    | some ns, some ms => some (geL ns ms)
    | _, _ => none
  | _, _ => none
/-- what may be compared: one side at least is not deep -/
def eqOk (a b : D) : Bool := a.refs.isEmpty && (b.refs.isEmpty && (deep 60 a || deep 60 b))
def cmpD : CmpO → D → D → Sto → Option Bool
  | .eq, a, b, s => if eqOk (asV s a) (asV s b) then some (eqD (asV s a) (asV s b)) else none
  | .ne, a, b, s => if eqOk (asV s a) (asV s b) then some (!eqD (asV s a) (asV s b)) else none
  | .lt, .int i, .int j, _ => some (decide (i < j))
  | .le, .int i, .int j, _ => some (decide (i ≤ j))
  | .gt, .int i, .int j, _ => some (decide (j < i))
  | .ge, .int i, .int j, _ => some (decide (j ≤ i))
  | .ge, x, y, s => geD (asL s x) (asL s y)
  | .lt, .str a, .str b, _ => some (decide (a < b))
  | .gt, .str a, .str b, _ => some (decide (b < a))
  | .le, .str a, .str b, _ => some (!decide (b < a))
  | .in_, .str a, .str b, _ => match a.toList with
    | [c] => some (decide (c ∈ b.toList))
    | _ => none
  | .notin, .str a, .str b, _ => match a.toList with
    | [c] => some (!decide (c ∈ b.toList))
    | _ => none
  | .in_, x, y, s => match asSqT s y with
    | some l => if flat x && l.all flat then some (inL x l) else none
    | none => none
  | .notin, x, y, s => match asSqT s y with
    | some l => if flat x && l.all flat then some (!inL x l) else none
    | none => none
  | .is_, .non, .non, _ => some true
  | .is_, _, .non, _ => some false
  | .isnot, .non, .non, _ => some false
  | .isnot, _, .non, _ => some true
  | .is_, .bl a, .bl b, _ => some (a == b)
  | .is_, _, .bl _, _ => some false
  | .isnot, .bl a, .bl b, _ => some (!(a == b))
  | .isnot, _, .bl _, _ => some true
  | _, _, _, _ => none
def cmpE (o : CmpO) (a b : D) (s : Sto) : RE := match cmpD o a b s with
  | some k => .ok (.bl k) s
  | none => .bad
def atD {α : Type} (l : List α) (i : Int) : Option α := if 0 ≤ i then l[i.toNat]? else if -(l.length : Int) ≤ i then l[(i + l.length).toNat]? else none
def revD (d : D) (s : Sto) : RE := match d with
  | .tup l => .ok (.tup l.reverse) s
  | _ => .bad
/-! dicts -/
def keyD : D → Option DK
  | .int i => some (.int i)
  | .str z => some (.str z)
  | _ => none
def valD (kvs : List (DK × D)) (k : DK) : Option D := (kvs.find? fun kv => decide (kv.1 = k)).map (·.2)
/-- in its place, or at the end -/
def putD (kvs : List (DK × D)) (k : DK) (d : D) : List (DK × D) :=
  if (kvs.any fun kv => decide (kv.1 = k)) = true then kvs.map (fun kv => if kv.1 = k then (kv.1, d) else kv) else kvs ++ [(k, d)]
def dctAt (kvs : List (DK × D)) (i : D) (s : Sto) : RE := match keyD i with
  | some k => match valD kvs k with
    | some d => .ok d s
    | none => .bad
  | none => .bad
/-- what stands at a ref to a dict -/
def cellK (s : Sto) : D → Option (Nat × List (DK × D))
  | .ref n => match s[n]? with
    | some (.dct kvs) => some (n, kvs)
    | _ => none
  | _ => none
def idxS (a i : D) (s : Sto) : RE := match i with
  | .int i => match a with
    | .str z => match atD z.toList i with
      | some c => if z.length ≤ lim then .ok (.str (String.ofList [c])) s else .bad
      | none => .bad
    | a => match asSq s a with
      | some l => match atD l i with
        | some d => .ok d s
        | none => .bad
      | none => .bad
  | _ => .bad
def idxR (o : Option Cell) (i : D) (r : RE) (s : Sto) : RE := match o with
  | some (.dct kvs) => dctAt kvs i s
  | _ => r
def idxD (a i : D) (s : Sto) : RE := match a with
  | .ref n => idxR s[n]? i (idxS (.ref n) i s) s
  | a => idxS a i s
def sIx (n d : Nat) : Option Int → Nat
  | none => d
  | some i => if i < 0 then (i + n).toNat else min i.toNat n
def cutD {α : Type} (l : List α) (lo hi : Option Int) : List α := (l.drop (sIx l.length 0 lo)).take (sIx l.length l.length hi - sIx l.length 0 lo)
def part : List D → Option (Option Int)
  | [] => some none
  | [.int i] => some (some i)
  | _ => none
/-- the whole of it -/
def wholeB (n : Nat) (lo hi : Option Int) : Bool := decide (sIx n 0 lo = 0) && decide (sIx n n hi = n)
def sliceD (a : D) (lo hi : Option Int) (s : Sto) : RE := match a with
  | .str z => if z.length ≤ lim then .ok (.str (String.ofList (cutD z.toList lo hi))) s else .bad
  | .tup l => .ok (.tup (cutD l lo hi)) s
  | a => match cellT s a with
    | some ns => if wholeB ns.length lo hi = true then .ok a s else .ok (.tup (cutD (ns.map .int) lo hi)) s
    | none => match asL s a with
      | some l => .new (cutD l lo hi) s
      | none => .bad
def truth (s : Sto) : D → Option Bool
  | .non => some false
  | .bl b => some b
  | .int i => some (i != 0)
  | .str z => if z.length ≤ lim then some (z.length != 0) else none
  | .tup l => some (!l.isEmpty)
  | .lst l => some (!l.isEmpty)
  | .ref n => match s[n]? with
    | some (.lst l) => some (!l.isEmpty)
    | _ => none
def toIs : List D → Option (List Int)
  | [] => some []
  | .int i :: l => (toIs l).map (i :: ·)
  | _ => none
def toBs : List D → Option (List Bool)
  | [] => some []
  | .bl b :: l => (toBs l).map (b :: ·)
  | _ => none
def insI (i : Int) : List Int → List Int
  | [] => [i]
  | j :: l => if i ≤ j then i :: j :: l else j :: insI i l
def sortI : List Int → List Int
  | [] => []
  | i :: l => insI i (sortI l)
def lenD : D → Sto → RE
  | .str z, s => if z.length ≤ lim then .ok (.int z.length) s else .bad
  | d, s => match asSqT s d with
    | some l => .ok (.int l.length) s
    | none => .bad
def toSs : List D → Option (List String)
  | [] => some []
  | .str i :: l => (toSs l).map (i :: ·)
  | _ => none
def insS (i : String) : List String → List String
  | [] => [i]
  | j :: l => if j < i then j :: insS i l else i :: j :: l
def sortS : List String → List String
  | [] => []
  | i :: l => insS i (sortS l)
def keysS : List (DK × D) → Option (List String)
  | [] => some []
  | (.str z, _) :: l => (keysS l).map (z :: ·)
  | _ => none
def sortK (o : Option (Nat × List (DK × D))) (s : Sto) : RE := match o with
  | some (_, kvs) => match keysS kvs with
    | some zs => if zs.length < 64 then .new ((sortS zs).map .str) s else .bad
    | none => .bad
  | none => .bad
/-! tuples: a text, then ints -/
def txOf : D → Option (String × List Int)
  | .tup (.str z :: r) => (toIs r).map fun is => (z, is)
  | _ => none
def toTx : List D → Option (List (String × List Int))
  | [] => some []
  | d :: l => match txOf d, toTx l with
    | some p, some r => some (p :: r)
    | _, _ => none
def keyT : D → String
  | .tup (.str z :: _) => z
  | _ => ""
def insT (d : D) : List D → List D
  | [] => [d]
  | e :: l => if keyT e < keyT d then e :: insT d l else d :: e :: l
def sortT : List D → List D
  | [] => []
  | d :: l => insT d (sortT l)
/-- one text, one tuple -/
def sameT (l : List (String × List Int)) : Bool := l.all fun p => l.all fun q => !(p.1 == q.1) || p.2 == q.2
def sortL (l : List D) (s : Sto) : RE := match toIs l with
  | some ns => .new ((sortI ns).map .int) s
  | none => match toSs l with
    | some zs => if zs.length < 64 then .new ((sortS zs).map .str) s else .bad
    | none => match toTx l with
      | some ps => if sameT ps = true then .new (sortT l) s else .bad
      | none => .bad
def sortU (d : D) (s : Sto) : RE := match asL s d with
  | some l => sortL l s
  | none => sortK (cellK s d) s
def sortD (d : D) (s : Sto) : RE := match d with
  | .tup l => (match toIs l with
    | some ns => .new ((sortI ns).map .int) s
    | none => .bad)
  | d => sortU d s
def allD (d : D) (s : Sto) : RE := match asL s d with
  | some l => match toBs l with
    | some bs => .ok (.bl (bs.all id)) s
    | none => .bad
  | none => .bad
def intD : D → Sto → RE
  | .int i, s => .ok (.int i) s
  | .bl b, s => .ok (.int (if b then 1 else 0)) s
  | .str z, s => if z.length ≤ 640 then (match intS z.toList with
    | some i => .ok (.int i) s
    | none => .bad) else .bad
  | _, _ => .bad
def strD : D → Sto → RE
  | .int i, s => if i.natAbs.log2 < 1920 then .ok (.str (toString i)) s else .bad
  | _, _ => .bad
def maxD : D → D → Sto → RE
  | .int i, .int j, s => .ok (.int (if j > i then j else i)) s
  | _, _, _ => .bad
def minD : D → D → Sto → RE
  | .int i, .int j, s => .ok (.int (if j < i then j else i)) s
  | _, _, _ => .bad
/-- the greatest of some -/
def maxI : List Int → Option Int
  | [] => none
  | i :: l => match maxI l with
    | none => some i
    | some j => some (if j > i then j else i)
def max1D (d : D) (s : Sto) : RE := match asL s d with
  | some l => match toIs l with
    | some ns => (match maxI ns with
      | some m => .ok (.int m) s
      | none => .bad)
    | none => .bad
  | none => .bad
def dictD (d : D) (s : Sto) : RE := match cellK s d with
  | some (_, kvs) => .ok (.ref s.length) (s ++ [.dct kvs])
  | none => .bad
def keyV : DK → D
  | .int i => .int i
  | .str z => .str z
def tupleD (d : D) (s : Sto) : RE := match asSq s d with
  | some l => .ok (.tup l) s
  | none => .bad
def listD (d : D) (s : Sto) : RE := match asSqT s d with
  | some l => .new l s
  | none => (match cellK s d with
    | some (_, kvs) => .new (kvs.map fun kv => keyV kv.1) s
    | none => .bad)
def tupND (d : D) (s : Sto) : RE := match asL s d with
  | some l => (match toIs l with
    | some ns => .ok (.ref s.length) (s ++ [.tpc ns])
    | none => .bad)
  | none => .bad
def biD : Bi → List D → Sto → RE
  | .tupN, [d], s => tupND d s
  | .len, [d], s => lenD d s
  | .tuple, [d], s => tupleD d s
  | .list, [d], s => listD d s
  | .sorted, [d], s => sortD d s
  | .max, [d, e], s => maxD d e s
  | .max, [d], s => max1D d s
  | .dict, [d], s => dictD d s
  | .min, [d, e], s => minD d e s
  | .all, [d], s => allD d s
  | .int, [d], s => intD d s
  | .str, [d], s => strD d s
  | _, _, _ => .bad
/-- what stands at a ref to a list -/
def cellL (s : Sto) : D → Option (Nat × List D)
  | .ref n => match s[n]? with
    | some (.lst l) => some (n, l)
    | _ => none
  | _ => none
def metD : Me → D → List D → Sto → RE
  | .append, o, [d], s => match cellL s o with
    | some (n, l) => if l.length < lim then .ok .non (s.set n (.lst (l ++ [d]))) else .bad
    | none => .bad
  | .tcount, o, [.int k], s => match cellT s o with
    | some ns => .ok (.int (ns.count k)) s
    | none => .bad
  | .reverse, o, [], s => match cellL s o with
    | some (n, l) => .ok .non (s.set n (.lst l.reverse))
    | none => .bad
  | .clear, o, [], s => match cellL s o with
    | some (n, _) => .ok .non (s.set n (.lst []))
    | none => .bad
  | .pop, o, [.int i], s => match cellL s o with
    | some (n, l) => if 0 ≤ i ∧ i < 2 ^ 40 then (match l[i.toNat]? with
      | some d => .ok d (s.set n (.lst (l.eraseIdx i.toNat)))
      | none => .bad) else .bad
    | none => .bad
  | .sfind, .str a, [.str b], s => match b.toList with
    | [c] => .ok (.int (findC c a.toList 0)) s
    | _ => .bad
  | .supper, .str a, [], s => if (a.toList.all fun c => decide (c.toNat < 128)) = true ∧ a.length ≤ lim then .ok (.str (String.ofList (a.toList.map upC))) s else .bad
  | .sjoin, .str a, [d], s => match asL s d with
    | some l => (match toSs l with
      | some zs => if (zs.map String.length).sum + zs.length * a.length ≤ lim then .ok (.str (String.ofList (joinC a.toList (zs.map String.toList)))) s else .bad
      | none => .bad)
    | none => .bad
  | .ssplit, .str a, [.str b], s => match b.toList with
    | [c] => if c.toNat < 256 ∧ a.length + 2 ≤ lim then .new ((cutC c [] a.toList).map fun l => .str (String.ofList l)) s else .bad
    | _ => .bad
  | .slstrip, .str a, [.str b], s => match b.toList with
    | [c] => if a.length ≤ lim then .ok (.str (String.ofList (a.toList.dropWhile fun x => decide (x = c)))) s else .bad
    | _ => .bad
  | .count, o, [.str k], s => match asL s o with
    | some l => (match toSs l with
      | some zs => .ok (.int (zs.count k)) s
      | none => .bad)
    | none => .bad
  | .pop, o, [], s => match cellL s o with
    | some (n, l) => match l.getLast? with
      | some d => .ok d (s.set n (.lst l.dropLast))
      | none => .bad
    | none => .bad
  | .remove, o, [d], s => match cellL s o, d with
    | some (n, l), .int k => match toIs l with
      | some ns => if k ∈ ns then .ok .non (s.set n (.lst ((ns.erase k).map .int))) else .bad
      | none => .bad
    | _, _ => .bad
  | .count, o, [d], s => match asL s o, d with
    | some l, .int k => match toIs l with
      | some ns => .ok (.int (ns.count k)) s
      | none => .bad
    | _, _ => .bad
  | .get, o, [k, x], s => match cellK s o, keyD k with
    | some (_, kvs), some k => .ok ((valD kvs k).getD x) s
    | _, _ => .bad
  | .setd, o, [k, x], s => match cellK s o, keyD k with
    | some (n, kvs), some k => (match valD kvs k with
      | some d => if kvs.length < lim then .ok d s else .bad
      | none => if kvs.length < lim then .ok x (s.set n (.dct (putD kvs k x))) else .bad)
    | _, _ => .bad
  | _, _, _, _ => .bad
def isTxt : D → Bool
  | .str _ => true
  | _ => false
/-- what has such a method -/
def recvOk (m : Me) (s : Sto) (d : D) : Bool := match m with
  | .get => (cellK s d).isSome
  | .tcount => (cellT s d).isSome
  | .setd => (cellK s d).isSome
  | .sfind => isTxt d
  | .supper => isTxt d
  | .sjoin => isTxt d
  | .ssplit => isTxt d
  | .slstrip => isTxt d
  | _ => (asL s d).isSome
def isTy : D → Ty → Bool
  | .bl _, .bool => true
  | .bl _, .int => true
  | .int _, .int => true
  | .str _, .str => true
  | .tup _, .tuple => true
  | .lst _, .list => true
  | .ref _, .list => true
  | _, _ => false
def typed (s : Sto) : D → Bool
  | .ref n => match s[n]? with
    | some (.lst _) => true
    | _ => false
  | _ => true
/-- the items that a loop walks; a cell that must stay as it is meanwhile -/
abbrev Guard := Option (Nat × List D)
def Guard.ok (g : Guard) (s : Sto) : Prop := match g with
  | none => True
  | some (n, l) => s[n]? = some (.lst l)
def rangeD (a b : Int) : List D := (List.range (b - a).toNat).map fun i => .int (a + (i : Nat))
def smallI (i : Int) : Prop := -(2 ^ 40) ≤ i ∧ i ≤ 2 ^ 40
instance (i : Int) : Decidable (smallI i) := by unfold smallI; infer_instance
def enumD : Nat → List D → List D
  | _, [] => []
  | i, d :: l => .tup [.int i, d] :: enumD (i + 1) l
def zipD : List D → List D → List D
  | a :: x, b :: y => .tup [a, b] :: zipD x y
  | _, _ => []
def seqI : D → Sto → Option (List D × Guard)
  | .tup l, _ => some (l, none)
  | .lst l, _ => some (l, none)
  | .str z, _ => some (z.toList.map fun c => .str (String.ofList [c]), none)
  | .ref n, s => match s[n]? with
    | some (.lst l) => some (l, some (n, l))
    | _ => none
  | _, _ => none
def rng1I : D → Option (List D × Guard)
  | .int j => if smallI j then some (rangeD 0 j, none) else none
  | _ => none
def rng2I : D → D → Option (List D × Guard)
  | .int i, .int j => if smallI i ∧ smallI j then some (rangeD i j, none) else none
  | _, _ => none
def enumI : D → Sto → Option (List D × Guard)
  | .tup l, _ => some (enumD 0 l, none)
  | .lst l, _ => some (enumD 0 l, none)
  | .ref n, s => match s[n]? with
    | some (.lst l) => some (enumD 0 l, some (n, l))
    | _ => none
  | _, _ => none
def zipI : D → D → Option (List D × Guard)
  | .tup l, .tup m => some (zipD l m, none)
  | .lst l, .lst m => some (zipD l m, none)
  | _, _ => none
def items : ItK → List D → Sto → Option (List D × Guard)
  | .seq, [d], s => seqI d s
  | .range1, [d], _ => rng1I d
  | .range2, [d, e], _ => rng2I d e
  | .enum, [d], s => enumI d s
  | .zip, [d, e], _ => zipI d e
  | _, _, _ => none
def bindT : List Nat → D → Env → Option Env
  | [i], d, ρ => some (ρ.set i (some d))
  | [i, j], .tup [a, b], ρ => some ((ρ.set i (some a)).set j (some b))
  | [i, j, k], .tup [a, b, c], ρ => some (((ρ.set i (some a)).set j (some b)).set k (some c))
  | [i, j, k, l], .tup [a, b, c, d], ρ => some ((((ρ.set i (some a)).set j (some b)).set k (some c)).set l (some d))
  | _, _, _ => none

def lookF (f : String) : List (String × D) → Option D
  | [] => none
  | (g, d) :: fs => if f = g then some d else lookF f fs
def putF (f : String) (d : D) : List (String × D) → List (String × D)
  | [] => [(f, d)]
  | (g, e) :: fs => if g = f then (g, d) :: fs else (g, e) :: putF f d fs

structure Ctx where
  call : String → List D → Sto → RE
  att : String → String → Bool
  met : String → String → Bool
  make : String → List D → Sto → RE
  wfuel : Nat
  sub : String → String → Option Bool
  xf : String → String → Option D

open Classical in
/-- [fe for tg in l if fc] -/
noncomputable def compLoop (fc : Env → Sto → RB) (fe : Env → Sto → RE) (tg : List Nat) (g : Guard) (ρ : Env) : List D → Sto → RL
  | [], s => if g.ok s then .ok [] s else .bad
  | d :: l, s => if g.ok s then match bindT tg d ρ with
      | none => .bad
      | some ρ' => (match fc ρ' s with
        | .ok false s => compLoop fc fe tg g ρ l s
        | .ok true s => (match fe ρ' s with
          | .ok x s => (compLoop fc fe tg g ρ l s).bindL fun r s => .ok (x :: r) s
          | .new x s => (compLoop fc fe tg g ρ l s).bindL fun r s => .ok (.lst x :: r) s
          | _ => .bad)
        | _ => .bad)
    else .bad
open Classical in
/-- [fe for tg in l], which may end in an exception -/
noncomputable def compLoopX (fe : Env → Sto → RE) (tg : List Nat) (g : Guard) (ρ : Env) : List D → Sto → RL
  | [], s => if g.ok s then .ok [] s else .bad
  | d :: l, s => if g.ok s then match bindT tg d ρ with
      | none => .bad
      | some ρ' => (fe ρ' s).bindL fun x s => (compLoopX fe tg g ρ l s).bindL fun r s => .ok (x :: r) s
    else .bad
/-- the block's own names forgotten -/
def wipeE (ρ : Env) : List Nat → Env
  | [] => ρ
  | v :: vs => (wipeE ρ vs).set v none

/-- a new list comes to be a cell -/
def boxE : RE → RE
  | .new l s => .ok (.ref s.length) (s ++ [.lst l])
  | r => r
mutual
noncomputable def evalE (C : Ctx) : E → Env → Sto → RE
  | .var i, ρ, s => match ρ[i]? with
    | some (some d) => .ok d s
    | _ => .bad
  | .con d, _, s => .ok d s
  | .tup es, ρ, s => (evalEs C es ρ s).bind fun l s => if l.length ≤ lim then .ok (.tup l) s else .bad
  | .lst es, ρ, s => (evalEs C es ρ s).bind fun l s => if l.length ≤ lim then .new l s else .bad
  | .bin o a b, ρ, s => (evalE C a ρ s).bind fun x s => (evalE C b ρ s).bind fun y s => binD o x y s
  | .neg a, ρ, s => (evalE C a ρ s).bind fun x s => match x with
    | .int i => .ok (.int (-i)) s
    | _ => .bad
  | .not a, ρ, s => (evalE C a ρ s).bind fun x s => match truth s x with
    | some k => .ok (.bl (!k)) s
    | none => .bad
  | .and a b, ρ, s => (evalE C a ρ s).bind fun x s => match truth s x with
    | some true => evalE C b ρ s
    | some false => .ok x s
    | none => .bad
  | .or a b, ρ, s => (evalE C a ρ s).bind fun x s => match truth s x with
    | some true => .ok x s
    | some false => evalE C b ρ s
    | none => .bad
  | .ite c a b, ρ, s => (evalE C c ρ s).bind fun x s => match truth s x with
    | some true => evalE C a ρ s
    | some false => evalE C b ρ s
    | none => .bad
  | .cmp o a b, ρ, s => (evalE C a ρ s).bind fun x s => (evalE C b ρ s).bind fun y s => cmpE o x y s
  | .cmp2 o p a b c, ρ, s => (evalE C a ρ s).bind fun x s => (evalE C b ρ s).bind fun y s => match cmpD o x y s with
    | none => .bad
    | some false => .ok (.bl false) s
    | some true => (evalE C c ρ s).bind fun z s => cmpE p y z s
  | .idx a i, ρ, s => (evalE C a ρ s).bind fun x s => (evalE C i ρ s).bind fun y s => idxD x y s
  | .slice a lo hi, ρ, s => (evalE C a ρ s).bind fun x s => (evalEs C lo ρ s).bind fun l s => match part l with
    | none => .bad
    | some lo => (evalEs C hi ρ s).bind fun h s => match part h with
      | none => .bad
      | some hi => sliceD x lo hi s
  | .call f es, ρ, s => (evalEs C es ρ s).bind fun l s => C.call f l s
  | .bi b es, ρ, s => (evalEs C es ρ s).bind fun l s => biD b l s
  | .met m o es, ρ, s => (evalE C o ρ s).bind fun x s => if recvOk m s x = true then (evalEs C es ρ s).bind fun l s => metD m x l s else .bad
  | .isi a ts, ρ, s => (evalE C a ρ s).bind fun x s => if typed s x = true then .ok (.bl (ts.any fun t => isTy x t)) s else .bad
  | .comp elt tg k its cs, ρ, s => (evalEs C its ρ s).bind fun l s => match items k l s with
    | none => .bad
    | some (ds, g) => if ds.length ≤ lim then (match compLoop (fun ρ s => evalTs C cs ρ s) (fun ρ s => evalE C elt ρ s) tg g (wipeE ρ tg) ds s with
      | .ok r s => .new r s
      | _ => .bad) else .bad
  | .compX elt tg k its, ρ, s => (evalEs C its ρ s).bind fun l s => match items k l s with
    | none => .bad
    | some (ds, g) => if ds.length ≤ lim then (match compLoopX (fun ρ s => evalE C elt ρ s) tg g (wipeE ρ tg) ds s with
      | .ok r s => .new r s
      | .exn c s => .exn c s
      | .bad => .bad) else .bad
  | .attr a f, ρ, s => (evalE C a ρ s).bind fun x s => match x with
    | .ref n => match s[n]? with
      | some (.ins c fs) => if C.att c f = true then (match lookF f fs with
        | some d => .ok d s
        | none => .bad) else .bad
      | _ => .bad
    | _ => .bad
  | .umet m o es, ρ, s => (evalE C o ρ s).bind fun x s => match x with
    | .ref n => match s[n]? with
      | some (.ins c fs) => if C.met c m = true then (match lookF m fs with
        | none => (evalEs C es ρ s).bind fun l s => C.call (c ++ "." ++ m) (.ref n :: l) s
        | some _ => .bad) else .bad
      | _ => .bad
    | _ => .bad
  | .mk c es, ρ, s => (evalEs C es ρ s).bind fun l s => C.make c l s
  | .dnew, _, s => .ok (.ref s.length) (s ++ [.dct []])
  | .rev a, ρ, s => (evalE C a ρ s).bind fun x s => revD x s
  | .box a, ρ, s => boxE (evalE C a ρ s)
  | .ddisp ks es, ρ, s => (evalEs C es ρ s).bind fun l s => if l.length = ks.length ∧ ks.Nodup then .ok (.ref s.length) (s ++ [.dct ((ks.map DK.str).zip l)]) else .bad
noncomputable def evalEs (C : Ctx) : List E → Env → Sto → RL
  | [], _, s => .ok [] s
  | e :: es, ρ, s => (evalE C e ρ s).bindL fun d s => (evalEs C es ρ s).bindL fun l s => .ok (d :: l) s
/-- the tests of a comprehension -/
noncomputable def evalTs (C : Ctx) : List E → Env → Sto → RB
  | [], _, s => .ok true s
  | e :: es, ρ, s => (evalE C e ρ s).bindB fun x s => match truth s x with
    | some true => evalTs C es ρ s
    | some false => .ok false s
    | none => .bad
end
/-- as a test -/
noncomputable def evalT (C : Ctx) (e : E) (ρ : Env) (s : Sto) : RB := (evalE C e ρ s).bindB fun x s => match truth s x with
  | some k => .ok k s
  | none => .bad

/-! ### statements -/
/-- how a handler of an exception asks: of the class of what was caught -/
inductive HE where
  | var (i : Nat)
  | con (d : D)
  | not (a : HE)
  | and (a b : HE)
  | or (a b : HE)
  | isNone (i : Nat)
  | isx (i : Nat) (cs : List String)
  | xcall (f : String) (i : Nat)
  | pick (ss : List String) (b : HE)
inductive HS where
  | ret (e : HE)
  | retL
  | iff (c : HE) (a : List HS)
/-- the classes of exceptions: which one is below which -/
def isAny (sub : String → String → Option Bool) (c : String) : List String → Option Bool
  | [] => some false
  | k :: ks => match sub c k with
    | some true => some true
    | some false => isAny sub c ks
    | none => none
def varH (ρ : Env) (j : Nat) : Option D := match ρ[j]? with
  | some (some d) => if flat d then some d else none
  | _ => none
def evalH (sub : String → String → Option Bool) (xf : String → String → Option D) (i : Option Nat) (c : String) (ρ : Env) : HE → Option D
  | .var j => varH ρ j
  | .con d => if flat d then some d else none
  | .not a => match evalH sub xf i c ρ a with
    | some (.bl b) => some (.bl (!b))
    | _ => none
  | .and a b => match evalH sub xf i c ρ a with
    | some (.bl true) => evalH sub xf i c ρ b
    | some (.bl false) => some (.bl false)
    | _ => none
  | .or a b => match evalH sub xf i c ρ a with
    | some (.bl true) => some (.bl true)
    | some (.bl false) => evalH sub xf i c ρ b
    | _ => none
  | .isNone j => match ρ[j]? with
    | some (some .non) => some (.bl true)
    | some (some _) => some (.bl false)
    | _ => none
  | .isx j cs => if i = some j then (match isAny sub c cs with
    | some b => some (.bl b)
    | none => none) else none
  | .xcall f j => if i = some j then (match xf f c with
    | some d => if flat d then some d else none
    | none => none) else none
  | .pick ss b => match evalH sub xf i c ρ b with
    | some (.bl k) => (match ss[(if k then 1 else 0)]? with
      | some z => some (.str z)
      | none => none)
    | _ => none
inductive HR where
  | ret (d : D)
  | retL
  | next
mutual
def runH (sub : String → String → Option Bool) (xf : String → String → Option D) (i : Option Nat) (c : String) (ρ : Env) : HS → Option HR
  | .ret e => match evalH sub xf i c ρ e with
    | some d => some (.ret d)
    | none => none
  | .retL => some .retL
  | .iff t a => match evalH sub xf i c ρ t with
    | some (.bl true) => runHs sub xf i c ρ a
    | some (.bl false) => some .next
    | _ => none
def runHs (sub : String → String → Option Bool) (xf : String → String → Option D) (i : Option Nat) (c : String) (ρ : Env) : List HS → Option HR
  | [] => some .next
  | s :: ss => match runH sub xf i c ρ s with
    | some .next => runHs sub xf i c ρ ss
    | r => r
end
inductive S where
  | asg (i : Nat) (e : E)
  | asgB (i : Nat) (e : E)
  | unp (is : List Nat) (e : E)
  | sub (o k e : E)
  | fld (o : E) (f : String) (e : E)
  | expr (e : E)
  | ret (e : E)
  | retN
  | if_ (c : E) (a b : List S)
  | for_ (tg : List Nat) (k : ItK) (its : List E) (body : List S)
  | while_ (c : E) (body : List S)
  | raise (c : String)
  | brk
  | cont
  | pass
  | tryAs (body : List S) (cls : String) (i : Nat) (hs : List HS)
  | tryM (body : List S) (cl : List (String × List HS))
inductive RS where
  | next (ρ : Env) (s : Sto)
  | ret (d : D) (s : Sto)
  | retN (l : List D) (s : Sto)
  | brk (ρ : Env) (s : Sto)
  | cont (ρ : Env) (s : Sto)
  | exn (c : String) (ρ : Env) (s : Sto)
  | bad
/-- an expression's value into a statement -/
def RE.st (r : RE) (ρ : Env) (f : D → Sto → RS) : RS := match r with
  | .ok d s => f d s
  | .new l s => f (.lst l) s
  | .exn c s => .exn c ρ s
  | .bad => .bad
def RB.st (r : RB) (ρ : Env) (f : Bool → Sto → RS) : RS := match r with
  | .ok b s => f b s
  | .exn c s => .exn c ρ s
  | .bad => .bad
def RL.st (r : RL) (ρ : Env) (f : List D → Sto → RS) : RS := match r with
  | .ok l s => f l s
  | .exn c s => .exn c ρ s
  | .bad => .bad
def RS.seq (r : RS) (f : Env → Sto → RS) : RS := match r with
  | .next ρ s => f ρ s
  | r => r
open Classical in
noncomputable def forLoop (fb : Env → Sto → RS) (tg : List Nat) (g : Guard) : List D → Env → Sto → RS
  | [], ρ, s => if g.ok s then .next ρ s else .bad
  | d :: l, ρ, s => if g.ok s then match bindT tg d ρ with
      | none => .bad
      | some ρ' => (match fb ρ' s with
        | .next ρ s => forLoop fb tg g l ρ s
        | .cont ρ s => forLoop fb tg g l ρ s
        | .brk ρ s => .next ρ s
        | r => r)
    else .bad
def whileLoop (fc : Env → Sto → RB) (fb : Env → Sto → RS) : Nat → Env → Sto → RS
  | 0, _, _ => .bad
  | n + 1, ρ, s => (fc ρ s).st ρ fun k s => if k = true then (match fb ρ s with
      | .next ρ s => whileLoop fc fb n ρ s
      | .cont ρ s => whileLoop fc fb n ρ s
      | .brk ρ s => .next ρ s
      | r => r) else .next ρ s
def setC (s : Sto) (n : Nat) (k d : D) : Option Cell → Option Sto
  | some (.lst l) => (match k with
    | .int i => if 0 ≤ i ∧ i < l.length then some (s.set n (.lst (l.set i.toNat d))) else none
    | _ => none)
  | some (.dct kvs) => (match keyD k with
    | some k => if kvs.length < lim then some (s.set n (.dct (putD kvs k d))) else none
    | none => none)
  | _ => none
def setAt (s : Sto) (o k d : D) : Option Sto := match o with
  | .ref n => setC s n k d s[n]?
  | _ => none
/-- behind a handler -/
def endH (r : Option HR) (ρ : Env) (s : Sto) : RS := match r with
  | some (.ret d) => .ret d s
  | some .retL => .retN [] s
  | some .next => .next ρ s
  | none => .bad
def catchAs (C : Ctx) (cls : String) (i : Nat) (hs : List HS) (r : RS) : RS := match r with
  | .exn c ρ s => (match C.sub c cls with
    | some true => if i < ρ.length then endH (runHs C.sub C.xf (some i) c (ρ.set i none) hs) (ρ.set i none) s else .bad
    | some false => .exn c ρ s
    | none => .bad)
  | r => r
def catchL (C : Ctx) (c : String) (ρ : Env) (s : Sto) : List (String × List HS) → RS
  | [] => .exn c ρ s
  | (k, hs) :: cl => match C.sub c k with
    | some true => endH (runHs C.sub C.xf none c ρ hs) ρ s
    | some false => catchL C c ρ s cl
    | none => .bad
def catchM (C : Ctx) (cl : List (String × List HS)) (r : RS) : RS := match r with
  | .exn c ρ s => catchL C c ρ s cl
  | r => r
mutual
noncomputable def exec (C : Ctx) : S → Env → Sto → RS
  | .asg i e, ρ, s => (evalE C e ρ s).st ρ fun d s => .next (ρ.set i (some d)) s
  | .asgB i e, ρ, s => match evalE C e ρ s with
    | .new l s => .next (ρ.set i (some (.ref s.length))) (s ++ [.lst l])
    | .ok d s => .next (ρ.set i (some d)) s
    | .exn c s => .exn c ρ s
    | .bad => .bad
  | .unp is e, ρ, s => (evalE C e ρ s).st ρ fun d s => match bindT is d ρ with
    | some ρ => .next ρ s
    | none => .bad
  | .sub o k e, ρ, s => (evalE C e ρ s).st ρ fun d s => (evalE C o ρ s).st ρ fun x s => (evalE C k ρ s).st ρ fun y s => match setAt s x y d with
    | some s => .next ρ s
    | none => .bad
  | .fld o f e, ρ, s => (evalE C e ρ s).st ρ fun d s => (evalE C o ρ s).st ρ fun x s => match x with
    | .ref n => match s[n]? with
      | some (.ins c fs) => if C.att c f = true ∧ fs.length < 100 then .next ρ (s.set n (.ins c (putF f d fs))) else .bad
      | _ => .bad
    | _ => .bad
  | .expr e, ρ, s => (evalE C e ρ s).st ρ fun _ s => .next ρ s
  | .ret e, ρ, s => match evalE C e ρ s with
    | .new l s => .retN l s
    | .ok d s => .ret d s
    | .exn c s => .exn c ρ s
    | .bad => .bad
  | .retN, _, s => .ret .non s
  | .if_ c a b, ρ, s => (evalT C c ρ s).st ρ fun k s => if k = true then execs C a ρ s else execs C b ρ s
  | .for_ tg k its body, ρ, s => (evalEs C its ρ s).st ρ fun l s => match items k l s with
    | none => .bad
    | some (ds, g) => forLoop (fun ρ s => execs C body ρ s) tg g ds ρ s
  | .while_ c body, ρ, s => whileLoop (fun ρ s => evalT C c ρ s) (fun ρ s => execs C body ρ s) C.wfuel ρ s
  | .raise c, ρ, s => .exn c ρ s
  | .brk, ρ, s => .brk ρ s
  | .cont, ρ, s => .cont ρ s
  | .pass, ρ, s => .next ρ s
  | .tryAs body cls i hs, ρ, s => catchAs C cls i hs (execs C body ρ s)
  | .tryM body cl, ρ, s => catchM C cl (execs C body ρ s)
noncomputable def execs (C : Ctx) : List S → Env → Sto → RS
  | [], ρ, s => .next ρ s
  | st :: sts, ρ, s => (exec C st ρ s).seq fun ρ s => execs C sts ρ s
end

/-! ### programs -/
structure FDef where
  np : Nat
  nv : Nat
  body : List S
structure Prog where
  fn : String → Option FDef
  att : String → String → Bool
  met : String → String → Bool
  cls : String → Bool
  sub : String → String → Option Bool
  xfn : String → Option (List HS)
/-- what a def of exceptions says of a class -/
def Prog.xf (P : Prog) (f c : String) : Option D := match P.xfn f with
  | some b => (match runHs P.sub (fun _ _ => none) (some 0) c [none] b with
    | some (.ret d) => some d
    | _ => none)
  | none => none
/-- no cell of the entry's names a newer one -/
def keptOk (s s' : Sto) : Prop := s.length ≤ s'.length ∧ ∀ i, i < s.length → s'[i]? = s[i]? ∨ ∃ c, s'[i]? = some c ∧ c.under s.length
open Classical in
/-- a call's end: the cells that nobody can reach any more are dropped; a list that is the call's own is handed out as a new one -/
noncomputable def finish (s : Sto) : RS → RE
  | .ret d s' => if keptOk s s' then
      (if d.under s.length then .ok d (s'.take s.length) else match d with
        | .ref j => (match s'[j]? with
          | some (.lst l) => if (D.lst l).under s.length then .new l (s'.take s.length) else .ok d s'
          | _ => .ok d s')
        | d => .ok d s')
    else .ok d s'
  | .retN l s' => if keptOk s s' ∧ (D.lst l).under s.length then .new l (s'.take s.length) else .new l s'
  | .next _ s' => if keptOk s s' then .ok .non (s'.take s.length) else .ok .non s'
  | .exn c _ s' => if keptOk s s' then .exn c (s'.take s.length) else .exn c s'
  | _ => .bad
/-- an object is made -/
def makeR (P : Prog) (r : String → List D → Sto → RE) (c : String) (l : List D) (s : Sto) : RE := if P.cls c = true then (match r (c ++ "." ++ "__init__") (.ref s.length :: l) (s ++ [.ins c []]) with
  | .ok .non s' => .ok (.ref s.length) s'
  | .exn c s' => .exn c s'
  | _ => .bad) else .bad
def ctxOf (P : Prog) (wf : Nat) (r : String → List D → Sto → RE) : Ctx := ⟨r, P.att, P.met, makeR P r, wf, P.sub, P.xf⟩
def startE (fd : FDef) (ds : List D) : Env := ds.map some ++ List.replicate (fd.nv - ds.length) none
noncomputable def run (P : Prog) (wf : Nat) : Nat → String → List D → Sto → RE
  | 0, _, _, _ => .bad
  | n + 1, f, ds, s => match P.fn f with
    | none => .bad
    | some fd => if ds.length = fd.np then finish s (execs (ctxOf P wf (run P wf n)) fd.body (startE fd ds) s) else .bad
end KL

set_option Elab.async false
set_option linter.all false
set_option maxRecDepth 100000
/-! KLRep: how values, cells and environments stand in the layer's abstract heap. -/
namespace KL
open PySem PySem.Spec PyProof.Rows L2

abbrev toS (s : String) : Str := Str.ofString s

/-- where the cells stand; lists that are just being made, which nobody reads -/
structure Th where
  c : List Addr
  b : List Addr := []
instance : Membership Addr Th := ⟨fun θ a => a ∈ θ.c ∨ a ∈ θ.b⟩
theorem Th.mem {θ : Th} {a : Addr} : a ∈ θ ↔ a ∈ θ.c ∨ a ∈ θ.b := Iff.rfl
mutual
inductive Rep (θ : Th) (H : Hp) : D → V → Prop
  | non : Rep θ H .non .non
  | bl (b : Bool) : Rep θ H (.bl b) (.bl b)
  | int (i : Int) : Rep θ H (.int i) (.int i)
  | str (z : String) : Rep θ H (.str z) (.str (toS z))
  | tup {a : Addr} {ds : List D} {vs : List V} : Rd H a (.tup vs) → a ∉ θ → Reps θ H ds vs → Rep θ H (.tup ds) (.ref a)
  | lst {a : Addr} {ds : List D} {vs : List V} : Rd H a (.lst vs) → a ∉ θ → Reps θ H ds vs → Rep θ H (.lst ds) (.ref a)
  | ref {n : Nat} {a : Addr} : θ.c[n]? = some a → Rep θ H (.ref n) (.ref a)
inductive Reps (θ : Th) (H : Hp) : List D → List V → Prop
  | nil : Reps θ H [] []
  | cons {d : D} {ds : List D} {v : V} {vs : List V} : Rep θ H d v → Reps θ H ds vs → Reps θ H (d :: ds) (v :: vs)
end

/-- what may have come of a heap meanwhile -/
structure Ext0 (θ : Th) (H : Hp) (θ' : Th) (H' : Hp) : Prop where
  pre : ∃ t, θ'.c = θ.c ++ t
  sub : ∀ a ∈ θ.b, a ∈ θ'.b
  keep : ∀ a o, H a = some o → a ∉ θ → H' a = some o
  new : ∀ a, a ∈ θ' → a ∉ θ → H a = none
/-- .. where what is being made stays as it is -/
structure Ext (θ : Th) (H : Hp) (θ' : Th) (H' : Hp) : Prop extends Ext0 θ H θ' H' where
  b : θ'.b = θ.b
  ban : ∀ a ∈ θ.b, H' a = H a
theorem Ext0.refl (θ : Th) (H : Hp) : Ext0 θ H θ H := ⟨⟨[], by simp⟩, fun _ h => h, fun _ _ h _ => h, fun _ h n => absurd h n⟩
theorem Ext.refl (θ : Th) (H : Hp) : Ext θ H θ H := ⟨Ext0.refl θ H, rfl, fun _ _ => rfl⟩
section
variable {θ θ' θ1 θ2 : Th} {H H' H1 H2 : Hp}
theorem Ext0.mem (x : Ext0 θ H θ' H') {a : Addr} (h : a ∈ θ) : a ∈ θ' := by
  obtain ⟨t, e⟩ := x.pre
  rcases h with h | h
  · exact .inl (by rw [e]; exact List.mem_append_left _ h)
  · exact .inr (x.sub a h)
theorem Ext0.out (x : Ext0 θ H θ' H') {a : Addr} {o : HO} (h : H a = some o) (n : a ∉ θ) : a ∉ θ' := fun m => by
  rw [x.new a m n] at h
  cases h
theorem Ext0.trans (x : Ext0 θ H θ1 H1) (y : Ext0 θ1 H1 θ2 H2) : Ext0 θ H θ2 H2 where
  pre := by
    obtain ⟨t, e⟩ := x.pre
    obtain ⟨u, e2⟩ := y.pre
    exact ⟨t ++ u, by rw [e2, e, List.append_assoc]⟩
  sub := fun a h => y.sub a (x.sub a h)
  keep := fun a o h n => y.keep a o (x.keep a o h n) (x.out h n)
  new := fun a h n => by
    by_cases m : a ∈ θ1
    · exact x.new a m n
    · cases q : H a with
      | none => rfl
      | some o =>
        have := y.new a h m
        rw [x.keep a o q n] at this
        cases this
theorem Ext.trans (x : Ext θ H θ1 H1) (y : Ext θ1 H1 θ2 H2) : Ext θ H θ2 H2 :=
  ⟨x.toExt0.trans y.toExt0, y.b.trans x.b, fun a h => (y.ban a (by rw [x.b]; exact h)).trans (x.ban a h)⟩
theorem Ext0.get (x : Ext0 θ H θ' H') {n : Nat} {a : Addr} (h : θ.c[n]? = some a) : θ'.c[n]? = some a := by
  obtain ⟨t, e⟩ := x.pre
  rw [e, List.getElem?_append_left (List.getElem?_eq_some_iff.mp h).1]
  exact h
theorem Ext0.rd (x : Ext0 θ H θ' H') {a : Addr} {o : HO} (h : Rd H a o) (n : a ∉ θ) : Rd H' a o ∧ a ∉ θ' := by
  rcases h with h | ⟨ob, h⟩
  · exact ⟨.inl (x.keep _ _ h n), x.out h n⟩
  · exact ⟨.inr ⟨ob, x.keep _ _ h n⟩, x.out h n⟩
mutual
theorem Rep.ext0 (x : Ext0 θ H θ' H') : ∀ {d : D} {v : V}, Rep θ H d v → Rep θ' H' d v
  | _, _, .non => .non
  | _, _, .bl b => .bl b
  | _, _, .int i => .int i
  | _, _, .str z => .str z
  | _, _, .tup h n r => .tup (x.rd h n).1 (x.rd h n).2 (Reps.ext0 x r)
  | _, _, .lst h n r => .lst (x.rd h n).1 (x.rd h n).2 (Reps.ext0 x r)
  | _, _, .ref h => .ref (x.get h)
theorem Reps.ext0 (x : Ext0 θ H θ' H') : ∀ {ds : List D} {vs : List V}, Reps θ H ds vs → Reps θ' H' ds vs
  | _, _, .nil => .nil
  | _, _, .cons h t => .cons (Rep.ext0 x h) (Reps.ext0 x t)
end
theorem Rep.ext {d : D} {v : V} (h : Rep θ H d v) (x : Ext θ H θ' H') : Rep θ' H' d v := h.ext0 x.toExt0
theorem Reps.ext {d : List D} {v : List V} (h : Reps θ H d v) (x : Ext θ H θ' H') : Reps θ' H' d v := h.ext0 x.toExt0
end
section
variable {θ : Th} {H : Hp}
theorem Reps.length : ∀ {ds : List D} {vs : List V}, Reps θ H ds vs → ds.length = vs.length
  | _, _, .nil => rfl
  | _, _, .cons _ t => congrArg (· + 1) (Reps.length t)
theorem Reps.get : ∀ {ds : List D} {vs : List V} {i : Nat} {d : D}, Reps θ H ds vs → ds[i]? = some d → ∃ v, vs[i]? = some v ∧ Rep θ H d v
  | _, _, _, _, .nil, e => by simp at e
  | _, _, 0, _, .cons r _, e => by
    simp at e
    subst e
    exact ⟨_, rfl, r⟩
  | _, _, i + 1, _, .cons _ t, e => by
    obtain ⟨v, h1, h2⟩ := Reps.get (i := i) t (by simpa using e)
    exact ⟨v, by simpa using h1, h2⟩
theorem Reps.getV : ∀ {ds : List D} {vs : List V} {i : Nat} {v : V}, Reps θ H ds vs → vs[i]? = some v → ∃ d, ds[i]? = some d ∧ Rep θ H d v
  | _, _, _, _, .nil, e => by simp at e
  | _, _, 0, _, .cons r _, e => by
    simp at e
    subst e
    exact ⟨_, rfl, r⟩
  | _, _, i + 1, _, .cons _ t, e => by
    obtain ⟨v, h1, h2⟩ := Reps.getV (i := i) t (by simpa using e)
    exact ⟨v, by simpa using h1, h2⟩
theorem Reps.append : ∀ {ds es : List D} {vs ws : List V}, Reps θ H ds vs → Reps θ H es ws → Reps θ H (ds ++ es) (vs ++ ws)
  | _, _, _, _, .nil, s => s
  | _, _, _, _, .cons r t, s => .cons r (Reps.append t s)
theorem Reps.take : ∀ {ds : List D} {vs : List V} (n : Nat), Reps θ H ds vs → Reps θ H (ds.take n) (vs.take n)
  | _, _, 0, _ => .nil
  | _, _, _ + 1, .nil => .nil
  | _, _, n + 1, .cons r t => .cons r (Reps.take n t)
theorem Reps.drop : ∀ {ds : List D} {vs : List V} (n : Nat), Reps θ H ds vs → Reps θ H (ds.drop n) (vs.drop n)
  | _, _, 0, r => r
  | _, _, _ + 1, .nil => .nil
  | _, _, n + 1, .cons _ t => Reps.drop n t
theorem Reps.set {d : D} {v : V} (r : Rep θ H d v) : ∀ {ds : List D} {vs : List V} (i : Nat), Reps θ H ds vs → Reps θ H (ds.set i d) (vs.set i v)
  | _, _, _, .nil => .nil
  | _, _, 0, .cons _ t => .cons r t
  | _, _, i + 1, .cons q t => .cons q (Reps.set r i t)
theorem Reps.reverse {ds : List D} {vs : List V} (h : Reps θ H ds vs) : Reps θ H ds.reverse vs.reverse := by
  have key : ∀ (ds : List D) (vs : List V) (es : List D) (ws : List V), Reps θ H ds vs → Reps θ H es ws → Reps θ H (ds.reverseAux es) (vs.reverseAux ws) := by
    intro ds
    induction ds with
    | nil => intro vs es ws h1 h2; cases h1; exact h2
    | cons d ds ih => intro vs es ws h1 h2; cases h1 with
      | cons r t =>
        have q := ih _ _ _ t (.cons r h2)
        exact q
  exact key _ _ _ _ h .nil
theorem Reps.dropLast {ds : List D} {vs : List V} (h : Reps θ H ds vs) : Reps θ H ds.dropLast vs.dropLast := by
  rw [List.dropLast_eq_take, List.dropLast_eq_take, h.length]
  exact h.take _
theorem Reps.rep {ds : List D} {vs : List V} (h : Reps θ H ds vs) : ∀ n : Nat, Reps θ H (List.replicate n ds).flatten (List.replicate n vs).flatten
  | 0 => .nil
  | n + 1 => by
    rw [List.replicate_succ, List.replicate_succ, List.flatten_cons, List.flatten_cons]
    exact h.append (Reps.rep h n)
theorem Reps.nil_iff {ds : List D} {vs : List V} (h : Reps θ H ds vs) : ds = [] ↔ vs = [] := by
  cases h with
  | nil => simp
  | cons _ _ => simp
theorem Reps.isEmpty {ds : List D} {vs : List V} (h : Reps θ H ds vs) : ds.isEmpty = vs.isEmpty := by
  cases h <;> rfl
theorem Reps.intsV {l : List D} {vs : List V} (h : Reps θ H l vs) : ∀ {ns : List Int}, toIs l = some ns → vs = ns.map V.int ∧ l = ns.map D.int := by
  induction l generalizing vs with
  | nil =>
    intro ns e
    cases h
    simp [toIs] at e
    subst e
    exact ⟨rfl, rfl⟩
  | cons d l ih =>
    intro ns e
    cases h with
    | cons r t =>
      cases r with
      | int i =>
        simp [toIs] at e
        obtain ⟨ms, e1, rfl⟩ := e
        obtain ⟨rfl, rfl⟩ := ih t e1
        exact ⟨rfl, rfl⟩
      | _ => simp [toIs] at e
theorem Reps.boolsV {l : List D} {vs : List V} (h : Reps θ H l vs) : ∀ {ns : List Bool}, toBs l = some ns → vs = ns.map V.bl ∧ l = ns.map D.bl := by
  induction l generalizing vs with
  | nil =>
    intro ns e
    cases h
    simp [toBs] at e
    subst e
    exact ⟨rfl, rfl⟩
  | cons d l ih =>
    intro ns e
    cases h with
    | cons r t =>
      cases r with
      | bl i =>
        simp [toBs] at e
        obtain ⟨ms, e1, rfl⟩ := e
        obtain ⟨rfl, rfl⟩ := ih t e1
        exact ⟨rfl, rfl⟩
      | _ => simp [toBs] at e
theorem Reps.ofInts (ns : List Int) : Reps θ H (ns.map D.int) (ns.map V.int) := by
  induction ns with
  | nil => exact .nil
  | cons n ns ih => exact .cons (.int n) ih
end

/-! ### texts -/
theorem toS_cps (s : String) : (toS s).cps = (s.toList.map Char.toNat).toArray := by
  show (cpsOfBytes 0 0 s.toByteArray.data.toList).toArray = _
  rw [cpsOfBytes_string]
theorem toS_list (s : String) : (toS s).cps.toList = s.toList.map Char.toNat := by rw [toS_cps]
theorem toS_length (s : String) : (toS s).length = s.length := by
  show (toS s).cps.size = _
  rw [toS_cps, List.size_toArray, List.length_map, String.length_toList]
theorem map_toNat_inj : ∀ {a b : List Char}, a.map Char.toNat = b.map Char.toNat → a = b
  | [], [], _ => rfl
  | [], _ :: _, h => by cases h
  | _ :: _, [], h => by cases h
  | x :: a, y :: b, h => by
    simp only [List.map_cons, List.cons.injEq] at h
    rw [map_toNat_inj h.2, Char.toNat_inj.mp h.1]
theorem toS_inj {a b : String} (h : toS a = toS b) : a = b := by
  have e := congrArg (fun s : Str => s.cps.toList) h
  simp only [toS_list] at e
  exact String.toList_inj.mp (map_toNat_inj e)
theorem toS_beq (a b : String) : (toS a == toS b) = (a == b) := by
  by_cases h : a = b
  · subst h
    simp
  · rw [beq_eq_false_iff_ne.mpr h, beq_eq_false_iff_ne.mpr fun e => h (toS_inj e)]
theorem str_ext {a b : Str} (h : a.cps.toList = b.cps.toList) : a = b := by
  obtain ⟨a⟩ := a
  obtain ⟨b⟩ := b
  exact congrArg Str.mk (Array.toList_inj.mp h)
theorem app_list (a b : Str) : (a ++ b).cps.toList = a.cps.toList ++ b.cps.toList := by
  show (a.cps ++ b.cps).toList = _
  simp
theorem toS_append (a b : String) : toS (a ++ b) = toS a ++ toS b := by
  apply str_ext
  rw [app_list, toS_list, toS_list, toS_list, String.toList_append, List.map_append]
theorem toS_ofList (l : List Char) : toS (String.ofList l) = ⟨(l.map Char.toNat).toArray⟩ := by
  apply str_ext
  rw [toS_list, String.toList_ofList]
theorem strOk_toS (s : String) : PySem.PyData.strOk (toS s) = true := by
  unfold PySem.PyData.strOk
  rw [toS_cps]
  simp only [List.all_toArray, List.all_map, List.all_eq_true, Function.comp_apply, decide_eq_true_eq]
  intro c _
  have h := c.valid
  have e : c.toNat = c.val.toNat := rfl
  rw [e]
  rcases h with h | h
  · have := h; omega
  · exact h.2
theorem nat_lt_list : ∀ (a b : List Char), (a.map Char.toNat < b.map Char.toNat) ↔ a < b
  | [], [] => by simp
  | [], _ :: _ => by simp
  | _ :: _, [] => by simp
  | x :: a, y :: b => by
    simp only [List.map_cons, List.cons_lt_cons_iff, nat_lt_list a b]
    have e1 : x.toNat < y.toNat ↔ x < y := Iff.rfl
    rw [e1, Char.toNat_inj]
theorem toS_lt (a b : String) : ((toS a).cps.toList < (toS b).cps.toList) ↔ a < b := by
  rw [toS_list, toS_list, nat_lt_list]
  exact Iff.rfl
end KL

set_option Elab.async false
set_option linter.all false
set_option maxRecDepth 100000
set_option maxHeartbeats 4000000
set_option autoImplicit false
/-! KLText: the core language's texts are the model's. -/
namespace KL
open PySem PySem.Spec PyProof.Rows L2 TL PySem.Builtin PySem.Builtin.Str
theorem tl_toS (z : String) : tl (toS z) = z.toList.map Char.toNat := toS_list z
theorem toS_one {b : String} {c : Char} (h : b.toList = [c]) : tl (toS b) = [c.toNat] := by rw [tl_toS, h]; rfl
theorem pre_one (s : Nat) (l : List Nat) : pre [s] l = true ↔ l.head? = some s := by
  unfold pre
  cases l with
  | nil => simp
  | cons a l => simp
theorem findC_none (c : Char) : ∀ (l : List Char) (k : Nat), (∀ x ∈ l, x ≠ c) → findC c l k = -1
  | [], _, _ => rfl
  | x :: l, k, h => by
    unfold findC
    rw [if_neg (h x List.mem_cons_self)]
    exact findC_none c l (k + 1) fun y m => h y (List.mem_cons_of_mem _ m)
theorem findC_some (c : Char) : ∀ (l : List Char) (k i : Nat), l[i]? = some c → (∀ j, j < i → l[j]? ≠ some c) → findC c l k = ((k + i : Nat) : Int)
  | [], _, _, h, _ => by simp at h
  | x :: l, k, 0, h, _ => by
    unfold findC
    rw [if_pos (by simpa using h)]
    rfl
  | x :: l, k, i + 1, h, hn => by
    unfold findC
    rw [if_neg (fun e => hn 0 (Nat.zero_lt_succ _) (by simp [e]))]
    rw [findC_some c l (k + 1) i (by simpa using h) fun j hj => by have := hn (j + 1) (by omega); simpa using this]
    congr 1; omega
theorem find_txt (a b : String) (c : Char) (h : b.toList = [c]) : Txt.find (toS a) (toS b) = findC c a.toList 0 := by
  have hb := toS_one h
  have ne : tl (toS b) ≠ [] := by rw [hb]; simp
  have at_ : ∀ i, StrLaws.At (toS a) (toS b) (toS a).length i ↔ a.toList[i]? = some c := fun i => by
    rw [at_iff ne, hb, pre_one, tl_toS, List.head?_drop, List.getElem?_map]
    cases hx : a.toList[i]? with
    | none => simp
    | some x =>
      simp only [Option.map_some, Option.some.injEq]
      exact Char.toNat_inj
  rcases find_whole (toS a) (toS b) with ⟨e, hn⟩ | ⟨i, e, hi, hn⟩
  · rw [e, findC_none]
    intro x m q
    obtain ⟨i, hi, e2⟩ := List.mem_iff_getElem.mp m
    exact hn i ((at_ i).mpr (by rw [List.getElem?_eq_getElem hi, e2, q]))
  · rw [e, findC_some c _ 0 i ((at_ i).mp hi) fun j hj q => hn j hj ((at_ j).mpr q), Nat.zero_add]
theorem upper_low : ∀ c : Fin 128, Unicode.upperOf c.val = [if 97 ≤ c.val ∧ c.val ≤ 122 then c.val - 32 else c.val] := by decide +kernel
theorem upC_nat {c : Char} (h : c.toNat < 128) : Unicode.upperOf c.toNat = [(upC c).toNat] := by
  have := upper_low ⟨c.toNat, h⟩
  dsimp only at this
  rw [this]
  unfold upC
  split
  · rename_i q
    have hv : (c.toNat - 32).isValidChar := by left; omega
    unfold Char.ofNat
    rw [dif_pos hv]
    rfl
  · rfl
theorem placed_list (x : Str) (f : Nat → List Nat) : (placed x fun _ c => f c).toList = (x.cps.toList.map f).flatten := by
  unfold placed
  rw [Array.toList_flatten]
  congr 1
  apply List.ext_getElem
  · simp
  · intro i h1 h2
    simp
theorem upper_txt (a : String) (h : (a.toList.all fun c => decide (c.toNat < 128)) = true) : Txt.upper (toS a) = toS (String.ofList (a.toList.map upC)) := by
  apply str_ext
  show (placed (toS a) fun _ c => Unicode.upperOf c).toList = _
  rw [placed_list, toS_list, toS_list, String.toList_ofList]
  rw [List.all_eq_true] at h
  have key : ∀ l : List Char, (∀ c ∈ l, decide (c.toNat < 128) = true) → ((l.map Char.toNat).map Unicode.upperOf).flatten = (l.map upC).map Char.toNat := by
    intro l
    induction l with
    | nil => exact fun _ => rfl
    | cons c l ih =>
      intro hl
      rw [List.map_cons, List.map_cons, List.flatten_cons, upC_nat (of_decide_eq_true (hl c List.mem_cons_self)), ih fun d m => hl d (List.mem_cons_of_mem _ m)]
      rfl
  exact key _ h
theorem joinC_txt (sep : List Char) : ∀ zs : List (List Char), (joinC sep zs).map Char.toNat = joinL (sep.map Char.toNat) (zs.map fun z => z.map Char.toNat)
  | [] => rfl
  | [_] => rfl
  | p :: q :: r => by
    show (p ++ (sep ++ joinC sep (q :: r))).map Char.toNat = p.map Char.toNat ++ (sep.map Char.toNat ++ joinL (sep.map Char.toNat) ((q :: r).map fun z => z.map Char.toNat))
    rw [List.map_append, List.map_append, joinC_txt sep (q :: r)]
theorem join_txt (a : String) (zs : List String) : Txt.join (toS a) (zs.map toS) = toS (String.ofList (joinC a.toList (zs.map String.toList))) := by
  apply str_ext
  rw [join_eq]
  show tl (Str.join _ _) = _
  rw [tl_join, toS_list, String.toList_ofList, joinC_txt, tl_toS, List.map_map, List.map_map]
  congr 1
  refine List.map_congr_left fun z _ => ?_
  exact tl_toS z
theorem cutC_txt (c : Char) : ∀ (l acc : List Char), spl [c.toNat] 0 (acc.map Char.toNat) (l.map Char.toNat) = (cutC c acc l).map fun z => z.map Char.toNat
  | [], acc => by rw [List.map_nil, spl_nil]; rfl
  | x :: l, acc => by
    unfold cutC
    by_cases e : x = c
    · rw [if_pos e, List.map_cons, spl_hit ((pre_one _ _).mpr (by rw [e]; rfl))]
      have := cutC_txt c l []
      rw [List.map_nil] at this
      rw [List.map_cons]
      show acc.map Char.toNat :: spl [c.toNat] 0 [] (l.map Char.toNat) = _
      rw [this]
    · rw [if_neg e, List.map_cons, spl_miss (by
        cases q : pre [c.toNat] (x.toNat :: l.map Char.toNat) with
        | false => rfl
        | true =>
          have := (pre_one _ _).mp q
          simp only [List.head?_cons, Option.some.injEq] at this
          exact absurd (Char.toNat_inj.mp this) e)]
      have := cutC_txt c l (acc ++ [x])
      rw [List.map_append] at this
      exact this
theorem split_txt (a b : String) (c : Char) (h : b.toList = [c]) (hc : c.toNat < 256) : Txt.split (toS a) (toS b) = ((cutC c [] a.toList).map fun l => toS (String.ofList l)) := by
  have hb := toS_one h
  refine map_tl_inj ?_
  have kb : (toS b).cps.all (fun x => decide (x < 256)) = true := by
    rw [← Array.all_toList]
    have : (toS b).cps.toList = [c.toNat] := hb
    rw [this]
    simp [hc]
  rw [split_spl _ _ (by rw [hb]; simp) (kind_ok kb), hb, tl_toS]
  have := cutC_txt c a.toList []
  rw [List.map_nil] at this
  rw [this, List.map_map]
  refine List.map_congr_left fun l _ => ?_
  show _ = tl (toS (String.ofList l))
  rw [tl_toS, String.toList_ofList]
theorem drop_len_while {α : Type} (p : α → Bool) : ∀ l : List α, l.drop (l.takeWhile p).length = l.dropWhile p
  | [] => rfl
  | x :: l => by
    by_cases h : p x = true
    · rw [List.takeWhile_cons_of_pos h, List.dropWhile_cons_of_pos h, List.length_cons, List.drop_succ_cons, drop_len_while p l]
    · rw [List.takeWhile_cons_of_neg h, List.dropWhile_cons_of_neg h]
      rfl
theorem lstrip_txt (a b : String) (c : Char) (h : b.toList = [c]) : Txt.lstripChars (toS a) (toS b) = toS (String.ofList (a.toList.dropWhile fun x => decide (x = c))) := by
  have hb : (toS b).cps = #[c.toNat] := by
    have : (toS b).cps.toList = [c.toNat] := toS_one h
    exact Array.toList_inj.mp this
  have hlo : stripLo (toS b).cps.contains true (toS a) = (a.toList.takeWhile fun x => decide (x = c)).length := by
    unfold stripLo
    rw [if_pos rfl, toS_list, hb]
    have key : ∀ l : List Char, ((l.map Char.toNat).takeWhile #[c.toNat].contains).length = (l.takeWhile fun x => decide (x = c)).length := by
      intro l
      induction l with
      | nil => rfl
      | cons x l ih =>
        rw [List.map_cons]
        by_cases e : x = c
        · rw [List.takeWhile_cons_of_pos (by simp [e]), List.takeWhile_cons_of_pos (by simp [e]), List.length_cons, List.length_cons, ih]
        · have : ¬ c.toNat = x.toNat := fun q => e (Char.toNat_inj.mp q.symm)
          rw [List.takeWhile_cons_of_neg (by simp; exact fun q => this q.symm), List.takeWhile_cons_of_neg (by simp [e])]
          rfl
    exact key _
  apply str_ext
  have fin : tl (stripped (toS b).cps.contains true false (toS a)) = (a.toList.dropWhile fun x => decide (x = c)).map Char.toNat := by
    unfold stripped
    rw [hlo]
    show tl (strSub (toS a) _ (toS a).length) = _
    rw [tl_strSub_end, tl_toS, ← List.map_drop, drop_len_while]
  rw [toS_list, String.toList_ofList, ← fin]
  unfold Txt.lstripChars Txt.stripBy
  by_cases q : stripSame (toS b).cps.contains true false (toS a) = true
  · rw [if_pos q]
    unfold stripSame at q
    have q0 : stripLo (toS b).cps.contains true (toS a) = 0 := by
      rw [Bool.and_eq_true] at q
      simpa using q.1
    unfold stripped
    rw [q0]
    show tl (toS a) = tl (strSub (toS a) 0 (toS a).length)
    rw [tl_strSub_end, List.drop_zero]
  · rw [if_neg q]
theorem foldl_flat {α : Type} : ∀ (n : Nat) (a : Array α) (acc : Array α), ((List.replicate n a).foldl (· ++ ·) acc).toList = acc.toList ++ (List.replicate n a.toList).flatten
  | 0, a, acc => by simp
  | n + 1, a, acc => by
    rw [List.replicate_succ, List.foldl_cons, foldl_flat n a, List.replicate_succ, List.flatten_cons, Array.toList_append, List.append_assoc]
theorem mul_txt (a : String) (k : Int) : Txt.mul (toS a) k = toS (String.ofList (List.replicate k.toNat a.toList).flatten) := by
  apply str_ext
  rw [toS_list, String.toList_ofList, List.map_flatten, List.map_replicate]
  unfold Txt.mul
  by_cases h1 : k < 1
  · rw [if_pos h1]
    have : k.toNat = 0 := by omega
    rw [this]
    rfl
  · rw [if_neg h1]
    by_cases h2 : (k == 1 || (toS a).length == 0) = true
    · rw [if_pos h2, toS_list]
      rw [Bool.or_eq_true] at h2
      rcases h2 with h2 | h2
      · have : k = 1 := by simpa using h2
        subst this
        simp
      · have : (toS a).length = 0 := by simpa using h2
        rw [toS_length] at this
        have e : a.toList = [] := by
          have := String.length_toList ▸ this
          exact List.length_eq_zero_iff.mp this
        rw [e]
        simp
    · rw [if_neg h2]
      show ((List.replicate k.toNat (toS a).cps).foldl (· ++ ·) #[]).toList = _
      rw [foldl_flat, toS_list]
      simp
theorem figs_all {l : List Char} (h : l.all isFig = true) : NumText.AllDigits (l.map Char.toNat) := by
  intro c m
  obtain ⟨x, mx, rfl⟩ := List.mem_map.mp m
  have := List.all_eq_true.mp h x mx
  unfold isFig at this
  simpa using this
theorem figV_eq (l : List Char) : NumText.digitsVal (l.map Char.toNat) = figV l := by
  unfold NumText.digitsVal figV
  rw [List.foldl_map]
theorem int_txt (z : String) (i : Int) (hl : z.length ≤ 640) (h : intS z.toList = some i) : PySem.intText? (toS z) = some i := by
  have hlen : (toS z).length ≤ 4300 := by rw [toS_length]; omega
  have hcs : (toS z).cps.toList = z.toList.map Char.toNat := toS_list z
  cases hz : z.toList with
  | nil => rw [hz] at h; cases h
  | cons x l =>
    rw [hz] at h hcs
    simp only [intS] at h
    split at h
    · rename_i hx
      split at h
      · rename_i q
        have := intText_neg (x := toS z) (cs := l.map Char.toNat) (by rw [hcs, hx]; rfl) (figs_all q.2) (by simpa using q.1) hlen
        rw [this, figV_eq]
        exact h
      · cases h
    · split at h
      · rename_i q
        have := intText_digits (x := toS z) (by rw [hcs]; exact figs_all q) (by rw [hcs]; simp) hlen
        rw [this, hcs, figV_eq]
        exact h
      · cases h
section
variable {X : Cx}
theorem op_mul_s : OpR X (binaryOp .Mult) (fun x y H Q => ∃ a k, x = .str a ∧ y = .int k ∧ -(2 ^ 40) ≤ k ∧ k ≤ 2 ^ 40 ∧ a.length * k.toNat ≤ 1000000 ∧ Q (.str (Txt.mul a k)) H) := by
  intro pins s σ H x y v u Q I rx ry h
  obtain ⟨a, k, rfl, rfl, h1, h2, h3, q⟩ := h
  obtain ⟨t, rfl⟩ := rx
  obtain ⟨t', rfl⟩ := ry
  refine SB.mul ⟨by rw [decide_eq_false (by omega), decide_eq_false (by omega)] <;> rfl, fun c1 _ c3 => ?_, fun _ _ => ?_⟩ fun t2 k2 => ?_
  · have hk : 0 < k := by omega
    have e1 : ((2 : Int) ^ 63 - 1) / k ≥ (2 ^ 63 - 1) / 2 ^ 40 := by
      have : (2 : Int) ^ 63 - 1 = 9223372036854775807 := by decide
      rw [this]
      have e40 : (2 : Int) ^ 40 = 1099511627776 := by decide
      rw [e40] at h2 ⊢
      have e3 : (9223372036854775807 : Int) / 1099511627776 = 8388607 := by decide
      rw [e3]
      exact (Int.le_ediv_iff_mul_le hk).mpr (by omega)
    have e4 : ((2 : Int) ^ 63 - 1) / 2 ^ 40 = 8388607 := by decide
    rw [e4] at e1
    have : a.length ≤ a.length * k.toNat := Nat.le_mul_of_pos_right _ (by omega)
    omega
  · unfold tooLong
    have := sizeLine_eq
    simp
    omega
  · exact ⟨.str (Txt.mul a k), H, I.tok _, ⟨_, rfl⟩, q⟩
/-- a list, read in any way, times an int -/
theorem op_repR : OpR X (binaryOp .Mult) (fun x y H Q => ∃ l k xs, x = .ref l ∧ y = .int k ∧ Rd H l (.lst xs) ∧ -(2 ^ 40) ≤ k ∧ k ≤ 2 ^ 40 ∧ xs.length * k.toNat ≤ 1000000 ∧
    ∀ p, H p = none → Q (.ref p) (upd H p (.lst (List.replicate k.toNat xs).flatten))) := by
  intro pins s σ H x y v u Q I rx ry h
  obtain ⟨l, k, xs, rfl, rfl, hH, h1, h2, hz, q⟩ := h
  cases rx
  obtain ⟨t, rfl⟩ := ry
  obtain ⟨z, its, n, r, e⟩ := hH.ok I.hok
  have hl : xs.length = its.length := r.length
  have hz2 : xs.length * k.toNat ≤ sizeLine := by rw [sizeLine_eq]; omega
  have hlen : its.toArray.size * k.toNat ≤ sizeLine := by rw [List.size_toArray, ← hl]; exact hz2
  have hcap : ¬ its.toArray.size * k.toNat > (2 ^ 63 - 1) / 8 := by
    have : (sizeLine : Nat) ≤ (2 ^ 63 - 1) / 8 := by decide
    omega
  have hfit : ¬ (!Builtin.List.listFitsIndex k) = true := by
    rw [fitsIndex_both (by omega) (by omega)]
    exact Bool.false_ne_true
  have hlong : ¬ Builtin.List.listTooLong (its.toArray.size * k.toNat) = true := by
    rw [notLongL hlen]
    exact Bool.false_ne_true
  have hnew : List.foldl (fun x1 x2 => x1 ++ x2) #[] (List.replicate (if its.toArray.isEmpty = true then 0 else k.toNat) its.toArray) = (List.replicate k.toNat its).flatten.toArray := by
    have f0 : ∀ m : Nat, List.foldl (fun x1 x2 => x1 ++ x2) #[] (List.replicate m its.toArray) = (List.replicate m its).flatten.toArray := fun m => by
      apply Array.toList_inj.mp
      rw [foldl_flat]
      simp
    rw [f0]
    cases its with
    | nil => simp
    | cons a r' => rw [if_neg (by simp)]
  refine wpAny_binaryOp_repeat_ref (T := "list") (U := "int") (by decide) ⟨_, e, rfl⟩ (fun s' => typeIs_int s' k t) noFill_list_mul F.fills_int_mul F.slot_int_rmul repeat_list F.slot_int_index.lookup
    (call_meets F.slot_int_rmul (typeIs_int s k t) F.entry_int_rmul (F.args_int_rmul_2 _ _) (int___rmul___int_list k t l its.toArray n)
      ⟨e, rfl, ⟨_, e, rfl⟩, call_meets F.slot_list_mul ⟨_, e, rfl⟩ F.entry_list_mul (F.args_list_mul_2 _ _) (AutoListH.list___mul___list_int_3 l its.toArray n k t hfit hcap hlong) ⟨e, ?_⟩⟩)
  rw [hnew]
  exact ⟨.ref _, _, I.lnew (t' := s.toks) (r.rep k.toNat) (by rw [PyProof.Rows.lm_len_rep_flat, Nat.mul_comm]; exact hz2), rfl, q _ I.fresh⟩
theorem eqU_str {z y : Str} {t : Tok} : eqU (.str z) (Value.str y t) = (y == z) := rfl
theorem count_strs {z : Str} : ∀ {zs : List Str} {us : List Value}, Vals (zs.map V.str) us → us.countP (eqU (.str z)) = zs.count z
  | [], _, r => by cases r; rfl
  | y :: zs, _, r => by
    cases r with
    | cons r1 r2 =>
      obtain ⟨t, rfl⟩ := r1
      rw [List.countP_cons, List.count_cons, count_strs r2]
      rfl
theorem mt_lcountS : MtR X "list.count" (fun x xs H Q => ∃ (p : Addr) (zs : List Str) (z : Str), x = .ref p ∧ xs = [.str z] ∧ SqL X.K H p (zs.map V.str) ∧ Q (.int (zs.count z : Nat)) H) := by
  intro pins s σ H x xs v us Q I rx rxs h
  obtain ⟨p, zs, z, rfl, rfl, hs, q⟩ := h
  cases rx
  obtain ⟨u, rfl, t, rfl⟩ := vals1 rxs
  obtain ⟨its, rv, ⟨⟨cls, dd, data, sl⟩, n, ho, hc, hdn, hd⟩, hlen⟩ := I.list hs
  simp only at hc hd
  subst hc hd
  refine call_meets PySem.F.slot_list_count ⟨_, ho, rfl⟩ PySem.F.entry_list_count (PySem.F.args_list_count_2 _ _)
    (SeqAt.list_countAt p its.toArray n dd sl (.str z t) (eqU (.str z))) ⟨ho, fun w hw => mem_eqAt (x := .str z) ⟨t, rfl⟩ rfl rv (flat_strs zs) w (by simpa using hw), ?_⟩
  have ec : its.toArray.toList.countP (eqU (.str z)) = zs.count z := count_strs rv
  refine ⟨.int (zs.count z : Nat), H, I.tok _, ⟨s.toks, ?_⟩, q⟩
  show Value.int ((its.toArray.toList.countP (eqU (.str z)) : Nat) : Int) s.toks = Value.int ((zs.count z : Nat) : Int) s.toks
  rw [ec]
/-! ### t[::-1] of a tuple -/
theorem applied_rev {A : Around} {Ex : Value → Shared → Prop} {prog : Program} {w : World} {s : Shared} {sl : Addr} {vl vu vs : Value} {n : Nat} {Q : Int × Int × Nat → Shared → Prop} (hs : s.heap.IsSliceOf sl vl vu vs) (pl : IsPart vl none) (pu : IsPart vu none) (ps : IsPart vs (some (-1)))
    (h : Q ((n : Int) - 1, -1, n) s) : wpAny (model prog w) A (Builtin.Slice.sliceApplied (.ref sl) (pure (n : Int))) Q Ex s := by
  obtain ⟨os, hos, hcs, hds⟩ := id hs
  unfold Builtin.Slice.sliceApplied Builtin.Slice.sliceFields
  refine wpAny_bind (wpAny_bind (wpAny_field hos hds (x := vl) rfl (wpAny_bind (wpAny_field hos hds (x := vu) rfl (wpAny_bind (wpAny_field hos hds (x := vs) rfl (wpAny_pure ?_)))))))
  refine wpAny_bind (HT.slicePart_ ps ?_)
  show wpAny _ _ (if ((-1 : Int) == 0) = true then _ else _) _ _ s
  rw [if_neg (by decide)]
  refine wpAny_bind (HT.slicePart_ pl (wpAny_bind (HT.slicePart_ pu (wpAny_bind (wpAny_pure ?_)))))
  have e1 : Builtin.Slice.sliceAdjust none none (-1) (n : Int) = ((n : Int) - 1, -1) := by
    unfold Builtin.Slice.sliceAdjust
    simp
  show wpAny _ _ (match Builtin.Slice.sliceAdjust none none (-1) (n : Int) with | (lo, hi) => pure (lo, (-1 : Int), Builtin.Slice.slicePlaces lo hi (-1))) _ _ s
  rw [e1]
  have e2 : Builtin.Slice.slicePlaces ((n : Int) - 1) (-1) (-1) = n := by
    unfold Builtin.Slice.slicePlaces
    have h1 : ¬ ((-1 : Int) > 0) := by decide
    simp only [h1, if_false]
    by_cases h : (n : Int) - 1 > -1
    · rw [if_pos h, show (- -1 : Int) = 1 by decide, Int.ediv_one]
      omega
    · rw [if_neg h]
      omega
  show wpAny _ _ (pure ((n : Int) - 1, (-1 : Int), Builtin.Slice.slicePlaces ((n : Int) - 1) (-1) (-1))) _ _ s
  rw [e2]
  exact wpAny_pure h
theorem fm_congr {α β : Type} {f g : α → Option β} : ∀ {l : List α}, (∀ a ∈ l, f a = g a) → l.filterMap f = l.filterMap g
  | [], _ => rfl
  | a :: l, h => by
    rw [List.filterMap_cons, List.filterMap_cons, h a List.mem_cons_self, fm_congr fun b m => h b (List.mem_cons_of_mem _ m)]
theorem pick_rev (xs : Array Value) : ((List.range xs.size).filterMap fun (m : Nat) => xs[(((xs.size : Int) - 1) + (m : Int) * (-1)).toNat]?).toArray = xs.toList.reverse.toArray := by
  congr 1
  have e : (List.range xs.size).filterMap (fun (m : Nat) => xs[(((xs.size : Int) - 1) + (m : Int) * (-1)).toNat]?) = ((List.range xs.size).map fun k => xs.size - 1 - k).filterMap (xs[·]?) := by
    rw [List.filterMap_map]
    refine fm_congr fun m hm => ?_
    have := List.mem_range.mp hm
    have e : (((xs.size : Int) - 1) + (m : Int) * (-1)).toNat = xs.size - 1 - m := by omega
    rw [e]
    rfl
  rw [e, PySem.W.krv_range, List.filterMap_reverse, PySem.W.krv_all]
theorem getItem_rev {A : Around} {Ex : Value → Shared → Prop} {prog : Program} {w : World} {s : Shared} {t sl : Addr} {items : Array Value} {vl vu vs : Value} {Q : Value → Shared → Prop} (ht : IsTup s.heap t items) (hs : s.heap.IsSliceOf sl vl vu vs) (pl : IsPart vl none) (pu : IsPart vu none) (ps : IsPart vs (some (-1)))
    (h : Q (.ref s.heap.objs.size) { s with heap := s.heap.push { cls := .type "tuple", data := .seq items.toList.reverse.toArray } }) (hsz : items.size ≤ sizeLine) : wpAny (model prog w) A (getItem (.ref t) (.ref sl)) Q Ex s := by
  have htake : sizeOk (.seq items.toList.reverse.toArray) := by
    show items.toList.reverse.toArray.size ≤ sizeLine
    rw [List.size_toArray, List.length_reverse, Array.length_toList]
    exact hsz
  obtain ⟨os, hos, hcs, hds⟩ := id hs
  have hTs : s.TypeIs (.ref sl) "slice" := ⟨os, hos, hcs⟩
  unfold getItem
  try with_reducible refine wpAny_holding ?_
  first | refine wpAny_bind (wpAny_pure ?_) | skip
  refine wpAny_bind (wpAny_sequenceKey ht.typeIs (by decide) ?_)
  refine wpAny_bind (wpAny_callSpecial?_slot (name := Str.ofString "__getitem__") ht.typeIs PyProof.Rows.slot_tuple_getitem
    (wpAny_call_entry PyProof.Rows.slot_tuple_getitem ht.typeIs entry_tuple_getitem ?_ (args_tuple_getitem _ _)))
  show wpAny _ _ (Builtin.Tuple.tupleItemsOf (.ref t) >>= _) _ _ s
  refine wpAny_bind (tupleItemsOf_ ht ?_)
  refine wpAny_bind (wpAny_typeOf hTs ?_)
  rw [if_pos (by decide)]
  refine wpAny_bind (applied_rev hs pl pu ps ?_)
  show wpAny _ _ (if ((((items.size : Int) - 1) == 0 && (-1 : Int) == 1 && items.size == items.size)) = true then _ else _) _ _ s
  have hno : ¬ ((((items.size : Int) - 1) == 0 && (-1 : Int) == 1 && items.size == items.size)) = true := by
    intro q
    rw [Bool.and_eq_true, Bool.and_eq_true] at q
    exact absurd q.1.2 (by decide)
  rw [if_neg hno, pick_rev]
  first
    | exact wpAny_bind (m := Builtin.Tuple.tupleExact _) (wpAny_newObj_type (wpAny_pure ⟨_, rfl, wpAny_pure h⟩) htake)
    | exact wpAny_bind (m := Builtin.Tuple.tupleExact _) (wpAny_newObj_type (wpAny_bind (wpAny_pure (wpAny_pure ⟨_, rfl, wpAny_pure h⟩))) htake)
    | exact wpAny_bind (wpAny_bind (m := Builtin.Tuple.tupleExact _) (wpAny_newObj_type (wpAny_pure (wpAny_pure ⟨_, rfl, wpAny_pure h⟩)) htake))
    | exact wpAny_bind (wpAny_bind (m := Builtin.Tuple.tupleExact _) (wpAny_newObj_type (wpAny_pure ⟨_, rfl, wpAny_pure h⟩) htake))
def tRevT (K : PySem.W.Frag) (te : TE) : TE := fun σ H Q => te σ H fun x H1 => ∃ a xs, x = .ref a ∧ SqT K H1 a xs ∧ ∀ p, H1 p = none → Q (.ref p) (upd H1 p (.tup xs.reverse))
theorem pe_revT {e : Expr} {te : TE} {k : Nat} {p1 p2 p3 pos : Pos} (he : PE X e te) : PE X (.Subscript e (.Slice none none (some (.UnaryOp .USub (.Constant (.int 1) k p1) p2)) p3) pos) (tRevT X.K te) := by
  refine ⟨fun pins s σ H Q I h => ?_⟩
  refine Subscript_ (thn (he.run pins s σ H _ I h) fun v s1 ⟨x, H1, I1, r1, q1⟩ => ?_)
  obtain ⟨a, xs, ex, hx, q⟩ := q1
  subst ex
  cases r1
  have hst : PO X (some (.UnaryOp .USub (.Constant (.int 1) k p1) p2)) (tPart (tUn (rU fun i => .int (-i)) (tC (.int 1)))) := po_some (pe_un un_neg pe_int)
  refine wpAny_Slice (thn (po_none.run pins s1 σ H1 (fun o H2 => o = none ∧ H2 = H1) I1 ⟨rfl, rfl⟩) fun vl s2 ⟨l, H2, I2, pl, el, e2⟩ => ?_)
  subst el e2
  refine thn (po_none.run pins s2 σ H2 (fun o H3 => o = none ∧ H3 = H2) I2 ⟨rfl, rfl⟩) fun vu s3 ⟨u, H3, I3, pu, eu, e3⟩ => ?_
  subst eu e3
  refine thn (hst.run pins s3 σ H3 (fun o H4 => o = some (-1) ∧ H4 = H3) I3 ⟨1, rfl, -1, rfl, rfl, rfl⟩) fun vs s4 ⟨o, H4, I4, ps, eo, e4⟩ => ?_
  subst eo e4
  have I5 : Inv X pins σ H4 { s4 with heap := s4.heap.push { cls := .type "slice", data := .fields #[vl, vu, vs] } } := I4.kept (t' := s4.toks) fun b ob q => Heap.get?_push_of_some _ q
  obtain ⟨its, r, ht, hz⟩ := I5.tuple hx
  have hlen := r.length
  show wpAny (model X.prog X.w) X.A (subscriptTail e (.Slice none none (some (.UnaryOp .USub (.Constant (.int 1) k p1) p2)) p3) (.ref a) (.ref s4.heap.objs.size)) (EP X pins σ Q) X.xe { s4 with heap := s4.heap.push { cls := .type "slice", data := .fields #[vl, vu, vs] } }
  refine tail_any (ops := [.ref a, .ref s4.heap.objs.size]) ht.typeIs (PyProof.Rows.slot_tuple_getitem.lookup) ?_ (by with_unfolding_all rfl)
  refine getItem_rev ht (Heap.IsSliceOf.new _ vl vu vs) pl pu ps ?_ (by rw [List.size_toArray]; omega)
  refine ⟨.ref _, _, I5.laid (t' := s4.toks) (o := .tup xs.reverse) (fun b ob q => Heap.get?_push_of_some _ q) (Nat.le_refl _) ?_, rfl, q _ (I5.hok.fresh (Nat.le_refl _))⟩
  exact ⟨by rw [List.length_reverse]; exact hz, _, r.reverse, _, Heap.get?_push_size _ rfl, rfl, _, rfl⟩
end
end KL

set_option Elab.async false
set_option linter.all false
set_option maxRecDepth 100000
set_option maxHeartbeats 4000000
set_option autoImplicit false
/-! KLSound: the interpreter's word stands for the program's run: expressions. -/
namespace KL
open PySem PySem.Spec PyProof.Rows L2

/-- a dict's key -/
def toK : DK → Key
  | .int i => Sum.inl i
  | .str z => Sum.inr (toS z)
def TpcR (H : Hp) (a : Addr) (ns : List Int) : Prop := ∃ ob : Obj, H a = some (.frz ob (.tup (ns.map V.int))) ∧ ob.cls = .type "tuple" ∧ ob.dict = none
def CellR (K : PySem.W.Frag) (θ : Th) (H : Hp) (a : Addr) : Cell → Prop
  | .lst l => ∃ vs, H a = some (.lst vs) ∧ Reps θ H l vs
  | .ins c fs => ∃ dx vfs, H a = some (.ins (He.ga K (toS c)) dx vfs) ∧ vfs.map (·.1) = fs.map (fun p => toS p.1) ∧ Reps θ H (fs.map (·.2)) (vfs.map (·.2))
  | .dct kvs => ∃ ws, H a = some (.dK ws) ∧ ws.map (·.1) = kvs.map (fun p => toK p.1) ∧ Reps θ H (kvs.map (·.2)) (ws.map (·.2))
  | .tpc ns => TpcR H a ns
theorem toK_inj {a b : DK} (h : toK a = toK b) : a = b := by
  cases a <;> cases b
  · cases h; rfl
  · cases h
  · cases h
  · exact congrArg DK.str (toS_inj (Sum.inr.inj h))
structure RelS (K : PySem.W.Frag) (θ : Th) (H : Hp) (s : Sto) : Prop where
  len : θ.c.length = s.length
  nd : θ.c.Nodup
  cell : ∀ (i : Nat) (c : Cell) (a : Addr), s[i]? = some c → θ.c[i]? = some a → CellR K θ H a c
  ban : ∀ a ∈ θ.b, (∃ xs, H a = some (.lst xs)) ∧ a ∉ θ.c
def EnvR (θ : Th) (H : Hp) (ρ : Env) (σ : L2.St) : Prop := ρ.length = σ.length ∧ ∀ (i : Nat) (d : D), ρ[i]? = some (some d) → ∃ v, σ[i]? = some (some v) ∧ Rep θ H d v

section
variable {K : PySem.W.Frag} {θ θ1 : Th} {H H1 : Hp} {s : Sto}
theorem CellR.some {a : Addr} {c : Cell} (h : CellR K θ H a c) : ∃ o, H a = some o ∧ True := by
  cases c with
  | lst l =>
    obtain ⟨vs, h, _⟩ := h
    exact ⟨_, h, trivial⟩
  | ins c fs =>
    obtain ⟨dx, vfs, h, _⟩ := h
    exact ⟨_, h, trivial⟩
  | dct kvs =>
    obtain ⟨ws, h, _⟩ := h
    exact ⟨_, h, trivial⟩
  | tpc ns =>
    obtain ⟨ob, h, _⟩ := h
    exact ⟨_, h, trivial⟩
theorem RelS.at (R : RelS K θ H s) {a : Addr} (h : a ∈ θ.c) : ∃ (i : Nat) (c : Cell), θ.c[i]? = some a ∧ s[i]? = some c ∧ CellR K θ H a c := by
  obtain ⟨i, hi, e⟩ := List.mem_iff_getElem.mp h
  have h1 : θ.c[i]? = some a := by rw [List.getElem?_eq_getElem hi, e]
  have h2 : s[i]? = some (s[i]'(by rw [← R.len]; exact hi)) := List.getElem?_eq_getElem _
  exact ⟨i, _, h1, h2, R.cell _ _ _ h2 h1⟩
theorem RelS.free (R : RelS K θ H s) {a : Addr} (h : H a = none) : a ∉ θ := fun m => by
  rcases m with m | m
  · obtain ⟨i, c, _, _, q⟩ := R.at m
    obtain ⟨o, e, _⟩ := q.some
    rw [h] at e
    cases e
  · obtain ⟨⟨xs, e⟩, _⟩ := R.ban a m
    rw [h] at e
    cases e
theorem RelS.get (R : RelS K θ H s) {i : Nat} {c : Cell} (h : s[i]? = some c) : ∃ a, θ.c[i]? = some a ∧ CellR K θ H a c := by
  have hi : i < θ.c.length := by
    rw [R.len]
    exact (List.getElem?_eq_some_iff.mp h).1
  exact ⟨θ.c[i], List.getElem?_eq_getElem hi, R.cell _ _ _ h (List.getElem?_eq_getElem hi)⟩
theorem CellR.ext0 (x : Ext0 θ H θ1 H1) {a : Addr} (e : H1 a = H a) {c : Cell} (h : CellR K θ H a c) : CellR K θ1 H1 a c := by
  cases c with
  | lst l =>
    obtain ⟨vs, h, r⟩ := h
    exact ⟨vs, e.trans h, r.ext0 x⟩
  | ins c fs =>
    obtain ⟨dx, vfs, h, m, r⟩ := h
    exact ⟨dx, vfs, e.trans h, m, r.ext0 x⟩
  | dct kvs =>
    obtain ⟨ws, h, m, r⟩ := h
    exact ⟨ws, e.trans h, m, r.ext0 x⟩
  | tpc ns =>
    obtain ⟨ob, h, m⟩ := h
    exact ⟨ob, e.trans h, m⟩
theorem RelS.same (R : RelS K θ H s) (x : Ext0 θ H θ H1) (e : ∀ a, a ∈ θ → H1 a = H a) : RelS K θ H1 s :=
  ⟨R.len, R.nd, fun i c a h1 h2 => (R.cell i c a h1 h2).ext0 x (e a (.inl (List.mem_of_getElem? h2))), fun a h => ⟨let ⟨⟨xs, q⟩, _⟩ := R.ban a h; ⟨xs, (e a (.inr h)).trans q⟩, (R.ban a h).2⟩⟩
theorem Ext0.newUpd {p : Addr} {o : HO} (h : H p = none) : Ext0 θ H θ (upd H p o) :=
  ⟨⟨[], by simp⟩, fun _ h => h, fun a u e _ => by rw [upd_ne (ne_of_none e h)]; exact e, fun a m n => absurd m n⟩
theorem RelS.newUpd (R : RelS K θ H s) {p : Addr} {o : HO} (h : H p = none) : RelS K θ (upd H p o) s :=
  R.same (Ext0.newUpd h) fun a m => upd_ne fun e => R.free h (e ▸ m)
theorem RelS.ext (R : RelS K θ H s) {p : Addr} {o : HO} (h : H p = none) : Ext θ H θ (upd H p o) :=
  ⟨Ext0.newUpd h, rfl, fun a m => upd_ne fun e => R.free h (e ▸ .inr m)⟩
theorem EnvR.ext0 {ρ : Env} {σ : L2.St} (h : EnvR θ H ρ σ) (x : Ext0 θ H θ1 H1) : EnvR θ1 H1 ρ σ :=
  ⟨h.1, fun i d e => let ⟨v, e1, r⟩ := h.2 i d e; ⟨v, e1, r.ext0 x⟩⟩
theorem EnvR.ext {ρ : Env} {σ : L2.St} (h : EnvR θ H ρ σ) (x : Ext θ H θ1 H1) : EnvR θ1 H1 ρ σ := h.ext0 x.toExt0
theorem EnvR.set {ρ : Env} {σ : L2.St} (h : EnvR θ H ρ σ) {d : D} {v : V} (r : Rep θ H d v) (i : Nat) : EnvR θ H (ρ.set i (some d)) (σ.set i (some v)) := by
  refine ⟨by simp [h.1], fun j e hj => ?_⟩
  by_cases q : i = j
  · subst q
    have hl : i < ρ.length := by
      have := (List.getElem?_eq_some_iff.mp hj).1
      simpa using this
    rw [List.getElem?_set_self hl] at hj
    cases hj
    exact ⟨v, by rw [List.getElem?_set_self (by rw [← h.1]; exact hl)], r⟩
  · rw [List.getElem?_set_ne q] at hj ⊢
    exact h.2 j e hj
theorem EnvR.wipe {ρ : Env} {σ : L2.St} (h : EnvR θ H ρ σ) : ∀ vs : List Nat, EnvR θ H (wipeE ρ vs) (L2.wipe σ vs)
  | [] => h
  | v :: vs => by
    have q := EnvR.wipe h vs
    unfold wipeE L2.wipe
    refine ⟨by simp [q.1], fun j e hj => ?_⟩
    by_cases z : v = j
    · subst z
      have hl : v < (wipeE ρ vs).length := by
        have := (List.getElem?_eq_some_iff.mp hj).1
        simpa using this
      rw [List.getElem?_set_self hl] at hj
      cases hj
    · rw [List.getElem?_set_ne z] at hj ⊢
      exact q.2 j e hj
end

/-- the ban of a list that is being made -/
def Th.mk1 (θ : Th) (D : Addr) : Th := ⟨θ.c, D :: θ.b⟩
theorem Th.mk1_mem {θ : Th} {D a : Addr} : a ∈ θ.mk1 D ↔ a = D ∨ a ∈ θ := by
  unfold Th.mk1
  rw [Th.mem, Th.mem, List.mem_cons]
  constructor
  · rintro (h | h | h)
    · exact .inr (.inl h)
    · exact .inl h
    · exact .inr (.inr h)
  · rintro (h | h | h)
    · exact .inr (.inl h)
    · exact .inl h
    · exact .inr (.inr h)
theorem Ext0.into {θ : Th} {H : Hp} {D : Addr} {xs : List V} (h : H D = none) : Ext0 θ H (θ.mk1 D) (upd H D (.lst xs)) where
  pre := ⟨[], by simp [Th.mk1]⟩
  sub := fun a h => List.mem_cons_of_mem _ h
  keep := fun a o e n => by rw [upd_ne (ne_of_none e h)]; exact e
  new := fun a m n => by
    rcases Th.mk1_mem.mp m with rfl | m
    · exact h
    · exact absurd m n
theorem RelS.into {K : PySem.W.Frag} {θ : Th} {H : Hp} {s : Sto} {D : Addr} {xs : List V} (R : RelS K θ H s) (h : H D = none) : RelS K (θ.mk1 D) (upd H D (.lst xs)) s where
  len := R.len
  nd := R.nd
  cell := fun i c a h1 h2 => (R.cell i c a h1 h2).ext0 (Ext0.into h) (upd_ne fun e => by
    subst e
    exact R.free h (.inl (List.mem_of_getElem? h2)))
  ban := fun a m => by
    rcases List.mem_cons.mp m with rfl | m
    · exact ⟨⟨xs, upd_same⟩, fun q => R.free h (.inl q)⟩
    · obtain ⟨⟨ys, e⟩, n⟩ := R.ban a m
      exact ⟨⟨ys, by rw [upd_ne (ne_of_none e h)]; exact e⟩, n⟩
/-- the list grows -/
theorem Ext0.grow {θ : Th} {H : Hp} {D : Addr} {o : HO} (h : D ∈ θ) : Ext0 θ H θ (upd H D o) where
  pre := ⟨[], by simp⟩
  sub := fun a h => h
  keep := fun a o e n => by rw [upd_ne fun q => n (by rw [q]; exact h)]; exact e
  new := fun a m n => absurd m n
theorem RelS.grow {K : PySem.W.Frag} {θ : Th} {H : Hp} {s : Sto} {D : Addr} {xs : List V} (R : RelS K θ H s) (h : D ∈ θ.b) : RelS K θ (upd H D (.lst xs)) s where
  len := R.len
  nd := R.nd
  cell := fun i c a h1 h2 => (R.cell i c a h1 h2).ext0 (Ext0.grow (.inr h)) (upd_ne fun e => by
    subst e
    exact (R.ban _ h).2 (List.mem_of_getElem? h2))
  ban := fun a m => by
    by_cases e : a = D
    · subst e
      exact ⟨⟨xs, upd_same⟩, (R.ban _ m).2⟩
    · rw [upd_ne e]
      exact R.ban a m
mutual
theorem Rep.out {θ : Th} {H : Hp} {D : Addr} : ∀ {d : KL.D} {v : V}, Rep (θ.mk1 D) H d v → Rep θ H d v
  | _, _, .non => .non
  | _, _, .bl b => .bl b
  | _, _, .int i => .int i
  | _, _, .str z => .str z
  | _, _, .tup h n r => .tup h (fun m => n (Th.mk1_mem.mpr (.inr m))) (Reps.out r)
  | _, _, .lst h n r => .lst h (fun m => n (Th.mk1_mem.mpr (.inr m))) (Reps.out r)
  | _, _, .ref h => .ref h
theorem Reps.out {θ : Th} {H : Hp} {D : Addr} : ∀ {ds : List KL.D} {vs : List V}, Reps (θ.mk1 D) H ds vs → Reps θ H ds vs
  | _, _, .nil => .nil
  | _, _, .cons h t => .cons (Rep.out h) (Reps.out t)
end
theorem CellR.out {K : PySem.W.Frag} {θ : Th} {H : Hp} {D a : Addr} {c : Cell} (h : CellR K (θ.mk1 D) H a c) : CellR K θ H a c := by
  cases c with
  | lst l =>
    obtain ⟨vs, h, r⟩ := h
    exact ⟨vs, h, r.out⟩
  | ins c fs =>
    obtain ⟨dx, vfs, h, m, r⟩ := h
    exact ⟨dx, vfs, h, m, r.out⟩
  | dct kvs =>
    obtain ⟨ws, h, m, r⟩ := h
    exact ⟨ws, h, m, r.out⟩
  | tpc ns =>
    exact h
theorem RelS.out {K : PySem.W.Frag} {θ : Th} {H : Hp} {s : Sto} {D : Addr} (R : RelS K (θ.mk1 D) H s) : RelS K θ H s :=
  ⟨R.len, R.nd, fun i c a h1 h2 => (R.cell i c a h1 h2).out, fun a m => R.ban a (List.mem_cons_of_mem _ m)⟩

abbrev W0 : WX := fun _ _ _ _ => False

/-! ### what a result asks of what follows -/
abbrev cV (K : PySem.W.Frag) (c : String) : Value := .ref (He.ga K (toS c))
section
variable (K : PySem.W.Frag) (W : WX) (σ : L2.St)
def PostE (Q : VK) (θ : Th) (H : Hp) : RE → Prop
  | .ok d s => ∀ θ' H' v, Ext θ H θ' H' → RelS K θ' H' s → Rep θ' H' d v → Q v H'
  | .new l s => ∀ θ' H' a vs, Ext θ H θ' H' → RelS K (θ'.mk1 a) H' s → H a = none → a ∉ θ' → H' a = some (.lst vs) → Reps (θ'.mk1 a) H' l vs → Q (.ref a) H'
  | .exn c s => ∀ θ' H', Ext θ H θ' H' → RelS K θ' H' s → W (cV K c) none σ H'
  | .bad => False
def PostL (Q : List V → Hp → Prop) (θ : Th) (H : Hp) : RL → Prop
  | .ok l s => ∀ θ' H' vs, Ext θ H θ' H' → RelS K θ' H' s → Reps θ' H' l vs → Q vs H'
  | .exn c s => ∀ θ' H', Ext θ H θ' H' → RelS K θ' H' s → W (cV K c) none σ H'
  | .bad => False
def PostB (Q : Bool → Hp → Prop) (θ : Th) (H : Hp) : RB → Prop
  | .ok b s => ∀ θ' H', Ext θ H θ' H' → RelS K θ' H' s → Q b H'
  | .exn c s => ∀ θ' H', Ext θ H θ' H' → RelS K θ' H' s → W (cV K c) none σ H'
  | .bad => False
end
section
variable {K : PySem.W.Frag} {W : WX} {σ : L2.St} {θ θ1 : Th} {H H1 : Hp} {s : Sto}
theorem Ext.none {θ' : Th} {H' : Hp} (x : Ext θ H θ1 H1) (y : Ext θ1 H1 θ' H') {a : Addr} (h : H1 a = none) (n : a ∉ θ') : H a = none := by
  cases q : H a with
  | none => rfl
  | some o =>
    have := x.keep a o q fun m => n (y.mem (x.mem m))
    rw [h] at this
    cases this
theorem PostE.up {Q : VK} (x : Ext θ H θ1 H1) {r : RE} (h : PostE K W σ Q θ H r) : PostE K W σ Q θ1 H1 r := by
  cases r with
  | ok d s => exact fun θ' H' v y => h θ' H' v (x.trans y)
  | new l s => exact fun θ' H' a vs y R e n => h θ' H' a vs (x.trans y) R (x.none y e n) n
  | exn c s => exact fun θ' H' y => h θ' H' (x.trans y)
  | bad => exact h
theorem PostL.up {Q : List V → Hp → Prop} (x : Ext θ H θ1 H1) {r : RL} (h : PostL K W σ Q θ H r) : PostL K W σ Q θ1 H1 r := by
  cases r with
  | ok d s => exact fun θ' H' v y => h θ' H' v (x.trans y)
  | exn c s => exact fun θ' H' y => h θ' H' (x.trans y)
  | bad => exact h
theorem PostB.up {Q : Bool → Hp → Prop} (x : Ext θ H θ1 H1) {r : RB} (h : PostB K W σ Q θ H r) : PostB K W σ Q θ1 H1 r := by
  cases r with
  | ok d s => exact fun θ' H' y => h θ' H' (x.trans y)
  | exn c s => exact fun θ' H' y => h θ' H' (x.trans y)
  | bad => exact h
theorem PostE.mono {Q Q' : VK} {r : RE} (h : PostE K W σ Q θ H r) (q : ∀ v H', Q v H' → Q' v H') : PostE K W σ Q' θ H r := by
  cases r with
  | ok d s => exact fun θ' H' v x R p => q _ _ (h θ' H' v x R p)
  | new l s => exact fun θ' H' a vs x R e n e2 p => q _ _ (h θ' H' a vs x R e n e2 p)
  | exn c s => exact h
  | bad => exact h
theorem PostL.mono {Q Q' : List V → Hp → Prop} {r : RL} (h : PostL K W σ Q θ H r) (q : ∀ v H', Q v H' → Q' v H') : PostL K W σ Q' θ H r := by
  cases r with
  | ok d s => exact fun θ' H' v x R p => q _ _ (h θ' H' v x R p)
  | exn c s => exact h
  | bad => exact h
theorem PostB.mono {Q Q' : Bool → Hp → Prop} {r : RB} (h : PostB K W σ Q θ H r) (q : ∀ v H', Q v H' → Q' v H') : PostB K W σ Q' θ H r := by
  cases r with
  | ok d s => exact fun θ' H' x R => q _ _ (h θ' H' x R)
  | exn c s => exact h
  | bad => exact h
/-- a value is a special case of a new list's giving -/
theorem PostE.toNew {Q : VK} {l : List D} (h : PostE K W σ Q θ H (.ok (.lst l) s)) : PostE K W σ Q θ H (.new l s) :=
  fun θ' H' a vs x R _ n e2 p => h θ' H' (.ref a) x R.out (.lst (.inl e2) n p.out)
/-- behind an expression: its value stands somewhere, and the rest is asked there -/
def At (K : PySem.W.Frag) (θ : Th) (H : Hp) (P : Th → Hp → D → Sto → Prop) : VK := fun x H1 => ∃ θ1 s1 d, Ext θ H θ1 H1 ∧ RelS K θ1 H1 s1 ∧ Rep θ1 H1 d x ∧ P θ1 H1 d s1
def AtL (K : PySem.W.Frag) (θ : Th) (H : Hp) (P : Th → Hp → List D → Sto → Prop) : List V → Hp → Prop := fun x H1 => ∃ θ1 s1 d, Ext θ H θ1 H1 ∧ RelS K θ1 H1 s1 ∧ Reps θ1 H1 d x ∧ P θ1 H1 d s1
theorem PostE.bind {Q : VK} {r : RE} {k : D → Sto → RE} (h : PostE K W σ Q θ H (r.bind k)) : PostE K W σ (At K θ H fun θ1 H1 d s1 => PostE K W σ Q θ1 H1 (k d s1)) θ H r := by
  cases r with
  | ok d s => exact fun θ' H' v x R p => ⟨θ', s, d, x, R, p, PostE.up x h⟩
  | new l s => exact fun θ' H' a vs x R e n e2 p => ⟨θ', s, .lst l, x, R.out, .lst (.inl e2) n p.out, PostE.up x h⟩
  | exn c s => exact h
  | bad => exact h
theorem PostL.bind {Q : VK} {r : RL} {k : List D → Sto → RE} (h : PostE K W σ Q θ H (r.bind k)) : PostL K W σ (AtL K θ H fun θ1 H1 d s1 => PostE K W σ Q θ1 H1 (k d s1)) θ H r := by
  cases r with
  | ok d s => exact fun θ' H' v x R p => ⟨θ', s, d, x, R, p, PostE.up x h⟩
  | exn c s => exact h
  | bad => exact h
theorem PostE.bindL {Q : List V → Hp → Prop} {r : RE} {k : D → Sto → RL} (h : PostL K W σ Q θ H (r.bindL k)) : PostE K W σ (At K θ H fun θ1 H1 d s1 => PostL K W σ Q θ1 H1 (k d s1)) θ H r := by
  cases r with
  | ok d s => exact fun θ' H' v x R p => ⟨θ', s, d, x, R, p, PostL.up x h⟩
  | new l s => exact fun θ' H' a vs x R e n e2 p => ⟨θ', s, .lst l, x, R.out, .lst (.inl e2) n p.out, PostL.up x h⟩
  | exn c s => exact h
  | bad => exact h
theorem PostL.bindL {Q : List V → Hp → Prop} {r : RL} {k : List D → Sto → RL} (h : PostL K W σ Q θ H (r.bindL k)) : PostL K W σ (AtL K θ H fun θ1 H1 d s1 => PostL K W σ Q θ1 H1 (k d s1)) θ H r := by
  cases r with
  | ok d s => exact fun θ' H' v x R p => ⟨θ', s, d, x, R, p, PostL.up x h⟩
  | exn c s => exact h
  | bad => exact h
theorem PostE.bindB {Q : Bool → Hp → Prop} {r : RE} {k : D → Sto → RB} (h : PostB K W σ Q θ H (r.bindB k)) : PostE K W σ (At K θ H fun θ1 H1 d s1 => PostB K W σ Q θ1 H1 (k d s1)) θ H r := by
  cases r with
  | ok d s => exact fun θ' H' v x R p => ⟨θ', s, d, x, R, p, PostB.up x h⟩
  | new l s => exact fun θ' H' a vs x R e n e2 p => ⟨θ', s, .lst l, x, R.out, .lst (.inl e2) n p.out, PostB.up x h⟩
  | exn c s => exact h
  | bad => exact h
end

/-! ### readings -/
section
variable (K : PySem.W.Frag) (W : WX) (C : Ctx)
def tE (e : E) : TE := fun σ H Q => ∃ θ s ρ, RelS K θ H s ∧ EnvR θ H ρ σ ∧ PostE K W σ Q θ H (evalE C e ρ s)
def tEs (es : List E) : TA := fun σ H Q => ∃ θ s ρ, RelS K θ H s ∧ EnvR θ H ρ σ ∧ PostL K W σ Q θ H (evalEs C es ρ s)
def tT (e : E) : TT := fun σ H Q => ∃ θ s ρ, RelS K θ H s ∧ EnvR θ H ρ σ ∧ PostB K W σ Q θ H (evalT C e ρ s)
end
section
variable {X : Cx} {W : WX} {C : Ctx}
theorem PE.imp {e : Expr} {t t' : TE} (h : PE X e t) (i : ∀ σ H Q, t' σ H Q → t σ H Q) : PE X e t' := ⟨fun pins s σ H Q I q => h.run pins s σ H Q I (i σ H Q q)⟩
theorem PT.imp {e : Expr} {t t' : TT} (h : PT X e t) (i : ∀ σ H Q, t' σ H Q → t σ H Q) : PT X e t' := ⟨fun pins s σ H Q I q => h.run pins s σ H Q I (i σ H Q q)⟩
theorem PW.imp {e : Expr} {t t' : TT} (h : PW X e t) (i : ∀ σ H Q, t' σ H Q → t σ H Q) : PW X e t' := ⟨fun wh pins s σ H Q I q => h.run wh pins s σ H Q I (i σ H Q q)⟩
theorem PA.imp {e : List Expr} {t t' : TA} (h : PA X e t) (i : ∀ σ H Q, t' σ H Q → t σ H Q) : PA X e t' := ⟨fun pos pins s σ H Q I q => h.run pos pins s σ H Q I (i σ H Q q)⟩
theorem OpR.impR {f : Value → Value → Sem Value} {r : R2} (h : ∀ x y H Q, r x y H Q → ∃ r', OpR X f r' ∧ r' x y H Q) : OpR X f r := fun pins s σ H x y v u Q I rx ry q =>
  let ⟨_, h1, h2⟩ := h x y H Q q
  h1 pins s σ H x y v u Q I rx ry h2
/-- the reading of a sub-expression, from what is asked of the whole -/
theorem tE.sub {e : E} {σ : L2.St} {H : Hp} {θ : Th} {s : Sto} {ρ : Env} {Q : VK} {Q' : VK} (R : RelS X.K θ H s) (V : EnvR θ H ρ σ) (h : PostE X.K W σ Q' θ H (evalE C e ρ s))
    (q : ∀ v H', Q' v H' → Q v H') : tE X.K W C e σ H Q := ⟨θ, s, ρ, R, V, h.mono q⟩

/-! ### leaves -/
theorem s_var {i : Nat} {x : Str} {pos : Pos} (hN : X.N[i]? = some x) (hv : Vis X.env.scope x) (h1 : (x == ("__debug__" : Str)) = false) (h2 : (x == ("__classdict__" : Str)) = false) : PE X (.Name x pos) (tE X.K W C (.var i)) :=
  PE.imp (pe_var hN hv h1 h2) fun σ H Q ⟨θ, s, ρ, R, V, h⟩ => by
    unfold evalE at h
    split at h
    · rename_i d e
      obtain ⟨v, e1, r⟩ := V.2 _ _ e
      exact ⟨v, e1, h θ H v (Ext.refl _ _) R r⟩
    · exact h.elim
theorem s_con {e : Expr} {d : D} {v : V} (h : PE X e (tC v)) (r : ∀ θ H, Rep θ H d v) : PE X e (tE X.K W C (.con d)) :=
  PE.imp h fun σ H Q ⟨θ, s, ρ, R, V, h⟩ => by
    unfold evalE at h
    exact h θ H v (Ext.refl _ _) R (r θ H)

/-! ### dicts -/
theorem dct_val {θ : Th} {H : Hp} {k : DK} : ∀ {kvs : List (DK × D)} {ws : List (Key × V)}, ws.map (·.1) = kvs.map (fun p => toK p.1) → Reps θ H (kvs.map (·.2)) (ws.map (·.2)) →
    match valD kvs k with
    | some d => ∃ v, valV ws (toK k) = some v ∧ Rep θ H d v
    | none => valV ws (toK k) = none
  | [], [], _, _ => by simp [valD, valV]
  | [], _ :: _, h, _ => by cases h
  | _ :: _, [], h, _ => by cases h
  | (j, d) :: kvs, (y, v) :: ws, h, r => by
    simp only [List.map_cons, List.cons.injEq] at h r
    obtain ⟨h1, h2⟩ := h
    cases r with
    | cons r1 r2 =>
      have ih := dct_val (k := k) h2 r2
      by_cases e : j = k
      · subst e
        have e1 : valD ((j, d) :: kvs) j = some d := by simp [valD, List.find?_cons]
        rw [e1]
        exact ⟨v, valV_pos (p := (y, v)) h1, r1⟩
      · have e1 : valD ((j, d) :: kvs) k = valD kvs k := by simp [valD, List.find?_cons, e]
        have e2 : valV ((y, v) :: ws) (toK k) = valV ws (toK k) := valV_neg (p := (y, v)) fun q => e (toK_inj (h1.symm.trans q))
        rw [e1, e2]
        exact ih
theorem dct_any {k : DK} : ∀ {kvs : List (DK × D)} {ws : List (Key × V)}, ws.map (·.1) = kvs.map (fun p => toK p.1) → (ws.any fun kv => decide (kv.1 = toK k)) = kvs.any fun kv => decide (kv.1 = k)
  | [], [], _ => rfl
  | [], _ :: _, h => by cases h
  | _ :: _, [], h => by cases h
  | (j, d) :: kvs, (y, v) :: ws, h => by
    simp only [List.map_cons, List.cons.injEq] at h
    obtain ⟨h1, h2⟩ := h
    rw [List.any_cons, List.any_cons, dct_any h2]
    congr 1
    simp only [decide_eq_decide]
    rw [h1]
    exact ⟨fun q => toK_inj q, fun q => by rw [q]⟩
theorem dct_repl {θ : Th} {H : Hp} {k : DK} {d : D} {v : V} (rv : Rep θ H d v) : ∀ {kvs : List (DK × D)} {ws : List (Key × V)}, ws.map (·.1) = kvs.map (fun p => toK p.1) → Reps θ H (kvs.map (·.2)) (ws.map (·.2)) →
    (ws.map fun kv => if kv.1 = toK k then (kv.1, v) else kv).map (·.1) = (kvs.map fun kv => if kv.1 = k then (kv.1, d) else kv).map (fun p => toK p.1) ∧
      Reps θ H ((kvs.map fun kv => if kv.1 = k then (kv.1, d) else kv).map (·.2)) ((ws.map fun kv => if kv.1 = toK k then (kv.1, v) else kv).map (·.2))
  | [], [], _, _ => ⟨rfl, .nil⟩
  | [], _ :: _, h, _ => by cases h
  | _ :: _, [], h, _ => by cases h
  | (j, e) :: kvs, (y, w) :: ws, h, r => by
    simp only [List.map_cons, List.cons.injEq] at h r
    obtain ⟨h1, h2⟩ := h
    cases r with
    | cons r1 r2 =>
      obtain ⟨i1, i2⟩ := dct_repl (k := k) rv h2 r2
      by_cases q : j = k
      · subst q
        simp only [List.map_cons, h1, if_true]
        exact ⟨by rw [i1], .cons rv i2⟩
      · have q2 : ¬ y = toK k := fun z => q (toK_inj (h1.symm.trans z))
        simp only [List.map_cons, if_neg q, if_neg q2]
        exact ⟨by rw [i1, h1], .cons r1 i2⟩
theorem dct_put {θ : Th} {H : Hp} {k : DK} {d : D} {v : V} {kvs : List (DK × D)} {ws : List (Key × V)} (rv : Rep θ H d v) (h : ws.map (·.1) = kvs.map (fun p => toK p.1)) (r : Reps θ H (kvs.map (·.2)) (ws.map (·.2))) :
    (putK ws (toK k) v).map (·.1) = (putD kvs k d).map (fun p => toK p.1) ∧ Reps θ H ((putD kvs k d).map (·.2)) ((putK ws (toK k) v).map (·.2)) := by
  unfold putK putD
  rw [dct_any h]
  split
  · exact dct_repl rv h r
  · rw [List.map_append, List.map_append, List.map_append, List.map_append, h]
    exact ⟨rfl, r.append (.cons rv .nil)⟩
theorem key_rep {θ : Th} {H : Hp} {d : D} {v : V} {k : DK} (r : Rep θ H d v) (h : keyD d = some k) : v = kV (toK k) := by
  cases r <;> cases h <;> rfl
/-- what stands at a ref to a dict -/
theorem cellK_rd {K : PySem.W.Frag} {θ : Th} {H : Hp} {s : Sto} (R : RelS K θ H s) {d : D} {v : V} {n : Nat} {kvs : List (DK × D)} (r : Rep θ H d v) (h : cellK s d = some (n, kvs)) :
    s[n]? = some (.dct kvs) ∧ ∃ a ws, v = .ref a ∧ θ.c[n]? = some a ∧ H a = some (.dK ws) ∧ ws.map (·.1) = kvs.map (fun p => toK p.1) ∧ Reps θ H (kvs.map (·.2)) (ws.map (·.2)) := by
  cases r with
  | @ref m a e =>
    cases hc : s[m]? with
    | none => simp [cellK, hc] at h
    | some c =>
      cases c with
      | dct kvs' =>
        simp [cellK, hc] at h
        obtain ⟨rfl, rfl⟩ := h
        obtain ⟨ws, e1, e2, e3⟩ := R.cell _ _ _ hc e
        exact ⟨hc, a, ws, rfl, e, e1, e2, e3⟩
      | lst _ => simp [cellK, hc] at h
      | ins _ _ => simp [cellK, hc] at h
      | tpc _ => simp [cellK, hc] at h
  | _ => simp [cellK] at h

/-! ### arguments, displays -/
theorem s_nil : PA X [] (tEs X.K W C []) := PA.imp pa_nil fun σ H Q ⟨θ, s, ρ, R, V, h⟩ => by
  unfold evalEs at h
  exact h θ H [] (Ext.refl _ _) R .nil
theorem s_cons {e : Expr} {es : List Expr} {ir : E} {irs : List E} (he : PE X e (tE X.K W C ir)) (hes : PA X es (tEs X.K W C irs)) (hs : starEach (e :: es) X.env = (false, eval e X.env) :: starEach es X.env) :
    PA X (e :: es) (tEs X.K W C (ir :: irs)) := PA.imp (pa_cons he hes hs) fun σ H Q ⟨θ, s, ρ, R, V, h⟩ => by
  unfold evalEs at h
  refine tE.sub R V (PostE.bindL h) fun v H' ⟨θ1, s1, d, x1, R1, r1, h1⟩ => ?_
  refine ⟨θ1, s1, ρ, R1, V.ext x1, (PostL.bindL h1).mono fun vs H2 ⟨θ2, s2, ds, x2, R2, r2, h2⟩ => ?_⟩
  exact h2 θ2 H2 (v :: vs) (Ext.refl _ _) R2 (.cons (r1.ext x2) r2)
theorem lim_le : lim ≤ sizeLine := by decide
theorem s_tup {es : List Expr} {irs : List E} {x1 : Nat} {pos : Pos} (h : PA X es (tEs X.K W C irs)) : PE X (.Tuple es x1 pos) (tE X.K W C (.tup irs)) :=
  PE.imp (pe_tup h) fun σ H Q ⟨θ, s, ρ, R, V, h⟩ => by
    unfold evalE at h
    refine ⟨θ, s, ρ, R, V, (PostL.bind h).mono fun vs H1 ⟨θ1, s1, ds, x1, R1, r1, h1⟩ => ?_⟩
    dsimp only at h1
    split at h1
    · rename_i hl
      refine ⟨by rw [← r1.length]; exact Nat.le_trans hl lim_le, fun p hp => ?_⟩
      exact h1 θ1 _ (.ref p) (R1.ext hp) (R1.newUpd hp) (.tup (.inl upd_same) (R1.free hp) (r1.ext (R1.ext hp)))
    · exact h1.elim
theorem s_lst {es : List Expr} {irs : List E} {pos : Pos} (h : PA X es (tEs X.K W C irs)) : PE X (.List es pos) (tE X.K W C (.lst irs)) :=
  PE.imp (pe_lst h) fun σ H Q ⟨θ, s, ρ, R, V, h⟩ => by
    unfold evalE at h
    refine ⟨θ, s, ρ, R, V, (PostL.bind h).mono fun vs H1 ⟨θ1, s1, ds, x1, R1, r1, h1⟩ => ?_⟩
    dsimp only at h1
    split at h1
    · rename_i hl
      refine ⟨by rw [← r1.length]; exact Nat.le_trans hl lim_le, fun p hp => ?_⟩
      exact h1 θ1 _ p vs (R1.ext hp) (R1.into hp) hp (R1.free hp) upd_same (r1.ext0 (Ext0.into hp))
    · exact h1.elim

/-! ### operators -/
/-- a new tuple, a new list is laid -/
theorem PostE.tup {Q : VK} {σ : L2.St} {θ : Th} {H : Hp} {s : Sto} {ds : List D} {vs : List V} (h : PostE X.K W σ Q θ H (.ok (.tup ds) s)) (R : RelS X.K θ H s) (r : Reps θ H ds vs) : ∀ p, H p = none → Q (.ref p) (upd H p (.tup vs)) := fun p hp =>
  h θ _ (.ref p) (R.ext hp) (R.newUpd hp) (.tup (.inl upd_same) (R.free hp) (r.ext (R.ext hp)))
theorem PostE.lst {Q : VK} {σ : L2.St} {θ : Th} {H : Hp} {s : Sto} {ds : List D} {vs : List V} (h : PostE X.K W σ Q θ H (.new ds s)) (R : RelS X.K θ H s) (r : Reps θ H ds vs) : ∀ p, H p = none → Q (.ref p) (upd H p (.lst vs)) := fun p hp =>
  h θ _ p vs (R.ext hp) (R.into hp) hp (R.free hp) upd_same (r.ext0 (Ext0.into hp))
theorem PostE.val {Q : VK} {σ : L2.St} {θ : Th} {H : Hp} {s : Sto} {d : D} {v : V} (h : PostE X.K W σ Q θ H (.ok d s)) (R : RelS X.K θ H s) (r : Rep θ H d v) : Q v H := h θ H v (Ext.refl _ _) R r

/-- xs + ys of lists, read in any way -/
def rCatL (K : PySem.W.Frag) : R2 := fun x y H Q => ∃ l b xs zs, x = .ref l ∧ y = .ref b ∧ Rd H l (.lst xs) ∧ Rd H b (.lst zs) ∧ xs.length + zs.length ≤ sizeLine ∧ ∀ p, H p = none → Q (.ref p) (upd H p (.lst (xs ++ zs)))
theorem rd_lst {pins : List (Addr × Obj)} {σ : L2.St} {H : Hp} {s : Shared} {a : Addr} {xs : List V} (I : Inv X pins σ H s) (h : Rd H a (.lst xs)) : ∃ (its : List Value) (n : Nat), Vals xs its ∧ s.heap.get? a = some { cls := .type "list", data := .seq its.toArray n } := by
  obtain ⟨_, its, n, r, e⟩ := h.ok I.hok
  exact ⟨its, n, r, e⟩
theorem op_catL : OpR X (binaryOp .Add) (rCatL X.K) := by
  intro pins s σ H x y v u Q I rx ry h
  obtain ⟨l, b, xs, zs, rfl, rfl, hH, hB, hz, q⟩ := h
  cases rx
  cases ry
  obtain ⟨its, n, r, e⟩ := rd_lst I hH
  obtain ⟨its2, n2, r2, e2⟩ := rd_lst I hB
  have hl := r.length
  have hl2 := r2.length
  refine PySem.P.add_list e e2 ?_ (by rw [List.size_toArray, List.size_toArray]; omega)
  have ea : its.toArray ++ its2.toArray = (its ++ its2).toArray := by simp
  rw [ea]
  exact ⟨.ref _, _, I.lnew (t' := s.toks) (r.append r2) (by rw [List.length_append]; omega), rfl, q _ I.fresh⟩
/-- what a list or a ref to a list cell stands for -/
theorem asL_rd {K : PySem.W.Frag} {θ : Th} {H : Hp} {s : Sto} (R : RelS K θ H s) {d : D} {v : V} {l : List D} (r : Rep θ H d v) (h : asL s d = some l) : ∃ a vs, v = .ref a ∧ Rd H a (.lst vs) ∧ Reps θ H l vs := by
  cases r with
  | lst h1 n1 r1 =>
    simp [asL] at h
    subst h
    exact ⟨_, _, rfl, h1, r1⟩
  | @ref n a e =>
    cases hc : s[n]? with
    | none => simp [asL, hc] at h
    | some c =>
      cases c with
      | lst l' =>
        simp [asL, hc] at h
        subst h
        obtain ⟨vs, e1, r1⟩ := R.cell _ _ _ hc e
        exact ⟨_, vs, rfl, .inl e1, r1⟩
      | ins _ _ => simp [asL, hc] at h
      | dct _ => simp [asL, hc] at h
      | tpc _ => simp [asL, hc] at h
  | _ => simp [asL] at h
theorem asSq_rd {K : PySem.W.Frag} {θ : Th} {H : Hp} {s : Sto} (R : RelS K θ H s) {d : D} {v : V} {l : List D} (r : Rep θ H d v) (h : asSq s d = some l) :
    ∃ a vs, v = .ref a ∧ (Rd H a (.lst vs) ∨ Rd H a (.tup vs)) ∧ Reps θ H l vs := by
  cases r with
  | tup h1 n1 r1 =>
    simp [asSq] at h
    subst h
    exact ⟨_, _, rfl, .inr h1, r1⟩
  | lst h1 n1 r1 =>
    obtain ⟨a, vs, e, h2, r2⟩ := asL_rd R (.lst h1 n1 r1) h
    exact ⟨a, vs, e, .inl h2, r2⟩
  | ref e =>
    obtain ⟨a, vs, e, h2, r2⟩ := asL_rd R (.ref e) h
    exact ⟨a, vs, e, .inl h2, r2⟩
  | _ => simp [asSq, asL] at h
theorem cellT_rd {K : PySem.W.Frag} {θ : Th} {H : Hp} {s : Sto} (R : RelS K θ H s) {d : D} {v : V} {ns : List Int} (r : Rep θ H d v) (h : cellT s d = some ns) : ∃ a, v = .ref a ∧ TpcR H a ns := by
  cases r with
  | @ref m a e =>
    cases hc : s[m]? with
    | none => simp [cellT, hc] at h
    | some c =>
      cases c with
      | tpc ns' =>
        simp [cellT, hc] at h
        subst h
        exact ⟨a, rfl, R.cell _ _ _ hc e⟩
      | lst _ => simp [cellT, hc] at h
      | ins _ _ => simp [cellT, hc] at h
      | dct _ => simp [cellT, hc] at h
  | _ => simp [cellT] at h
theorem reps_ints {θ : Th} {H : Hp} : ∀ ns : List Int, Reps θ H (ns.map D.int) (ns.map V.int)
  | [] => .nil
  | n :: ns => .cons (.int n) (reps_ints ns)
theorem asSqT_rd {K : PySem.W.Frag} {θ : Th} {H : Hp} {s : Sto} (R : RelS K θ H s) {d : D} {v : V} {l : List D} (r : Rep θ H d v) (h : asSqT s d = some l) :
    ∃ a vs, v = .ref a ∧ (Rd H a (.lst vs) ∨ Rd H a (.tup vs)) ∧ Reps θ H l vs := by
  unfold asSqT at h
  split at h
  · rename_i ns hn
    cases h
    obtain ⟨a, rfl, ob, e, _⟩ := cellT_rd R r hn
    exact ⟨a, _, rfl, .inr (.inr ⟨ob, e⟩), reps_ints ns⟩
  · exact asSq_rd R r h
end
end KL

set_option Elab.async false
set_option linter.all false
set_option maxRecDepth 100000
set_option maxHeartbeats 4000000
set_option autoImplicit false
/-! KLOps: operators, comparisons, subscripts, slices, truth. -/
namespace KL
open PySem PySem.Spec PyProof.Rows L2

def bop : BinO → Operator
  | .add => .Add
  | .sub => .Sub
  | .mul => .Mult
  | .fdiv => .FloorDiv
  | .mod => .Mod
  | .pow => .Pow
def cop : CmpO → CmpOp
  | .eq => .Eq
  | .ne => .NotEq
  | .lt => .Lt
  | .le => .LtE
  | .gt => .Gt
  | .ge => .GtE
  | .in_ => .In
  | .notin => .NotIn
  | .is_ => .Is
  | .isnot => .IsNot
/-- what is asked of two values, of a result over them -/
def rOf (K : PySem.W.Frag) (f : D → D → Sto → RE) : R2 := fun x y H Q => ∃ (W : WX) (σ : L2.St) (θ : Th) (s : Sto) (d e : D), RelS K θ H s ∧ Rep θ H d x ∧ Rep θ H e y ∧ PostE K W σ Q θ H (f d e s)

section
variable {X : Cx} {W : WX} {C : Ctx}
theorem newIf_lst {K : PySem.W.Frag} {σ : L2.St} {Q : VK} {θ : Th} {H : Hp} {l : List D} {s : Sto} (h : PostE K W σ Q θ H (newIf l s)) : l.length ≤ lim ∧ PostE K W σ Q θ H (.new l s) := by
  unfold newIf at h
  split at h
  · exact ⟨by assumption, h⟩
  · exact h.elim
theorem cat_go {σ : L2.St} {θ : Th} {H : Hp} {s : Sto} {Q : VK} {d e : D} {x y : V} {l m : List D} (R : RelS X.K θ H s) (r1 : Rep θ H d x) (r2 : Rep θ H e y) (h1 : asL s d = some l) (h2 : asL s e = some m)
    (h : PostE X.K W σ Q θ H (newIf (l ++ m) s)) : rCatL X.K x y H Q := by
  obtain ⟨a, vs, rfl, ha, ra⟩ := asL_rd R r1 h1
  obtain ⟨b, ws, rfl, hb, rb⟩ := asL_rd R r2 h2
  obtain ⟨hl, h⟩ := newIf_lst h
  refine ⟨a, b, vs, ws, rfl, rfl, ha, hb, ?_, h.lst R (ra.append rb)⟩
  rw [← ra.length, ← rb.length, ← List.length_append]
  exact Nat.le_trans hl lim_le
/-- powers of greater numbers -/
def CPowL (i j : Int) : Prop := 0 ≤ j ∧ j ≤ 1000 ∧ i.natAbs.log2 < 1000
theorem op_powL : OpR X (binaryOp .Pow) (rI CPowL fun i j => .int (i ^ j.toNat)) := opI fun i j _ _ _ _ _ hc q => pow_int hc.1 (by
  obtain ⟨h0, h1, h2⟩ := hc
  have hb : Builtin.Int.intBits i ≤ 1000 := by
    by_cases z : i.natAbs = 0
    · exact Nat.le_trans (intBits_le (k := 1) (by rw [z]; decide)) (by decide)
    · exact intBits_le ((Nat.log2_lt z).mp h2)
  have h3 : (Builtin.Int.intBits i : Int) * j ≤ 1000 * j := Int.mul_le_mul_of_nonneg_right (by omega) h0
  omega) q
theorem op_binR (o : BinO) : OpR X (binaryOp (bop o)) (rOf X.K (binD o)) := OpR.impR fun x y H Q ⟨W, σ, θ, s, d, e, R, r1, r2, h⟩ => by
  cases o with
  | add =>
    cases r1 with
    | int i =>
      cases r2 with
      | int j => exact ⟨_, op_add, i, j, rfl, rfl, h.val R (.int _)⟩
      | _ => exact False.elim h
    | str z =>
      cases r2 with
      | str z2 =>
        simp only [binD] at h
        split at h
        · rename_i hl
          refine ⟨_, op_add_str, toS z, toS z2, rfl, rfl, ?_, ?_⟩
          · rw [toS_length, toS_length]
            exact Nat.le_trans hl lim_le
          · rw [← toS_append]
            exact h.val R (.str _)
        · exact h.elim
      | _ => exact False.elim h
    | tup h1 n1 q1 =>
      cases r2 with
      | tup h2 n2 q2 =>
        simp only [binD] at h
        split at h
        · rename_i hl
          refine ⟨_, op_catA, _, _, _, _, rfl, rfl, .inl h1, .inl h2, ?_, fun e => ?_, fun _ e => ?_, fun _ _ => h.tup R (q1.append q2)⟩
          · rw [← q1.length, ← q2.length]
            exact Nat.le_trans hl lim_le
          · rw [(q1.nil_iff).mpr e, List.nil_append] at h
            exact h.val R (.tup h2 n2 q2)
          · rw [(q2.nil_iff).mpr e, List.append_nil] at h
            exact h.val R (.tup h1 n1 q1)
        · exact h.elim
      | _ => exact False.elim h
    | lst h1 n1 q1 =>
      cases r2 with
      | lst h2 n2 q2 => exact ⟨_, op_catL, cat_go R (.lst h1 n1 q1) (.lst h2 n2 q2) rfl rfl h⟩
      | ref e2 =>
        simp only [binD] at h
        split at h
        · rename_i b hb
          exact ⟨_, op_catL, cat_go R (.lst h1 n1 q1) (.ref e2) rfl hb h⟩
        · exact h.elim
      | _ => exact False.elim h
    | ref e1 =>
      cases r2 with
      | lst h2 n2 q2 =>
        simp only [binD] at h
        split at h
        · rename_i b hb
          exact ⟨_, op_catL, cat_go R (.ref e1) (.lst h2 n2 q2) hb rfl h⟩
        · exact h.elim
      | ref e2 =>
        simp only [binD] at h
        split at h
        · rename_i b c hb hc
          exact ⟨_, op_catL, cat_go R (.ref e1) (.ref e2) hb hc h⟩
        · exact h.elim
      | _ => exact False.elim h
    | _ => exact False.elim h
  | sub =>
    cases r1 with
    | int i =>
      cases r2 with
      | int j => exact ⟨_, op_sub, i, j, rfl, rfl, h.val R (.int _)⟩
      | _ => exact False.elim h
    | _ => exact False.elim h
  | mul =>
    cases r1 with
    | int i =>
      cases r2 with
      | int j =>
        simp only [binD] at h
        split at h
        · rename_i hc
          exact ⟨_, op_mul, i, j, rfl, rfl, hc, h.val R (.int _)⟩
        · exact h.elim
      | _ => exact False.elim h
    | str z =>
      cases r2 with
      | int k =>
        simp only [binD] at h
        split at h
        · rename_i hc
          obtain ⟨c1, c2, c3⟩ := hc
          refine ⟨_, op_mul_s, toS z, k, rfl, rfl, c1, c2, ?_, ?_⟩
          · rw [toS_length]
            exact c3
          · rw [mul_txt]
            exact h.val R (.str _)
        · exact h.elim
      | _ => exact False.elim h
    | lst h1 n1 q1 =>
      cases r2 with
      | int k =>
        simp only [binD] at h
        split at h
        · rename_i hc
          obtain ⟨c1, c2, c3⟩ := hc
          exact ⟨_, op_repR, _, k, _, rfl, rfl, h1, c1, c2, by rw [← q1.length]; exact c3, h.lst R (q1.rep _)⟩
        · exact h.elim
      | _ => exact False.elim h
    | tup h1 n1 q1 =>
      cases r2 with
      | int k =>
        simp only [binD] at h
        split at h
        · rename_i hc
          obtain ⟨c1, c2, c3, c4⟩ := hc
          exact ⟨_, op_repT, _, k, _, rfl, rfl, .inl h1, fun e => c1 ((q1.nil_iff).mpr e), c2, c3, by rw [← q1.length]; exact c4, h.tup R (q1.rep _)⟩
        · exact h.elim
      | _ => exact False.elim h
    | _ => exact False.elim h
  | fdiv =>
    cases r1 with
    | int i =>
      cases r2 with
      | int j =>
        simp only [binD] at h
        split at h
        · rename_i hc
          exact ⟨_, op_fdiv, i, j, rfl, rfl, hc, h.val R (.int _)⟩
        · exact h.elim
      | _ => exact False.elim h
    | _ => exact False.elim h
  | mod =>
    cases r1 with
    | int i =>
      cases r2 with
      | int j =>
        simp only [binD] at h
        split at h
        · rename_i hc
          exact ⟨_, op_mod, i, j, rfl, rfl, hc, h.val R (.int _)⟩
        · exact h.elim
      | _ => exact False.elim h
    | _ => exact False.elim h
  | pow =>
    cases r1 with
    | int i =>
      cases r2 with
      | int j =>
        simp only [binD] at h
        split at h
        · rename_i hc
          exact ⟨_, op_pow, i, j, rfl, rfl, hc, h.val R (.int _)⟩
        · split at h
          · rename_i hc
            exact ⟨_, op_powL, i, j, rfl, rfl, hc, h.val R (.int _)⟩
          · exact h.elim
      | _ => exact False.elim h
    | _ => exact False.elim h

/-- two sub-expressions in a row -/
theorem two {ia ib : E} {k : D → D → Sto → RE} {σ : L2.St} {H : Hp} {Q : VK} {θ : Th} {s : Sto} {ρ : Env} (R : RelS X.K θ H s) (V : EnvR θ H ρ σ)
    (h : PostE X.K W σ Q θ H ((evalE C ia ρ s).bind fun x s => (evalE C ib ρ s).bind fun y s => k x y s)) :
    tE X.K W C ia σ H fun x H1 => tE X.K W C ib σ H1 fun y H2 => ∃ θ2 s2 d e, Ext θ H θ2 H2 ∧ RelS X.K θ2 H2 s2 ∧ EnvR θ2 H2 ρ σ ∧ Rep θ2 H2 d x ∧ Rep θ2 H2 e y ∧ PostE X.K W σ Q θ2 H2 (k d e s2) := by
  refine tE.sub R V (PostE.bind h) fun x H1 ⟨θ1, s1, d, x1, R1, r1, h1⟩ => ?_
  refine tE.sub R1 (V.ext x1) (PostE.bind h1) fun y H2 ⟨θ2, s2, e, x2, R2, r2, h2⟩ => ?_
  exact ⟨θ2, s2, d, e, x1.trans x2, R2, (V.ext x1).ext x2, r1.ext x2, r2, h2⟩
theorem s_bin {o : BinO} {a b : Expr} {ia ib : E} {pos : Pos} (ha : PE X a (tE X.K W C ia)) (hb : PE X b (tE X.K W C ib)) : PE X (.BinOp a (bop o) b pos) (tE X.K W C (.bin o ia ib)) :=
  PE.imp (pe_op (op_binR o) ha hb) fun σ H Q ⟨θ, s, ρ, R, V, h⟩ => by
    unfold evalE at h
    obtain ⟨θ1, s1, ρ1, R1, V1, q⟩ := two R V h
    exact ⟨θ1, s1, ρ1, R1, V1, q.mono fun x H1 ⟨θ1, s1, ρ1, R1, V1, q⟩ => ⟨θ1, s1, ρ1, R1, V1, q.mono fun y H2 ⟨θ2, s2, d, e, _, R2, _, r1, r2, h2⟩ => ⟨W, σ, θ2, s2, d, e, R2, r1, r2, h2⟩⟩⟩
theorem s_neg {a : Expr} {ia : E} {pos : Pos} (ha : PE X a (tE X.K W C ia)) : PE X (.UnaryOp .USub a pos) (tE X.K W C (.neg ia)) :=
  PE.imp (pe_un un_neg ha) fun σ H Q ⟨θ, s, ρ, R, V, h⟩ => by
    unfold evalE at h
    refine tE.sub R V (PostE.bind h) fun x H1 ⟨θ1, s1, d, x1, R1, r1, h1⟩ => ?_
    cases r1 with
    | int i => exact ⟨i, rfl, h1.val R1 (.int _)⟩
    | _ => exact False.elim h1

/-! ### truth -/
theorem len0 (z : String) : ((z.length : Int) != 0) = (z.length != 0) := by
  by_cases h : z.length = 0
  · rw [h]; rfl
  · have h1 : ((z.length : Int) != 0) = true := bne_iff_ne.mpr fun e => h (by omega)
    have h2 : (z.length != 0) = true := by simp [h]
    rw [h1, h2]
theorem truth_ok {θ : Th} {H : Hp} {s : Sto} {d : D} {x : V} {k : Bool} (R : RelS X.K θ H s) (r : Rep θ H d x) (h : truth s d = some k) : TruV X.K x H k := by
  cases r with
  | non => exact (Option.some.inj h).symm
  | bl b => exact (Option.some.inj h).symm
  | int i => exact (Option.some.inj h).symm
  | str z =>
    simp only [truth] at h
    split at h
    · rename_i hl
      refine ⟨by rw [toS_length]; exact Nat.le_trans hl lim_le, ?_⟩
      rw [toS_length, len0]
      exact (Option.some.inj h).symm
    · cases h
  | tup h1 n1 q1 =>
    refine .inr (.inl ⟨_, .inl h1, ?_⟩)
    rw [← q1.isEmpty]
    exact (Option.some.inj h).symm
  | lst h1 n1 q1 =>
    refine .inl ⟨_, .inl h1, ?_⟩
    rw [← q1.isEmpty]
    exact (Option.some.inj h).symm
  | @ref n a e =>
    cases hc : s[n]? with
    | none => simp [truth, hc] at h
    | some c =>
      cases c with
      | lst l =>
        simp [truth, hc] at h
        obtain ⟨vs, e1, q1⟩ := R.cell _ _ _ hc e
        refine .inl ⟨_, .inl (.inl e1), ?_⟩
        rw [← q1.isEmpty, h, Bool.not_not]
      | ins _ _ => simp [truth, hc] at h
      | dct _ => simp [truth, hc] at h
      | tpc _ => simp [truth, hc] at h
theorem s_not {a : Expr} {ia : E} {pos : Pos} (ha : PE X a (tE X.K W C ia)) : PE X (.UnaryOp .Not a pos) (tE X.K W C (.not ia)) :=
  PE.imp (pe_notT ha) fun σ H Q ⟨θ, s, ρ, R, V, h⟩ => by
    unfold evalE at h
    refine tE.sub R V (PostE.bind h) fun x H1 ⟨θ1, s1, d, x1, R1, r1, h1⟩ => ?_
    dsimp only at h1
    split at h1
    · rename_i k e
      exact ⟨k, truth_ok R1 r1 e, h1.val R1 (.bl _)⟩
    · exact False.elim h1
theorem s_and {a b : Expr} {rest : List Expr} {ia ib : E} {pos : Pos} (ha : PE X a (tE X.K W C ia)) (hb : PE X (.BoolOp .And (b :: rest) pos) (tE X.K W C ib)) : PE X (.BoolOp .And (a :: b :: rest) pos) (tE X.K W C (.and ia ib)) :=
  PE.imp (pe_andT ha hb) fun σ H Q ⟨θ, s, ρ, R, V, h⟩ => by
    unfold evalE at h
    refine tE.sub R V (PostE.bind h) fun x H1 ⟨θ1, s1, d, x1, R1, r1, h1⟩ => ?_
    dsimp only at h1
    split at h1
    · rename_i e
      exact ⟨true, truth_ok R1 r1 e, by rw [if_pos rfl]; exact ⟨θ1, s1, ρ, R1, V.ext x1, h1⟩⟩
    · rename_i e
      exact ⟨false, truth_ok R1 r1 e, by rw [if_neg Bool.false_ne_true]; exact h1.val R1 r1⟩
    · exact False.elim h1
theorem s_or {a b : Expr} {rest : List Expr} {ia ib : E} {pos : Pos} (ha : PE X a (tE X.K W C ia)) (hb : PE X (.BoolOp .Or (b :: rest) pos) (tE X.K W C ib)) : PE X (.BoolOp .Or (a :: b :: rest) pos) (tE X.K W C (.or ia ib)) :=
  PE.imp (pe_orT ha hb) fun σ H Q ⟨θ, s, ρ, R, V, h⟩ => by
    unfold evalE at h
    refine tE.sub R V (PostE.bind h) fun x H1 ⟨θ1, s1, d, x1, R1, r1, h1⟩ => ?_
    dsimp only at h1
    split at h1
    · rename_i e
      exact ⟨true, truth_ok R1 r1 e, by rw [if_pos rfl]; exact h1.val R1 r1⟩
    · rename_i e
      exact ⟨false, truth_ok R1 r1 e, by rw [if_neg Bool.false_ne_true]; exact ⟨θ1, s1, ρ, R1, V.ext x1, h1⟩⟩
    · exact False.elim h1

/-! ### tests -/
/-- a test by its value's truth -/
theorem st_truth {e : Expr} {ir : E} (he : PE X e (tE X.K W C ir)) (hp : ∀ whole, isTrue e X.env whole = (do let v ← whole; standAt e.pos; holding [v] (truthy v))) : PT X e (tT X.K W C ir) :=
  PT.imp (pt_truth he hp) fun σ H Q ⟨θ, s, ρ, R, V, h⟩ => by
    unfold evalT at h
    refine tE.sub R V (PostE.bindB h) fun x H1 ⟨θ1, s1, d, x1, R1, r1, h1⟩ => ?_
    dsimp only at h1
    split at h1
    · rename_i k e
      exact ⟨k, truth_ok R1 r1 e, h1 θ1 H1 (Ext.refl _ _) R1⟩
    · exact False.elim h1
theorem st_not {a : Expr} {ia : E} {pos : Pos} (ha : PT X a (tT X.K W C ia)) : PT X (.UnaryOp .Not a pos) (tT X.K W C (.not ia)) :=
  PT.imp (pt_not ha) fun σ H Q ⟨θ, s, ρ, R, V, h⟩ => by
    refine ⟨θ, s, ρ, R, V, ?_⟩
    unfold evalT at h ⊢
    unfold evalE at h
    cases hr : evalE C ia ρ s with
    | ok d s1 =>
      rw [hr] at h
      simp only [RE.bind, RE.bindB] at h ⊢
      cases ht : truth s1 d with
      | none => rw [ht] at h; exact h
      | some k => rw [ht] at h; exact h
    | new l s1 =>
      rw [hr] at h
      simp only [RE.bind, RE.bindB] at h ⊢
      cases ht : truth s1 (.lst l) with
      | none => rw [ht] at h; exact h
      | some k => rw [ht] at h; exact h
    | exn c s1 => rw [hr] at h; exact h
    | bad => rw [hr] at h; exact h
theorem stw_and1 {a : Expr} {ia : E} {pos : Pos} (ha : PT X a (tT X.K W C ia)) : PW X (.BoolOp .And [a] pos) (tT X.K W C ia) := pw_and1 ha
theorem stw_or1 {a : Expr} {ia : E} {pos : Pos} (ha : PT X a (tT X.K W C ia)) : PW X (.BoolOp .Or [a] pos) (tT X.K W C ia) := pw_or1 ha
theorem stw_and {a b : Expr} {rest : List Expr} {ia ib : E} {pos : Pos} (ha : PT X a (tT X.K W C ia)) (hb : PW X (.BoolOp .And (b :: rest) pos) (tT X.K W C ib)) : PW X (.BoolOp .And (a :: b :: rest) pos) (tT X.K W C (.and ia ib)) :=
  PW.imp (pw_and ha hb) fun σ H Q ⟨θ, s, ρ, R, V, h⟩ => by
    refine ⟨θ, s, ρ, R, V, ?_⟩
    unfold evalT at h ⊢
    unfold evalE at h
    cases hr : evalE C ia ρ s with
    | ok d s1 =>
      rw [hr] at h
      simp only [RE.bind, RE.bindB] at h ⊢
      cases ht : truth s1 d with
      | none => rw [ht] at h; exact h
      | some k =>
        rw [ht] at h
        cases k with
        | true =>
          intro θ1 H1 x1 R1
          rw [if_pos rfl]
          refine ⟨θ1, s1, ρ, R1, V.ext x1, ?_⟩
          exact PostB.up x1 h
        | false =>
          dsimp only at h
          rw [ht] at h
          intro θ1 H1 x1 R1
          rw [if_neg Bool.false_ne_true]
          exact h θ1 H1 x1 R1
    | new l s1 =>
      rw [hr] at h
      simp only [RE.bind, RE.bindB] at h ⊢
      cases ht : truth s1 (.lst l) with
      | none => rw [ht] at h; exact h
      | some k =>
        rw [ht] at h
        cases k with
        | true =>
          intro θ1 H1 x1 R1
          rw [if_pos rfl]
          refine ⟨θ1, s1, ρ, R1, V.ext x1, ?_⟩
          exact PostB.up x1 h
        | false =>
          dsimp only at h
          rw [ht] at h
          intro θ1 H1 x1 R1
          rw [if_neg Bool.false_ne_true]
          exact h θ1 H1 x1 R1
    | exn c s1 => rw [hr] at h; exact h
    | bad => rw [hr] at h; exact h
theorem stw_or {a b : Expr} {rest : List Expr} {ia ib : E} {pos : Pos} (ha : PT X a (tT X.K W C ia)) (hb : PW X (.BoolOp .Or (b :: rest) pos) (tT X.K W C ib)) : PW X (.BoolOp .Or (a :: b :: rest) pos) (tT X.K W C (.or ia ib)) :=
  PW.imp (pw_or ha hb) fun σ H Q ⟨θ, s, ρ, R, V, h⟩ => by
    refine ⟨θ, s, ρ, R, V, ?_⟩
    unfold evalT at h ⊢
    unfold evalE at h
    cases hr : evalE C ia ρ s with
    | ok d s1 =>
      rw [hr] at h
      simp only [RE.bind, RE.bindB] at h ⊢
      cases ht : truth s1 d with
      | none => rw [ht] at h; exact h
      | some k =>
        rw [ht] at h
        cases k with
        | false =>
          intro θ1 H1 x1 R1
          rw [if_neg Bool.false_ne_true]
          refine ⟨θ1, s1, ρ, R1, V.ext x1, ?_⟩
          exact PostB.up x1 h
        | true =>
          dsimp only at h
          rw [ht] at h
          intro θ1 H1 x1 R1
          rw [if_pos rfl]
          exact h θ1 H1 x1 R1
    | new l s1 =>
      rw [hr] at h
      simp only [RE.bind, RE.bindB] at h ⊢
      cases ht : truth s1 (.lst l) with
      | none => rw [ht] at h; exact h
      | some k =>
        rw [ht] at h
        cases k with
        | false =>
          intro θ1 H1 x1 R1
          rw [if_neg Bool.false_ne_true]
          refine ⟨θ1, s1, ρ, R1, V.ext x1, ?_⟩
          exact PostB.up x1 h
        | true =>
          dsimp only at h
          rw [ht] at h
          intro θ1 H1 x1 R1
          rw [if_pos rfl]
          exact h θ1 H1 x1 R1
    | exn c s1 => rw [hr] at h; exact h
    | bad => rw [hr] at h; exact h
theorem s_ite {c a b : Expr} {ic ia ib : E} {pos : Pos} (hc : PT X c (tT X.K W C ic)) (ha : PE X a (tE X.K W C ia)) (hb : PE X b (tE X.K W C ib)) : PE X (.IfExp c a b pos) (tE X.K W C (.ite ic ia ib)) :=
  PE.imp (pe_ifExp hc ha hb) fun σ H Q ⟨θ, s, ρ, R, V, h⟩ => by
    refine ⟨θ, s, ρ, R, V, ?_⟩
    unfold evalT
    unfold evalE at h
    have go : ∀ d s1, PostE X.K W σ Q θ H (match truth s1 d with
      | some true => evalE C ia ρ s1
      | some false => evalE C ib ρ s1
      | none => .bad) → PostB X.K W σ (fun c H1 => if c = true then tE X.K W C ia σ H1 Q else tE X.K W C ib σ H1 Q) θ H (match truth s1 d with
      | some k => .ok k s1
      | none => .bad) := fun d s1 h => by
      cases ht : truth s1 d with
      | none => rw [ht] at h; exact h
      | some k =>
        rw [ht] at h
        intro θ1 H1 x1 R1
        cases k with
        | true => rw [if_pos rfl]; exact ⟨θ1, s1, ρ, R1, V.ext x1, PostE.up x1 h⟩
        | false => rw [if_neg Bool.false_ne_true]; exact ⟨θ1, s1, ρ, R1, V.ext x1, PostE.up x1 h⟩
    cases hr : evalE C ic ρ s with
    | ok d s1 => rw [hr] at h; exact go d s1 h
    | new l s1 => rw [hr] at h; exact go _ s1 h
    | exn c s1 => rw [hr] at h; exact h
    | bad => rw [hr] at h; exact h
end
end KL

set_option Elab.async false
set_option linter.all false
set_option maxRecDepth 100000
set_option maxHeartbeats 4000000
set_option autoImplicit false
/-! KLCmp: comparisons, subscripts, slices. -/
namespace KL
open PySem PySem.Spec PyProof.Rows L2

/-! ### data as the library compares it -/
mutual
def toPy : D → PyData
  | .non => .none
  | .bl b => .bool b
  | .int i => .int i
  | .str z => .str (toS z)
  | .tup l => .tuple (toPyL l)
  | .lst l => .list (toPyL l)
  | .ref _ => .none
def toPyL : List D → List PyData
  | [] => []
  | d :: l => toPy d :: toPyL l
end
mutual
theorem dp_of {K : PySem.W.Frag} {θ : Th} {H : Hp} : ∀ {n : Nat} {d : D} {v : V}, Rep θ H d v → deep n d = true → Dp K H v (toPy d)
  | _, _, _, .non, _ => .non
  | _, _, _, .bl b, _ => .bl b
  | _, _, _, .int i, _ => .int i
  | _, _, _, .str z, _ => .str _
  | 0, _, _, .tup _ _ _, h => by cases h
  | n + 1, _, _, .tup h1 n1 r, h => .tup (.inl h1) (dps_of r h)
  | 0, _, _, .lst _ _ _, h => by cases h
  | n + 1, _, _, .lst h1 n1 r, h => .lst (.inl h1) (dps_of r h)
  | 0, _, _, .ref _, h => by cases h
  | n + 1, _, _, .ref _, h => by cases h
theorem dps_of {K : PySem.W.Frag} {θ : Th} {H : Hp} : ∀ {n : Nat} {d : List D} {v : List V}, Reps θ H d v → deepL n d = true → DpAll K H v (toPyL d)
  | _, _, _, .nil, _ => .nil
  | n, _, _, .cons r t, h => by
    have h2 := Bool.and_eq_true_iff.mp (show (deep n _ && deepL n _) = true from h)
    exact .cons (dp_of r h2.1) (dps_of t h2.2)
end
mutual
theorem lay_of : ∀ {n : Nat} {d : D}, deep n d = true → (toPy d).canLay0 = true ∧ (toPy d).depth ≤ n
  | n, .non, _ => ⟨rfl, by simp [toPy, PyData.depth]⟩
  | n, .bl b, _ => ⟨rfl, by simp [toPy, PyData.depth]⟩
  | n, .int i, _ => ⟨rfl, by simp [toPy, PyData.depth]⟩
  | n, .str z, _ => ⟨strOk_toS z, by simp [toPy, PyData.depth]⟩
  | 0, .tup l, h => by cases h
  | n + 1, .tup l, h => by
    obtain ⟨h1, h2⟩ := lays_of (n := n) (l := l) h
    exact ⟨h1, by simp only [toPy, PyData.depth]; omega⟩
  | 0, .lst l, h => by cases h
  | n + 1, .lst l, h => by
    obtain ⟨h1, h2⟩ := lays_of (n := n) (l := l) h
    exact ⟨h1, by simp only [toPy, PyData.depth]; omega⟩
  | 0, .ref _, h => by cases h
  | n + 1, .ref _, h => by cases h
theorem lays_of : ∀ {n : Nat} {l : List D}, deepL n l = true → PyData.canLayAll0 (toPyL l) = true ∧ PyData.depthAll (toPyL l) ≤ n
  | n, [], _ => ⟨rfl, by simp [toPyL, PyData.depthAll]⟩
  | n, d :: l, h => by
    have h2 := Bool.and_eq_true_iff.mp (show (deep n d && deepL n l) = true from h)
    obtain ⟨a1, a2⟩ := lay_of h2.1
    obtain ⟨b1, b2⟩ := lays_of h2.2
    refine ⟨?_, ?_⟩
    · show ((toPy d).canLay0 && PyData.canLayAll0 (toPyL l)) = true
      rw [a1, b1]; rfl
    · show max (toPy d).depth (PyData.depthAll (toPyL l)) ≤ n
      omega
end
mutual
theorem eqv_of : ∀ {n : Nat} {d e : D}, deep n d = true → deep n e = true → PyData.eqv (toPy d) (toPy e) = eqD d e
  | n, .ref _, _, h, _ => by cases n <;> cases h
  | n, .non, .ref _, _, h => by cases n <;> cases h
  | n, .bl _, .ref _, _, h => by cases n <;> cases h
  | n, .int _, .ref _, _, h => by cases n <;> cases h
  | n, .str _, .ref _, _, h => by cases n <;> cases h
  | n, .tup _, .ref _, _, h => by cases n <;> cases h
  | n, .lst _, .ref _, _, h => by cases n <;> cases h
  | n, .non, .non, _, _ => rfl
  | n, .non, .bl _, _, _ => rfl
  | n, .non, .int _, _, _ => rfl
  | n, .non, .str _, _, _ => rfl
  | n, .non, .tup _, _, _ => rfl
  | n, .non, .lst _, _, _ => rfl
  | n, .bl _, .non, _, _ => rfl
  | n, .bl _, .bl _, _, _ => rfl
  | n, .bl _, .int _, _, _ => rfl
  | n, .bl _, .str _, _, _ => rfl
  | n, .bl _, .tup _, _, _ => rfl
  | n, .bl _, .lst _, _, _ => rfl
  | n, .int _, .non, _, _ => rfl
  | n, .int _, .bl _, _, _ => rfl
  | n, .int _, .int _, _, _ => rfl
  | n, .int _, .str _, _, _ => rfl
  | n, .int _, .tup _, _, _ => rfl
  | n, .int _, .lst _, _, _ => rfl
  | n, .str _, .non, _, _ => rfl
  | n, .str _, .bl _, _, _ => rfl
  | n, .str _, .int _, _, _ => rfl
  | n, .str a, .str b, _, _ => toS_beq a b
  | n, .str _, .tup _, _, _ => rfl
  | n, .str _, .lst _, _, _ => rfl
  | n, .tup _, .non, _, _ => rfl
  | n, .tup _, .bl _, _, _ => rfl
  | n, .tup _, .int _, _, _ => rfl
  | n, .tup _, .str _, _, _ => rfl
  | 0, .tup _, .tup _, h, _ => by cases h
  | n + 1, .tup a, .tup b, h, h' => eqvs_of (n := n) h h'
  | n, .tup _, .lst _, _, _ => rfl
  | n, .lst _, .non, _, _ => rfl
  | n, .lst _, .bl _, _, _ => rfl
  | n, .lst _, .int _, _, _ => rfl
  | n, .lst _, .str _, _, _ => rfl
  | n, .lst _, .tup _, _, _ => rfl
  | 0, .lst _, .lst _, h, _ => by cases h
  | n + 1, .lst a, .lst b, h, h' => eqvs_of (n := n) h h'
theorem eqvs_of : ∀ {n : Nat} {d e : List D}, deepL n d = true → deepL n e = true → PyData.eqvAll (toPyL d) (toPyL e) = eqL d e
  | _, [], [], _, _ => rfl
  | _, [], _ :: _, _, _ => rfl
  | _, _ :: _, [], _, _ => rfl
  | n, x :: a, y :: b, h, h' => by
    have h2 := Bool.and_eq_true_iff.mp (show (deep n x && deepL n a) = true from h)
    have h3 := Bool.and_eq_true_iff.mp (show (deep n y && deepL n b) = true from h')
    show (PyData.eqv (toPy x) (toPy y) && PyData.eqvAll (toPyL a) (toPyL b)) = (eqD x y && eqL a b)
    rw [eqv_of h2.1 h3.1, eqvs_of h2.2 h3.2]
end
section
variable {X : Cx} {W : WX} {C : Ctx}
theorem op_eqM (hu : X.A.units + 64 < cLine) : OpR X (compareOp .Eq) (fun x y H Q => ∃ d e, Dp X.K H x d ∧ Dp X.K H y e ∧ d.canLay0 = true ∧ e.canLay0 = true ∧ (d.depth ≤ 64 ∨ e.depth ≤ 64) ∧ Q (.bl (PyData.eqv d e)) H) := by
  intro pins s σ H x y v u Q I rx ry h
  obtain ⟨d, e, hd, he, sd, se, hm, q⟩ := h
  obtain ⟨as, r1⟩ := Dp.reads I d x v hd rx
  obtain ⟨bs, r2⟩ := Dp.reads I e y u he ry
  exact SeqAt.compareEq_reads r1 r2 sd se (by omega) ⟨.bl _, H, I, rfl, q⟩
theorem op_neM (hu : X.A.units + 64 < cLine) : OpR X (compareOp .NotEq) (fun x y H Q => ∃ d e, Dp X.K H x d ∧ Dp X.K H y e ∧ d.canLay0 = true ∧ e.canLay0 = true ∧ (d.depth ≤ 64 ∨ e.depth ≤ 64) ∧ Q (.bl (!PyData.eqv d e)) H) := by
  intro pins s σ H x y v u Q I rx ry h
  obtain ⟨d, e, hd, he, sd, se, hm, q⟩ := h
  obtain ⟨as, r1⟩ := Dp.reads I d x v hd rx
  obtain ⟨bs, r2⟩ := Dp.reads I e y u he ry
  exact SeqAt.compareNe_reads r1 r2 sd se (by omega) ⟨.bl _, H, I, rfl, q⟩
mutual
def dep : D → Nat
  | .tup l => depL l + 1
  | .lst l => depL l + 1
  | _ => 0
def depL : List D → Nat
  | [] => 0
  | d :: l => max (dep d) (depL l)
end
mutual
theorem deep_dep : ∀ (d : D) (n : Nat), d.refs = [] → dep d ≤ n → deep n d = true
  | .non, n, _, _ => by cases n <;> rfl
  | .bl _, n, _, _ => by cases n <;> rfl
  | .int _, n, _, _ => by cases n <;> rfl
  | .str _, n, _, _ => by cases n <;> rfl
  | .ref r, _, h, _ => by
    rw [show (D.ref r).refs = [r] from rfl] at h
    cases h
  | .tup l, n, h, hn => by
    rw [show (D.tup l).refs = D.refsL l from rfl] at h
    rw [show dep (.tup l) = depL l + 1 from rfl] at hn
    cases n with
    | zero => omega
    | succ n => exact deepL_dep l n h (by omega)
  | .lst l, n, h, hn => by
    rw [show (D.lst l).refs = D.refsL l from rfl] at h
    rw [show dep (.lst l) = depL l + 1 from rfl] at hn
    cases n with
    | zero => omega
    | succ n => exact deepL_dep l n h (by omega)
theorem deepL_dep : ∀ (l : List D) (n : Nat), D.refsL l = [] → depL l ≤ n → deepL n l = true
  | [], n, _, _ => by cases n <;> rfl
  | d :: l, n, h, hn => by
    rw [show D.refsL (d :: l) = d.refs ++ D.refsL l from rfl, List.append_eq_nil_iff] at h
    rw [show depL (d :: l) = max (dep d) (depL l) from rfl] at hn
    have e : deepL n (d :: l) = (deep n d && deepL n l) := by cases n <;> rfl
    rw [e, deep_dep d n h.1 (by omega), deepL_dep l n h.2 (by omega)]
    rfl
end
theorem eqOk_of {a b : D} (h : eqOk a b = true) : ∃ m, deep (m + 1) a = true ∧ deep (m + 1) b = true ∧ ((toPy a).depth ≤ 64 ∨ (toPy b).depth ≤ 64) := by
  unfold eqOk at h
  rw [Bool.and_eq_true, Bool.and_eq_true, Bool.or_eq_true, List.isEmpty_iff, List.isEmpty_iff] at h
  refine ⟨max (dep a) (dep b), deep_dep a _ h.1 (by omega), deep_dep b _ h.2.1 (by omega), ?_⟩
  rcases h.2.2 with q | q
  · exact .inl (by have := (lay_of q).2; omega)
  · exact .inr (by have := (lay_of q).2; omega)
/-- a value, a ref to a list read as its list -/
theorem asV_dp {K : PySem.W.Frag} {θ : Th} {H : Hp} {s : Sto} (R : RelS K θ H s) {d : D} {v : V} (r : Rep θ H d v) {m : Nat} (h : deep (m + 1) (asV s d) = true) : Dp K H v (toPy (asV s d)) := by
  cases r with
  | @ref n a e =>
    cases hc : s[n]? with
    | none => simp [asV, hc, deep] at h
    | some c =>
      cases c with
      | lst l =>
        obtain ⟨vs, e1, q1⟩ := R.cell _ _ _ hc e
        have e2 : asV s (.ref n) = .lst l := by simp [asV, hc]
        rw [e2] at h ⊢
        exact .lst (.inl (.inl e1)) (dps_of (n := m) q1 h)
      | ins _ _ => simp [asV, hc, deep] at h
      | dct _ => simp [asV, hc, deep] at h
      | tpc _ => simp [asV, hc, deep] at h
  | non => exact dp_of (θ := θ) .non h
  | bl b => exact dp_of (θ := θ) (.bl b) h
  | int i => exact dp_of (θ := θ) (.int i) h
  | str z => exact dp_of (θ := θ) (.str z) h
  | tup h1 n1 q1 => exact dp_of (.tup h1 n1 q1) h
  | lst h1 n1 q1 => exact dp_of (.lst h1 n1 q1) h
theorem flat_V {θ : Th} {H : Hp} {d : D} {v : V} (r : Rep θ H d v) (h : flat d = true) : flatV v = true := by
  cases r <;> first | rfl | cases h
theorem flats_V {θ : Th} {H : Hp} {l : List D} {vs : List V} (r : Reps θ H l vs) (h : l.all flat = true) : vs.all flatV = true := by
  induction l generalizing vs with
  | nil => cases r; rfl
  | cons d l ih =>
    cases r with
    | cons r1 t =>
      simp only [List.all_cons, Bool.and_eq_true] at h ⊢
      exact ⟨flat_V r1 h.1, ih t h.2⟩
theorem eq_V {θ : Th} {H : Hp} {d e : D} {v w : V} (r : Rep θ H d v) (q : Rep θ H e w) (h : flat d = true) (h' : flat e = true) : eqV v w = eqD d e := by
  cases r <;> cases q <;> first | exact toS_beq _ _ | rfl | (exfalso; exact Bool.false_ne_true h) | (exfalso; exact Bool.false_ne_true h')
theorem in_V {θ : Th} {H : Hp} {x : D} {v : V} {l : List D} {vs : List V} (rx : Rep θ H x v) (fx : flat x = true) (r : Reps θ H l vs) (h : l.all flat = true) : inV v vs = inL x l := by
  induction l generalizing vs with
  | nil => cases r; rfl
  | cons d l ih =>
    cases r with
    | cons r1 t =>
      simp only [List.all_cons, Bool.and_eq_true] at h
      unfold inV inL
      rw [List.any_cons, List.any_cons, eq_V r1 rx h.1 fx]
      exact congrArg _ (ih t h.2)
theorem sign_ok {a : String} {c : Char} (h : a.toList = [c]) : toS a = ⟨#[c.toNat]⟩ := by
  apply str_ext
  rw [toS_list, h]
  rfl
theorem mem_sign (c : Char) (b : String) : decide (c.toNat ∈ (toS b).cps.toList) = decide (c ∈ b.toList) := by
  have : (c.toNat ∈ (toS b).cps.toList) ↔ c ∈ b.toList := by
    rw [toS_list, List.mem_map]
    constructor
    · rintro ⟨x, hx, e⟩
      rw [← Char.toNat_inj.mp e]
      exact hx
    · exact fun h => ⟨c, h, rfl⟩
  exact decide_eq_decide.mpr this
theorem isNon {θ : Th} {H : Hp} {d : D} {v : V} (r : Rep θ H d v) (h : d ≠ .non) : decide (v = .non) = false := by
  apply decide_eq_false
  cases r <;> first | exact absurd rfl h | (intro e; cases e)
/-- is True, is not False .. -/
theorem op_isBool : OpR X (compareOp .Is) (fun x y H Q => ∃ b, y = .bl b ∧ Q (.bl (decide (x = .bl b))) H) := by
  intro pins s σ H x y v u Q I rx ry h
  obtain ⟨b, rfl, q⟩ := h
  cases ry
  cases x with
  | non => cases rx; exact wpAny_pure (fin_bl I q rfl)
  | bl a => cases rx; exact wpAny_pure (fin_bl I q (by cases a <;> cases b <;> rfl))
  | int i => obtain ⟨t, rfl⟩ := rx; exact wpAny_pure (fin_bl I q rfl)
  | str i => obtain ⟨t, rfl⟩ := rx; exact wpAny_pure (fin_bl I q rfl)
  | byt i => obtain ⟨t, rfl⟩ := rx; exact wpAny_pure (fin_bl I q rfl)
  | flt i => obtain ⟨t, rfl⟩ := rx; exact wpAny_pure (fin_bl I q rfl)
  | _ => cases rx; exact wpAny_pure (fin_bl I q rfl)
theorem op_notBool : OpR X (compareOp .IsNot) (fun x y H Q => ∃ b, y = .bl b ∧ Q (.bl (!decide (x = .bl b))) H) := by
  intro pins s σ H x y v u Q I rx ry h
  obtain ⟨b, rfl, q⟩ := h
  cases ry
  cases x with
  | non => cases rx; exact wpAny_pure (fin_bl I q rfl)
  | bl a => cases rx; exact wpAny_pure (fin_bl I q (by cases a <;> cases b <;> rfl))
  | int i => obtain ⟨t, rfl⟩ := rx; exact wpAny_pure (fin_bl I q rfl)
  | str i => obtain ⟨t, rfl⟩ := rx; exact wpAny_pure (fin_bl I q rfl)
  | byt i => obtain ⟨t, rfl⟩ := rx; exact wpAny_pure (fin_bl I q rfl)
  | flt i => obtain ⟨t, rfl⟩ := rx; exact wpAny_pure (fin_bl I q rfl)
  | _ => cases rx; exact wpAny_pure (fin_bl I q rfl)
theorem firstLt_map {e r : Nat → Bool} {fin : Bool} (f : Nat → Nat) : ∀ l : List Nat, PySem.SeqAt.firstLt e r fin (l.map f) = PySem.SeqAt.firstLt (fun j => e (f j)) (fun j => r (f j)) fin l
  | [] => rfl
  | j :: l => by
    rw [List.map_cons]
    unfold PySem.SeqAt.firstLt
    rw [firstLt_map f l]
theorem firstLt_geL : ∀ ns ms : List Int, PySem.SeqAt.firstLt (fun j => ns.getD j 0 == ms.getD j 0) (fun j => decide (ms.getD j 0 ≤ ns.getD j 0)) (decide (ns.length ≥ ms.length)) (List.range (min ns.length ms.length)) = geL ns ms
  | [], [] => rfl
  | [], _ :: _ => rfl
  | _ :: _, [] => rfl
  | x :: xs, y :: ys => by
    have ih := firstLt_geL xs ys
    rw [List.length_cons, List.length_cons, Nat.add_min_add_right, List.range_succ_eq_map]
    unfold PySem.SeqAt.firstLt geL
    by_cases h : x = y
    · have e1 : ((x :: xs).getD 0 0 == (y :: ys).getD 0 0) = true := by simpa using h
      rw [if_pos e1, if_pos h, firstLt_map, ← ih]
      have e2 : decide (xs.length + 1 ≥ ys.length + 1) = decide (xs.length ≥ ys.length) := by simp only [decide_eq_decide]; omega
      rw [e2]
      rfl
    · have e1 : ¬ ((x :: xs).getD 0 0 == (y :: ys).getD 0 0) = true := by simpa using h
      rw [if_neg e1, if_neg h]
      rfl
theorem intsAre_get {its : List Value} {ns : List Int} (h : IntsAre its ns) : ∀ (j : Nat) (hj : j < its.length), ∃ t, its[j] = .int (ns.getD j 0) t := by
  induction h with
  | nil => intro j hj; exact absurd hj (Nat.not_lt_zero _)
  | cons n t r ih =>
    intro j hj
    cases j with
    | zero => exact ⟨t, rfl⟩
    | succ j => exact ih j (by simpa using hj)
theorem intsAre_len {its : List Value} {ns : List Int} (h : IntsAre its ns) : its.length = ns.length := by
  induction h with
  | nil => rfl
  | cons _ _ _ ih => rw [List.length_cons, List.length_cons, ih]
theorem op_geL (hu : X.A.units + 64 < cLine) : OpR X (compareOp .GtE) (fun x y H Q => ∃ a b ns ms, x = .ref a ∧ y = .ref b ∧ Rd H a (.lst (ns.map V.int)) ∧ Rd H b (.lst (ms.map V.int)) ∧ Q (.bl (geL ns ms)) H) := by
  intro pins s σ H x y v u Q I rx ry h
  obtain ⟨a, b, ns, ms, rfl, rfl, ha, hb, q⟩ := h
  cases rx
  cases ry
  obtain ⟨its, n, r, e⟩ := rd_lst I ha
  obtain ⟨its2, n2, r2, e2⟩ := rd_lst I hb
  have i1 := Vals.ints r
  have i2 := Vals.ints r2
  have l1 := intsAre_len i1
  have l2 := intsAre_len i2
  have hl : s.heap.IsList a its.toArray := ⟨_, e, rfl, n, rfl⟩
  have hl2 : s.heap.IsList b its2.toArray := ⟨_, e2, rfl, n2, rfl⟩
  have hu' : X.A.units < cLine := by omega
  show wpAny (model X.prog X.w) X.A (richCompare .GtE (.ref a) (.ref b)) _ _ _
  refine PySem.SeqAt.RcOp.lists_ge (e := fun j => ns.getD j 0 == ms.getD j 0) (r := fun j => decide (ms.getD j 0 ≤ ns.getD j 0)) hl hl2 hu' (fun j h1 h2 => ?_) (fun j h1 h2 _ => ?_) X.prog X.w _ _ ?_
  · obtain ⟨t, et⟩ := intsAre_get i1 j (by simpa using h1)
    obtain ⟨t2, et2⟩ := intsAre_get i2 j (by simpa using h2)
    have q1 : its.toArray[j] = .int (ns.getD j 0) t := by simpa using et
    have q2 : its2.toArray[j] = .int (ms.getD j 0) t2 := by simpa using et2
    rw [q1, q2]
    exact PySem.SeqAt.EqAt.int_int _ _ _ _
  · obtain ⟨t, et⟩ := intsAre_get i1 j (by simpa using h1)
    obtain ⟨t2, et2⟩ := intsAre_get i2 j (by simpa using h2)
    have q1 : its.toArray[j] = .int (ns.getD j 0) t := by simpa using et
    have q2 : its2.toArray[j] = .int (ms.getD j 0) t2 := by simpa using et2
    rw [q1, q2]
    exact fun prog w E Q h => PyProof.Rows.ge_int h
  · have e3 : PySem.SeqAt.firstLt (fun j => ns.getD j 0 == ms.getD j 0) (fun j => decide (ms.getD j 0 ≤ ns.getD j 0)) (decide (its.toArray.size ≥ its2.toArray.size)) (List.range (min its.toArray.size its2.toArray.size)) = geL ns ms := by
      rw [List.size_toArray, List.size_toArray, l1, l2]
      exact firstLt_geL ns ms
    rw [e3]
    exact fin_bl I q rfl
theorem toI0_V {θ : Th} {H : Hp} : ∀ {l : List D} {vs : List V} {ns : List Int}, Reps θ H l vs → toI0 l = some ns → vs = ns.map V.int
  | [], _, _, .nil, e => by
    simp [toI0] at e
    subst e
    rfl
  | d :: l, _, _, .cons r t, e => by
    cases r with
    | int i =>
      simp [toI0] at e
      obtain ⟨ms, e1, rfl⟩ := e
      rw [toI0_V t e1]
      rfl
    | _ => simp [toI0] at e
theorem op_cmpR (hu : X.A.units + 64 < cLine) (o : CmpO) : OpR X (compareOp (cop o)) (rOf X.K (cmpE o)) := OpR.impR fun x y H Q ⟨W, σ, θ, s, d, e, R, r1, r2, h⟩ => by
  unfold cmpE at h
  cases hk : cmpD o d e s with
  | none => rw [hk] at h; exact h.elim
  | some k =>
    rw [hk] at h
    have q : Q (.bl k) H := h.val R (.bl k)
    clear h
    cases o with
    | eq =>
      simp only [cmpD] at hk
      split at hk
      · rename_i hd
        obtain ⟨m, h1, h2, h3⟩ := eqOk_of hd
        refine ⟨_, op_eqM hu, _, _, asV_dp (m := m) R r1 h1, asV_dp (m := m) R r2 h2, (lay_of h1).1, (lay_of h2).1, h3, ?_⟩
        rw [eqv_of h1 h2, Option.some.inj hk]
        exact q
      · cases hk
    | ne =>
      simp only [cmpD] at hk
      split at hk
      · rename_i hd
        obtain ⟨m, h1, h2, h3⟩ := eqOk_of hd
        refine ⟨_, op_neM hu, _, _, asV_dp (m := m) R r1 h1, asV_dp (m := m) R r2 h2, (lay_of h1).1, (lay_of h2).1, h3, ?_⟩
        rw [eqv_of h1 h2, Option.some.inj hk]
        exact q
      · cases hk
    | lt =>
      cases r1 <;> cases r2 <;> first
        | (cases hk; done)
        | (simp only [cmpD, Option.some.injEq] at hk; subst hk; exact ⟨_, op_lt, _, _, rfl, rfl, q⟩)
        | (simp only [cmpD, Option.some.injEq] at hk; subst hk; exact ⟨_, op_lt_str, _, _, rfl, rfl, by simpa only [toS_lt] using q⟩)
        | (simp [cmpD] at hk)
    | le =>
      cases r1 <;> cases r2 <;> first
        | (cases hk; done)
        | (simp only [cmpD, Option.some.injEq] at hk; subst hk; exact ⟨_, op_le, _, _, rfl, rfl, q⟩)
        | (simp only [cmpD, Option.some.injEq] at hk; subst hk; exact ⟨_, op_le_str, _, _, rfl, rfl, by simpa only [toS_lt] using q⟩)
        | (simp [cmpD] at hk; done)
    | gt =>
      cases r1 <;> cases r2 <;> first
        | (simp only [cmpD, Option.some.injEq] at hk; subst hk; exact ⟨_, op_gt, _, _, rfl, rfl, q⟩)
        | (simp only [cmpD, Option.some.injEq] at hk; subst hk; exact ⟨_, op_gt_str, _, _, rfl, rfl, by simpa only [toS_lt] using q⟩)
        | (simp [cmpD] at hk)
    | ge =>
      have gen : geD (asL s d) (asL s e) = some k → ∃ r', OpR X (compareOp .GtE) r' ∧ r' x y H Q := fun hk => by
        unfold geD at hk
        split at hk
        · rename_i l m hl hm
          obtain ⟨a, vs, rfl, ha, ra⟩ := asL_rd R r1 hl
          obtain ⟨b, us, rfl, hb, rb⟩ := asL_rd R r2 hm
          split at hk
          · rename_i ns ms hn hms
            rw [toI0_V ra hn] at ha
            rw [toI0_V rb hms] at hb
            refine ⟨_, op_geL hu, a, b, ns, ms, rfl, rfl, ha, hb, ?_⟩
            rw [Option.some.inj hk]
            exact q
          · cases hk
        · cases hk
      cases r1 <;> cases r2 <;> first
        | (simp only [cmpD, Option.some.injEq] at hk; subst hk; exact ⟨_, op_ge, _, _, rfl, rfl, q⟩)
        | exact gen hk
    | in_ =>
      have seq : ∀ l, asSqT s e = some l → (flat d && l.all flat) = true → k = inL d l → ∃ r', OpR X (compareOp .In) r' ∧ r' x y H Q := fun l hl hf ek => by
        obtain ⟨f1, f2⟩ := Bool.and_eq_true_iff.mp hf
        obtain ⟨a, vs, rfl, ha, ra⟩ := asSqT_rd R r2 hl
        refine ⟨_, op_in_seq, a, vs, rfl, ha.imp .inl .inl, flat_V r1 f1, flats_V ra f2, ?_⟩
        rw [in_V r1 f1 ra f2, ← ek]
        exact q
      have seq' : (match asSqT s e with
          | some l => if flat d && l.all flat then some (inL d l) else none
          | none => none) = some k → ∃ r', OpR X (compareOp .In) r' ∧ r' x y H Q := fun hk => by
        split at hk
        · rename_i l hl
          split at hk
          · rename_i hf
            exact seq l hl hf (Option.some.inj hk).symm
          · cases hk
        · cases hk
      cases r1 with
      | str a =>
        cases r2 with
        | str b =>
          simp only [cmpD] at hk
          split at hk
          · rename_i c hc
            refine ⟨_, op_in_sign, c.toNat, toS b, by rw [sign_ok hc], rfl, ?_⟩
            rw [mem_sign, Option.some.inj hk]
            exact q
          · cases hk
        | _ => exact seq' hk
      | _ => cases r2 <;> exact seq' hk
    | notin =>
      have seq : ∀ l, asSqT s e = some l → (flat d && l.all flat) = true → k = !inL d l → ∃ r', OpR X (compareOp .NotIn) r' ∧ r' x y H Q := fun l hl hf ek => by
        obtain ⟨f1, f2⟩ := Bool.and_eq_true_iff.mp hf
        obtain ⟨a, vs, rfl, ha, ra⟩ := asSqT_rd R r2 hl
        refine ⟨_, op_notIn_seq, a, vs, rfl, ha.imp .inl .inl, flat_V r1 f1, flats_V ra f2, ?_⟩
        rw [in_V r1 f1 ra f2, ← ek]
        exact q
      have seq' : (match asSqT s e with
          | some l => if flat d && l.all flat then some (!inL d l) else none
          | none => none) = some k → ∃ r', OpR X (compareOp .NotIn) r' ∧ r' x y H Q := fun hk => by
        split at hk
        · rename_i l hl
          split at hk
          · rename_i hf
            exact seq l hl hf (Option.some.inj hk).symm
          · cases hk
        · cases hk
      cases r1 with
      | str a =>
        cases r2 with
        | str b =>
          simp only [cmpD] at hk
          split at hk
          · rename_i c hc
            refine ⟨_, op_notIn_sign, c.toNat, toS b, by rw [sign_ok hc], rfl, ?_⟩
            rw [mem_sign, Option.some.inj hk]
            exact q
          · cases hk
        | _ => exact seq' hk
      | _ => cases r2 <;> exact seq' hk
    | is_ =>
      cases r2 with
      | non =>
        refine ⟨_, op_isN, rfl, ?_⟩
        cases r1 with
        | non => cases hk; exact q
        | _ => cases hk; exact q
      | bl b =>
        refine ⟨_, op_isBool, b, rfl, ?_⟩
        cases r1 with
        | bl a =>
          simp only [cmpD, Option.some.injEq] at hk
          subst hk
          cases a <;> cases b <;> exact q
        | _ => cases hk; exact q
      | _ => cases r1 <;> cases hk
    | isnot =>
      cases r2 with
      | non =>
        refine ⟨_, op_notN, rfl, ?_⟩
        cases r1 with
        | non => cases hk; exact q
        | _ => cases hk; exact q
      | bl b =>
        refine ⟨_, op_notBool, b, rfl, ?_⟩
        cases r1 with
        | bl a =>
          simp only [cmpD, Option.some.injEq] at hk
          subst hk
          cases a <;> cases b <;> exact q
        | _ => cases hk; exact q
      | _ => cases r1 <;> cases hk
theorem s_cmp (hu : X.A.units + 64 < cLine) {o : CmpO} {a b : Expr} {ia ib : E} {pos : Pos} (ha : PE X a (tE X.K W C ia)) (hb : PE X b (tE X.K W C ib)) (hm : behindInMarks (cop o) b = false) : PE X (.Compare a [cop o] [b] pos) (tE X.K W C (.cmp o ia ib)) :=
  PE.imp (pe_cmpR (op_cmpR hu o) ha hb hm) fun σ H Q ⟨θ, s, ρ, R, V, h⟩ => by
    unfold evalE at h
    obtain ⟨θ1, s1, ρ1, R1, V1, q⟩ := two R V h
    exact ⟨θ1, s1, ρ1, R1, V1, q.mono fun x H1 ⟨θ1, s1, ρ1, R1, V1, q⟩ => ⟨θ1, s1, ρ1, R1, V1, q.mono fun y H2 ⟨θ2, s2, d, e, _, R2, _, r1, r2, h2⟩ => ⟨W, σ, θ2, s2, d, e, R2, r1, r2, h2⟩⟩⟩
/-- a result that is a truth, if anything -/
def boolR : RE → Prop
  | .ok (.bl _) _ => True
  | .exn _ _ => True
  | .bad => True
  | _ => False
theorem boolR.bind {r : RE} {k : D → Sto → RE} (h : ∀ d s, boolR (k d s)) : boolR (r.bind k) := by
  cases r with
  | ok d s => exact h d s
  | new l s => exact h _ s
  | exn c s => trivial
  | bad => trivial
theorem boolR.cmp (o : CmpO) (d e : D) (s : Sto) : boolR (cmpE o d e s) := by
  unfold cmpE
  cases cmpD o d e s <;> trivial
theorem tT.bool {ir : E} (hb : ∀ ρ s, boolR (evalE C ir ρ s)) {σ : L2.St} {H : Hp} {Q : Bool → Hp → Prop} (h : tT X.K W C ir σ H Q) : tE X.K W C ir σ H fun x H' => ∃ k, x = .bl k ∧ Q k H' := by
  obtain ⟨θ, s, ρ, R, V, h⟩ := h
  refine ⟨θ, s, ρ, R, V, ?_⟩
  unfold evalT at h
  have hr := hb ρ s
  cases e : evalE C ir ρ s with
  | ok d s' =>
    rw [e] at hr h
    cases d with
    | bl k => exact fun θ' H' v x R p => by cases p; exact ⟨k, rfl, h θ' H' x R⟩
    | _ => exact hr.elim
  | new l s' => rw [e] at hr; exact hr.elim
  | exn c s' => rw [e] at h; exact h
  | bad => rw [e] at h; exact h
theorem st_cmp (hu : X.A.units + 64 < cLine) {o : CmpO} {a b : Expr} {ia ib : E} {pos : Pos} (ha : PE X a (tE X.K W C ia)) (hb : PE X b (tE X.K W C ib)) (hm : behindInMarks (cop o) b = false) : PT X (.Compare a [cop o] [b] pos) (tT X.K W C (.cmp o ia ib)) :=
  PT.imp (pt_cmpR (op_cmpR hu o) ha hb hm) fun σ H Q h => by
    obtain ⟨θ, s, ρ, R, V, h⟩ := tT.bool (fun ρ s => by unfold evalE; exact boolR.bind fun _ _ => boolR.bind fun _ _ => boolR.cmp _ _ _ _) h
    unfold evalE at h
    obtain ⟨θ1, s1, ρ1, R1, V1, q⟩ := two R V h
    exact ⟨θ1, s1, ρ1, R1, V1, q.mono fun x H1 ⟨θ1, s1, ρ1, R1, V1, q⟩ => ⟨θ1, s1, ρ1, R1, V1, q.mono fun y H2 ⟨θ2, s2, d, e, _, R2, _, r1, r2, h2⟩ => ⟨W, σ, θ2, s2, d, e, R2, r1, r2, h2⟩⟩⟩
theorem cmp2_go {o p : CmpO} {ia ib ic : E} {σ : L2.St} {H : Hp} {Q : VK} (h : tE X.K W C (.cmp2 o p ia ib ic) σ H Q) :
    tChain (rOf X.K (cmpE o)) (rOf X.K (cmpE p)) (tE X.K W C ia) (tE X.K W C ib) (tE X.K W C ic) σ H Q := by
  obtain ⟨θ, s, ρ, R, V, h⟩ := h
  unfold evalE at h
  obtain ⟨θ1, s1, ρ1, R1, V1, q⟩ := two R V h
  refine ⟨θ1, s1, ρ1, R1, V1, q.mono fun x H1 ⟨θ1, s1, ρ1, R1, V1, q⟩ => ⟨θ1, s1, ρ1, R1, V1, q.mono fun y H2 ⟨θ2, s2, d, e, x2, R2, V2, r1, r2, h2⟩ => ?_⟩⟩
  refine ⟨W, σ, θ2, s2, d, e, R2, r1, r2, ?_⟩
  unfold cmpE
  cases hk : cmpD o d e s2 with
  | none => rw [hk] at h2; exact h2
  | some k =>
    rw [hk] at h2
    intro θ3 H3 v x3 R3 p3
    cases p3
    refine ⟨k, rfl, ?_⟩
    cases k with
    | true =>
      rw [if_pos rfl]
      refine tE.sub R3 (V2.ext x3) (PostE.bind (PostE.up x3 h2)) fun z H4 ⟨θ4, s4, g, x4, R4, r4, h4⟩ => ?_
      exact ⟨W, σ, θ4, s4, e, g, R4, r2.ext (x3.trans x4), r4, h4⟩
    | false =>
      rw [if_neg Bool.false_ne_true]
      exact h2 θ3 H3 _ x3 R3 (.bl false)
theorem s_cmp2 (hu : X.A.units + 64 < cLine) {o p : CmpO} {a b c : Expr} {ia ib ic : E} {pos : Pos} (ha : PE X a (tE X.K W C ia)) (hb : PE X b (tE X.K W C ib)) (hc : PE X c (tE X.K W C ic)) (hm : lastMarks [cop o, cop p] [b, c] = false) :
    PE X (.Compare a [cop o, cop p] [b, c] pos) (tE X.K W C (.cmp2 o p ia ib ic)) := PE.imp (pe_chain (op_cmpR hu o) (op_cmpR hu p) ha hb hc hm) fun σ H Q h => cmp2_go h
theorem st_cmp2 (hu : X.A.units + 64 < cLine) {o p : CmpO} {a b c : Expr} {ia ib ic : E} {pos : Pos} (ha : PE X a (tE X.K W C ia)) (hb : PE X b (tE X.K W C ib)) (hc : PE X c (tE X.K W C ic)) (hm : lastMarks [cop o, cop p] [b, c] = false) :
    PT X (.Compare a [cop o, cop p] [b, c] pos) (tT X.K W C (.cmp2 o p ia ib ic)) := PT.imp (pt_chain (op_cmpR hu o) (op_cmpR hu p) ha hb hc hm) fun σ H Q h => cmp2_go (tT.bool (fun ρ s => by
      unfold evalE
      exact boolR.bind fun d s => boolR.bind fun e s => by
        split
        · trivial
        · trivial
        · exact boolR.bind fun _ _ => boolR.cmp _ _ _ _) h)

/-! ### subscripts -/
theorem atD_atI {α β : Type} {l : List α} {i : Int} (m : List β) (h : l.length = m.length) : (atD l i = none ↔ atI m i = none) := by
  unfold atD atI ixN
  rw [h]
  by_cases h0 : 0 ≤ i
  · rw [if_pos h0, if_pos h0]
    by_cases h1 : i < m.length
    · rw [if_pos h1]
      show l[i.toNat]? = none ↔ m[i.toNat]? = none
      rw [List.getElem?_eq_none_iff, List.getElem?_eq_none_iff]
      omega
    · rw [if_neg h1]
      show l[i.toNat]? = none ↔ none = none
      rw [List.getElem?_eq_none_iff]
      constructor
      · intro _; rfl
      · intro _; omega
  · rw [if_neg h0, if_neg h0]
    by_cases h1 : -(m.length : Int) ≤ i
    · rw [if_pos h1, if_pos h1]
      show l[(i + m.length).toNat]? = none ↔ m[(i + m.length).toNat]? = none
      rw [List.getElem?_eq_none_iff, List.getElem?_eq_none_iff]
      omega
    · rw [if_neg h1, if_neg h1]
      exact ⟨fun _ => rfl, fun _ => rfl⟩
theorem atD_eq {α : Type} (l : List α) (i : Int) : atD l i = atI l i := by
  unfold atD atI ixN
  by_cases h0 : 0 ≤ i
  · rw [if_pos h0, if_pos h0]
    by_cases h1 : i < l.length
    · rw [if_pos h1]
      rfl
    · rw [if_neg h1]
      exact List.getElem?_eq_none_iff.mpr (by omega)
  · rw [if_neg h0, if_neg h0]
    by_cases h1 : -(l.length : Int) ≤ i
    · rw [if_pos h1, if_pos h1]
      rfl
    · rw [if_neg h1, if_neg h1]
      rfl
theorem Reps.at {θ : Th} {H : Hp} {l : List D} {vs : List V} (r : Reps θ H l vs) {i : Int} {d : D} (h : atD l i = some d) : ∃ v, atI vs i = some v ∧ Rep θ H d v := by
  rw [← atD_eq]
  unfold atD at h ⊢
  rw [← r.length]
  by_cases h0 : 0 ≤ i
  · rw [if_pos h0] at h ⊢
    exact r.get h
  · rw [if_neg h0] at h ⊢
    by_cases h1 : -(l.length : Int) ≤ i
    · rw [if_pos h1] at h ⊢
      exact r.get h
    · rw [if_neg h1] at h
      cases h
theorem IxR.impR {r : R2} (h : ∀ x y H Q, r x y H Q → ∃ r', IxR X r' ∧ r' x y H Q) : IxR X r := fun value slice pins s σ H x y v u Q I rx ry q hs =>
  let ⟨_, h1, h2⟩ := h x y H Q q
  h1 value slice pins s σ H x y v u Q I rx ry h2 hs
theorem map_at {α β : Type} (f : α → β) {l : List α} {i : Int} {c : α} (h : atD l i = some c) : atI (l.map f) i = some (f c) := by
  rw [← atD_eq]
  unfold atD at h ⊢
  rw [List.length_map]
  by_cases h0 : 0 ≤ i
  · rw [if_pos h0] at h ⊢
    rw [List.getElem?_map, h]; rfl
  · rw [if_neg h0] at h ⊢
    by_cases h1 : -(l.length : Int) ≤ i
    · rw [if_pos h1] at h ⊢
      rw [List.getElem?_map, h]; rfl
    · rw [if_neg h1] at h
      cases h
/-- d[k] -/
def rIxK (K : PySem.W.Frag) : R2 := fun x y H Q => ∃ a v, x = .ref a ∧ DGet H a y (some v) ∧ Q v H
theorem ix_dct (hu : X.A.units + 1 < cLine) : IxR X (rIxK X.K) := by
  intro value slice pins s σ H x y v u Q I rx ry h hs
  obtain ⟨a, r, rfl, g, q⟩ := h
  obtain rfl : v = Value.ref a := rx
  exact PyProof.Rows.tail_any (dict_typeIs I g) PySem.F.slot_dict_getitem.lookup (d_getItem hu I g ry fun w' s3 I3 rw' => ⟨r, H, I3, rw', q⟩) hs
theorem ix_S : IxR X (rOf X.K idxS) := IxR.impR fun x y H Q ⟨W, σ, θ, s, d, e, R, r1, r2, h⟩ => by
  cases r2 with
  | int i =>
    have seq : PostE X.K W σ Q θ H (match asSq s d with
      | some l => match atD l i with
        | some d => .ok d s
        | none => .bad
      | none => .bad) → ∃ r', IxR X r' ∧ r' x (.int i) H Q := fun h => by
      split at h
      · rename_i l hl
        split at h
        · rename_i g hg
          obtain ⟨a, vs, rfl, ha, ra⟩ := asSq_rd R r1 hl
          obtain ⟨v, hv, rv⟩ := ra.at hg
          rcases ha with ha | ha
          · exact ⟨_, ix_list, a, vs, i, v, rfl, rfl, .inl ha, hv, h.val R rv⟩
          · exact ⟨_, ix_tup, a, vs, i, v, rfl, rfl, .inl ha, hv, h.val R rv⟩
        · exact h.elim
      · exact h.elim
    cases r1 with
    | str z =>
      simp only [idxS] at h
      split at h
      · rename_i c hc
        split at h
        · rename_i hl
          refine ⟨_, ix_str, toS z, i, c.toNat, rfl, rfl, by rw [toS_length]; exact Nat.le_trans hl lim_le, by rw [toS_list]; exact map_at _ hc, ?_⟩
          have e1 : (⟨#[c.toNat]⟩ : Str) = toS (String.ofList [c]) := by rw [toS_ofList]; rfl
          rw [e1]
          exact h.val R (.str _)
        · exact h.elim
      · exact h.elim
    | _ => exact seq h
  | _ => exact False.elim h
theorem ix_R (hu : X.A.units + 1 < cLine) : IxR X (rOf X.K idxD) := IxR.impR fun x y H Q ⟨W, σ, θ, s, d, e, R, r1, r2, h⟩ => by
  have seq : PostE X.K W σ Q θ H (idxS d e s) → ∃ r', IxR X r' ∧ r' x y H Q := fun h => ⟨_, ix_S, W, σ, θ, s, d, e, R, r1, r2, h⟩
  cases d with
  | ref n =>
    have h : PostE X.K W σ Q θ H (idxR s[n]? e (idxS (.ref n) e s) s) := h
    cases hc : s[n]? with
    | none => rw [hc] at h; exact seq h
    | some c =>
      rw [hc] at h
      cases c with
      | lst _ => exact seq h
      | ins _ _ => exact seq h
      | tpc _ => exact seq h
      | dct kvs =>
        have h : PostE X.K W σ Q θ H (dctAt kvs e s) := h
        unfold dctAt at h
        split at h
        · rename_i k hk
          obtain ⟨_, a, ws, rfl, ea, e1, e2, e3⟩ := cellK_rd R r1 (show cellK s (.ref n) = some (n, kvs) by simp [cellK, hc])
          have hv := dct_val (k := k) e2 e3
          split at h
          · rename_i d' hd
            rw [hd] at hv
            obtain ⟨v, hv, rv⟩ := hv
            refine ⟨_, ix_dct hu, a, v, rfl, ?_, h.val R rv⟩
            rw [key_rep r2 hk, ← hv]
            exact DGet.k e1
          · exact h.elim
        · exact h.elim
  | _ => exact seq h
theorem s_idx (hu : X.A.units + 1 < cLine) {a b : Expr} {ia ib : E} {pos : Pos} (ha : PE X a (tE X.K W C ia)) (hb : PE X b (tE X.K W C ib)) (hs : PlainIx b) : PE X (.Subscript a b pos) (tE X.K W C (.idx ia ib)) :=
  PE.imp (pe_ix (ix_R hu) ha hb hs) fun σ H Q ⟨θ, s, ρ, R, V, h⟩ => by
    unfold evalE at h
    obtain ⟨θ1, s1, ρ1, R1, V1, q⟩ := two R V h
    exact ⟨θ1, s1, ρ1, R1, V1, q.mono fun x H1 ⟨θ1, s1, ρ1, R1, V1, q⟩ => ⟨θ1, s1, ρ1, R1, V1, q.mono fun y H2 ⟨θ2, s2, d, e, _, R2, _, r1, r2, h2⟩ => ⟨W, σ, θ2, s2, d, e, R2, r1, r2, h2⟩⟩⟩

/-! ### slices -/
theorem cutD_cutV {θ : Th} {H : Hp} {l : List D} {vs : List V} (r : Reps θ H l vs) (lo hi : Option Int) : Reps θ H (cutD l lo hi) (cutV vs lo hi) := by
  unfold cutD cutV
  rw [← r.length]
  exact (r.drop _).take _
def rSlG (K : PySem.W.Frag) : V → Option Int → Option Int → Hp → VK → Prop := fun x lo hi H Q => ∃ (W : WX) (σ : L2.St) (θ : Th) (s : Sto) (d : D), RelS K θ H s ∧ Rep θ H d x ∧ PostE K W σ Q θ H (sliceD d lo hi s)
theorem SlR.impR {r : V → Option Int → Option Int → Hp → VK → Prop} (h : ∀ x lo hi H Q, r x lo hi H Q → ∃ r', SlR X r' ∧ r' x lo hi H Q) : SlR X r := fun pins s σ H x v vl vu lo hi sl Q I rx hs pl pu q =>
  let ⟨_, h1, h2⟩ := h x lo hi H Q q
  h1 pins s σ H x v vl vu lo hi sl Q I rx hs pl pu h2
theorem sl_R : SlR X (rSlG X.K) := SlR.impR fun x lo hi H Q ⟨W, σ, θ, s, d, R, r1, h⟩ => by
  have seq : PostE X.K W σ Q θ H (match cellT s d with
      | some ns => if wholeB ns.length lo hi = true then .ok d s else .ok (.tup (cutD (ns.map .int) lo hi)) s
      | none => match asL s d with
        | some l => .new (cutD l lo hi) s
        | none => .bad) → ∃ r', SlR X r' ∧ r' x lo hi H Q := fun h => by
    split at h
    · rename_i ns hn
      have q0 := cellT_rd R r1 hn
      obtain ⟨a, rfl, ob, e, _⟩ := q0
      have ew : wholeB ns.length lo hi = true ↔ (sIx (ns.map V.int).length 0 lo = 0 ∧ sIx (ns.map V.int).length (ns.map V.int).length hi = (ns.map V.int).length) := by
        unfold wholeB
        rw [List.length_map, Bool.and_eq_true, decide_eq_true_eq, decide_eq_true_eq]
      refine ⟨_, sl_tupA, a, ns.map V.int, rfl, .inl (.inr ⟨ob, e⟩), fun w => ?_, fun w => ?_⟩
      · rw [if_pos (ew.mpr w)] at h
        exact h.val R r1
      · rw [if_neg (fun z => w (ew.mp z))] at h
        exact fun p hp => PostE.tup h R (cutD_cutV (reps_ints ns) lo hi) p hp
    · split at h
      · rename_i k hk
        obtain ⟨a, vs, rfl, ha, ra⟩ := asL_rd R r1 hk
        exact ⟨_, sl_list, a, vs, rfl, .inl ha, h.lst R (cutD_cutV ra lo hi)⟩
      · exact h.elim
  cases r1 with
  | str z =>
    simp only [sliceD] at h
    split at h
    · rename_i hz
      refine ⟨_, sl_str, toS z, rfl, by rw [toS_length]; exact Nat.le_trans hz lim_le, ?_⟩
      have e : cutS (toS z) lo hi = toS (String.ofList (cutD z.toList lo hi)) := by
        rw [toS_ofList]
        unfold cutS cutD
        rw [toS_list, toS_length, String.length_toList, List.map_take, List.map_drop]
        rfl
      rw [e]
      exact h.val R (.str _)
    · exact h.elim
  | tup h1 n1 q1 =>
    refine ⟨_, sl_tupA, _, _, rfl, .inl h1, fun e => ?_, fun _ => PostE.tup h R (cutD_cutV q1 lo hi)⟩
    have e2 : ∀ l : List D, l.length = _ → cutD l lo hi = l := fun l hl => by
      unfold cutD
      rw [hl, show sIx _ 0 lo = 0 from e.1, show sIx _ _ hi = _ from e.2]
      rw [List.drop_zero, Nat.sub_zero, ← hl, List.take_length]
    have h' : PostE X.K W σ Q θ H (.ok (.tup (cutD _ lo hi)) s) := h
    rw [e2 _ q1.length] at h'
    exact h'.val R (.tup h1 n1 q1)
  | lst h1 n1 q1 => exact seq h
  | ref e => exact seq h
  | _ => exact False.elim h
theorem part_go {ir : E} {e : Expr} (he : PE X e (tE X.K W C ir)) : PO X (some e) (fun σ H Q => tE X.K W C ir σ H fun x H1 => ∃ i, x = .int i ∧ Q (some i) H1) := po_some he
/-- a part of a slice: left out, or an int -/
inductive PartOk (X : Cx) (W : WX) (C : Ctx) : Option Expr → List E → Prop
  | none : PartOk X W C none []
  | some {e : Expr} {ir : E} (h : PE X e (tE X.K W C ir)) : PartOk X W C (some e) [ir]
/-- what is asked of a part -/
def PostO (K : PySem.W.Frag) (W : WX) (σ : L2.St) (Q : Option Int → Hp → Prop) (θ : Th) (H : Hp) : RL → Prop
  | .ok l s => match part l with
    | some o => ∀ θ' H', Ext θ H θ' H' → RelS K θ' H' s → Q o H'
    | none => False
  | .exn c s => ∀ θ' H', Ext θ H θ' H' → RelS K θ' H' s → W (cV K c) none σ H'
  | .bad => False
def tPt (K : PySem.W.Frag) (W : WX) (C : Ctx) (irs : List E) : TO := fun σ H Q => ∃ θ s ρ, RelS K θ H s ∧ EnvR θ H ρ σ ∧ PostO K W σ Q θ H (evalEs C irs ρ s)
theorem po_go {e : Option Expr} {irs : List E} (h : PartOk X W C e irs) : PO X e (tPt X.K W C irs) := by
  cases h with
  | none =>
    refine ⟨fun pins s σ H Q I ⟨θ, st, ρ, R, V, h⟩ => po_none.run pins s σ H Q I ?_⟩
    unfold evalEs at h
    exact h θ H (Ext.refl _ _) R
  | some he =>
    rename_i e ir
    refine ⟨fun pins s σ H Q I ⟨θ, st, ρ, R, V, h⟩ => (po_some he).run pins s σ H Q I ?_⟩
    refine ⟨θ, st, ρ, R, V, ?_⟩
    unfold evalEs evalEs at h
    cases hr : evalE C ir ρ st with
    | ok d s' =>
      intro θ' H' v x R' p
      rw [hr] at h
      cases p with
      | int i => exact ⟨i, rfl, h θ' H' x R'⟩
      | _ => exact False.elim h
    | new l s' => rw [hr] at h; exact False.elim h
    | exn c s' => rw [hr] at h; exact h
    | bad => rw [hr] at h; exact h
theorem PostO.of {σ : L2.St} {Q : VK} {θ : Th} {H : Hp} {r : RL} {k : Option Int → Sto → RE} (h : PostE X.K W σ Q θ H (r.bind fun l s => match part l with
      | none => .bad
      | some o => k o s)) : PostO X.K W σ (fun o H1 => ∃ θ1 s1, Ext θ H θ1 H1 ∧ RelS X.K θ1 H1 s1 ∧ PostE X.K W σ Q θ1 H1 (k o s1)) θ H r := by
  cases r with
  | ok l s =>
    simp only [RL.bind] at h
    unfold PostO
    dsimp only
    cases hp : part l with
    | none => rw [hp] at h; exact h
    | some o => rw [hp] at h; exact fun θ' H' x R => ⟨θ', s, x, R, PostE.up x h⟩
  | exn c s => exact h
  | bad => exact h
theorem PostO.mono {σ : L2.St} {Q Q' : Option Int → Hp → Prop} {θ : Th} {H : Hp} {r : RL} (h : PostO X.K W σ Q θ H r) (q : ∀ o H', Q o H' → Q' o H') : PostO X.K W σ Q' θ H r := by
  cases r with
  | ok l s =>
    unfold PostO at h ⊢
    dsimp only at h ⊢
    cases hp : part l with
    | none => rw [hp] at h; exact h
    | some o => rw [hp] at h; exact fun θ' H' x R => q _ _ (h θ' H' x R)
  | exn c s => exact h
  | bad => exact h
theorem s_slice {a : Expr} {lo hi : Option Expr} {ia : E} {ilo ihi : List E} {pos p2 : Pos} (ha : PE X a (tE X.K W C ia)) (hl : PartOk X W C lo ilo) (hh : PartOk X W C hi ihi) : PE X (.Subscript a (.Slice lo hi none p2) pos) (tE X.K W C (.slice ia ilo ihi)) :=
  PE.imp (pe_slice sl_R ha (po_go hl) (po_go hh)) fun σ H Q ⟨θ, s, ρ, R, V, h⟩ => by
    unfold evalE at h
    refine tE.sub R V (PostE.bind h) fun x H1 ⟨θ1, s1, d, x1, R1, r1, h1⟩ => ?_
    refine ⟨θ1, s1, ρ, R1, V.ext x1, (PostO.of h1).mono fun l H2 ⟨θ2, s2, x2, R2, h2⟩ => ?_⟩
    refine ⟨θ2, s2, ρ, R2, (V.ext x1).ext x2, (PostO.of h2).mono fun m H3 ⟨θ3, s3, x3, R3, h3⟩ => ?_⟩
    exact ⟨W, σ, θ3, s3, d, R3, (r1.ext x2).ext x3, h3⟩
end
end KL

set_option Elab.async false
set_option linter.all false
set_option maxRecDepth 100000
set_option maxHeartbeats 4000000
set_option autoImplicit false
/-! KLSort: sorted of texts, of dicts with text keys, of tuples that begin with a text. -/
namespace KL
open PySem PySem.Spec PyProof.Rows L2

/-! ### tuples: a text, then ints -/
section
variable {prog : Program} {w : World} {A : Around} {E : Value → Shared → Prop} {s : Shared}
def IsTxt (h : Heap) (v : Value) (p : Str × List Int) : Prop := ∃ a o t us n, v = .ref a ∧ h.get? a = some o ∧ o.cls = .type "tuple" ∧ o.data = .seq (.str p.1 t :: us).toArray n ∧ IntsAre us p.2
theorem IsTxt.keeps {h h' : Heap} {v : Value} {p : Str × List Int} (x : IsTxt h v p) (k : ∀ b o, h.get? b = some o → o.cls = .type "tuple" → h'.get? b = some o) : IsTxt h' v p := by
  obtain ⟨a, o, t, us, n, e, ho, hc, hd, hi⟩ := x
  exact ⟨a, o, t, us, n, e, k _ _ ho hc, hc, hd, hi⟩
theorem txt_firsts {h : Heap} : ∀ {vs : List Value}, (∀ v ∈ vs, ∃ p, IsTxt h v p) → ∃ fs : List Value, PySem.W.KatTups h vs fs ∧ fs.length = vs.length ∧ ∀ f ∈ fs, ∃ x t, f = Value.str x t
  | [], _ => ⟨[], PySem.W.KatTups.nil, rfl, fun _ hm => by simp at hm⟩
  | v :: vs, hp => by
    obtain ⟨fs, h1, h2, h3⟩ := txt_firsts (vs := vs) fun v' hm => hp v' (List.mem_cons_of_mem _ hm)
    obtain ⟨p, a, o, t, us, n, e, ho, hc, hd, _⟩ := hp v (List.mem_cons_self ..)
    subst e
    refine ⟨.str p.1 t :: fs, PySem.W.KatTups.cons ho hc hd rfl h1, by rw [List.length_cons, List.length_cons, h2], fun f hm => ?_⟩
    rcases List.mem_cons.mp hm with rfl | hm
    · exact ⟨p.1, t, rfl⟩
    · exact h3 f hm
theorem lex_same {b fin : Bool} {Q : Bool → Shared → Prop} {us us' : List Value} {is : List Int} (h1 : IntsAre us is) (h2 : IntsAre us' is) : ∀ i : Nat, Q fin s → PySem.W.KatLex prog w A b fin Q (us.zip us') i s := by
  induction h1 generalizing us' with
  | nil =>
    intro i h
    cases h2
    exact PySem.W.kat_nil h
  | cons n t r ih =>
    intro i h
    cases h2 with
    | cons _ u r2 =>
      refine PySem.W.kat_cons (SeqAt.EqAt.int_int n t n u prog w _ _ ?_)
      rw [beq_self_eq_true]
      exact PySem.W.kat_yes (ih r2 (i + 1) h)
theorem ints_len {us : List Value} {is : List Int} (h : IntsAre us is) : us.length = is.length := by
  induction h with
  | nil => rfl
  | cons _ _ _ ih => rw [List.length_cons, List.length_cons, ih]
/-- by their texts -/
abbrev ltT (p q : Str × List Int) : Bool := decide (p.1.cps.toList < q.1.cps.toList)
theorem txt_cmp {vs : List Value} {k : Value → Str × List Int} (hp : ∀ v ∈ vs, IsTxt s.heap v (k v)) (hs : ∀ v ∈ vs, ∀ u ∈ vs, (k v).1 = (k u).1 → (k v).2 = (k u).2) :
    SrtO.Cmp prog w A s (tuples' true) (fun p => p.1 ∈ vs) (SrtO.lt2 fun v u => ltT (k v) (k u)) := by
  intro p q hm hm'
  have h1 := hp _ hm
  have h2 := hp _ hm'
  have h3 := hs _ hm _ hm'
  show wpAny (model prog w) A (keyLt' (tuples' true) p.1 q.1) (fun r s' => s' = s ∧ r = ltT (k p.1) (k q.1)) (fun _ _ => False) s
  generalize k p.1 = x at h1 h3 ⊢
  generalize k q.1 = y at h2 h3 ⊢
  obtain ⟨x, is⟩ := x
  obtain ⟨y, js⟩ := y
  obtain ⟨a, o, t, us, n, e, ho, hc, hd, hi⟩ := h1
  obtain ⟨a', o', t', us', n', e', ho', hc', hd', hi'⟩ := h2
  rw [e, e']
  refine PySem.W.kat_lt ho hd ho' hd' ?_
  show PySem.W.KatLex prog w A true (decide ((Value.str x t :: us).toArray.size < (Value.str y t' :: us').toArray.size)) _ ((.str x t, .str y t') :: us.zip us') 0 s
  refine PySem.W.kat_cons (PySem.SeqAt.EqAt.str_str x t y t' prog w _ _ ?_)
  refine PySem.W.kat_go (fun e1 => ?_) (fun e1 => ?_)
  · have ex : x = y := by simpa using e1
    subst ex
    have ei : is = js := h3 rfl
    subst ei
    have l1 := ints_len hi
    have l2 := ints_len hi'
    have e2 : decide ((Value.str x t :: us).toArray.size < (Value.str x t' :: us').toArray.size) = false := decide_eq_false (by simp; omega)
    rw [e2]
    refine PySem.W.kat_yes (lex_same hi hi' _ ⟨rfl, ?_⟩)
    exact (decide_eq_false (List.lt_irrefl _)).symm
  · exact PySem.W.kat_no (oneLt_str ⟨rfl, rfl⟩)
theorem txt_sortable {a : Addr} {vs : List Value} {k : Value → Str × List Int} (h0 : 0 < vs.length) (hp : ∀ v ∈ vs, IsTxt s.heap v (k v)) (hs : ∀ v ∈ vs, ∀ u ∈ vs, (k v).1 = (k u).1 → (k v).2 = (k u).2) (ha : ∀ o, s.heap.get? a = some o → o.cls ≠ .type "tuple") :
    SrtO.SortableO prog w A s a vs fun v u => ltT (k v) (k u) := by
  intro h' keep
  have hp' : ∀ v ∈ vs, IsTxt h' v (k v) := fun v hm => (hp v hm).keeps fun b o e c => keep b o (fun z => by subst z; exact ha o e c) e
  obtain ⟨fs, h1, h2, h3⟩ := txt_firsts fun v hm => ⟨_, hp' v hm⟩
  refine ⟨tuples' true, fun Q E hq => ?_, txt_cmp hp' hs⟩
  refine PySem.W.kat_kind (T := .type "str") h1 (by omega) (fun f hm => ?_) (by rfl) ?_
  · obtain ⟨x, t, rfl⟩ := h3 f hm
    exact PySem.W.Looks.now
  · have e : (Value.type "str" != Value.type "tuple") = true := by first | decide +kernel | rfl | decide
    rw [e]
    exact hq
theorem nat_lt_tri (a b : List Nat) (h1 : ¬ a < b) (h2 : ¬ b < a) : a = b := List.le_antisymm (List.not_lt.mp h2) (List.not_lt.mp h1)
theorem swo_txt (k : Value → Str × List Int) : SrtO.Swo fun v u => ltT (k v) (k u) := by
  refine ⟨fun x y h => ?_, fun x y z h1 h2 => ?_⟩
  · have a := of_decide_eq_true h
    exact decide_eq_false fun q => List.lt_asymm a q
  · have a := List.not_lt.mp (of_decide_eq_false h1)
    have b := List.not_lt.mp (of_decide_eq_false h2)
    exact decide_eq_false (List.not_lt.mpr (List.le_trans a b))
theorem sorted_txt {l : Addr} {vs : List Value} {k : Value → Str × List Int} {Q : Value → Shared → Prop} (hl : s.heap.IsList l vs.toArray) (hz : vs.length ≤ sizeLine) (hp : ∀ v ∈ vs, IsTxt s.heap v (k v)) (hs : ∀ v ∈ vs, ∀ u ∈ vs, (k v).1 = (k u).1 → (k v).2 = (k u).2)
    (h : ∀ (h' : Heap) (d : Addr) (out : List Value), SrtO.Srtd (fun v u => ltT (k v) (k u)) out → SrtO.Stb (fun v u => ltT (k v) (k u)) out vs → (∀ b o, s.heap.get? b = some o → h'.get? b = some o) → s.heap.objs.size ≤ d → (∃ n, h'.get? d = some { cls := .type "list", data := .seq out.toArray n }) → Q (.ref d) { s with heap := h' }) :
    wpAny (model prog w) A (call (.builtin "sorted") [.ref l]) Q E s := by
  refine SrtO.sorted_ord (swo_txt k) hl hz (fun h2 h₁ a ha kk => ?_) fun out hs hb => ?_
  · refine txt_sortable (s := { s with heap := h₁ }) (by omega) (fun v hm => (hp v hm).keeps fun b o e _ => (kk b o e).2) hs fun o e => ?_
    have e' : some o = some (seqObj "list" vs.toArray 0) := e.symm.trans ha
    cases e'
    intro c
    exact absurd (Value.type.inj c) (by decide)
  · exact h _ _ out hs hb (fun b o e => PyProof.Rows.sortedAll_old e) (Nat.le_succ _) (PyProof.Rows.sortedAll_at s.heap vs out.toArray)
end
/-! ### sorted of a tuple of ints: its items are gathered into a new list, which is sorted as any list -/
section
open SrtO
variable {prog : Program} {w : World} {A : Around} {E : Value → Shared → Prop} {s : Shared}
/-- the heap with one more list -/
abbrev withL (h : Heap) (vs : List Value) : Heap := (h.push (seqObj "list" #[] 0)).update h.objs.size (Obj.mapSeq (· ++ vs.toArray))
theorem withL_size (h : Heap) (vs : List Value) : (withL h vs).objs.size = h.objs.size + 1 := (Heap.size_update ..).trans (size_push' ..)
theorem withL_old {h : Heap} {vs : List Value} {b : Addr} {o : Obj} (q : h.get? b = some o) : (withL h vs).get? b = some o :=
  (Heap.get?_update_ne _ _ _ _ (Nat.ne_of_lt (Heap.lt_size q))).trans (Heap.get?_push_of_some _ q)
theorem tup_gather {l : Addr} {vs : List Value} {Q : List Value → Shared → Prop} (hl : s.heap.IsTuple l vs.toArray) (hz : vs.length ≤ sizeLine) (h : Q vs { s with heap := withL s.heap vs }) : wpAny (model prog w) A (collect (.ref l)) Q E s := by
  obtain ⟨o, ho, hc, n, hd⟩ := id hl
  have ho' : (s.heap.push (seqObj "list" #[] 0)).get? l = some o := Heap.get?_push_of_some _ ho
  have hn : (s.heap.push (seqObj "list" #[] 0)).get? s.heap.objs.size = some (seqObj "list" #[] 0) := Heap.get?_push_size _ rfl
  have tl : (Value.type "tuple" == Value.type "tuple") = true := rfl
  have sz : (#[] ++ vs.toArray : Array Value).size ≤ sizeLine + 1 := by simp; omega
  have back : ((#[] : Array Value) ++ vs.toArray).toList = vs := by simp
  unfold collect
  refine wpAny_bind (wpAny_runValue (codeAny_builtin entry_proto_collect' (wpAny_bind (wpAny_newList (wpAny_pure ⟨Code.quiet_builtin _ (by decide +kernel), codeAny_builtin entry_list_iadd' ?_⟩)))))
  show wpAny _ _ (Builtin.List.listExtendWith (.ref s.heap.objs.size) (.ref l) (.ref s.heap.objs.size)) _ _ _
  unfold Builtin.List.listExtendWith
  refine wpAny_bind (wpAny_typeOf (T := "tuple") ⟨o, ho', hc⟩ ?_)
  rw [if_pos (by rw [tl]; simp)]
  refine wpAny_bind (listItems_at ho' hd (wpAny_bind (listItems_at hn rfl ?_)))
  rw [if_neg (by simp)]
  refine wpAny_bind (listUpdate_at hn rfl (wpAny_pure (wpAny_bind (wpAny_load (get?_update_seq hn _) ?_))) (Nat.zero_le _) sz)
  show wpAny _ _ (pure _) Q E _
  rw [back]
  exact wpAny_pure h
theorem tup_sorted {l : Addr} {vs : List Value} {ltv : Value → Value → Bool} {Q : Value → Shared → Prop} (O : Swo ltv) (hl : s.heap.IsTuple l vs.toArray) (hz : vs.length ≤ sizeLine)
    (hS : 2 ≤ vs.length → ∀ (h₁ : Heap) (a : Addr), SortableO prog w A.in1.in1 { s with heap := h₁ } a vs ltv) (h : ∀ out : List Value, Srtd ltv out → Stb ltv out vs → Q (.ref (s.heap.objs.size + 1)) { s with heap := sortedAll s.heap vs out.toArray }) :
    wpAny (model prog w) A (call (.builtin "sorted") [.ref l]) Q E s := by
  have at1 : ((withL s.heap vs).push (seqObj "list" vs.toArray 0)).get? (s.heap.objs.size + 1) = some (seqObj "list" vs.toArray 0) := by
    rw [← withL_size s.heap vs]
    exact Heap.get?_push_size _ rfl
  refine Calls.call_function_entry kind_sorted plain_sorted entry_sorted (args_sorted1 _) ?_
  unfold Builtin.«sorted»
  refine wpAny_bind (m := checkCount "sorted" 1 1 _) (wpAny_pure (wpAny_bind (tup_gather hl hz (wpAny_bind (wpAny_newList ?_ hz)))))
  show wpAny _ _ _ _ _ { s with heap := (withL s.heap vs).push (seqObj "list" vs.toArray 0) }
  rw [withL_size]
  exact wpAny_bind (wpAny_holding (wpAny_call_entry slot_list_sort ⟨_, at1, rfl⟩ entry_list_sort (list_sort_ord O at1 hz (fun h2 => hS h2 _ _) fun out hs hb => ⟨_, rfl, wpAny_pure ⟨_, rfl, h out hs hb⟩⟩) (args_list_sort _)))
end
def rSortedTI (K : PySem.W.Frag) : List V → Hp → VK → Prop := fun vs H Q => ∃ (a : Addr) (ns : List Int), vs = [V.ref a] ∧ Rd H a (.tup (ns.map V.int)) ∧
  ∀ (ns' : List Int) (p : Addr), ns'.Perm ns → ns'.Pairwise (· ≤ ·) → H p = none → Q (.ref p) (upd H p (.lst (ns'.map V.int)))
section
variable {X : Cx}
theorem cr_sortedTI : CallR X (.builtin "sorted") (rSortedTI X.K) := by
  intro pins s σ H vs us Q I r h
  obtain ⟨a, ns, rfl, hs, q⟩ := h
  obtain ⟨hz, its, rv, hl⟩ := hs.ok I.hok
  rw [Vals.ref1 r]
  have hi := Vals.ints rv
  rw [List.length_map] at hz
  refine tup_sorted SrtO.swo_int hl (by rw [← rv.length, List.length_map]; exact hz) (fun h2 _ _ => SrtO.ints_sortable hi h2) fun out h1 h2 => ?_
  obtain ⟨k1, k2, k3⟩ := SrtO.ints_out hi h1 h2
  obtain ⟨ep, at2⟩ := PyProof.Rows.sortedAll_at s.heap its out.toArray
  refine ⟨.ref _, upd H (s.heap.objs.size + 1) (.lst ((out.map SrtO.iv).map V.int)), I.laid (t' := s.toks) (fun _ _ => PyProof.Rows.sortedAll_old) (Nat.le_succ _) ⟨?_, out, ep, vals_of_ints k1, at2⟩, rfl, q _ _ k2 k3 (I.hok.fresh (Nat.le_succ _))⟩
  rw [List.length_map, k2.length_eq]
  exact hz
end
section
variable {X : Cx}
def rTxt (K : PySem.W.Frag) : List V → Hp → VK → Prop := fun vs H Q => ∃ (a : Addr) (xs : List V) (k : V → Str × List Int), vs = [V.ref a] ∧ SqL K H a xs ∧ (∀ x ∈ xs, ∃ t, x = V.ref t ∧ Rd H t (.tup (.str (k x).1 :: (k x).2.map V.int))) ∧
  (∀ x ∈ xs, ∀ y ∈ xs, (k x).1 = (k y).1 → (k x).2 = (k y).2) ∧ ∀ ys p, ys.Perm xs → ys.Pairwise (fun x y => ltT (k y) (k x) = false) → H p = none → Q (.ref p) (upd H p (.lst ys))
theorem swo_txtV (k : V → Str × List Int) : SrtO.Swo fun v u => ltT (k v) (k u) := by
  refine ⟨fun x y h => ?_, fun x y z h1 h2 => ?_⟩
  · have a := of_decide_eq_true h
    exact decide_eq_false fun q => List.lt_asymm a q
  · have a := List.not_lt.mp (of_decide_eq_false h1)
    have b := List.not_lt.mp (of_decide_eq_false h2)
    exact decide_eq_false (List.not_lt.mpr (List.le_trans a b))
theorem cr_txt : CallR X (.builtin "sorted") (rTxt X.K) := by
  intro pins s σ H vs us Q I r h
  obtain ⟨a, xs, k, rfl, hs, hx, hk, q⟩ := h
  obtain ⟨its, rv, hl, hz⟩ := I.list hs
  obtain ⟨u, rfl, ru⟩ := vals1 r
  obtain rfl : u = Value.ref a := ru
  obtain ⟨e1, e2⟩ := refs_back rv fun x m => by
    obtain ⟨t, e, _⟩ := hx x m
    exact ⟨t, e⟩
  have hm : ∀ v ∈ its, backV v ∈ xs := fun v hv => by rw [e1]; exact List.mem_map.mpr ⟨_, hv, rfl⟩
  refine sorted_txt (k := fun u => k (backV u)) hl.isList (by rw [← rv.length]; exact hz) (fun v hv => ?_) (fun v hv u hu => hk _ (hm v hv) _ (hm u hu)) fun h' d out h1 h2 kp hd hn => ?_
  · obtain ⟨t, rfl⟩ := e2 v hv
    obtain ⟨t', e, ht⟩ := hx _ (hm _ hv)
    cases e
    obtain ⟨_, its2, r2, o, ho, hc, n, hd⟩ := ht.ok I.hok
    cases r2 with
    | cons ri rr =>
      obtain ⟨t1, rfl⟩ := ri
      exact ⟨t, o, t1, _, n, rfl, ho, hc, hd, Vals.ints rr⟩
  · have h3 : ∀ u ∈ out, ∃ a, u = Value.ref a := fun u hu => e2 u (h2.perm.mem_iff.mp hu)
    obtain ⟨n, hn⟩ := hn
    have hb : SrtO.Stb (fun v u => ltT (k v) (k u)) (out.map backV) xs := by
      rw [e1]
      exact SrtO.Stb.map (swo_txtV k) backV h2
    refine ⟨.ref d, upd H d (.lst (out.map backV)), I.laid (t' := s.toks) kp hd ⟨?_, out, n, vals_back h3, hn⟩, rfl, q _ d hb.perm (SrtO.srtd_map h1) (I.hok.fresh hd)⟩
    rw [hb.len]
    exact hz
end

/-! ### by the interpreter -/
theorem str_tri {a b : String} (h1 : ¬ a < b) (h2 : ¬ b < a) : a = b := by
  have q := nat_lt_tri (toS a).cps.toList (toS b).cps.toList (fun q => h1 ((toS_lt a b).mp q)) (fun q => h2 ((toS_lt b a).mp q))
  exact toS_inj (str_ext q)
theorem str_lt_trans {a b c : String} (h1 : ¬ b < a) (h2 : ¬ c < b) : ¬ c < a := by
  rw [← toS_lt] at h1 h2 ⊢
  exact List.not_lt.mpr (List.le_trans (List.not_lt.mp h1) (List.not_lt.mp h2))
theorem str_asymm {a b : String} (h : a < b) : ¬ b < a := by
  rw [← toS_lt] at h ⊢
  exact List.lt_asymm h
theorem insS_perm (i : String) : ∀ l, (insS i l).Perm (i :: l)
  | [] => .refl _
  | j :: l => by
    unfold insS
    split
    · exact ((insS_perm i l).cons j).trans (.swap i j l)
    · exact .refl _
theorem sortS_perm : ∀ l, (sortS l).Perm l
  | [] => .refl _
  | i :: l => (insS_perm i _).trans ((sortS_perm l).cons i)
theorem insS_sorted (i : String) : ∀ l : List String, l.Pairwise (fun a b => ¬ b < a) → (insS i l).Pairwise (fun a b => ¬ b < a)
  | [], _ => List.pairwise_singleton _ _
  | j :: l, h => by
    unfold insS
    obtain ⟨h1, h2⟩ := List.pairwise_cons.mp h
    split
    · rename_i hj
      refine List.pairwise_cons.mpr ⟨fun x m => ?_, insS_sorted i l h2⟩
      rcases List.mem_cons.mp ((insS_perm i l).mem_iff.mp m) with rfl | m
      · exact str_asymm hj
      · exact h1 x m
    · rename_i hj
      refine List.pairwise_cons.mpr ⟨fun x m => ?_, h⟩
      rcases List.mem_cons.mp m with rfl | m
      · exact hj
      · exact str_lt_trans hj (h1 x m)
theorem sortS_sorted : ∀ l, (sortS l).Pairwise (fun a b => ¬ b < a)
  | [] => .nil
  | i :: l => insS_sorted i _ (sortS_sorted l)
theorem rising_pairwise : ∀ (p : Str) (l : List Str), risingS p l = true → (p :: l).Pairwise (fun a b => ¬ b.cps.toList < a.cps.toList)
  | p, [], _ => List.pairwise_singleton _ _
  | p, x :: r, h => by
    unfold risingS at h
    rw [Bool.and_eq_true, ltCps_eq, Bool.not_eq_true', decide_eq_false_iff_not] at h
    have ih := rising_pairwise x r h.2
    refine List.pairwise_cons.mpr ⟨fun y m => ?_, ih⟩
    rcases List.mem_cons.mp m with rfl | m
    · exact h.1
    · exact List.not_lt.mpr (List.le_trans (List.not_lt.mp h.1) (List.not_lt.mp ((List.pairwise_cons.mp ih).1 y m)))
theorem sortedS_pairwise : ∀ l : List Str, sortedS l = true → l.Pairwise (fun a b => ¬ b.cps.toList < a.cps.toList)
  | [], _ => .nil
  | x :: r, h => rising_pairwise x r h
theorem texts_one {ys : List Str} {zs : List String} (hp : ys.Perm (zs.map toS)) (hs : sortedS ys = true) : ys = (sortS zs).map toS := by
  refine (hp.trans ((sortS_perm zs).symm.map toS)).eq_of_pairwise (fun x y _ _ h1 h2 => ?_) (sortedS_pairwise _ hs) ?_
  · exact str_ext (nat_lt_tri _ _ h2 h1)
  · refine List.pairwise_map.mpr ((sortS_sorted zs).imp fun {a b} h => ?_)
    rw [toS_lt]
    exact h
theorem Reps.textsV {θ : Th} {H : Hp} : ∀ {l : List D} {vs : List V} {zs : List String}, Reps θ H l vs → toSs l = some zs → vs = (zs.map toS).map V.str ∧ l = zs.map D.str
  | [], _, _, .nil, e => by
    simp [toSs] at e
    subst e
    exact ⟨rfl, rfl⟩
  | d :: l, _, _, .cons r t, e => by
    cases r with
    | str z =>
      simp [toSs] at e
      obtain ⟨ms, e1, rfl⟩ := e
      obtain ⟨rfl, rfl⟩ := Reps.textsV t e1
      exact ⟨rfl, rfl⟩
    | _ => simp [toSs] at e
theorem Reps.ofTexts {θ : Th} {H : Hp} : ∀ zs : List String, Reps θ H (zs.map D.str) ((zs.map toS).map V.str)
  | [] => .nil
  | z :: zs => .cons (.str z) (Reps.ofTexts zs)
theorem keysS_eq : ∀ {kvs : List (DK × D)} {zs : List String}, keysS kvs = some zs → kvs.map (fun p => toK p.1) = (zs.map toS).map Sum.inr
  | [], _, e => by
    simp [keysS] at e
    subst e
    rfl
  | (.str z, d) :: kvs, _, e => by
    simp [keysS] at e
    obtain ⟨ms, e1, rfl⟩ := e
    have := keysS_eq e1
    simp only [List.map_cons, this]
    rfl
  | (.int i, d) :: kvs, _, e => by simp [keysS] at e
/-! tuples -/
theorem insT_perm (i : D) : ∀ l, (insT i l).Perm (i :: l)
  | [] => .refl _
  | j :: l => by
    unfold insT
    split
    · exact ((insT_perm i l).cons j).trans (.swap i j l)
    · exact .refl _
theorem sortT_perm : ∀ l, (sortT l).Perm l
  | [] => .refl _
  | i :: l => (insT_perm i _).trans ((sortT_perm l).cons i)
theorem insT_sorted (i : D) : ∀ l : List D, l.Pairwise (fun a b => ¬ keyT b < keyT a) → (insT i l).Pairwise (fun a b => ¬ keyT b < keyT a)
  | [], _ => List.pairwise_singleton _ _
  | j :: l, h => by
    unfold insT
    obtain ⟨h1, h2⟩ := List.pairwise_cons.mp h
    split
    · rename_i hj
      refine List.pairwise_cons.mpr ⟨fun x m => ?_, insT_sorted i l h2⟩
      rcases List.mem_cons.mp ((insT_perm i l).mem_iff.mp m) with rfl | m
      · exact str_asymm hj
      · exact h1 x m
    · rename_i hj
      refine List.pairwise_cons.mpr ⟨fun x m => ?_, h⟩
      rcases List.mem_cons.mp m with rfl | m
      · exact hj
      · exact str_lt_trans hj (h1 x m)
theorem sortT_sorted : ∀ l, (sortT l).Pairwise (fun a b => ¬ keyT b < keyT a)
  | [] => .nil
  | i :: l => insT_sorted i _ (sortT_sorted l)
theorem toIs_eq : ∀ {l : List D} {ns : List Int}, toIs l = some ns → l = ns.map D.int
  | [], _, e => by
    simp [toIs] at e
    subst e
    rfl
  | d :: l, _, e => by
    cases d with
    | int i =>
      simp [toIs] at e
      obtain ⟨ms, e1, rfl⟩ := e
      rw [toIs_eq e1]
      rfl
    | _ => simp [toIs] at e
theorem txOf_eq {d : D} {p : String × List Int} (h : txOf d = some p) : d = .tup (.str p.1 :: p.2.map .int) := by
  unfold txOf at h
  split at h
  · rename_i z r
    cases e : toIs r with
    | none => simp [e] at h
    | some is =>
      simp [e] at h
      subst h
      rw [toIs_eq e]
  · cases h
theorem toTx_mem : ∀ {l : List D} {ps : List (String × List Int)}, toTx l = some ps → ∀ d ∈ l, ∃ p ∈ ps, txOf d = some p
  | [], _, _, _, m => by cases m
  | d :: l, ps, h, e, m => by
    unfold toTx at h
    split at h
    · rename_i p r h1 h2
      cases h
      rcases List.mem_cons.mp m with rfl | m
      · exact ⟨p, List.mem_cons_self, h1⟩
      · obtain ⟨q, m2, h3⟩ := toTx_mem h2 e m
        exact ⟨q, List.mem_cons_of_mem _ m2, h3⟩
    · cases h
theorem Rep.txt {θ : Th} {H : Hp} {z : String} {is : List Int} {v : V} (r : Rep θ H (.tup (.str z :: is.map .int)) v) : ∃ t, v = V.ref t ∧ Rd H t (.tup (.str (toS z) :: is.map V.int)) := by
  cases r with
  | tup h n q =>
    cases q with
    | cons r1 r2 =>
      cases r1
      have : ∀ {is : List Int} {vs : List V}, Reps θ H (is.map .int) vs → vs = is.map V.int := by
        intro is
        induction is with
        | nil => intro vs h; cases h; rfl
        | cons i is ih =>
          intro vs h
          cases h with
          | cons r1 r2 =>
            cases r1
            rw [ih r2]
            rfl
      rw [this r2] at h
      exact ⟨_, rfl, h⟩
theorem rd_one {H : Hp} {a : Addr} {xs ys : List V} (h1 : Rd H a (.tup xs)) (h2 : Rd H a (.tup ys)) : xs = ys := by
  rcases h1 with h1 | ⟨o, h1⟩ <;> rcases h2 with h2 | ⟨o2, h2⟩ <;> rw [h1] at h2 <;> cases h2 <;> rfl
theorem Reps.perm {θ : Th} {H : Hp} {ys vs : List V} (p : ys.Perm vs) : ∀ {l : List D}, Reps θ H l vs → ∃ l', l'.Perm l ∧ Reps θ H l' ys := by
  induction p with
  | nil => intro l h; exact ⟨l, .refl _, h⟩
  | cons x p ih =>
    intro l h
    cases h with
    | cons r t =>
      obtain ⟨l', h1, h2⟩ := ih t
      exact ⟨_ :: l', h1.cons _, .cons r h2⟩
  | swap x y l0 =>
    intro l h
    cases h with
    | cons r t =>
      cases t with
      | cons r2 t => exact ⟨_, .swap _ _ _, .cons r2 (.cons r t)⟩
  | trans p q ih1 ih2 =>
    intro l h
    obtain ⟨l1, h1, h2⟩ := ih2 h
    obtain ⟨l2, h3, h4⟩ := ih1 h2
    exact ⟨l2, h3.trans h1, h4⟩
theorem Reps.memV {θ : Th} {H : Hp} : ∀ {l : List D} {vs : List V}, Reps θ H l vs → ∀ v ∈ vs, ∃ d ∈ l, Rep θ H d v
  | _, _, .nil, _, m => by cases m
  | _, _, .cons r t, v, m => by
    rcases List.mem_cons.mp m with rfl | m
    · exact ⟨_, List.mem_cons_self, r⟩
    · obtain ⟨d, m2, q⟩ := Reps.memV t v m
      exact ⟨d, List.mem_cons_of_mem _ m2, q⟩
theorem Reps.pairwise {θ : Th} {H : Hp} {R : V → V → Prop} {R' : D → D → Prop} : ∀ {l : List D} {vs : List V}, Reps θ H l vs → (∀ d v e w, d ∈ l → e ∈ l → Rep θ H d v → Rep θ H e w → R v w → R' d e) → vs.Pairwise R → l.Pairwise R'
  | _, _, .nil, _, _ => .nil
  | d :: l, v :: vs, .cons r t, h, p => by
    obtain ⟨p1, p2⟩ := List.pairwise_cons.mp p
    refine List.pairwise_cons.mpr ⟨fun e m => ?_, Reps.pairwise t (fun d v e w m1 m2 => h d v e w (List.mem_cons_of_mem _ m1) (List.mem_cons_of_mem _ m2)) p2⟩
    obtain ⟨i, hi, ei⟩ := List.mem_iff_getElem.mp m
    obtain ⟨w, hw, rw'⟩ := t.get (i := i) (d := e) (by rw [List.getElem?_eq_getElem hi, ei])
    exact h d v e w List.mem_cons_self (List.mem_cons_of_mem _ m) r rw' (p1 w (List.mem_of_getElem? hw))
open Classical in
noncomputable def txV (H : Hp) (x : V) : Str × List Int := if h : ∃ p : Str × List Int, ∃ t, x = V.ref t ∧ Rd H t (.tup (.str p.1 :: p.2.map V.int)) then h.choose else (toS "", [])
theorem int_map_inj {a b : List Int} (h : a.map V.int = b.map V.int) : a = b := by
  induction a generalizing b with
  | nil => cases b with
    | nil => rfl
    | cons _ _ => cases h
  | cons x a ih => cases b with
    | nil => cases h
    | cons y b =>
      simp only [List.map_cons, List.cons.injEq] at h
      cases h.1
      rw [ih h.2]
theorem txV_eq {θ : Th} {H : Hp} {z : String} {is : List Int} {v : V} (r : Rep θ H (.tup (.str z :: is.map .int)) v) : txV H v = (toS z, is) := by
  obtain ⟨t, rfl, h⟩ := r.txt
  have ex : ∃ p : Str × List Int, ∃ t', V.ref t = V.ref t' ∧ Rd H t' (.tup (.str p.1 :: p.2.map V.int)) := ⟨(toS z, is), t, rfl, h⟩
  unfold txV
  rw [dif_pos ex]
  obtain ⟨t', e, h2⟩ := ex.choose_spec
  cases e
  have q := rd_one h2 h
  simp only [List.cons.injEq, V.str.injEq] at q
  exact Prod.ext q.1 (int_map_inj q.2)
/-- what sorted makes of such tuples -/
theorem tuples_one {θ : Th} {H : Hp} {l : List D} {vs : List V} {ps : List (String × List Int)} (r : Reps θ H l vs) (ht : toTx l = some ps) (hs : sameT ps = true) :
    (∀ x ∈ vs, ∃ t, x = V.ref t ∧ Rd H t (.tup (.str (txV H x).1 :: (txV H x).2.map V.int))) ∧ (∀ x ∈ vs, ∀ y ∈ vs, (txV H x).1 = (txV H y).1 → (txV H x).2 = (txV H y).2) ∧
    ∀ ys : List V, ys.Perm vs → ys.Pairwise (fun x y => ltT (txV H y) (txV H x) = false) → Reps θ H (sortT l) ys := by
  have key : ∀ x ∈ vs, ∃ p ∈ ps, Rep θ H (.tup (.str p.1 :: p.2.map .int)) x := fun x m => by
    obtain ⟨d, md, rd⟩ := r.memV x m
    obtain ⟨p, mp, e⟩ := toTx_mem ht d md
    rw [txOf_eq e] at rd
    exact ⟨p, mp, rd⟩
  have same : ∀ p ∈ ps, ∀ q ∈ ps, p.1 = q.1 → p.2 = q.2 := fun p mp q mq e => by
    have := List.all_eq_true.mp (List.all_eq_true.mp hs p mp) q mq
    simpa [e] using this
  refine ⟨fun x m => ?_, fun x m y m2 e => ?_, fun ys hp hw => ?_⟩
  · obtain ⟨p, _, rp⟩ := key x m
    rw [txV_eq rp]
    exact rp.txt
  · obtain ⟨p, mp, rp⟩ := key x m
    obtain ⟨q, mq, rq⟩ := key y m2
    rw [txV_eq rp, txV_eq rq] at e ⊢
    exact same p mp q mq (toS_inj e)
  · obtain ⟨l', h1, h2⟩ := r.perm hp
    have kd : ∀ d ∈ l', ∃ p ∈ ps, d = .tup (.str p.1 :: p.2.map .int) := fun d m => by
      obtain ⟨p, mp, e⟩ := toTx_mem ht d (h1.mem_iff.mp m)
      exact ⟨p, mp, txOf_eq e⟩
    have h3 : l'.Pairwise (fun a b => ¬ keyT b < keyT a) := h2.pairwise (fun d v e w md me rd re h => by
      obtain ⟨p, _, rfl⟩ := kd d md
      obtain ⟨q, _, rfl⟩ := kd e me
      rw [txV_eq rd, txV_eq re] at h
      show ¬ q.1 < p.1
      rw [← toS_lt]
      exact of_decide_eq_false h) hw
    have e : l' = sortT l := (h1.trans (sortT_perm l).symm).eq_of_pairwise (fun x y m1 m2 a b => by
      obtain ⟨p, mp, rfl⟩ := kd x m1
      obtain ⟨q, mq, rfl⟩ := kd y (h1.mem_iff.mpr ((sortT_perm l).mem_iff.mp m2))
      have e1 : p.1 = q.1 := str_tri b a
      rw [e1, same p mp q mq e1]) h3 (sortT_sorted l)
    rw [← e]
    exact h2
end KL

set_option Elab.async false
set_option linter.all false
set_option maxRecDepth 100000
set_option maxHeartbeats 4000000
set_option autoImplicit false
/-! KLCall: calls of built-ins, methods of built-in types, isinstance. -/
namespace KL
open PySem PySem.Spec PyProof.Rows L2

def biN : Bi → String
  | .len => "len"
  | .tupN => "tuple"
  | .tuple => "tuple"
  | .list => "list"
  | .sorted => "sorted"
  | .max => "max"
  | .min => "min"
  | .all => "all"
  | .int => "int"
  | .str => "str"
  | .dict => "dict"
/-- sorting is one thing -/
theorem insI_perm (i : Int) : ∀ l, (insI i l).Perm (i :: l)
  | [] => .refl _
  | j :: l => by
    unfold insI
    split
    · exact .refl _
    · exact ((insI_perm i l).cons j).trans (List.Perm.swap i j l)
theorem sortI_perm : ∀ l, (sortI l).Perm l
  | [] => .refl _
  | i :: l => (insI_perm i _).trans ((sortI_perm l).cons i)
theorem insI_sorted (i : Int) : ∀ l : List Int, l.Pairwise (· ≤ ·) → (insI i l).Pairwise (· ≤ ·)
  | [], _ => by simp [insI]
  | j :: l, h => by
    unfold insI
    split
    · rename_i hij
      refine List.pairwise_cons.mpr ⟨fun k hk => ?_, h⟩
      rcases List.mem_cons.mp hk with rfl | hk
      · exact hij
      · exact Int.le_trans hij ((List.pairwise_cons.mp h).1 k hk)
    · rename_i hij
      refine List.pairwise_cons.mpr ⟨fun k hk => ?_, insI_sorted i l (List.pairwise_cons.mp h).2⟩
      rcases List.mem_cons.mp ((insI_perm i l).mem_iff.mp hk) with rfl | hk
      · omega
      · exact (List.pairwise_cons.mp h).1 k hk
theorem sortI_sorted : ∀ l, (sortI l).Pairwise (· ≤ ·)
  | [] => .nil
  | i :: l => insI_sorted i _ (sortI_sorted l)
theorem sorted_one {a b : List Int} (p : a.Perm b) (ha : a.Pairwise (· ≤ ·)) (hb : b.Pairwise (· ≤ ·)) : a = b :=
  p.eq_of_pairwise (fun x y _ _ h1 h2 => Int.le_antisymm h1 h2) ha hb

/-! ### a new dict -/
section
variable {K : PySem.W.Frag} {θ : Th} {H : Hp} {s : Sto}
theorem cellIn {θ : Th} {x a : Addr} : a ∈ (⟨θ.c ++ [x], θ.b⟩ : Th) ↔ a ∈ θ ∨ a = x := by
  rw [Th.mem, Th.mem]
  simp only [List.mem_append, List.mem_singleton]
  constructor
  · rintro ((h | h) | h)
    · exact .inl (.inl h)
    · exact .inr h
    · exact .inl (.inr h)
  · rintro ((h | h) | h)
    · exact .inl (.inl h)
    · exact .inr h
    · exact .inl (.inr h)
theorem Ext.dct {x : Addr} {o : HO} (R : RelS K θ H s) (h1 : H x = Option.none) : Ext θ H ⟨θ.c ++ [x], θ.b⟩ (upd H x o) where
  pre := ⟨[x], rfl⟩
  sub := fun _ h => h
  keep := fun a o e _ => by rw [upd_ne (ne_of_none e h1)]; exact e
  new := fun a m n => by
    rcases cellIn.mp m with m | m
    · exact absurd m n
    · rw [m]; exact h1
  b := rfl
  ban := fun a m => by
    obtain ⟨⟨xs, e⟩, _⟩ := R.ban a m
    rw [upd_ne (ne_of_none e h1)]
theorem RelS.dct {x : Addr} (R : RelS K θ H s) (h1 : H x = none) {kvs : List (DK × D)} {ws : List (Key × V)} (hk : ws.map (·.1) = kvs.map (fun p => toK p.1)) (hv : Reps θ H (kvs.map (·.2)) (ws.map (·.2))) : RelS K ⟨θ.c ++ [x], θ.b⟩ (upd H x (.dK ws)) (s ++ [.dct kvs]) where
  len := by
    show (θ.c ++ [x]).length = _
    rw [List.length_append, List.length_append, R.len]
    rfl
  nd := by
    show (θ.c ++ [x]).Nodup
    rw [List.nodup_append]
    refine ⟨R.nd, by simp, fun a ha b hb => ?_⟩
    rw [List.mem_singleton.mp hb]
    intro q
    exact R.free h1 (.inl (q ▸ ha))
  cell := fun i c' b g1 g2 => by
    have g2' : (θ.c ++ [x])[i]? = some b := g2
    by_cases hi : i < s.length
    · rw [List.getElem?_append_left hi] at g1
      rw [List.getElem?_append_left (by rw [R.len]; exact hi)] at g2'
      have q := R.cell i c' b g1 g2'
      obtain ⟨o, e, _⟩ := q.some
      exact q.ext0 (Ext.dct R h1).toExt0 (upd_ne (ne_of_none e h1))
    · rw [List.getElem?_append_right (by omega)] at g1
      rw [List.getElem?_append_right (by rw [R.len]; omega), R.len] at g2'
      cases z : i - s.length with
      | zero =>
        rw [z] at g1 g2'
        cases g1
        cases g2'
        exact ⟨ws, upd_same, hk, hv.ext0 (Ext.dct R h1).toExt0⟩
      | succ k =>
        rw [z] at g1
        simp at g1
  ban := fun a m => by
    obtain ⟨⟨xs, e⟩, n⟩ := R.ban a m
    refine ⟨⟨xs, by rw [upd_ne (ne_of_none e h1)]; exact e⟩, fun q => ?_⟩
    rcases List.mem_append.mp q with q | q
    · exact n q
    · rw [List.mem_singleton.mp q, h1] at e
      cases e
end

section
variable {X : Cx} {W : WX} {C : Ctx}
def cOf (K : PySem.W.Frag) (f : List D → Sto → RE) : List V → Hp → VK → Prop := fun vs H Q => ∃ (W : WX) (σ : L2.St) (θ : Th) (s : Sto) (ds : List D), RelS K θ H s ∧ Reps θ H ds vs ∧ PostE K W σ Q θ H (f ds s)
theorem CallR.impR {f : Value} {r : List V → Hp → VK → Prop} (h : ∀ xs H Q, r xs H Q → ∃ r', CallR X f r' ∧ r' xs H Q) : CallR X f r := fun pins s σ H xs us Q I rx q =>
  let ⟨_, h1, h2⟩ := h xs H Q q
  h1 pins s σ H xs us Q I rx h2
theorem Reps.one {θ : Th} {H : Hp} {d : D} {vs : List V} (h : Reps θ H [d] vs) : ∃ v, vs = [v] ∧ Rep θ H d v := by
  cases h with
  | cons r t => cases t; exact ⟨_, rfl, r⟩
theorem Reps.two {θ : Th} {H : Hp} {d e : D} {vs : List V} (h : Reps θ H [d, e] vs) : ∃ v w, vs = [v, w] ∧ Rep θ H d v ∧ Rep θ H e w := by
  cases h with
  | cons r t =>
    obtain ⟨w, rfl, q⟩ := t.one
    exact ⟨_, w, rfl, r, q⟩
theorem c_len : CallR X (.builtin "len") (cOf X.K (biD .len)) := CallR.impR fun xs H Q ⟨W, σ, θ, s, ds, R, r, h⟩ => by
  match ds, r, h with
  | [], _, h => exact False.elim h
  | _ :: _ :: _, _, h => exact False.elim h
  | [d], r, h =>
    obtain ⟨v, rfl, r1⟩ := r.one
    have go : PostE X.K W σ Q θ H (match asSqT s d with
      | some l => .ok (.int l.length) s
      | none => .bad) → ∃ r', CallR X (.builtin "len") r' ∧ r' [v] H Q := fun h => by
      split at h
      · rename_i l hl
        obtain ⟨a, vs, rfl, ha, ra⟩ := asSqT_rd R r1 hl
        refine ⟨_, call_len, .ref a, vs.length, rfl, ?_, ?_⟩
        · rcases ha with ha | ha
          · exact .inl ⟨_, .inl ha, rfl⟩
          · exact .inr ⟨_, .inl ha, rfl⟩
        · rw [← ra.length]
          exact h.val R (.int _)
      · exact h.elim
    cases r1 with
    | str z =>
      simp only [biD, lenD] at h
      split at h
      · rename_i hz
        refine ⟨_, call_len, .str (toS z), z.length, rfl, ⟨by rw [toS_length]; exact Nat.le_trans hz lim_le, (toS_length z).symm⟩, h.val R (.int _)⟩
      · exact h.elim
    | _ => exact go h
theorem RelS.tpc {K : PySem.W.Frag} {θ : Th} {H : Hp} {s : Sto} {x : Addr} (R : RelS K θ H s) (h1 : H x = none) {ns : List Int} {ob : Obj} (hc : ob.cls = .type "tuple") (hd : ob.dict = none) : RelS K ⟨θ.c ++ [x], θ.b⟩ (upd H x (.frz ob (.tup (ns.map V.int)))) (s ++ [.tpc ns]) where
  len := by
    show (θ.c ++ [x]).length = _
    rw [List.length_append, List.length_append, R.len]
    rfl
  nd := by
    show (θ.c ++ [x]).Nodup
    rw [List.nodup_append]
    refine ⟨R.nd, by simp, fun a ha b hb => ?_⟩
    rw [List.mem_singleton.mp hb]
    intro q
    exact R.free h1 (.inl (q ▸ ha))
  cell := fun i c' b g1 g2 => by
    have g2' : (θ.c ++ [x])[i]? = some b := g2
    by_cases hi : i < s.length
    · rw [List.getElem?_append_left hi] at g1
      rw [List.getElem?_append_left (by rw [R.len]; exact hi)] at g2'
      have q := R.cell i c' b g1 g2'
      obtain ⟨o, e, _⟩ := q.some
      exact q.ext0 (Ext.dct R h1).toExt0 (upd_ne (ne_of_none e h1))
    · rw [List.getElem?_append_right (by omega)] at g1
      rw [List.getElem?_append_right (by rw [R.len]; omega), R.len] at g2'
      cases z : i - s.length with
      | zero =>
        rw [z] at g1 g2'
        cases g1
        cases g2'
        exact ⟨ob, upd_same, hc, hd⟩
      | succ k =>
        rw [z] at g1
        simp at g1
  ban := fun a m => by
    obtain ⟨⟨xs, e⟩, n⟩ := R.ban a m
    refine ⟨⟨xs, by rw [upd_ne (ne_of_none e h1)]; exact e⟩, fun q => ?_⟩
    rcases List.mem_append.mp q with q | q
    · exact n q
    · rw [List.mem_singleton.mp q, h1] at e
      cases e
def rTupN : List V → Hp → VK → Prop := fun xs H Q => ∃ p ys, xs = [.ref p] ∧ Rd H p (.lst ys) ∧ ∀ (q : Addr) (ob : Obj), ob.cls = .type "tuple" → ob.dict = none → H q = none → Q (.ref q) (upd H q (.frz ob (.tup ys)))
theorem call_tupN : CallR X (.type "tuple") rTupN := by
  intro pins s σ H xs us Q I rs h
  obtain ⟨p, ys, rfl, hs, q⟩ := h
  obtain ⟨v, rfl, r⟩ := rs.one
  obtain rfl : v = .ref p := r
  obtain ⟨its, rv, pl, hz⟩ := I.list (.inl hs)
  refine call_tuple_list pl.isList (fun h' hk => ?_) (by rw [List.size_toArray, ← rv.length]; exact hz)
  have I1 : Inv X pins σ H { s with heap := h' } := I.kept (t' := s.toks) hk
  have I2 : Inv X pins σ (upd H h'.objs.size (.frz { cls := .type "tuple", data := .seq its.toArray } (.tup ys))) { s with heap := h'.push { cls := .type "tuple", data := .seq its.toArray } } :=
    I1.laid (t' := s.toks) (fun b o e => Heap.get?_push_of_some _ e) (Nat.le_refl _) (show ObjOk X.prog X.w _ _ _ (.frz _ (.tup ys)) from ⟨Heap.get?_push_size _ rfl, hz, its, rv, IsTup.new _ _⟩)
  exact ⟨.ref h'.objs.size, _, I2, rfl, q _ _ rfl rfl (I1.hok.fresh (Nat.le_refl _))⟩
theorem c_tupN : CallR X (.type "tuple") (cOf X.K (biD .tupN)) := CallR.impR fun xs H Q ⟨W, σ, θ, s, ds, R, r, h⟩ => by
  match ds, r, h with
  | [], _, h => exact False.elim h
  | _ :: _ :: _, _, h => exact False.elim h
  | [d], r, h =>
    obtain ⟨v, rfl, r1⟩ := r.one
    replace h : PostE X.K W σ Q θ H (tupND d s) := h
    unfold tupND at h
    split at h
    · rename_i l hl
      split at h
      · rename_i ns hn
        obtain ⟨a, vs, rfl, ha, ra⟩ := asL_rd R r1 hl
        obtain ⟨rfl, rfl⟩ := ra.intsV hn
        refine ⟨_, call_tupN, a, _, rfl, ha, fun p ob hc hd hp => ?_⟩
        refine h ⟨θ.c ++ [p], θ.b⟩ _ (.ref p) (Ext.dct R hp) (R.tpc hp hc hd) (.ref ?_)
        show (θ.c ++ [p])[s.length]? = some p
        rw [List.getElem?_append_right (by rw [R.len]; exact Nat.le_refl _), R.len, Nat.sub_self]
        rfl
      · exact h.elim
    · exact h.elim
theorem c_tuple : CallR X (.type "tuple") (cOf X.K (biD .tuple)) := CallR.impR fun xs H Q ⟨W, σ, θ, s, ds, R, r, h⟩ => by
  match ds, r, h with
  | [], _, h => exact False.elim h
  | _ :: _ :: _, _, h => exact False.elim h
  | [d], r, h =>
    obtain ⟨v, rfl, r1⟩ := r.one
    replace h : PostE X.K W σ Q θ H (tupleD d s) := h
    unfold tupleD at h
    split at h
    · rename_i l hl
      cases r1 with
      | tup h1 n1 q1 =>
        simp [asSq] at hl
        subst hl
        exact ⟨_, call_tuple_of, _, _, rfl, .inr ⟨.inl h1, h.val R (.tup h1 n1 q1)⟩⟩
      | lst h1 n1 q1 =>
        simp [asSq, asL] at hl
        subst hl
        exact ⟨_, call_tuple_of, _, _, rfl, .inl ⟨.inl h1, h.tup R q1⟩⟩
      | ref e =>
        obtain ⟨a, vs, ea, ha, ra⟩ := asL_rd R (.ref e) hl
        cases ea
        exact ⟨_, call_tuple_of, _, _, rfl, .inl ⟨.inl ha, PostE.tup h R ra⟩⟩
      | _ => simp [asSq, asL] at hl
    · exact h.elim
theorem c_list (hc : X.calm = true) : CallR X (.type "list") (cOf X.K (biD .list)) := CallR.impR fun xs H Q ⟨W, σ, θ, s, ds, R, r, h⟩ => by
  match ds, r, h with
  | [], _, h => exact False.elim h
  | _ :: _ :: _, _, h => exact False.elim h
  | [d], r, h =>
    obtain ⟨v, rfl, r1⟩ := r.one
    have h : PostE X.K W σ Q θ H (listD d s) := h
    unfold listD at h
    split at h
    · rename_i l hl
      obtain ⟨a, vs, rfl, ha, ra⟩ := asSqT_rd R r1 hl
      exact ⟨_, call_list_of, _, _, rfl, ha.imp .inl .inl, h.lst R ra⟩
    · rename_i hno
      split at h
      · rename_i n kvs hk
        obtain ⟨_, a, ws, rfl, ea, e1, e2, e3⟩ := cellK_rd R r1 hk
        refine ⟨_, call_listD hc, a, ws, rfl, .inl e1, ?_⟩
        refine h.lst R ?_
        have : ∀ (kvs : List (DK × D)) (ws : List (Key × V)), ws.map (·.1) = kvs.map (fun p => toK p.1) → Reps θ H (kvs.map fun kv => keyV kv.1) (ws.map fun kv => kV kv.1) := by
          intro kvs
          induction kvs with
          | nil =>
            intro ws e
            cases ws with
            | nil => exact .nil
            | cons _ _ => cases e
          | cons kv kvs ih =>
            intro ws e
            cases ws with
            | nil => cases e
            | cons w ws =>
              simp only [List.map_cons, List.cons.injEq] at e
              obtain ⟨k, d⟩ := kv
              refine .cons ?_ (ih ws e.2)
              show Rep θ H (keyV k) (kV w.1)
              rw [e.1]
              cases k with
              | int i => exact .int i
              | str z => exact .str z
        exact this kvs ws e2
      · exact h.elim
theorem c_sorted (hc : X.calm = true) : CallR X (.builtin "sorted") (cOf X.K (biD .sorted)) := CallR.impR fun xs H Q ⟨W, σ, θ, s, ds, R, r, h⟩ => by
  match ds, r, h with
  | [], _, h => exact False.elim h
  | _ :: _ :: _, _, h => exact False.elim h
  | [d], r, h =>
    obtain ⟨v, rfl, r1⟩ := r.one
    suffices U : PostE X.K W σ Q θ H (sortU d s) → ∃ r', CallR X (.builtin "sorted") r' ∧ r' [v] H Q by
      cases d with
      | tup l =>
        have h2 : PostE X.K W σ Q θ H (match toIs l with
          | some ns => .new ((sortI ns).map .int) s
          | none => .bad) := h
        clear h
        split at h2
        · rename_i ns hns
          cases r1 with
          | @tup a _ vs ha hn ra =>
            obtain ⟨rfl, rfl⟩ := ra.intsV hns
            refine ⟨_, cr_sortedTI, a, ns, rfl, ha, fun ns' p hp hs hn => ?_⟩
            rw [sorted_one (hp.trans (sortI_perm ns).symm) hs (sortI_sorted ns)]
            exact h2.lst R (Reps.ofInts _) p hn
        · exact h2.elim
      | _ => exact U (show PostE X.K W σ Q θ H (sortU _ s) from h)
    intro h
    unfold sortU at h
    split at h
    · rename_i l hl
      obtain ⟨a, vs, rfl, ha, ra⟩ := asL_rd R r1 hl
      unfold sortL at h
      split at h
      · rename_i ns hns
        obtain ⟨rfl, rfl⟩ := ra.intsV hns
        refine ⟨_, cr_sortedI, a, ns, rfl, .inl ha, fun ns' p hp hs hn => ?_⟩
        rw [sorted_one (hp.trans (sortI_perm ns).symm) hs (sortI_sorted ns)]
        exact h.lst R (Reps.ofInts _) p hn
      · split at h
        · rename_i zs hzs
          split at h
          · rename_i h64
            obtain ⟨rfl, rfl⟩ := ra.textsV hzs
            refine ⟨_, cr_sortedS, a, zs.map toS, rfl, .inl ha, by rw [List.length_map]; exact h64, fun ys p hp hs hn => ?_⟩
            rw [texts_one hp hs]
            exact h.lst R (Reps.ofTexts _) p hn
          · exact h.elim
        · split at h
          · rename_i ps hps
            split at h
            · rename_i hsm
              obtain ⟨k1, k2, k3⟩ := tuples_one ra hps hsm
              exact ⟨_, cr_txt, a, vs, txV H, rfl, .inl ha, k1, k2, fun ys p hp hs hn => h.lst R (k3 ys hp hs) p hn⟩
            · exact h.elim
          · exact h.elim
    · unfold sortK at h
      split at h
      · rename_i n kvs hk
        obtain ⟨_, a, ws, rfl, ea, e1, e2, e3⟩ := cellK_rd R r1 hk
        split at h
        · rename_i zs hz
          split at h
          · rename_i h64
            refine ⟨_, call_sortedD hc, a, ws, zs.map toS, rfl, .inl e1, by rw [e2]; exact keysS_eq hz, by rw [List.length_map]; exact h64, fun ys p hp hs hn => ?_⟩
            rw [texts_one hp hs]
            exact h.lst R (Reps.ofTexts _) p hn
          · exact h.elim
        · exact h.elim
      · exact h.elim
theorem maxI_is : ∀ {ns : List Int} {m : Int}, maxI ns = some m → 0 < ns.length ∧ m ∈ ns ∧ ∀ x ∈ ns, x ≤ m
  | [], m, h => by cases h
  | i :: l, m, h => by
    unfold maxI at h
    cases hl : maxI l with
    | none =>
      rw [hl] at h
      cases l with
      | nil =>
        cases h
        exact ⟨by simp, by simp, fun x hx => by rw [List.mem_singleton.mp hx]; exact Int.le_refl _⟩
      | cons y l =>
        exfalso
        unfold maxI at hl
        split at hl <;> cases hl
    | some j =>
      rw [hl] at h
      obtain ⟨_, h2, h3⟩ := maxI_is hl
      have e : (if j > i then j else i) = m := Option.some.inj h
      refine ⟨by simp, ?_, fun x hx => ?_⟩
      · split at e
        · rw [← e]; exact List.mem_cons_of_mem _ h2
        · rw [← e]; exact List.mem_cons_self
      · rcases List.mem_cons.mp hx with q | q
        · rw [q, ← e]
          split <;> omega
        · have := h3 x q
          rw [← e]
          split <;> omega
theorem c_dict : CallR X (.type "dict") (cOf X.K (biD .dict)) := CallR.impR fun xs H Q ⟨W, σ, θ, s, ds, R, r, h⟩ => by
  match ds, r, h with
  | [], _, h => exact False.elim h
  | _ :: _ :: _, _, h => exact False.elim h
  | [d], r, h =>
    obtain ⟨v, rfl, r1⟩ := r.one
    have h : PostE X.K W σ Q θ H (dictD d s) := h
    unfold dictD at h
    split at h
    · rename_i n kvs hk
      obtain ⟨_, a, ws, rfl, ea, e1, e2, e3⟩ := cellK_rd R r1 hk
      refine ⟨_, call_dictD, a, ws, rfl, .inl e1, fun p hp => ?_⟩
      refine h ⟨θ.c ++ [p], θ.b⟩ _ (.ref p) (Ext.dct R hp) (R.dct hp e2 e3) (.ref ?_)
      show (θ.c ++ [p])[s.length]? = some p
      rw [List.getElem?_append_right (by rw [R.len]; exact Nat.le_refl _), R.len, Nat.sub_self]
      rfl
    · exact h.elim
theorem c_max (hc : X.calm = true) : CallR X (.builtin "max") (cOf X.K (biD .max)) := CallR.impR fun xs H Q ⟨W, σ, θ, s, ds, R, r, h⟩ => by
  match ds, r, h with
  | [], _, h => exact False.elim h
  | [d], r, h =>
    obtain ⟨v, rfl, r1⟩ := r.one
    have h : PostE X.K W σ Q θ H (max1D d s) := h
    unfold max1D at h
    split at h
    · rename_i l hl
      obtain ⟨a, vs, rfl, ha, ra⟩ := asL_rd R r1 hl
      split at h
      · rename_i ns hns
        obtain ⟨rfl, rfl⟩ := ra.intsV hns
        split at h
        · rename_i m hm
          obtain ⟨m1, m2, m3⟩ := maxI_is hm
          refine ⟨_, cr_max hc, a, ns, rfl, .inl ha, m1, fun m' hm' hle => ?_⟩
          have : m' = m := Int.le_antisymm (m3 m' hm') (hle m m2)
          rw [this]
          exact h.val R (.int _)
        · exact h.elim
      · exact h.elim
    · exact h.elim
  | _ :: _ :: _ :: _, _, h => exact False.elim h
  | [d, e], r, h =>
    obtain ⟨v, w, rfl, r1, r2⟩ := r.two
    have h : PostE X.K W σ Q θ H (maxD d e s) := h
    cases r1 with
    | int i =>
      cases r2 with
      | int j => exact ⟨_, call_max2 hc, i, j, rfl, h.val R (.int _)⟩
      | _ => exact False.elim h
    | _ => exact False.elim h
theorem c_min (hc : X.calm = true) : CallR X (.builtin "min") (cOf X.K (biD .min)) := CallR.impR fun xs H Q ⟨W, σ, θ, s, ds, R, r, h⟩ => by
  match ds, r, h with
  | [], _, h => exact False.elim h
  | [_], _, h => exact False.elim h
  | _ :: _ :: _ :: _, _, h => exact False.elim h
  | [d, e], r, h =>
    obtain ⟨v, w, rfl, r1, r2⟩ := r.two
    have h : PostE X.K W σ Q θ H (minD d e s) := h
    cases r1 with
    | int i =>
      cases r2 with
      | int j => exact ⟨_, call_min2 hc, i, j, rfl, h.val R (.int _)⟩
      | _ => exact False.elim h
    | _ => exact False.elim h
theorem c_all (hc : X.calm = true) : CallR X (.builtin "all") (cOf X.K (biD .all)) := CallR.impR fun xs H Q ⟨W, σ, θ, s, ds, R, r, h⟩ => by
  match ds, r, h with
  | [], _, h => exact False.elim h
  | _ :: _ :: _, _, h => exact False.elim h
  | [d], r, h =>
    obtain ⟨v, rfl, r1⟩ := r.one
    have h : PostE X.K W σ Q θ H (allD d s) := h
    unfold allD at h
    split at h
    · rename_i l hl
      obtain ⟨a, vs, rfl, ha, ra⟩ := asL_rd R r1 hl
      split at h
      · rename_i ns hns
        obtain ⟨rfl, rfl⟩ := ra.boolsV hns
        exact ⟨_, cr_all hc, a, ns, rfl, .inl ha, h.val R (.bl _)⟩
      · exact h.elim
    · exact h.elim
theorem c_int : CallR X (.type "int") (cOf X.K (biD .int)) := CallR.impR fun xs H Q ⟨W, σ, θ, s, ds, R, r, h⟩ => by
  match ds, r, h with
  | [], _, h => exact False.elim h
  | _ :: _ :: _, _, h => exact False.elim h
  | [d], r, h =>
    obtain ⟨v, rfl, r1⟩ := r.one
    have h : PostE X.K W σ Q θ H (intD d s) := h
    cases r1 with
    | int i => exact ⟨_, call_int1, .inl ⟨i, rfl, h.val R (.int _)⟩⟩
    | bl b => exact ⟨_, call_int1, .inr ⟨b, rfl, h.val R (.int _)⟩⟩
    | str z =>
      simp only [intD] at h
      split at h
      · rename_i hl
        split at h
        · rename_i i hi
          exact ⟨_, call_int_str, toS z, i, rfl, int_txt z i hl hi, by rw [toS_length]; exact hl, h.val R (.int _)⟩
        · exact h.elim
      · exact h.elim
    | _ => exact False.elim h
theorem c_str : CallR X (.type "str") (cOf X.K (biD .str)) := CallR.impR fun xs H Q ⟨W, σ, θ, s, ds, R, r, h⟩ => by
  match ds, r, h with
  | [], _, h => exact False.elim h
  | _ :: _ :: _, _, h => exact False.elim h
  | [d], r, h =>
    obtain ⟨v, rfl, r1⟩ := r.one
    have h : PostE X.K W σ Q θ H (strD d s) := h
    cases r1 with
    | int i =>
      simp only [strD] at h
      split at h
      · rename_i hi
        exact ⟨_, call_str_int, i, rfl, hi, h.val R (.str _)⟩
      · exact h.elim
    | _ => exact False.elim h
/-- a call of a built-in by its name -/
theorem s_bi (hc : X.calm = true) {b : Bi} {e : Expr} {es : List Expr} {irs : List E} {p pos : Pos} (hg : Gl X (toS (biN b))) (hm : X.mg (toS (biN b)) = none) (ha : PA X (e :: es) (tEs X.K W C irs))
    (he : starEach (e :: es) X.env = (false, eval e X.env) :: starEach es X.env) (hpl : (backTo pos (starEach es X.env)).any (·.1) = false) : PE X (.Call (.Name (toS (biN b)) p) (e :: es) [] pos) (tE X.K W C (.bi b irs)) := by
  have fin : ∀ σ H Q, tE X.K W C (.bi b irs) σ H Q → tCB (cOf X.K (biD b)) (tEs X.K W C irs) σ H Q := fun σ H Q ⟨θ, s, ρ, R, V, h⟩ => by
    unfold evalE at h
    exact ⟨θ, s, ρ, R, V, (PostL.bind h).mono fun vs H1 ⟨θ1, s1, ds, x1, R1, r1, h1⟩ => ⟨W, σ, θ1, s1, ds, R1, r1, h1⟩⟩
  cases b with
  | len => exact PE.imp (pe_callB c_len hg hm (by decide +kernel) ha (by decide +kernel) (by decide +kernel) he hpl) fin
  | tupN => exact PE.imp (pe_callTy c_tupN hg hm (by decide +kernel) ha (by decide +kernel) (by decide +kernel) he hpl) fin
  | tuple => exact PE.imp (pe_callTy c_tuple hg hm (by decide +kernel) ha (by decide +kernel) (by decide +kernel) he hpl) fin
  | dict => exact PE.imp (pe_callTy c_dict hg hm (by decide +kernel) ha (by decide +kernel) (by decide +kernel) he hpl) fin
  | list => exact PE.imp (pe_callTy (c_list hc) hg hm (by decide +kernel) ha (by decide +kernel) (by decide +kernel) he hpl) fin
  | sorted => exact PE.imp (pe_callB (c_sorted hc) hg hm (by decide +kernel) ha (by decide +kernel) (by decide +kernel) he hpl) fin
  | max => exact PE.imp (pe_callB (c_max hc) hg hm (by decide +kernel) ha (by decide +kernel) (by decide +kernel) he hpl) fin
  | min => exact PE.imp (pe_callB (c_min hc) hg hm (by decide +kernel) ha (by decide +kernel) (by decide +kernel) he hpl) fin
  | all => exact PE.imp (pe_callB (c_all hc) hg hm (by decide +kernel) ha (by decide +kernel) (by decide +kernel) he hpl) fin
  | int => exact PE.imp (pe_callTy c_int hg hm (by decide +kernel) ha (by decide +kernel) (by decide +kernel) he hpl) fin
  | str => exact PE.imp (pe_callTy c_str hg hm (by decide +kernel) ha (by decide +kernel) (by decide +kernel) he hpl) fin

/-! ### isinstance -/
def tyN : Ty → String
  | .int => "int"
  | .bool => "bool"
  | .str => "str"
  | .tuple => "tuple"
  | .list => "list"
inductive Kd where | non | bl | int | str | tup | lst
def kdN : Kd → String
  | .non => "NoneType"
  | .bl => "bool"
  | .int => "int"
  | .str => "str"
  | .tup => "tuple"
  | .lst => "list"
def isK : Kd → Ty → Bool
  | .bl, .bool => true
  | .bl, .int => true
  | .int, .int => true
  | .str, .str => true
  | .tup, .tuple => true
  | .lst, .list => true
  | _, _ => false
def kd : D → Kd
  | .non => .non
  | .bl _ => .bl
  | .int _ => .int
  | .str _ => .str
  | .tup _ => .tup
  | .lst _ => .lst
  | .ref _ => .lst
abbrev valN (d : D) : String := kdN (kd d)
theorem isK_d (d : D) (t : Ty) : isK (kd d) t = isTy d t := by cases d <;> cases t <;> rfl
theorem kit_k (k : Kd) (t : Ty) : kitB (kdN k) (tyN t) = some (isK k t) := by
  cases k <;> cases t <;> decide +kernel
theorem kit_d (d : D) (t : Ty) : kitB (valN d) (tyN t) = some (isTy d t) := by
  rw [← isK_d]
  exact kit_k _ t
theorem tyX_d {K : PySem.W.Frag} {θ : Th} {H : Hp} {s : Sto} (R : RelS K θ H s) {d : D} {v : V} (r : Rep θ H d v) (h : typed s d = true) : TyX K H v (.type (valN d)) := by
  cases r with
  | non => exact .base .non
  | bl b => exact .base (.bl b)
  | int i => exact .base (.int i)
  | str z => exact .base (.str _)
  | tup h1 n1 q1 =>
    rcases h1 with h1 | ⟨o, h1⟩
    · exact .base (.tup h1)
    · exact .fTuple h1
  | lst h1 n1 q1 =>
    rcases h1 with h1 | ⟨o, h1⟩
    · exact .base (.lst h1)
    · exact .base (.frz h1)
  | @ref n a e =>
    cases hc : s[n]? with
    | none => simp [typed, hc] at h
    | some c =>
      cases c with
      | lst l =>
        obtain ⟨vs, e1, _⟩ := R.cell _ _ _ hc e
        exact .base (.lst e1)
      | ins _ _ => simp [typed, hc] at h
      | dct _ => simp [typed, hc] at h
      | tpc _ => simp [typed, hc] at h
theorem kitAny_d {K : PySem.W.Frag} (d : D) : ∀ ts : List Ty, PySem.W.kitAny K (.type (valN d)) (ts.map fun t => Value.type (tyN t)) = some (ts.any fun t => isTy d t)
  | [] => rfl
  | t :: ts => kitAny_cons (kit_ty (kit_d d t)) (fun h => by rw [List.any_cons, h, Bool.false_or]; exact kitAny_d d ts) fun h => by rw [List.any_cons, h, Bool.true_or]
theorem s_isi1 {a : Expr} {ia : E} {t : Ty} {p p2 pos : Pos} (hg : Gl X "isinstance") (hm : X.mg "isinstance" = none) (hg2 : Gl X (toS (tyN t))) (hm2 : X.mg (toS (tyN t)) = none) (ha : PE X a (tE X.K W C ia))
    (hs : starEach [a, .Name (toS (tyN t)) p2] X.env = (false, eval a X.env) :: starEach [.Name (toS (tyN t)) p2] X.env) :
    PE X (.Call (.Name "isinstance" p) [a, .Name (toS (tyN t)) p2] [] pos) (tE X.K W C (.isi ia [t])) := by
  have hT : PE X (.Name (toS (tyN t)) p2) (tC (.ty (tyN t))) := by
    cases t <;> exact pe_bltn hg2 hm2 (by decide +kernel) rfl (by decide +kernel) (by decide +kernel)
  refine PE.imp (pe_callB call_isi hg hm (by decide +kernel) (pa_cons ha (pa_cons hT pa_nil) hs) (by decide +kernel) (by decide +kernel) hs rfl) fun σ H Q ⟨θ, s, ρ, R, V, h⟩ => ?_
  unfold evalE at h
  refine tE.sub R V (PostE.bind h) fun x H1 ⟨θ1, s1, d, x1, R1, r1, h1⟩ => ?_
  dsimp only at h1
  split at h1
  · rename_i ht
    refine ⟨x, .ty (tyN t), .type (valN d), .type (tyN t), isTy d t, rfl, .ty _, tyX_d R1 r1 ht, kit_ty (kit_d d t), ?_⟩
    have e : ([t].any fun t => isTy d t) = isTy d t := by simp
    rw [e] at h1
    exact h1.val R1 (.bl _)
  · exact h1.elim
theorem tys_go (hf : ∀ t : Ty, X.mg (toS (tyN t)) = none) (hg : ∀ t : Ty, Gl X (toS (tyN t))) : ∀ (ts : List Ty) (ps : List Pos), ts.length = ps.length → ∃ t : TA, PA X ((ts.zip ps).map fun q => .Name (toS (tyN q.1)) q.2) t ∧ ∀ σ H Q, Q (ts.map fun t => V.ty (tyN t)) H → t σ H Q
  | [], [], _ => ⟨_, pa_nil, fun _ _ _ q => q⟩
  | t :: ts, p :: ps, h => by
    obtain ⟨u, h1, h2⟩ := tys_go hf hg ts ps (by simpa using h)
    have hT : PE X (.Name (toS (tyN t)) p) (tC (.ty (tyN t))) := by
      cases t <;> exact pe_bltn (hg _) (hf _) (by decide +kernel) rfl (by decide +kernel) (by decide +kernel)
    exact ⟨_, pa_cons hT h1 rfl, fun σ H Q q => h2 σ H _ q⟩
  | [], _ :: _, h => by cases h
  | _ :: _, [], h => by cases h
end
end KL

set_option Elab.async false
set_option linter.all false
set_option maxRecDepth 100000
set_option maxHeartbeats 4000000
set_option autoImplicit false
/-! KLIter: what loops and comprehensions walk. -/
namespace KL
open PySem PySem.Spec PyProof.Rows L2

structure Walk (K : PySem.W.Frag) (θ0 : Th) (H0 : Hp) (J : It) (ds : List D) (g : Guard) : Prop where
  go : ∀ (i : Nat) (θ : Th) (H : Hp) (s : Sto) (d : D), Ext0 θ0 H0 θ H → RelS K θ H s → g.ok s → ds[i]? = some d → J.go i H
  yld : ∀ (i : Nat) (θ : Th) (H : Hp) (s : Sto) (d : D) (x : V) (H' : Hp), Ext0 θ0 H0 θ H → RelS K θ H s → g.ok s → ds[i]? = some d → J.yld i H x H' → Ext θ H θ H' ∧ RelS K θ H' s ∧ Rep θ H' d x
  stop : ∀ (i : Nat) (θ : Th) (H : Hp) (s : Sto), Ext0 θ0 H0 θ H → RelS K θ H s → g.ok s → ds.length ≤ i → J.stop i H
def PostI (K : PySem.W.Frag) (W : WX) (σ : L2.St) (k : ItK) (R : It → Hp → Prop) (θ : Th) (H : Hp) : RL → Prop
  | .ok l s => match items k l s with
    | some (ds, g) => ∀ θ' H' J, Ext θ H θ' H' → RelS K θ' H' s → g.ok s → Walk K θ' H' J ds g → R J H'
    | none => False
  | .exn c s => ∀ θ' H', Ext θ H θ' H' → RelS K θ' H' s → W (cV K c) none σ H'
  | .bad => False
def wI (K : PySem.W.Frag) (W : WX) (C : Ctx) (k : ItK) (its : List E) : TI := fun σ H R => ∃ θ s ρ, RelS K θ H s ∧ EnvR θ H ρ σ ∧ PostI K W σ k R θ H (evalEs C its ρ s)

section
variable {K : PySem.W.Frag} {θ0 : Th} {H0 : Hp}
theorem get_inj {α : Type} {l : List α} {i : Nat} {x y : α} (h : l[i]? = some x) (h' : l[i]? = some y) : x = y := Option.some.inj (h.symm.trans h')
/-- a list that stays: frozen, or a cell that is guarded -/
theorem walk_list {a : Addr} {l : List D} {vs : List V} {g : Guard} (h : ∀ θ H s, Ext0 θ0 H0 θ H → RelS K θ H s → g.ok s → ∃ vs, Rd H a (.lst vs) ∧ Reps θ H l vs) : Walk K θ0 H0 (Itl K a) l g where
  go := fun i θ H s d x R q e => by
    obtain ⟨vs, r1, r2⟩ := h θ H s x R q
    obtain ⟨v, e1, _⟩ := r2.get e
    exact ⟨vs, v, .inl r1, e1⟩
  yld := fun i θ H s d x H' xx R q e y => by
    obtain ⟨rfl, y⟩ := y
    obtain ⟨vs, r1, r2⟩ := h θ _ s xx R q
    obtain ⟨v, e1, rv⟩ := r2.get e
    rw [get_inj (y vs (.inl r1)) e1]
    exact ⟨Ext.refl _ _, R, rv⟩
  stop := fun i θ H s x R q e => by
    obtain ⟨vs, r1, r2⟩ := h θ H s x R q
    exact ⟨vs, .inl r1, by rw [← r2.length]; exact e⟩
theorem walk_tup {a : Addr} {l : List D} (h : ∀ θ H, Ext0 θ0 H0 θ H → ∃ vs, Rd H a (.tup vs) ∧ Reps θ H l vs) : Walk K θ0 H0 (Itt K a) l none where
  go := fun i θ H s d x R q e => by
    obtain ⟨vs, r1, r2⟩ := h θ H x
    obtain ⟨v, e1, _⟩ := r2.get e
    exact ⟨vs, v, .inl r1, e1⟩
  yld := fun i θ H s d x H' xx R q e y => by
    obtain ⟨rfl, y⟩ := y
    obtain ⟨vs, r1, r2⟩ := h θ _ xx
    obtain ⟨v, e1, rv⟩ := r2.get e
    rw [get_inj (y vs (.inl r1)) e1]
    exact ⟨Ext.refl _ _, R, rv⟩
  stop := fun i θ H s x R q e => by
    obtain ⟨vs, r1, r2⟩ := h θ H x
    exact ⟨vs, .inl r1, by rw [← r2.length]; exact e⟩
theorem walk_str (z : String) : Walk K θ0 H0 (Its (toS z)) (z.toList.map fun c => .str (String.ofList [c])) none where
  go := fun i θ H s d x R q e => by
    show i < (toS z).cps.size
    rw [toS_cps, List.size_toArray]
    have := (List.getElem?_eq_some_iff.mp e).1
    simpa using this
  yld := fun i θ H s d x H' xx R q e y => by
    obtain ⟨rfl, c, hc, rfl⟩ := y
    refine ⟨Ext.refl _ _, R, ?_⟩
    rw [List.getElem?_map] at e
    cases hz : z.toList[i]? with
    | none => rw [hz] at e; cases e
    | some c' =>
      rw [hz] at e
      cases e
      have e1 : c = c'.toNat := by
        rw [toS_cps] at hc
        simp [hz] at hc
        exact hc.symm
      subst e1
      have e2 : (⟨#[c'.toNat]⟩ : Str) = toS (String.ofList [c']) := by rw [toS_ofList]; rfl
      rw [e2]
      exact .str _
  stop := fun i θ H s x R q e => by
    show (toS z).cps.size ≤ i
    rw [toS_cps, List.size_toArray]
    simpa using e
theorem range_get (a b : Int) (i : Nat) : (rangeD a b)[i]? = if i < (b - a).toNat then some (.int (a + i)) else none := by
  unfold rangeD
  rw [List.getElem?_map]
  by_cases h : i < (b - a).toNat
  · rw [if_pos h, List.getElem?_range h]; rfl
  · rw [if_neg h, List.getElem?_eq_none (by simpa using h)]; rfl
theorem walk_range (a b : Int) : Walk K θ0 H0 (Itr a (b - a).toNat) (rangeD a b) none where
  go := fun i θ H s d x R q e => by
    rw [range_get] at e
    show i < (b - a).toNat
    by_cases h : i < (b - a).toNat
    · exact h
    · rw [if_neg h] at e; cases e
  yld := fun i θ H s d x H' xx R q e y => by
    obtain ⟨rfl, rfl⟩ := y
    rw [range_get] at e
    by_cases h : i < (b - a).toNat
    · rw [if_pos h] at e
      cases e
      exact ⟨Ext.refl _ _, R, .int _⟩
    · rw [if_neg h] at e; cases e
  stop := fun i θ H s x R q e => by
    show (b - a).toNat ≤ i
    simpa [rangeD] using e
theorem enum_get : ∀ (l : List D) (k i : Nat), (enumD k l)[i]? = l[i]?.map fun d => .tup [.int ((k + i : Nat) : Int), d]
  | [], k, i => by simp [enumD]
  | d :: l, k, 0 => by simp [enumD]
  | d :: l, k, i + 1 => by
    show (enumD (k + 1) l)[i]? = _
    rw [enum_get l (k + 1) i]
    have : k + 1 + i = k + (i + 1) := by omega
    rw [this]
    simp
theorem enum_len : ∀ (l : List D) (k : Nat), (enumD k l).length = l.length
  | [], _ => rfl
  | _ :: l, k => congrArg (· + 1) (enum_len l (k + 1))
theorem rep_pair {θ : Th} {H : Hp} {K : PySem.W.Frag} {s : Sto} {T : Addr} {d e : D} {x y : V} (R : RelS K θ H s) (h : H T = none) (r : Rep θ H d x) (q : Rep θ H e y) :
    Ext θ H θ (upd H T (.tup [x, y])) ∧ RelS K θ (upd H T (.tup [x, y])) s ∧ Rep θ (upd H T (.tup [x, y])) (.tup [d, e]) (.ref T) :=
  ⟨R.ext h, R.newUpd h, .tup (.inl upd_same) (R.free h) (.cons (r.ext (R.ext h)) (.cons (q.ext (R.ext h)) .nil))⟩
theorem walk_enum {a : Addr} {l : List D} {g : Guard} (h : ∀ θ H s, Ext0 θ0 H0 θ H → RelS K θ H s → g.ok s → ∃ vs, Rd H a (.lst vs) ∧ Reps θ H l vs) : Walk K θ0 H0 (Ite K a) (enumD 0 l) g where
  go := fun i θ H s d x R q e => by
    rw [enum_get] at e
    cases hl : l[i]? with
    | none => rw [hl] at e; cases e
    | some c =>
      obtain ⟨vs, r1, r2⟩ := h θ H s x R q
      obtain ⟨v, e1, _⟩ := r2.get hl
      exact ⟨vs, v, .inl r1, e1⟩
  yld := fun i θ H s d x H' xx R q e y => by
    rw [enum_get] at e
    cases hl : l[i]? with
    | none => rw [hl] at e; cases e
    | some c =>
      rw [hl] at e
      cases e
      obtain ⟨T, x, rfl, hT, rfl, y⟩ := y
      obtain ⟨vs, r1, r2⟩ := h θ H s xx R q
      obtain ⟨v, e1, rv⟩ := r2.get hl
      rw [get_inj (y vs (.inl r1)) e1]
      rw [Nat.zero_add]
      exact rep_pair R hT (.int _) rv
  stop := fun i θ H s x R q e => by
    obtain ⟨vs, r1, r2⟩ := h θ H s x R q
    exact ⟨vs, .inl r1, by rw [← r2.length, ← enum_len l 0]; exact e⟩
theorem zip_get : ∀ (l m : List D) (i : Nat), (zipD l m)[i]? = match l[i]?, m[i]? with
    | some a, some b => some (.tup [a, b])
    | _, _ => none
  | [], m, i => by simp [zipD]
  | a :: l, [], i => by
    simp only [zipD]
    cases (a :: l)[i]? <;> simp
  | a :: l, b :: m, 0 => by simp [zipD]
  | a :: l, b :: m, i + 1 => by
    show (zipD l m)[i]? = _
    rw [zip_get l m i]
    simp
theorem zip_len : ∀ (l m : List D), (zipD l m).length = min l.length m.length
  | [], m => by simp [zipD]
  | a :: l, [] => by simp [zipD]
  | a :: l, b :: m => by
    show (zipD l m).length + 1 = _
    rw [zip_len l m, List.length_cons, List.length_cons]
    omega
theorem walk_zip {a b : Addr} {l m : List D} (h : ∀ θ H, Ext0 θ0 H0 θ H → ∃ vs ws, Rd H a (.lst vs) ∧ Rd H b (.lst ws) ∧ Reps θ H l vs ∧ Reps θ H m ws) : Walk K θ0 H0 (Itz K a b) (zipD l m) none where
  go := fun i θ H s d x R q e => by
    rw [zip_get] at e
    split at e
    · rename_i c c' h1 h2
      obtain ⟨vs, ws, r1, r2, q1, q2⟩ := h θ H x
      obtain ⟨v, e1, _⟩ := q1.get h1
      obtain ⟨w, e2, _⟩ := q2.get h2
      exact ⟨vs, ws, v, w, .inl r1, .inl r2, e1, e2⟩
    · cases e
  yld := fun i θ H s d x H' xx R q e y => by
    rw [zip_get] at e
    split at e
    · rename_i c c' h1 h2
      cases e
      obtain ⟨T, x, y', rfl, hT, rfl, y1, y2⟩ := y
      obtain ⟨vs, ws, r1, r2, q1, q2⟩ := h θ H xx
      obtain ⟨v, e1, rv⟩ := q1.get h1
      obtain ⟨w, e2, rw'⟩ := q2.get h2
      rw [get_inj (y1 vs (.inl r1)) e1, get_inj (y2 ws (.inl r2)) e2]
      exact rep_pair R hT rv rw'
    · cases e
  stop := fun i θ H s x R q e => by
    obtain ⟨vs, ws, r1, r2, q1, q2⟩ := h θ H x
    refine ⟨vs, ws, .inl r1, .inl r2, ?_⟩
    rw [zip_len] at e
    rw [← q1.length, ← q2.length]
    omega
theorem walk_zipT {a b : Addr} {l m : List D} (h : ∀ θ H, Ext0 θ0 H0 θ H → ∃ vs ws, Rd H a (.tup vs) ∧ Rd H b (.tup ws) ∧ Reps θ H l vs ∧ Reps θ H m ws) : Walk K θ0 H0 (RZ.ItzT K a b) (zipD l m) none where
  go := fun i θ H s d x R q e => by
    rw [zip_get] at e
    split at e
    · rename_i c c' h1 h2
      obtain ⟨vs, ws, r1, r2, q1, q2⟩ := h θ H x
      obtain ⟨v, e1, _⟩ := q1.get h1
      obtain ⟨w, e2, _⟩ := q2.get h2
      exact ⟨vs, ws, v, w, .inl r1, .inl r2, e1, e2⟩
    · cases e
  yld := fun i θ H s d x H' xx R q e y => by
    rw [zip_get] at e
    split at e
    · rename_i c c' h1 h2
      cases e
      obtain ⟨T, x, y', rfl, hT, rfl, y1, y2⟩ := y
      obtain ⟨vs, ws, r1, r2, q1, q2⟩ := h θ H xx
      obtain ⟨v, e1, rv⟩ := q1.get h1
      obtain ⟨w, e2, rw'⟩ := q2.get h2
      rw [get_inj (y1 vs (.inl r1)) e1, get_inj (y2 ws (.inl r2)) e2]
      exact rep_pair R hT rv rw'
    · cases e
  stop := fun i θ H s x R q e => by
    obtain ⟨vs, ws, r1, r2, q1, q2⟩ := h θ H x
    refine ⟨vs, ws, .inl r1, .inl r2, ?_⟩
    rw [zip_len] at e
    rw [← q1.length, ← q2.length]
    omega
/-- a value that is walked as a list -/
theorem list_stays {θ : Th} {H : Hp} {d : D} {v : V} {l : List D} (r : Rep θ H d v) (e : d = .lst l) : ∃ a, v = .ref a ∧ (∃ vs, Rd H a (.lst vs)) ∧ ∀ θ' H', Ext0 θ H θ' H' → ∃ vs, Rd H' a (.lst vs) ∧ Reps θ' H' l vs := by
  subst e
  cases r with
  | lst h n q => exact ⟨_, rfl, ⟨_, h⟩, fun θ' H' x => ⟨_, (x.rd h n).1, q.ext0 x⟩⟩
theorem tup_stays {θ : Th} {H : Hp} {d : D} {v : V} {l : List D} (r : Rep θ H d v) (e : d = .tup l) : ∃ a, v = .ref a ∧ (∃ vs, Rd H a (.tup vs)) ∧ ∀ θ' H', Ext0 θ H θ' H' → ∃ vs, Rd H' a (.tup vs) ∧ Reps θ' H' l vs := by
  subst e
  cases r with
  | tup h n q => exact ⟨_, rfl, ⟨_, h⟩, fun θ' H' x => ⟨_, (x.rd h n).1, q.ext0 x⟩⟩
theorem cell_stays {θ : Th} {H : Hp} {s : Sto} {v : V} {n : Nat} {l : List D} (R : RelS K θ H s) (r : Rep θ H (.ref n) v) (e : s[n]? = some (.lst l)) :
    ∃ a, v = .ref a ∧ (∃ vs, Rd H a (.lst vs)) ∧ ∀ θ' H' s', Ext0 θ H θ' H' → RelS K θ' H' s' → Guard.ok (some (n, l)) s' → ∃ vs, Rd H' a (.lst vs) ∧ Reps θ' H' l vs := by
  cases r with
  | ref h =>
    obtain ⟨vs, e1, _⟩ := R.cell _ _ _ e h
    refine ⟨_, rfl, ⟨vs, .inl e1⟩, fun θ' H' s' x R' g => ?_⟩
    obtain ⟨vs', e2, q⟩ := R'.cell _ _ _ (show s'[n]? = some (.lst l) from g) (x.get h)
    exact ⟨vs', .inl e2, q⟩
end

section
variable {X : Cx} {W : WX} {C : Ctx} {tg : Expr}
theorem PI.imp {e : Expr} {t t' : TI} (h : PI X tg e t) (i : ∀ σ H Q, t' σ H Q → t σ H Q) : PI X tg e t' := ⟨fun pins s σ H R I q => h.run pins s σ H R I (i σ H R q)⟩
/-- the iterable is evaluated: what comes, by what the interpreter says -/
theorem one_of {ia : E} {k : ItK} {σ : L2.St} {H : Hp} {R : It → Hp → Prop} (h : wI X.K W C k [ia] σ H R) :
    ∃ θ s ρ, RelS X.K θ H s ∧ EnvR θ H ρ σ ∧ match evalE C ia ρ s with
      | .ok d s1 => PostI X.K W σ k R θ H (.ok [d] s1)
      | .new l s1 => PostI X.K W σ k R θ H (.ok [.lst l] s1)
      | .exn c s1 => ∀ θ' H', Ext θ H θ' H' → RelS X.K θ' H' s1 → W (cV X.K c) none σ H'
      | .bad => False := by
  obtain ⟨θ, s, ρ, R1, V, h⟩ := h
  refine ⟨θ, s, ρ, R1, V, ?_⟩
  unfold evalEs evalEs at h
  cases hr : evalE C ia ρ s with
  | ok d s1 => rw [hr] at h; exact h
  | new l s1 => rw [hr] at h; exact h
  | exn c s1 => rw [hr] at h; exact h
  | bad => rw [hr] at h; exact h
theorem i_list {ia : E} {σ : L2.St} {H : Hp} {R : It → Hp → Prop} {θ : Th} {s s1 : Sto} {ρ : Env} {l : List D} (R1 : RelS X.K θ H s) (V : EnvR θ H ρ σ) (e : evalE C ia ρ s = .ok (.lst l) s1 ∨ evalE C ia ρ s = .new l s1)
    (h : ∀ θ' H' J, Ext θ H θ' H' → RelS X.K θ' H' s1 → Walk X.K θ' H' J l none → R J H') : iList X.K (tE X.K W C ia) σ H R := by
  refine ⟨θ, s, ρ, R1, V, ?_⟩
  rcases e with e | e
  · rw [e]
    intro θ' H' v x R' r
    obtain ⟨a, rfl, ⟨vs, hv⟩, st⟩ := list_stays r rfl
    exact ⟨a, rfl, ⟨vs, .inl hv⟩, h θ' H' _ x R' (walk_list (vs := vs) fun θ2 H2 s2 x2 _ _ => st θ2 H2 x2)⟩
  · rw [e]
    intro θ' H' a vs x R' hn na ha rs
    refine ⟨a, rfl, ⟨vs, .inl (.inl ha)⟩, h θ' H' _ x R'.out (walk_list (vs := vs) fun θ2 H2 s2 x2 _ _ => ⟨vs, (x2.rd (.inl ha) na).1, rs.out.ext0 x2⟩)⟩
theorem p_seq {e : Expr} {ia : E} (he : PE X e (tE X.K W C ia)) : PI X tg e (wI X.K W C .seq [ia]) := by
  refine ⟨fun pins s σ H R I h => ?_⟩
  obtain ⟨θ, st, ρ, R1, V, h⟩ := one_of h
  cases hr : evalE C ia ρ st with
  | bad => rw [hr] at h; exact h.elim
  | exn c s1 =>
    rw [hr] at h
    exact (pi_list he).run pins s σ H R I ⟨θ, st, ρ, R1, V, by rw [hr]; exact h⟩
  | new l s1 =>
    rw [hr] at h
    exact (pi_list he).run pins s σ H R I (i_list R1 V (.inr hr) fun θ' H' J x R' w => h θ' H' J x R' trivial w)
  | ok d s1 =>
    rw [hr] at h
    cases d with
    | lst l => exact (pi_list he).run pins s σ H R I (i_list R1 V (.inl hr) fun θ' H' J x R' w => h θ' H' J x R' trivial w)
    | tup l =>
      refine (pi_tup he).run pins s σ H R I ⟨θ, st, ρ, R1, V, ?_⟩
      rw [hr]
      intro θ' H' v x R' r
      obtain ⟨a, rfl, ⟨vs, hv⟩, st⟩ := tup_stays r rfl
      exact ⟨a, rfl, ⟨vs, .inl hv⟩, h θ' H' _ x R' trivial (walk_tup st)⟩
    | str z =>
      refine (pi_str he).run pins s σ H R I ⟨θ, st, ρ, R1, V, ?_⟩
      rw [hr]
      intro θ' H' v x R' r
      cases r
      exact ⟨_, rfl, h θ' H' _ x R' trivial (walk_str z)⟩
    | ref n =>
      refine (pi_list he).run pins s σ H R I ⟨θ, st, ρ, R1, V, ?_⟩
      rw [hr]
      intro θ' H' v x R' r
      have h' : PostI X.K W σ .seq R θ H (.ok [.ref n] s1) := h
      unfold PostI at h'
      dsimp only at h'
      cases hc : s1[n]? with
      | none => simp [items, seqI, hc] at h'
      | some c =>
        cases c with
        | lst l =>
          have ei : items .seq [.ref n] s1 = some (l, some (n, l)) := by simp [items, seqI, hc]
          rw [ei] at h'
          obtain ⟨a, rfl, ⟨vs, hv⟩, st⟩ := cell_stays R' r hc
          exact ⟨a, rfl, ⟨vs, .inl hv⟩, h' θ' H' _ x R' hc (walk_list (vs := vs) st)⟩
        | ins _ _ => simp [items, seqI, hc] at h'
        | dct _ => simp [items, seqI, hc] at h'
        | tpc _ => simp [items, seqI, hc] at h'
    | _ => exact False.elim h
/-- by the values of the arguments -/
theorem PostI.ok {σ : L2.St} {k : ItK} {R : It → Hp → Prop} {θ : Th} {H : Hp} {l : List D} {s : Sto} (h : PostI X.K W σ k R θ H (.ok l s)) : ∃ ds g, items k l s = some (ds, g) ∧ ∀ θ' H' J, Ext θ H θ' H' → RelS X.K θ' H' s → g.ok s → Walk X.K θ' H' J ds g → R J H' := by
  unfold PostI at h
  dsimp only at h
  cases hi : items k l s with
  | none => rw [hi] at h; exact h.elim
  | some q => rw [hi] at h; exact ⟨q.1, q.2, rfl, h⟩
theorem p_range1 {a : Expr} {ia : E} {p pos : Pos} (hg : Gl X "range") (hm : X.mg "range" = none) (ha : PA X [a] (tEs X.K W C [ia])) (hs : starEach [a] X.env = [(false, eval a X.env)]) : PI X tg (.Call (.Name "range" p) [a] [] pos) (wI X.K W C .range1 [ia]) :=
  PI.imp (pi_range1 hg hm ha hs) fun σ H R ⟨θ, s, ρ, R1, V, h⟩ => by
    refine ⟨θ, s, ρ, R1, V, ?_⟩
    cases hr : evalEs C [ia] ρ s with
    | bad => rw [hr] at h; exact h.elim
    | exn c s1 => rw [hr] at h; exact h
    | ok l s1 =>
      rw [hr] at h
      obtain ⟨ds, g, hi, h⟩ := PostI.ok h
      intro θ' H' vs x R' rs
      match l, rs, hi with
      | [], _, hi => cases hi
      | _ :: _ :: _, _, hi => cases hi
      | [d], rs, hi =>
        obtain ⟨v, rfl, r⟩ := rs.one
        have hi : rng1I d = some (ds, g) := hi
        cases r with
        | int j =>
          simp only [rng1I] at hi
          split at hi
          · rename_i hj
            cases hi
            have h1 := hj.1
            have h2 := hj.2
            refine ⟨j, rfl, by omega, by omega, ?_⟩
            have e : j.toNat = (j - 0).toNat := by rw [Int.sub_zero]
            rw [e]
            exact h θ' H' _ x R' trivial (walk_range 0 j)
          · cases hi
        | _ => cases hi
theorem p_range2 {a b : Expr} {ia ib : E} {p pos : Pos} (hg : Gl X "range") (hm : X.mg "range" = none) (ha : PA X [a, b] (tEs X.K W C [ia, ib])) (hs : starEach [a, b] X.env = [(false, eval a X.env), (false, eval b X.env)]) (hs2 : starEach [b] X.env = [(false, eval b X.env)]) :
    PI X tg (.Call (.Name "range" p) [a, b] [] pos) (wI X.K W C .range2 [ia, ib]) :=
  PI.imp (pi_range2 hg hm ha hs hs2) fun σ H R ⟨θ, s, ρ, R1, V, h⟩ => by
    refine ⟨θ, s, ρ, R1, V, ?_⟩
    cases hr : evalEs C [ia, ib] ρ s with
    | bad => rw [hr] at h; exact h.elim
    | exn c s1 => rw [hr] at h; exact h
    | ok l s1 =>
      rw [hr] at h
      obtain ⟨ds, g, hi, h⟩ := PostI.ok h
      intro θ' H' vs x R' rs
      match l, rs, hi with
      | [], _, hi => cases hi
      | [_], _, hi => cases hi
      | _ :: _ :: _ :: _, _, hi => cases hi
      | [d, e], rs, hi =>
        obtain ⟨v, w, rfl, r1, r2⟩ := rs.two
        have hi : rng2I d e = some (ds, g) := hi
        cases r1 with
        | int i =>
          cases r2 with
          | int j =>
            simp only [rng2I] at hi
            split at hi
            · rename_i hj
              cases hi
              have h1 := hj.1.1
              have h2 := hj.1.2
              have h3 := hj.2.1
              have h4 := hj.2.2
              exact ⟨i, j, rfl, ⟨by omega, by omega, by omega, by omega⟩, h θ' H' _ x R' trivial (walk_range i j)⟩
            · cases hi
          | _ => cases hi
        | _ => cases hi
theorem p_zip {a b : Expr} {ia ib : E} {p pos tpos : Pos} {elts : List Expr} {kk : Nat} (hg : Gl X "zip") (hm : X.mg "zip" = none) (ha : PA X [a, b] (tEs X.K W C [ia, ib])) (hs : starEach [a, b] X.env = (false, eval a X.env) :: starEach [b] X.env)
    (hpl : (backTo pos (starEach [b] X.env)).any (·.1) = false) : PI X (.Tuple elts kk tpos) (.Call (.Name "zip" p) [a, b] [] pos) (wI X.K W C .zip [ia, ib]) :=
  PI.imp (RZ.pi_zipA hg hm ha hs hpl) fun σ H R ⟨θ, s, ρ, R1, V, h⟩ => by
    refine ⟨θ, s, ρ, R1, V, ?_⟩
    cases hr : evalEs C [ia, ib] ρ s with
    | bad => rw [hr] at h; exact h.elim
    | exn c s1 => rw [hr] at h; exact h
    | ok l s1 =>
      rw [hr] at h
      obtain ⟨ds, g, hi, h⟩ := PostI.ok h
      intro θ' H' vs x R' rs
      match l, rs, hi with
      | [], _, hi => cases hi
      | [_], _, hi => cases hi
      | _ :: _ :: _ :: _, _, hi => cases hi
      | [d, e], rs, hi =>
        obtain ⟨v, w, rfl, r1, r2⟩ := rs.two
        have hi : zipI d e = some (ds, g) := hi
        have two : (∃ l m, d = .tup l ∧ e = .tup m ∧ ds = zipD l m ∧ g = none) ∨ (∃ l m, d = .lst l ∧ e = .lst m ∧ ds = zipD l m ∧ g = none) := by
          cases d <;> cases e <;> first | cases hi | skip
          · exact .inl ⟨_, _, rfl, rfl, rfl, rfl⟩
          · exact .inr ⟨_, _, rfl, rfl, rfl, rfl⟩
        rcases two with ⟨l, m, rfl, rfl, rfl, rfl⟩ | ⟨l, m, rfl, rfl, rfl, rfl⟩
        · obtain ⟨a1, rfl, ⟨vs1, hv1⟩, st1⟩ := tup_stays r1 rfl
          obtain ⟨a2, rfl, ⟨vs2, hv2⟩, st2⟩ := tup_stays r2 rfl
          refine ⟨a1, a2, vs1, vs2, rfl, .inr ⟨.inl hv1, .inl hv2, h θ' H' _ x R' trivial (walk_zipT fun θ2 H2 x2 => ?_)⟩⟩
          obtain ⟨u1, p1, q1⟩ := st1 θ2 H2 x2
          obtain ⟨u2, p2, q2⟩ := st2 θ2 H2 x2
          exact ⟨u1, u2, p1, p2, q1, q2⟩
        · obtain ⟨a1, rfl, ⟨vs1, hv1⟩, st1⟩ := list_stays r1 rfl
          obtain ⟨a2, rfl, ⟨vs2, hv2⟩, st2⟩ := list_stays r2 rfl
          refine ⟨a1, a2, vs1, vs2, rfl, .inl ⟨.inl hv1, .inl hv2, h θ' H' _ x R' trivial (walk_zip fun θ2 H2 x2 => ?_)⟩⟩
          obtain ⟨u1, p1, q1⟩ := st1 θ2 H2 x2
          obtain ⟨u2, p2, q2⟩ := st2 θ2 H2 x2
          exact ⟨u1, u2, p1, p2, q1, q2⟩
end
end KL

set_option Elab.async false
set_option linter.all false
set_option maxRecDepth 100000
set_option maxHeartbeats 4000000
set_option autoImplicit false
/-! KLEnum: enumerate over a tuple. -/
namespace PySem
open Sem (wp)
open AutoSeq1 (wpAny_loadPart')
theorem kl_meets_enumT (l : Addr) (items : Array Value) (n : Nat) (dct : Option Addr) (sl : Array (Option Value)) :
    Meets (Builtin.«enumerate.__new__» ⟨[.type "enumerate", .ref l], []⟩) (fun _ R s => s.heap.get? l = some { cls := .type "tuple", dict := dct, data := .seq items n, slots := sl } ∧
      R (.ok (.ret (.ref (s.heap.push { cls := .type "tuple_iterator", data := .fields #[.ref l, .int 0 0] }).objs.size)))
        { s with heap := (s.heap.push { cls := .type "tuple_iterator", data := .fields #[.ref l, .int 0 0] }).push { cls := .type "enumerate", data := .fields #[.none, .bool false, .ref s.heap.objs.size, rawInt 0, .none, .none] } }) :=
  .of_wp fun prog w A R s h => by
    obtain ⟨hp, g, d, tk, os⟩ := s; obtain ⟨hl, h⟩ := h
    have hsub := sub_enumerate
    have hL : Heap.IsTuple (Shared.heap ⟨hp, g, d, tk, os⟩) l items := ⟨_, hl, rfl, n, rfl⟩
    wp_walk using wpAny_loadPart' hl
    refine wpAny_stack_any fun st => wpAny_pure ?_
    split
    · rename_i c _ _ _ _ _
      cases (c == Value.type "enumerate")
      · wp_walk using wpAny_loadPart' hl, wpAny_pyIter_tuple hL
        exact ⟨_, rfl, h⟩
      · wp_walk using wpAny_loadPart' hl, wpAny_pyIter_tuple hL
        exact ⟨_, rfl, h⟩
    · wp_walk using wpAny_loadPart' hl, wpAny_pyIter_tuple hL
      exact ⟨_, rfl, h⟩
section
variable {prog : Program} {w : World} {A : Around} {E : Value → Shared → Prop} {s : Shared}
theorem kl_call_enumT {l : Addr} {items : Array Value} {Q : Value → Shared → Prop} (hL : s.heap.IsTuple l items)
    (h : ∀ h', IsEnum h' (s.heap.objs.size + 1) s.heap.objs.size 0 .none → h'.IsTupleIter s.heap.objs.size l 0 → h'.objs.size = s.heap.objs.size + 2 →
      (∀ b o, s.heap.get? b = some o → h'.get? b = some o) → Q (.ref (s.heap.objs.size + 1)) { s with heap := h' }) :
    wpAny (model prog w) A (call (.type "enumerate") [.ref l]) Q E s := by
  obtain ⟨⟨c, dct, dt, sl⟩, hl, hc, n, hd⟩ := hL
  replace hc : c = .type "tuple" := hc
  replace hd : dt = .seq items n := hd
  subst hc hd
  refine callType_new F.called_enumerate (by decide) (F.typeCall_enumerate_1 _) (F.newCall_enumerate_1 _) (fun obj => F.args_object_init_2 obj _) F.entry_enumerate_new
    (kl_meets_enumT l items n dct sl) ⟨hl, ?_⟩
  have hz : (s.heap.push { cls := .type "tuple_iterator", data := .fields #[.ref l, .int 0 0] }).objs.size = s.heap.objs.size + 1 := Heap.size_push ..
  show _ ∧ _
  rw [hz]
  have he : IsEnum ((s.heap.push { cls := .type "tuple_iterator", data := .fields #[.ref l, .int 0 0] }).push
      { cls := .type "enumerate", data := .fields #[.none, .bool false, .ref s.heap.objs.size, rawInt 0, .none, .none] }) (s.heap.objs.size + 1) s.heap.objs.size 0 .none := by
    have := Heap.get?_push_size (s.heap.push { cls := .type "tuple_iterator", data := .fields #[.ref l, .int 0 0] })
      (o := { cls := .type "enumerate", data := .fields #[.none, .bool false, .ref s.heap.objs.size, rawInt 0, .none, .none] }) rfl
    rw [hz] at this; exact this
  refine ⟨⟨_, he, rfl⟩, h _ he ⟨_, Heap.get?_push_of_some _ (Heap.get?_push_size _ rfl), rfl, rfl⟩ (by rw [Heap.size_push, hz]) fun b o x => Heap.get?_push_of_some _ (Heap.get?_push_of_some _ x)⟩
theorem kl_enum_endT {e it l : Addr} {i : Nat} {items : Array Value} {old : Value} {Q : Option Value → Shared → Prop} (hh : A.handled = none)
    (he : IsEnum s.heap e it i old) (hit : s.heap.IsTupleIter it l i) (hl : s.heap.IsTuple l items) (hx : items[i]? = none)
    (hQ : ∀ h', Heap.ExtBut it s.heap h' → Q none { s with heap := h' }) : wpAny (model prog w) A (pyNext (.ref e)) Q E s := by
  have hT : s.TypeIs (.ref e) "enumerate" := ⟨_, he, rfl⟩
  unfold pyNext
  refine wpAny_bind (wpAny_attempt (wpAny_callSpecial?_slot (name := Str.ofString "__next__") hT F.slot_enumerate_next
    (wpAny_call_entry F.slot_enumerate_next hT F.entry_enumerate_next ?_ (F.args_enumerate_next_1 _))))
  show wpAny _ _ (field (.ref e) 2 >>= _) _ _ _
  refine wpAny_bind (wpAny_field he rfl (x := .ref it) rfl ?_)
  refine wpAny_bind (wpAny_nextOf_tuple_end hh hit hl hx fun h' x he' hx' => ?_)
  obtain ⟨o, ho, hc⟩ := hx'
  refine wpAny_bind (wpAny_isInstance (T := "StopIteration") (b := true) ⟨o, ho, hc⟩ isSubtype_stop ?_)
  exact wpAny_pure (hQ _ he')
end
end PySem
namespace KL
open PySem PySem.Spec PyProof.Rows L2
/-- the tuple at a, each item in a new pair -/
def IteT (K : PySem.W.Frag) (a : Addr) : It :=
  ⟨fun i H => ∃ (xs : List V) (x : V), SqT K H a xs ∧ xs[i]? = some x, fun i H v H' => ∃ T x, v = .ref T ∧ H T = none ∧ H' = upd H T (.tup [.int (i : Nat), x]) ∧ ∀ xs, SqT K H a xs → xs[i]? = some x, fun i H => ∃ xs : List V, SqT K H a xs ∧ xs.length ≤ i⟩
theorem turn_enumT {P : Program} {w : World} {K : PySem.W.Frag} {elts : List Expr} {kk : Nat} {tpos : Pos} (a e it : Addr) :
    Turn P w K (.Tuple elts kk tpos) (IteT K a) [e, it] e (fun i h => (∃ old, IsEnum h e it ((i : Nat) : Int) old) ∧ h.IsTupleIter it a i ∧ e ≠ it ∧ a ≠ it ∧ e ≠ a) where
  mem := by simp
  obj := fun i h st b hb => by
    obtain ⟨⟨old, he⟩, ⟨o, ho, hc, hd⟩, _⟩ := st
    have e' : b = e ∨ b = it := by simpa using hb
    rcases e' with z | z
    · rw [z]; exact ⟨_, he, fun v q => nomatch q⟩
    · rw [z]; exact ⟨o, ho, fun v q => by rw [hd] at q; cases q⟩
  keep := fun i h h' st k => let ⟨⟨old, he⟩, hi, hne⟩ := st; ⟨⟨old, k e (by simp) _ he⟩, hi.at fun o q => k it (by simp) o q, hne⟩
  item := by
    intro X hP hw hK hc i pins s σ H E I hf st hg
    subst hP hw hK
    obtain ⟨⟨old, he⟩, hit, hne, hai, hea⟩ := st
    obtain ⟨xs, x, hq, hx⟩ := hg
    obtain ⟨its, rv, p, hz⟩ := I.tuple hq
    obtain ⟨u, hu, ru⟩ := rv.get hx
    have hel : e < s.heap.objs.size := Heap.lt_size he
    have hil : it < s.heap.objs.size := by obtain ⟨_, q, _⟩ := hit; exact Heap.lt_size q
    have hlt : i < its.toArray.size := by
      have := (List.getElem?_eq_some_iff.mp hu).1
      simpa using this
    refine wpAny_pyNext_enum_itemD (Draws.tuple (A := X.A.in1) (I.ok.hd hc) it a hai its.toArray) he ⟨hit, p⟩ hlt hne (by simp [hne, hea]) fun y h' tk hy ho hst' hT hsz hk => ?_
    have ey : y = u := by
      have : its[i]? = some y := by simpa using hy
      exact (Option.some.inj (hu.symm.trans this)).symm
    subst ey
    refine ⟨_, rfl, wpAny_letOwnedTupleGo_enum (s := { s with heap := h', toks := tk + 1 }) ho fun h'' he' sb => ?_⟩
    have hT2 : h''.get? s.heap.objs.size = some { cls := .type "tuple", data := .seq #[.int i tk, y] } := (sb.2 _ (Nat.ne_of_gt hel)).trans hT
    have new : ObjOk X.prog X.w (upd H s.heap.objs.size (.tup [.int (i : Nat), x])) h'' s.heap.objs.size (.tup [.int (i : Nat), x]) :=
      ⟨by show 2 ≤ sizeLine; decide, [.int i tk, y], .cons ⟨_, rfl⟩ (.cons ru .nil), ⟨_, hT2, rfl, _, rfl⟩⟩
    have I1 : Inv X pins σ (upd H s.heap.objs.size (.tup [.int (i : Nat), x])) { s with heap := h'', toks := tk + 1 } :=
      I.turnedNew (ch := [e, it]) (fun b ob hb q => (sb.2 b (fun z => hb (by simp [z]))).trans (hk b ob (fun z => hb (by simp [z])) (fun z => hb (by simp [z])) q)) hf (Nat.le_refl _) new
    refine ⟨.ref s.heap.objs.size, _, I1, rfl, ⟨_, x, rfl, I.hok.fresh (Nat.le_refl _), rfl, fun ys hy => by rw [I.tuple_inj hy hq]; exact hx⟩, ⟨⟨y, ?_⟩, hst'.1.at fun o q => (sb.2 it (Ne.symm hne)).trans q, hne, hai, hea⟩, fun b hb => ?_⟩
    · have e1 : ((i + 1 : Nat) : Int) = (i : Int) + 1 := by omega
      rw [e1]; exact he'
    · have hb' : b < s.heap.objs.size := by
        have e' : b = e ∨ b = it := by simpa using hb
        rcases e' with z | z
        · rw [z]; exact hel
        · rw [z]; exact hil
      rw [upd_ne (Nat.ne_of_lt hb')]
      exact (hf b hb).1
  done := by
    intro X hP hw hK hc i pins s σ H E I hf st hg
    subst hP hw hK
    obtain ⟨⟨old, he⟩, hit, hne, hai, hea⟩ := st
    obtain ⟨xs, hq, hx⟩ := hg
    obtain ⟨its, rv, p, hz⟩ := I.tuple hq
    obtain ⟨f0, f1, f2, f3, f4, f5⟩ := hf it (by simp)
    have hl := rv.length
    exact kl_enum_endT (I.ok.hd hc) he hit p (by simp; omega) fun h' eb => ⟨rfl, I.turned (t' := s.toks) (fun b o hb q => eb b o hb q) f0 f1 f3 f4 f5⟩
  self := fun A i s Q E st h => let ⟨⟨_, he⟩, _⟩ := st; wpAny_pyIter_enum he h
def iEnumT (K : PySem.W.Frag) (ta : TA) : TI := fun σ H R => ta σ H fun vs H1 => ∃ a xs, vs = [.ref a] ∧ SqT K H1 a xs ∧ R (IteT K a) H1
theorem pi_enumT {X : Cx} {e : Expr} {ta : TA} {p pos tpos : Pos} {elts : List Expr} {kk : Nat} (hg : Gl X "enumerate") (hm : X.mg "enumerate" = none) (ha : PA X [e] ta) (hs : starEach [e] X.env = [(false, eval e X.env)]) :
    PI X (.Tuple elts kk tpos) (.Call (.Name "enumerate" p) [e] [] pos) (iEnumT X.K ta) := by
  refine ⟨fun pins s σ H R I h => ?_⟩
  refine Call_ (ld_blt I hg hm boot_enumerate (PyProof.Rows.callWith_type1 (thn (ha.run pos pins s σ H _ I h) fun us s1 ⟨vs, H1, I1, r1, q1⟩ => ?_) hs rfl))
  obtain ⟨a, xs, ex, hq, q⟩ := q1
  subst ex
  cases r1 with
  | cons r rr =>
    cases rr
    cases r
    obtain ⟨its, rv, p', hz⟩ := I1.tuple hq
    have hlt : a < s1.heap.objs.size := by obtain ⟨o, ho, _⟩ := p'; exact Heap.lt_size ho
    refine kl_call_enumT p' fun h' he hit hsz hk => wpAny_pyIter_enum he ?_
    have I2 : Inv X pins σ H1 { s1 with heap := h' } := I1.kept (t' := s1.toks) hk
    refine ⟨s1.heap.objs.size + 1, [s1.heap.objs.size + 1, s1.heap.objs.size], _, _, H1, rfl, I2, turn_enumT a (s1.heap.objs.size + 1) s1.heap.objs.size, ⟨⟨.none, he⟩, hit, Nat.succ_ne_self _, Nat.ne_of_lt hlt, Nat.ne_of_gt (Nat.lt_succ_of_lt hlt)⟩, fun b hb => ?_, q⟩
    have e' : b = s1.heap.objs.size + 1 ∨ b = s1.heap.objs.size := by simpa using hb
    have hle : s1.heap.objs.size ≤ b := by
      rcases e' with z | z
      · rw [z]; exact Nat.le_add_right _ _
      · rw [z]; exact Nat.le_refl _
    exact I1.fpOk hle (I1.hok.fresh hle)
section
variable {K : PySem.W.Frag} {θ0 : Th} {H0 : Hp}
theorem walk_enumT {a : Addr} {l : List D} (h : ∀ θ H, Ext0 θ0 H0 θ H → ∃ vs, Rd H a (.tup vs) ∧ Reps θ H l vs) : Walk K θ0 H0 (IteT K a) (enumD 0 l) none where
  go := fun i θ H s d x R q e => by
    rw [enum_get] at e
    cases hl : l[i]? with
    | none => rw [hl] at e; cases e
    | some c =>
      obtain ⟨vs, r1, r2⟩ := h θ H x
      obtain ⟨v, e1, _⟩ := r2.get hl
      exact ⟨vs, v, .inl r1, e1⟩
  yld := fun i θ H s d x H' xx R q e y => by
    rw [enum_get] at e
    cases hl : l[i]? with
    | none => rw [hl] at e; cases e
    | some c =>
      rw [hl] at e
      cases e
      obtain ⟨T, x, rfl, hT, rfl, y⟩ := y
      obtain ⟨vs, r1, r2⟩ := h θ H xx
      obtain ⟨v, e1, rv⟩ := r2.get hl
      rw [get_inj (y vs (.inl r1)) e1]
      rw [Nat.zero_add]
      exact rep_pair R hT (.int _) rv
  stop := fun i θ H s x R q e => by
    obtain ⟨vs, r1, r2⟩ := h θ H x
    exact ⟨vs, .inl r1, by rw [← r2.length, ← enum_len l 0]; exact e⟩
end
section
variable {X : Cx} {W : WX} {C : Ctx}
theorem p_enum {a : Expr} {ia : E} {p pos tpos : Pos} {elts : List Expr} {kk : Nat} (hg : Gl X "enumerate") (hm : X.mg "enumerate" = none) (ha : PA X [a] (tEs X.K W C [ia])) (hs : starEach [a] X.env = [(false, eval a X.env)]) :
    PI X (.Tuple elts kk tpos) (.Call (.Name "enumerate" p) [a] [] pos) (wI X.K W C .enum [ia]) := by
  refine ⟨fun pins s σ H R I h => ?_⟩
  obtain ⟨θ, st, ρ, R1, V, h⟩ := h
  cases hr : evalEs C [ia] ρ st with
  | bad => rw [hr] at h; exact h.elim
  | exn c s1 =>
    rw [hr] at h
    exact (pi_enum hg hm ha hs).run pins s σ H R I ⟨θ, st, ρ, R1, V, by rw [hr]; exact h⟩
  | ok l s1 =>
    rw [hr] at h
    obtain ⟨ds, g, hi, h⟩ := PostI.ok h
    match l, hi, hr with
    | [], hi, _ => cases hi
    | _ :: _ :: _, hi, _ => cases hi
    | [d], hi, hr =>
      have hi : enumI d s1 = some (ds, g) := hi
      cases d with
      | tup l =>
        cases hi
        refine (pi_enumT hg hm ha hs).run pins s σ H R I ⟨θ, st, ρ, R1, V, ?_⟩
        rw [hr]
        intro θ' H' vs x R' rs
        obtain ⟨v, rfl, r⟩ := rs.one
        obtain ⟨a, rfl, ⟨us, hv⟩, sty⟩ := tup_stays r rfl
        exact ⟨a, us, rfl, .inl hv, h θ' H' _ x R' trivial (walk_enumT sty)⟩
      | lst l =>
        cases hi
        refine (pi_enum hg hm ha hs).run pins s σ H R I ⟨θ, st, ρ, R1, V, ?_⟩
        rw [hr]
        intro θ' H' vs x R' rs
        obtain ⟨v, rfl, r⟩ := rs.one
        obtain ⟨a, rfl, ⟨us, hv⟩, sty⟩ := list_stays r rfl
        exact ⟨a, us, rfl, .inl hv, h θ' H' _ x R' trivial (walk_enum fun θ2 H2 s2 x2 _ _ => sty θ2 H2 x2)⟩
      | ref n =>
        cases hc : s1[n]? with
        | none => simp [enumI, hc] at hi
        | some c =>
          cases c with
          | ins _ _ => simp [enumI, hc] at hi
          | dct _ => simp [enumI, hc] at hi
          | tpc _ => simp [enumI, hc] at hi
          | lst l =>
            simp [enumI, hc] at hi
            obtain ⟨rfl, rfl⟩ := hi
            refine (pi_enum hg hm ha hs).run pins s σ H R I ⟨θ, st, ρ, R1, V, ?_⟩
            rw [hr]
            intro θ' H' vs x R' rs
            obtain ⟨v, rfl, r⟩ := rs.one
            obtain ⟨a, rfl, ⟨us, hv⟩, sty⟩ := cell_stays R' r hc
            exact ⟨a, us, rfl, .inl hv, h θ' H' _ x R' hc (walk_enum sty)⟩
      | _ => cases hi
end
end KL

set_option Elab.async false
set_option linter.all false
set_option maxRecDepth 100000
set_option maxHeartbeats 4000000
set_option autoImplicit false
/-! KLComp: comprehensions. -/
namespace KL
open PySem PySem.Spec PyProof.Rows L2

/-- a target takes a value -/
def tG (K : PySem.W.Frag) (tg : List Nat) : TG := fun v σ H Q => ∃ θ s ρ d ρ', RelS K θ H s ∧ EnvR θ H ρ σ ∧ Rep θ H d v ∧ bindT tg d ρ = some ρ' ∧ ∀ σ', EnvR θ H ρ' σ' → (∀ vs : List Nat, (∀ i ∈ tg, i ∈ vs) → L2.wipe σ' vs = L2.wipe σ vs) → Q σ' H
theorem wipe_set {σ : L2.St} {i : Nat} {x : Option V} : ∀ {vs : List Nat}, i ∈ vs → L2.wipe (σ.set i x) vs = L2.wipe σ vs := by
  have key : ∀ (vs : List Nat) (σ : L2.St), L2.wipe σ vs = vs.foldr (fun v τ => τ.set v none) σ := by
    intro vs σ
    induction vs with
    | nil => rfl
    | cons v vs ih => show (L2.wipe σ vs).set v none = _; rw [ih]; rfl
  have ext : ∀ (vs : List Nat) (σ : L2.St) (j : Nat), (L2.wipe σ vs)[j]? = if j ∈ vs then (if j < σ.length then some none else none) else σ[j]? := by
    intro vs σ
    induction vs with
    | nil => intro j; simp [L2.wipe]
    | cons v vs ih =>
      intro j
      show ((L2.wipe σ vs).set v none)[j]? = _
      by_cases h : v = j
      · subst h
        rw [if_pos List.mem_cons_self]
        by_cases hl : v < σ.length
        · rw [if_pos hl, List.getElem?_set_self (by rw [L2.wipe_length]; exact hl)]
        · rw [if_neg hl, List.getElem?_eq_none (by rw [List.length_set, L2.wipe_length]; omega)]
      · rw [List.getElem?_set_ne h, ih]
        have e : (j ∈ v :: vs) ↔ j ∈ vs := by
          constructor
          · intro q
            rcases List.mem_cons.mp q with q | q
            · exact absurd q.symm h
            · exact q
          · exact List.mem_cons_of_mem _
        by_cases q : j ∈ vs
        · rw [if_pos q, if_pos (e.mpr q)]
        · rw [if_neg q, if_neg fun z => q (e.mp z)]
  intro vs hi
  apply List.ext_getElem?
  intro j
  rw [ext, ext, List.length_set]
  by_cases h : j ∈ vs
  · rw [if_pos h, if_pos h]
  · rw [if_neg h, if_neg h]
    exact List.getElem?_set_ne fun e => h (by rw [← e]; exact hi)

section
variable {X : Cx} {W : WX} {C : Ctx}
theorem PG.imp {e : Expr} {t t' : TG} (h : PG X e t) (i : ∀ v σ H Q, t' v σ H Q → t v σ H Q) : PG X e t' := ⟨fun pins s σ H v u Q I r q => h.run pins s σ H v u Q I r (i v σ H Q q)⟩
theorem Reps.three {θ : Th} {H : Hp} {d e f : D} {vs : List V} (h : Reps θ H [d, e, f] vs) : ∃ v w u, vs = [v, w, u] ∧ Rep θ H d v ∧ Rep θ H e w ∧ Rep θ H f u := by
  cases h with
  | cons r t =>
    obtain ⟨w, u, rfl, q, p⟩ := t.two
    exact ⟨_, w, u, rfl, r, q, p⟩
theorem g_name {i : Nat} {x : Str} {pos : Pos} (h : PG X (.Name x pos) (gName i)) : PG X (.Name x pos) (tG X.K [i]) := PG.imp h fun v σ H Q ⟨θ, s, ρ, d, ρ', R, V, r, e, q⟩ => by
  have e' : ρ' = ρ.set i (some d) := (Option.some.inj e).symm
  subst e'
  exact q _ (V.set r i) fun vs h => wipe_set (h i List.mem_cons_self)
theorem g_tup2 {i j : Nat} {x y : Str} {p1 p2 pos : Pos} {k : Nat} (hc : X.calm = true) (h1 : PG X (.Name x p1) (gName i)) (h2 : PG X (.Name y p2) (gName j)) : PG X (.Tuple [.Name x p1, .Name y p2] k pos) (tG X.K [i, j]) :=
  PG.imp (pg_tup hc (pgs_cons h1 (pgs_cons h2 pgs_nil))) fun v σ H Q ⟨θ, s, ρ, d, ρ', R, V, r, e, q⟩ => by
    cases r with
    | @tup a ds vs h n rs =>
      match ds, rs, e with
      | [d1, d2], rs, e =>
        obtain ⟨v, w, rfl, r1, r2⟩ := rs.two
        have e' : ρ' = (ρ.set i (some d1)).set j (some d2) := (Option.some.inj e).symm
        subst e'
        refine ⟨_, _, rfl, .inl h, rfl, v, [w], rfl, w, [], rfl, rfl, ?_⟩
        refine q _ ((V.set r1 i).set r2 j) fun vs h => ?_
        rw [wipe_set (h j (by simp)), wipe_set (h i (by simp))]
      | [], _, e => cases e
      | [_], _, e => cases e
      | _ :: _ :: _ :: _, _, e => cases e
    | _ => cases e
theorem g_tup3 {i j l : Nat} {x y z : Str} {p1 p2 p3 pos : Pos} {k : Nat} (hc : X.calm = true) (h1 : PG X (.Name x p1) (gName i)) (h2 : PG X (.Name y p2) (gName j)) (h3 : PG X (.Name z p3) (gName l)) : PG X (.Tuple [.Name x p1, .Name y p2, .Name z p3] k pos) (tG X.K [i, j, l]) :=
  PG.imp (pg_tup hc (pgs_cons h1 (pgs_cons h2 (pgs_cons h3 pgs_nil)))) fun v σ H Q ⟨θ, s, ρ, d, ρ', R, V, r, e, q⟩ => by
    cases r with
    | @tup a ds vs h n rs =>
      match ds, rs, e with
      | [d1, d2, d3], rs, e =>
        obtain ⟨v1, v2, v3, rfl, r1, r2, r3⟩ := rs.three
        have e' : ρ' = ((ρ.set i (some d1)).set j (some d2)).set l (some d3) := (Option.some.inj e).symm
        subst e'
        refine ⟨_, _, rfl, .inl h, rfl, v1, [v2, v3], rfl, v2, [v3], rfl, v3, [], rfl, rfl, ?_⟩
        refine q _ (((V.set r1 i).set r2 j).set r3 l) fun vs h => ?_
        rw [wipe_set (h l (by simp)), wipe_set (h j (by simp)), wipe_set (h i (by simp))]
      | [], _, e => cases e
      | [_], _, e => cases e
      | [_, _], _, e => cases e
      | _ :: _ :: _ :: _ :: _, _, e => cases e
    | _ => cases e

theorem Reps.four {θ : Th} {H : Hp} {d e f g : D} {vs : List V} (h : Reps θ H [d, e, f, g] vs) : ∃ v w u x, vs = [v, w, u, x] ∧ Rep θ H d v ∧ Rep θ H e w ∧ Rep θ H f u ∧ Rep θ H g x := by
  cases h with
  | cons r t =>
    obtain ⟨w, u, x, rfl, q, p, o⟩ := t.three
    exact ⟨_, w, u, x, rfl, r, q, p, o⟩
theorem g_tup4 {i j l m : Nat} {x y z w : Str} {p1 p2 p3 p4 pos : Pos} {k : Nat} (hc : X.calm = true) (h1 : PG X (.Name x p1) (gName i)) (h2 : PG X (.Name y p2) (gName j)) (h3 : PG X (.Name z p3) (gName l)) (h4 : PG X (.Name w p4) (gName m)) : PG X (.Tuple [.Name x p1, .Name y p2, .Name z p3, .Name w p4] k pos) (tG X.K [i, j, l, m]) :=
  PG.imp (pg_tup hc (pgs_cons h1 (pgs_cons h2 (pgs_cons h3 (pgs_cons h4 pgs_nil))))) fun v σ H Q ⟨θ, s, ρ, d, ρ', R, V, r, e, q⟩ => by
    cases r with
    | @tup a ds vs h n rs =>
      match ds, rs, e with
      | [d1, d2, d3, d4], rs, e =>
        obtain ⟨v1, v2, v3, v4, rfl, r1, r2, r3, r4⟩ := rs.four
        have e' : ρ' = (((ρ.set i (some d1)).set j (some d2)).set l (some d3)).set m (some d4) := (Option.some.inj e).symm
        subst e'
        refine ⟨_, _, rfl, .inl h, rfl, v1, [v2, v3, v4], rfl, v2, [v3, v4], rfl, v3, [v4], rfl, v4, [], rfl, rfl, ?_⟩
        refine q _ ((((V.set r1 i).set r2 j).set r3 l).set r4 m) fun vs h => ?_
        rw [wipe_set (h m (by simp)), wipe_set (h l (by simp)), wipe_set (h j (by simp)), wipe_set (h i (by simp))]
      | [], _, e => cases e
      | [_], _, e => cases e
      | [_, _], _, e => cases e
      | [_, _, _], _, e => cases e
      | _ :: _ :: _ :: _ :: _ :: _, _, e => cases e
    | _ => cases e

/-- the tests of a comprehension -/
def tTs (K : PySem.W.Frag) (W : WX) (C : Ctx) (cs : List E) : TT := fun σ H Q => ∃ θ s ρ, RelS K θ H s ∧ EnvR θ H ρ σ ∧ PostB K W σ Q θ H (evalTs C cs ρ s)
theorem PTs.imp {e : List Expr} {t t' : TT} (h : PTs X e t) (i : ∀ σ H Q, t' σ H Q → t σ H Q) : PTs X e t' := ⟨fun pins s σ H Q I q => h.run pins s σ H Q I (i σ H Q q)⟩
theorem ts_nil : PTs X [] (tTs X.K W C []) := PTs.imp pts_nil fun σ H Q ⟨θ, s, ρ, R, V, h⟩ => by
  unfold evalTs at h
  exact h θ H (Ext.refl _ _) R
theorem ts_one {c : Expr} {ic : E} (h : PT X c (tT X.K W C ic)) : PTs X [c] (tTs X.K W C [ic]) := PTs.imp (pts_one h) fun σ H Q ⟨θ, s, ρ, R, V, h⟩ => by
  refine ⟨θ, s, ρ, R, V, ?_⟩
  unfold evalTs evalTs at h
  unfold evalT
  have go : ∀ (d : D) (s : Sto), PostB X.K W σ Q θ H (match truth s d with
      | some true => .ok true s
      | some false => .ok false s
      | none => .bad) → PostB X.K W σ Q θ H (match truth s d with
      | some k => .ok k s
      | none => .bad) := fun d s h => by
    cases ht : truth s d with
    | none => rw [ht] at h; exact h
    | some k => rw [ht] at h; cases k <;> exact h
  cases hr : evalE C ic ρ s with
  | ok d s1 => rw [hr] at h; exact go d s1 h
  | new l s1 => rw [hr] at h; exact go _ s1 h
  | exn c s1 => rw [hr] at h; exact h
  | bad => rw [hr] at h; exact h

/-- what a comprehension's loop is to come to: the list at D is l ++ r -/
def PostC1 (K : PySem.W.Frag) (D : Addr) (l : List KL.D) (Q : Hp → Prop) (θ : Th) (H : Hp) : RL → Prop
  | .ok r s => ∀ θ' H' vs, Ext0 θ H θ' H' → θ'.b = θ.b → (∀ a ∈ θ.b, a ≠ D → H' a = H a) → RelS K θ' H' s → H' D = some (.lst vs) → Reps θ' H' (l ++ r) vs → Q H'
  | _ => False
theorem PostC1.up {K : PySem.W.Frag} {D : Addr} {l : List KL.D} {Q : Hp → Prop} {θ θ1 : Th} {H H1 : Hp} {r : RL} (h : PostC1 K D l Q θ H r) (x : Ext0 θ H θ1 H1) (eb : θ1.b = θ.b) (kb : ∀ a ∈ θ.b, a ≠ D → H1 a = H a) : PostC1 K D l Q θ1 H1 r := by
  cases r with
  | ok r s => exact fun θ' H' vs y e2 k2 => h θ' H' vs (x.trans y) (e2.trans eb) fun a m n => (k2 a (by rw [eb]; exact m) n).trans (kb a m n)
  | exn _ _ => exact h
  | bad => exact h
theorem bindT_len {tg : List Nat} {d : D} {ρ ρ' : Env} (h : bindT tg d ρ = some ρ') : ρ'.length = ρ.length := by
  unfold bindT at h
  split at h
  all_goals first
    | cases h
    | skip
  all_goals simp_all
  all_goals (subst h; simp)
theorem bind_rel {tg : List Nat} {d : D} {ρ ρ' : Env} {θ : Th} {H : Hp} {σ : L2.St} (h : bindT tg d ρ = some ρ') : True := trivial
/-- the loop: W by the turn, the measure and the heap -/
theorem comp_go {tg : List Nat} {cs : List E} {ir : E} {J : It} {ds : List KL.D} {g : Guard} {θ0 : Th} {H0 : Hp} {s0 : Sto} {ρ : Env} {σ : L2.St} {Dd : Addr} {Q : Hp → Prop} (hD : H0 Dd = none) (R0 : RelS X.K θ0 H0 s0) (V0 : EnvR θ0 H0 ρ σ)
    (wk : Walk X.K θ0 H0 J ds g) (hl : ds.length ≤ lim)
    (h : PostC1 X.K Dd [] Q (θ0.mk1 Dd) (upd H0 Dd (.lst [])) (compLoop (fun ρ s => evalTs C cs ρ s) (fun ρ s => evalE C ir ρ s) tg g (wipeE ρ tg) ds s0)) :
    ∃ Wv : Nat → Nat → Hp → Prop, (∃ m, Wv 0 m (upd H0 Dd (.lst []))) ∧ ∀ i m H, Wv i m H →
      (J.stop i H ∧ Q H) ∨ (J.go i H ∧ ∃ Nx : Hp → Prop, (∀ H', Nx H' → ∃ m', m' < m ∧ Wv (i + 1) m' H') ∧ ∀ x H', J.yld i H x H' → tG X.K tg x (L2.wipe σ tg) H' fun σ2 H2 => L2.wipe σ2 tg = L2.wipe σ tg ∧ tTs X.K W0 C cs σ2 H2 fun b H3 =>
        if b = true then tE X.K W0 C ir σ2 H3 fun y H4 => ∃ acc, H4 Dd = some (.lst acc) ∧ acc.length < sizeLine ∧ Nx (upd H4 Dd (.lst (acc ++ [y]))) else Nx H3) := by
  refine ⟨fun i m H => m = ds.length - i ∧ i ≤ ds.length ∧ ∃ θ s l vs, Ext0 θ0 H0 θ H ∧ θ.b = Dd :: θ0.b ∧ RelS X.K θ H s ∧ H Dd = some (.lst vs) ∧ Reps θ H l vs ∧ l.length ≤ i ∧
      PostC1 X.K Dd l Q θ H (compLoop (fun ρ s => evalTs C cs ρ s) (fun ρ s => evalE C ir ρ s) tg g (wipeE ρ tg) (ds.drop i) s), ⟨ds.length, by simp, Nat.zero_le _, θ0.mk1 Dd, s0, [], [], Ext0.into hD, rfl, R0.into hD, upd_same, .nil, Nat.le_refl _, h⟩, ?_⟩
  rintro i m H ⟨rfl, hi, θ, s, l, vs, x, eb, R, eD, rs, ll, h⟩
  have mD : Dd ∈ θ.b := by rw [eb]; exact List.mem_cons_self
  by_cases hlt : i < ds.length
  · right
    rw [List.drop_eq_getElem_cons hlt] at h
    unfold compLoop at h
    split at h
    · rename_i hg
      have hd : ds[i]? = some ds[i] := List.getElem?_eq_getElem hlt
      refine ⟨wk.go i θ H s _ x R hg hd, fun H' => ∃ m', m' < ds.length - i ∧ m' = ds.length - (i + 1) ∧ i + 1 ≤ ds.length ∧ ∃ θ s l vs, Ext0 θ0 H0 θ H' ∧ θ.b = Dd :: θ0.b ∧ RelS X.K θ H' s ∧ H' Dd = some (.lst vs) ∧ Reps θ H' l vs ∧ l.length ≤ i + 1 ∧
        PostC1 X.K Dd l Q θ H' (compLoop (fun ρ s => evalTs C cs ρ s) (fun ρ s => evalE C ir ρ s) tg g (wipeE ρ tg) (ds.drop (i + 1)) s), fun H' ⟨m', a1, a2, a3⟩ => ⟨m', a1, a2, a3⟩, fun xv H' y => ?_⟩
      obtain ⟨x1, R1, r1⟩ := wk.yld i θ H s _ xv H' x R hg hd y
      split at h
      · exact h.elim
      · rename_i ρ' hb
        refine ⟨θ, s, wipeE ρ tg, ds[i], ρ', R1, ((V0.wipe tg).ext0 x).ext x1, r1, hb, fun σ' V' hw => ⟨?_, ?_⟩⟩
        · rw [hw tg fun _ h => h]
          -- wiping twice
          have : ∀ (vs : List Nat) (σ : L2.St), (∀ i ∈ vs, i ∈ tg) → L2.wipe (L2.wipe σ vs) tg = L2.wipe σ tg := by
            intro vs
            induction vs with
            | nil => intro σ _; rfl
            | cons v vs ih =>
              intro σ hv
              show L2.wipe ((L2.wipe σ vs).set v none) tg = _
              rw [wipe_set (hv v List.mem_cons_self)]
              exact ih σ fun i m => hv i (List.mem_cons_of_mem _ m)
          exact this tg σ fun _ h => h
        · refine ⟨θ, s, ρ', R1, V', ?_⟩
          have h1 := PostC1.up h x1.toExt0 rfl (fun a m _ => x1.ban a m)
          cases ht : evalTs C cs ρ' s with
          | exn _ _ => rw [ht] at h1; exact h1.elim
          | bad => rw [ht] at h1; exact h1.elim
          | ok b s2 =>
            rw [ht] at h1
            intro θ3 H3 x3 R3
            have eb3 : θ3.b = Dd :: θ0.b := x3.b.trans eb
            have eD3 : H3 Dd = some (.lst vs) := (x3.ban Dd mD).trans ((x1.ban Dd mD).trans eD)
            have x03 : Ext0 θ0 H0 θ3 H3 := x.trans (x1.toExt0.trans x3.toExt0)
            have rs3 : Reps θ3 H3 l vs := (rs.ext x1).ext x3
            cases b with
            | false =>
              rw [if_neg Bool.false_ne_true]
              have h2 := PostC1.up h1 x3.toExt0 x3.b (fun a m _ => x3.ban a m)
              exact ⟨ds.length - (i + 1), by omega, rfl, hlt, θ3, s2, l, vs, x03, eb3, R3, eD3, rs3, by omega, h2⟩
            | true =>
              rw [if_pos rfl]
              refine ⟨θ3, s2, ρ', R3, V'.ext x3, ?_⟩
              have h2 := PostC1.up h1 x3.toExt0 x3.b (fun a m _ => x3.ban a m)
              have fin : ∀ (d : KL.D) (s4 : Sto) (θ4 : Th) (H4 : Hp) (y : V), Ext θ3 H3 θ4 H4 → RelS X.K θ4 H4 s4 → Rep θ4 H4 d y →
                  PostC1 X.K Dd l Q θ3 H3 ((compLoop (fun ρ s => evalTs C cs ρ s) (fun ρ s => evalE C ir ρ s) tg g (wipeE ρ tg) (ds.drop (i + 1)) s4).bindL fun r s => .ok (d :: r) s) →
                  ∃ acc, H4 Dd = some (.lst acc) ∧ acc.length < sizeLine ∧ ∃ m', m' < ds.length - i ∧ m' = ds.length - (i + 1) ∧ i + 1 ≤ ds.length ∧ ∃ θ s l vs, Ext0 θ0 H0 θ (upd H4 Dd (.lst (acc ++ [y]))) ∧ θ.b = Dd :: θ0.b ∧ RelS X.K θ (upd H4 Dd (.lst (acc ++ [y]))) s ∧
                    (upd H4 Dd (.lst (acc ++ [y]))) Dd = some (.lst vs) ∧ Reps θ (upd H4 Dd (.lst (acc ++ [y]))) l vs ∧ l.length ≤ i + 1 ∧
                    PostC1 X.K Dd l Q θ (upd H4 Dd (.lst (acc ++ [y]))) (compLoop (fun ρ s => evalTs C cs ρ s) (fun ρ s => evalE C ir ρ s) tg g (wipeE ρ tg) (ds.drop (i + 1)) s) := fun d s4 θ4 H4 y x4 R4 r4 h4 => by
                have eb4 : θ4.b = Dd :: θ0.b := x4.b.trans eb3
                have mD3 : Dd ∈ θ3.b := by rw [eb3]; exact List.mem_cons_self
                have mD4 : Dd ∈ θ4.b := by rw [eb4]; exact List.mem_cons_self
                have eD4 : H4 Dd = some (.lst vs) := (x4.ban Dd mD3).trans eD3
                have rs4 := rs3.ext x4
                have gr : Ext0 θ4 H4 θ4 (upd H4 Dd (.lst (vs ++ [y]))) := Ext0.grow (.inr mD4)
                have lv : vs.length ≤ i := by rw [← rs4.length]; exact ll
                refine ⟨vs, eD4, Nat.lt_of_lt_of_le (Nat.lt_of_le_of_lt lv hlt) (Nat.le_trans hl lim_le), ds.length - (i + 1), by omega, rfl, hlt, θ4, s4, l ++ [d], vs ++ [y], x03.trans (x4.toExt0.trans gr), eb4, R4.grow mD4, upd_same,
                  (rs4.append (.cons r4 .nil)).ext0 gr, by rw [List.length_append]; simp; omega, ?_⟩
                cases hr : compLoop (fun ρ s => evalTs C cs ρ s) (fun ρ s => evalE C ir ρ s) tg g (wipeE ρ tg) (ds.drop (i + 1)) s4 with
                | exn _ _ => rw [hr] at h4; exact h4.elim
                | bad => rw [hr] at h4; exact h4.elim
                | ok r s5 =>
                  rw [hr] at h4
                  intro θ5 H5 ws x5 e5 k5 R5 ed5 rs5
                  refine h4 θ5 H5 ws (x4.toExt0.trans (gr.trans x5)) (e5.trans x4.b) (fun a m n => ?_) R5 ed5 (by rw [List.append_assoc] at rs5; exact rs5)
                  rw [k5 a (by rw [x4.b]; exact m) n, upd_ne n]
                  exact x4.ban a m
              dsimp only at h2
              cases hr : evalE C ir ρ' s2 with
              | exn _ _ => rw [hr] at h2; exact h2.elim
              | bad => rw [hr] at h2; exact h2.elim
              | ok d s4 =>
                rw [hr] at h2
                exact fun θ4 H4 v x4 R4 r4 => fin d s4 θ4 H4 v x4 R4 r4 h2
              | new l' s4 =>
                rw [hr] at h2
                exact fun θ4 H4 a ws x4 R4 hn na ha rl => fin (.lst l') s4 θ4 H4 _ x4 R4.out (.lst (.inl ha) na rl.out) h2
    · exact h.elim
  · left
    have e : i = ds.length := by omega
    subst e
    rw [List.drop_length] at h
    unfold compLoop at h
    split at h
    · rename_i hg
      refine ⟨wk.stop _ θ H s x R hg (Nat.le_refl _), ?_⟩
      exact h θ H vs (Ext0.refl _ _) rfl (fun _ _ _ => rfl) R eD (by rw [List.append_nil]; exact rs)
    · exact h.elim
theorem lc_go {k : ItK} {tg : List Nat} {its cs : List E} {ir : E} {σ : L2.St} {H : Hp} {Q : VK} (h : tE X.K W C (.comp ir tg k its cs) σ H Q) :
    tLc (wI X.K W C k its) (tG X.K tg) (tTs X.K W0 C cs) (tE X.K W0 C ir) tg σ H Q := by
  obtain ⟨θ, s, ρ, R, V, h⟩ := h
  unfold evalE at h
  refine ⟨θ, s, ρ, R, V, ?_⟩
  cases hr : evalEs C its ρ s with
  | exn c s1 => rw [hr] at h; exact h
  | bad => rw [hr] at h; exact h
  | ok l s1 =>
    rw [hr] at h
    simp only [RL.bind] at h
    unfold PostI
    dsimp only
    cases hi : items k l s1 with
    | none => rw [hi] at h; exact h
    | some q =>
      rw [hi] at h
      obtain ⟨ds, g⟩ := q
      dsimp only at h
      intro θ' H' J x R' hg wk D hD
      split at h
      · rename_i hl
        refine comp_go hD R' (V.ext x) wk hl ?_
        cases hc : compLoop (fun ρ s => evalTs C cs ρ s) (fun ρ s => evalE C ir ρ s) tg g (wipeE ρ tg) ds s1 with
        | exn _ _ => rw [hc] at h; exact h.elim
        | bad => rw [hc] at h; exact h.elim
        | ok r s2 =>
          rw [hc] at h
          intro θ2 H2 vs y e k2 R2 eD rs
          obtain ⟨c2, b2⟩ := θ2
          have e' : b2 = D :: θ'.b := e
          subst e'
          have nD : D ∉ c2 := (R2.ban D List.mem_cons_self).2
          have nD' : D ∉ θ' := R'.free hD
          have z : Ext θ' H' ⟨c2, θ'.b⟩ H2 := by
            refine ⟨⟨y.pre, fun _ m => m, fun a o e n => ?_, fun a m n => ?_⟩, rfl, fun a m => ?_⟩
            · have ne : a ≠ D := ne_of_none e hD
              exact y.keep a o (by rw [upd_ne ne]; exact e) fun q => (Th.mk1_mem.mp q).elim ne n
            · by_cases q : a = D
              · rw [q]; exact hD
              · have q2 := y.new a (by
                  rcases m with m | m
                  · exact .inl m
                  · exact .inr (List.mem_cons_of_mem _ m)) fun q3 => (Th.mk1_mem.mp q3).elim q n
                rw [upd_ne q] at q2
                exact q2
            · have ne : a ≠ D := fun q => nD' (q ▸ .inr m)
              rw [k2 a (List.mem_cons_of_mem _ m) ne, upd_ne ne]
          have hD0 : H D = none := by
            cases q : H D with
            | none => rfl
            | some o =>
              by_cases m : D ∈ θ
              · exact absurd (x.mem m) nD'
              · have := x.keep D o q m
                rw [hD] at this
                cases this
          refine h ⟨c2, θ'.b⟩ H2 D vs (x.trans z) R2 hD0 (fun m => ?_) eD rs
          rcases m with m | m
          · exact nD m
          · exact nD' (.inr m)
      · exact h.elim
theorem s_comp {k : ItK} {tg : List Nat} {its cs : List E} {ir : E} {elt te iter : Expr} {ifs : List Expr} {scope : Scope} {own : List (Str × Nat)} {pos : Pos} (hc : X.calm = true) (hN : X.N.Nodup) (hi : PI X te iter (wI X.K W C k its)) (ok : BlkOk X.N X.env.scope scope own) (ho : own.map (·.2) = tg)
    (hg : ∀ (s : Shared) (H : Hp) (Cc : Addr) (cl : List (Str × Addr)) (fp : List Addr), PG (X.blk s H scope (compEnvC scope cl Cc X.env) fp) te (tG X.K tg))
    (ht : ∀ (s : Shared) (H : Hp) (Cc : Addr) (cl : List (Str × Addr)) (fp : List Addr), PTs (X.blk s H scope (compEnvC scope cl Cc X.env) fp) ifs (tTs X.K W0 C cs))
    (he : ∀ (s : Shared) (H : Hp) (Cc : Addr) (cl : List (Str × Addr)) (fp : List Addr), PE (X.blk s H scope (compEnvC scope cl Cc X.env) fp) elt (tE X.K W0 C ir)) (hs : ∀ x, foldedSetIterable iter X.env x = pure x) :
    PE X (.ListComp elt [⟨te, iter, ifs, 0⟩] scope pos) (tE X.K W C (.comp ir tg k its cs)) := by
  subst ho
  exact PE.imp (pe_lc hc hN hi ok hg ht he hs) fun σ H Q h => lc_go h
end
end KL

set_option Elab.async false
set_option linter.all false
set_option maxRecDepth 100000
set_option maxHeartbeats 4000000
set_option autoImplicit false
/-! KLLets: an exception that leaves a comprehension. -/
namespace KL
open PySem PySem.Spec PyProof.Rows L2

/-- what leaves a block: a call's exception -/
def XC (Y : Cx) (W : WX) (u : Value) (s' : Shared) : Prop := ∃ (pins : List (Addr × Obj)) (σ : L2.St) (H : Hp) (s : Shared), Inv Y pins σ H s ∧ L2.CX Y.prog Y.w Y.stack H s (fun c d H' => W c d σ H') u s'
theorem funs_less {B B' h : Heap} {l : List PySem.Env} (f : h.FunFrames B l) (w : ∀ b o, B'.get? b = some o → B.get? b = some o) : h.FunFrames B' l := funFrames_none f fun L m => by
  have q := (f.mem m).1
  cases e : B'.get? L with
  | none => rfl
  | some o => rw [w L o e] at q; cases q
section
variable {X : Cx}
theorem funs_nofs {pins : List (Addr × Obj)} {σ : L2.St} {H : Hp} {s : Shared} (I : Inv X pins σ H s) {a : Addr} (h : s.heap.objs.size ≤ a) : a ∉ frs X.stack := fun m => by
  rcases List.mem_cons.mp (I.stkSub a m) with e | m
  · have q := I.lt
    rw [← e] at q
    exact absurd (Nat.lt_of_lt_of_le q h) (Nat.lt_irrefl _)
  · exact I.nofs h m
/-- a state behind a call that let an exception out, with nothing of the exception's own -/
theorem ground {pins : List (Addr × Obj)} {σ : L2.St} {H H' : Hp} {s t : Shared} {B : Heap} (I : Inv X pins σ H s) (st : B.StaysIn t.heap) (hok : HOk X.prog X.w H' B) (ub : UB (frs X.stack) H H' s.heap B t.heap) (ag : AllBare t.gens) :
    ∃ G : Heap, (∀ b o, B.get? b = some o → G.get? b = some o) ∧ (∀ b o, G.get? b = some o → t.heap.get? b = some o) ∧ (∀ b o, G.get? b = some o → b ∉ frs X.stack → B.get? b = some o) ∧ Inv X pins σ H' { s with heap := G, gens := t.gens, drawn := t.drawn, toks := t.toks } := by
  obtain ⟨G, gy, gn⟩ := restrict t.heap fun b => (B.get? b).isSome || decide (b ∈ frs X.stack)
  have inB : ∀ b o, B.get? b = some o → G.get? b = some o := fun b o e => (gy b (by rw [e]; rfl)).trans (st b o e)
  have inF : ∀ b, b ∈ frs X.stack → G.get? b = t.heap.get? b := fun b m => gy b (by rw [decide_eq_true m, Bool.or_true])
  have out : ∀ b o, G.get? b = some o → t.heap.get? b = some o ∧ ((B.get? b).isSome = true ∨ b ∈ frs X.stack) := fun b o e => by
    by_cases q : ((B.get? b).isSome || decide (b ∈ frs X.stack)) = true
    · refine ⟨(gy b q).symm.trans e, ?_⟩
      rcases Bool.or_eq_true_iff.mp q with q | q
      · exact .inl q
      · exact .inr (of_decide_eq_true q)
    · rw [gn b (Bool.eq_false_iff.mpr q)] at e
      cases e
  have slot : ∀ b o, s.heap.get? b = some o → b ∈ frs X.stack → ∃ sl, G.get? b = some { o with slots := sl } := fun b o e m =>
    let ⟨sl, q⟩ := ub.slot b o e m
    ⟨sl, (inF b m).trans q⟩
  refine ⟨G, inB, fun b o e => (out b o e).1, fun b o e nm => ?_, ?_⟩
  · obtain ⟨e1, h | h⟩ := out b o e
    · obtain ⟨o2, e2⟩ := Option.isSome_iff_exists.mp h
      have e3 := st b o2 e2
      rw [e1] at e3
      cases e3
      exact e2
    · exact absurd h nm
  · refine I.call (ch := []) { keep := fun b o e n m _ => inB b o (ub.keep b o e n m), slot := fun b o e _ m _ => slot b o e m, free := fun b o e n _ => ub.free b o e n, there := fun b o e _ => ?_, tups := ub.tups, frzs := ub.frzs, tbls := ub.tbls } (hok.kept inB) ag (fun b m => nomatch m)
    by_cases m : b ∈ frs X.stack
    · obtain ⟨sl, q⟩ := slot b o e m
      exact ⟨_, q⟩
    · obtain ⟨o2, q⟩ := ub.there b o e m
      exact ⟨o2, inB b o2 q⟩
theorem blk_lets {W : WX} {pins : List (Addr × Obj)} {σ : L2.St} {H3 : Hp} {s3 : Shared} {scope : Scope} {cl : List (Str × Addr)} {fp : List Addr} {u : Value} {t : Shared} (hs : X.stack = X.env :: X.outer) (hf : X.env.frame = some X.env.locals) (tk : Takes X W) (I3 : Inv X pins σ H3 s3) (f3 : ∀ b ∈ fp, FpOk X pins H3 b)
    (x : XC (X.blk s3 H3 scope (compEnvC scope cl s3.heap.objs.size X.env) fp) (fun c d _ H => W c d σ H) u t) :
    notedBy (model X.prog X.w) X.A (compEnvC scope cl s3.heap.objs.size X.env) (CompFails (model X.prog X.w) X.A X.xe (compEnvC scope cl s3.heap.objs.size X.env)) u t := by
  obtain ⟨pins2, σ2, H, s, I, a, B, H', cls, d, eu, fl, hok, ub, na, os, ag, w⟩ := x
  subst eu
  obtain ⟨ce, ece⟩ : ∃ ce, ce = compEnvC scope cl s3.heap.objs.size X.env := ⟨_, rfl⟩
  obtain ⟨Cc, eC⟩ : ∃ Cc, Cc = s3.heap.objs.size := ⟨_, rfl⟩
  have cL : ce.locals = Cc := by rw [ece, eC]; rfl
  have cF : ce.frame = X.env.frame := by rw [ece]; rfl
  have I7 : Inv X pins σ H s := I3.call' (ch := fp) I.os I.base I.hok I.bare fun b hb =>
    let q := f3 b hb
    ⟨q.2.2.2.1, q.2.1, q.2.2.2.2.1, q.2.2.2.2.2⟩
  have nC : H Cc = none := by rw [eC]; exact I.free
  obtain ⟨m, hn, _⟩ := I.loc
  have hn : s.heap.Ns Cc m := by rw [eC]; exact hn
  have cfs : Cc ∉ frs X.stack := funs_nofs I3 (Nat.le_of_eq eC.symm)
  obtain ⟨oC, es, ep, hoC, hr⟩ := id hn
  have eB : B.get? Cc = some oC := ub.keep Cc oC hoC nC cfs
  have hnt : t.heap.Ns Cc m := ⟨oC, es, ep, fl.1 _ _ eB, hr⟩
  have hfr : X.A.frames = some (X.env :: X.outer) := by rw [I3.ok.frames, hs]
  obtain ⟨G, gB, gt, gn, J⟩ := ground (t := t) I7 fl.1 hok ub ag
  have fC : FpOk X pins H' Cc := I3.fpOk (Nat.le_of_eq eC.symm) (ub.free Cc oC hoC nC)
  have J2 := J.turned (h' := PySem.W.hideAll G [Cc]) (t' := t.toks) (it := Cc) (fun b o hb e => PySem.W.hideAll_get _ e fun q => hb (List.mem_singleton.mp q)) fC.1 fC.2.1 fC.2.2.2.1 fC.2.2.2.2.1 fC.2.2.2.2.2
  obtain ⟨Bm, eBm⟩ : ∃ Bm, Bm = PySem.W.hideAll B [Cc] := ⟨_, rfl⟩
  have less : ∀ b o, Bm.get? b = some o → B.get? b = some o ∧ b ≠ Cc := fun b o e => by
    rw [eBm] at e
    refine ⟨PySem.W.of_hideAll _ e, fun q => ?_⟩
    rw [q, PySem.W.hideAll_none _ (by simp)] at e
    cases e
  rw [← ece]
  show wpAny _ _ (noteFrame (.ref a) ce) _ _ t
  rw [noteFrame_env _ cF]
  rw [hs] at fl
  refine HandSPX.looks_onZ Zc.steady hfr hf fl fun h1 hh up1 => ?_
  refine ⟨m, by rw [cL]; exact hnt.upToSlots up1, fun h2 m2 hn2 sb2 => ?_⟩
  rw [cL] at hn2 sb2
  obtain ⟨b1, b0, f1, oe, vs, T, oT, ts, he, hz, hd, v1, hnT, hTe, hT, hdT, h3⟩ := hh
  have aC : a ≠ Cc := fun q => by rw [q, eB] at b0; cases b0
  have TC : T ≠ Cc := fun q => by rw [q, eB] at hnT; cases hnT
  have toNone : ∀ b, B.get? b = none → Bm.get? b = none := fun b q => by
    cases e : Bm.get? b with
    | none => rfl
    | some o => rw [(less b o e).1] at q; cases q
  have he2 : h2.get? a = some oe := (sb2.2 a aC).trans he
  have hh2 : HandSPX.HeldZ Bm (X.env :: X.outer) a (Zc cls d) X.env.locals h2 :=
    ⟨fun b o e => (sb2.2 b (less b o e).2).trans (b1 b o (less b o e).1), toNone a b0, funs_less (Heap.FunFrames.sameBut sb2 hn2 f1) fun b o e => (less b o e).1, oe, vs, T, oT, ts, he2, hz, hd, v1, toNone T hnT, hTe, (sb2.2 T TC).trans hT, hdT, h3⟩
  unfold PySem.passOn
  refine wpAny_bind (wpAny_field he2 hd v1 ?_)
  rw [if_neg (show ¬ ((Value.ref T == Value.none) = true) by simp), cF, hf]
  refine wpAny_bind (HandSPX.setFlight_onZ hh2 fun h3' hh3 up3 => wpAny_throw (tk _ _ ?_))
  refine ⟨a, Bm, _, pins, σ, H', cls, d, rfl, J2, fun b o e nm => ?_, fun b o e nf => ?_, .inr (.inr (by rw [hs]; exact hh3)), na, os, ag, w⟩
  · have e : (PySem.W.hideAll G [Cc]).get? b = some o := e
    have bC : b ∉ [Cc] := fun q => by rw [PySem.W.hideAll_none _ q] at e; cases e
    rw [eBm]
    exact PySem.W.hideAll_get _ (gn b o (PySem.W.of_hideAll _ e) nm) bC
  · have e : (PySem.W.hideAll G [Cc]).get? b = some o := e
    have bC : b ≠ Cc := fun q => by rw [q, PySem.W.hideAll_none _ (by simp)] at e; cases e
    obtain ⟨sl1, e1⟩ := up1 b o (gt b o (PySem.W.of_hideAll _ e)) nf
    obtain ⟨sl2, e2⟩ := up3 b _ ((sb2.2 b bC).trans e1) nf
    exact ⟨sl2, e2⟩
end
end KL
namespace KL
open PySem PySem.Spec PyProof.Rows L2
/-- a block's context, whose exceptions are those of calls; σ: the slots around it -/
abbrev blkX (X : Cx) (W : WX) (σ : L2.St) (s : Shared) (H : Hp) (scope : Scope) (ce : PySem.Env) (fp : List Addr) : Cx :=
  (X.blk s H scope ce fp).wish (XC (X.blk s H scope ce fp) fun c d _ H' => W c d σ H')
section
variable {X : Cx}
theorem thnX {α : Type} {t : Sem α} {Q Q' : α → Shared → Prop} {M : Model} {A : Around} {E E' : Value → Shared → Prop} {s : Shared} (h : wpAny M A t Q E s) (hE : ∀ u z, E u z → E' u z) (hQ : ∀ a z, Q a z → Q' a z) : wpAny M A t Q' E' s := wpAny_mono h hQ hE
theorem pe_lcX {W : WX} {elt tg iter : Expr} {scope : Scope} {own : List (Str × Nat)} {pos : Pos} {wi : TI} {g : TG} {tt : TT} {te : L2.St → TE} (hs : X.stack = X.env :: X.outer) (hf : X.env.frame = some X.env.locals) (tk : Takes X W) (hc : X.calm = true) (hN : X.N.Nodup) (hi : PI X tg iter wi) (ok : BlkOk X.N X.env.scope scope own)
    (hg : ∀ (τ : L2.St) (z : Shared) (K : Hp) (Cc : Addr) (cl : List (Str × Addr)) (fp : List Addr), PG (blkX X W τ z K scope (compEnvC scope cl Cc X.env) fp) tg g)
    (ht : ∀ (τ : L2.St) (z : Shared) (K : Hp) (Cc : Addr) (cl : List (Str × Addr)) (fp : List Addr), PTs (blkX X W τ z K scope (compEnvC scope cl Cc X.env) fp) [] tt)
    (he : ∀ (τ : L2.St) (z : Shared) (K : Hp) (Cc : Addr) (cl : List (Str × Addr)) (fp : List Addr), PE (blkX X W τ z K scope (compEnvC scope cl Cc X.env) fp) elt (te τ)) (hfo : ∀ x, foldedSetIterable iter X.env x = pure x) :
    PE X (.ListComp elt [⟨tg, iter, [], 0⟩] scope pos) (fun σ H Q => tLc wi g tt (te σ) (own.map (·.2)) σ H Q) := by
  refine ⟨fun pins s0 σ H Q I h => ?_⟩
  rw [eval_ListComp]
  have cap : ∀ y ∈ scope.names, y.2 = .free → ∃ c, X.env.cells.lookup y.1 = some c := fun y m e => (ok.free y m e).elim (fun k => I.ok.has _ (.inl k)) fun k => I.ok.has _ (.inr k)
  refine comprehension_at (use := none) rfl hfo (closure_ok cap) ok.kind (fun y m e => by rw [ok.uniq y m, e]) (thn (hi.run pins s0 σ H _ I h) fun xv z1 hx => thn hx fun itv z2 hz2 => ?_)
  obtain ⟨it, fp, tn, J, H2, eit, I2, T, tn2, f2, turns⟩ := hz2
  subst eit
  refine wpAny_newObj_type (newEnv_comp ?_) (Nat.zero_le _)
  obtain ⟨D, eD⟩ : ∃ D, D = z2.heap.objs.size := ⟨_, rfl⟩
  rw [← eD]
  have nD : H2 D = none := I2.hok.fresh (Nat.le_of_eq eD.symm)
  obtain ⟨Wt, ⟨m0, w0⟩, turn⟩ := turns D nD
  generalize ez3 : ({ z2 with heap := z2.heap.push { cls := .type "list", data := .seq ([] : List Value).toArray } } : Shared) = z3
  have hp3 : z3.heap = z2.heap.push { cls := .type "list", data := .seq ([] : List Value).toArray } := by rw [← ez3]
  have lay : ∀ b o, z2.heap.get? b = some o → z3.heap.get? b = some o := fun b o e => by
    rw [hp3]
    exact Heap.get?_push_of_some _ e
  have I3 : Inv X pins σ (upd H2 D (.lst [])) z3 := by
    rw [← ez3]
    refine I2.laid (t' := z2.toks) (fun b o e => Heap.get?_push_of_some _ e) (Nat.le_of_eq eD.symm) ⟨Nat.zero_le _, [], 0, .nil, ?_⟩
    rw [eD]
    exact Heap.get?_push_size _ rfl
  obtain ⟨H3, eH3⟩ : ∃ H3, H3 = upd H2 D (.lst []) := ⟨_, rfl⟩
  rw [← eH3] at I3 w0
  have f3 : ∀ b ∈ fp, FpOk X pins H3 b ∧ b < z3.heap.objs.size := fun b m => by
    obtain ⟨o, e, _⟩ := T.obj _ _ tn2 b m
    have lt := Heap.lt_size e
    have q := f2 b m
    refine ⟨⟨?_, q.2⟩, ?_⟩
    · rw [eH3, upd_ne (by rw [eD]; exact Nat.ne_of_lt lt)]
      exact q.1
    · rw [hp3, Heap.size_push]
      exact Nat.lt_succ_of_lt lt
  have tn3 : tn 0 z3.heap := T.keep _ _ _ tn2 fun b _ o e => lay b o e
  have I4 := (block_start I3 ok hN f3).wish (XC (X.blk z3 H3 scope (compEnvC scope (cellsFrom (z3.heap.objs.size + 1) scope.names (cloFrom X.env.cells scope.names [])) z3.heap.objs.size X.env) fp) fun c d _ H' => W c d σ H')
  have lets := fun (u : Value) (z : Shared) (q : XC (X.blk z3 H3 scope (compEnvC scope (cellsFrom (z3.heap.objs.size + 1) scope.names (cloFrom X.env.cells scope.names [])) z3.heap.objs.size X.env) fp) (fun c d _ H' => W c d σ H') u z) => blk_lets hs hf tk I3 (fun b m => (f3 b m).1) q
  have pg := hg σ z3 H3 z3.heap.objs.size (cellsFrom (z3.heap.objs.size + 1) scope.names (cloFrom X.env.cells scope.names [])) fp
  have pt := ht σ z3 H3 z3.heap.objs.size (cellsFrom (z3.heap.objs.size + 1) scope.names (cloFrom X.env.cells scope.names [])) fp
  have pe := he σ z3 H3 z3.heap.objs.size (cellsFrom (z3.heap.objs.size + 1) scope.names (cloFrom X.env.cells scope.names [])) fp
  show codeAny _ _ (.compStart (.ListComp elt [⟨tg, iter, [], 0⟩] scope pos) 0 (.ref it) (.ref _) (compEnvC scope (cellsFrom (z3.heap.objs.size + 1) scope.names (cloFrom X.env.cells scope.names [])) z3.heap.objs.size X.env)) (compEnds (model X.prog X.w) X.A X.xe none (EP X pins σ Q) (.ref _) (compEnvC scope (cellsFrom (z3.heap.objs.size + 1) scope.names (cloFrom X.env.cells scope.names [])) z3.heap.objs.size X.env)) { z3 with heap := pushCells (z3.heap.push { cls := .type "dict", data := .dict #[] }) scope.names }
  generalize ece : compEnvC scope (cellsFrom (z3.heap.objs.size + 1) scope.names (cloFrom X.env.cells scope.names [])) z3.heap.objs.size X.env = ce at I4 lets pg pt pe ⊢
  have cL : ce.locals = z3.heap.objs.size := by rw [← ece]; rfl
  generalize ez4 : ({ z3 with heap := pushCells (z3.heap.push { cls := .type "dict", data := .dict #[] }) scope.names } : Shared) = z4 at I4 ⊢
  have tn4 : tn 0 z4.heap := T.keep _ _ _ tn3 fun b _ o e => by rw [← ez4]; exact pushCells_keeps _ _ _ _ (Heap.get?_push_of_some _ e)
  obtain ⟨Y, eY⟩ : ∃ Y : Cx, Y = blkX X W σ z3 H3 scope ce fp := ⟨_, rfl⟩
  have yp : Y.prog = X.prog := by rw [eY]
  have yw : Y.w = X.w := by rw [eY]
  have yK : Y.K = X.K := by rw [eY]
  have yA : Y.A = X.A := by rw [eY]
  have yc : Y.calm = true := by rw [eY]; exact hc
  have free3 : ∀ b ∈ fp, H3 b = none := fun b m => (f3 b m).1.1
  have wipeL : ∀ {τ : L2.St}, L2.wipe τ (own.map (·.2)) = L2.wipe σ (own.map (·.2)) → (L2.wipe σ (own.map (·.2))).length = τ.length := fun {τ} e => by rw [← e, wipe_length]
  have fpY : ∀ {τ : L2.St} {K : Hp} {z : Shared}, Inv (blkX X W σ z3 H3 scope ce fp) [] τ K z → (∀ b ∈ fp, K b = none) → ∀ b ∈ fp, FpOk (blkX X W σ z3 H3 scope ce fp) [] K b := fun {τ K z} J n b m =>
    ⟨n b m, (J.ok.exf b m).1, J.ok.exfs b m, .inl m, fun y c e => (J.ok.exf b m).2 y c e, fun p q => by cases q⟩
  have loop : codeAny (model X.prog X.w) X.A (.compLoop (.ListComp elt [⟨tg, iter, [], 0⟩] scope pos) 0 (.ref it) (.ref D) ce) (compEnds (model X.prog X.w) X.A X.xe none (EP X pins σ Q) (.ref D) ce) z4 := by
    refine compLoop_any (fun n z => ∃ i K, Inv (blkX X W σ z3 H3 scope ce fp) [] (L2.wipe σ (own.map (·.2))) K z ∧ tn i z.heap ∧ (∀ b ∈ fp, K b = none) ∧ Wt i n K) ?_ m0 ⟨0, H3, I4, tn4, free3, w0⟩
    intro n z5 ⟨i, H5, I5, tn5, n5, w5⟩
    rcases turn i n H5 w5 with ⟨stop, qq⟩ | ⟨go, Nx, hNx, step⟩
    · refine thnX (T.done (blkX X W σ z3 H3 scope ce fp) rfl rfl rfl hc i [] z5 _ H5 (fun _ _ => False) I5 (fpY I5 n5) tn5 stop) (fun _ _ z => z.elim) fun r z6 ⟨hr, I6⟩ => ?_
      subst hr
      have I7 : Inv X pins σ H5 z6 := I3.call' (ch := fp) I6.os I6.base I6.hok I6.bare fun b m =>
        let q := (f3 b m).1
        ⟨q.2.2.2.1, q.2.1, q.2.2.2.2.1, q.2.2.2.2.2⟩
      have nC : H5 z3.heap.objs.size = none := cL ▸ I6.free
      obtain ⟨m, hn, _⟩ := I6.loc
      obtain ⟨_, g1, _, g3, g4, g5⟩ := I3.fpOk (Nat.le_refl _) nC
      refine ⟨m, hn, fun h'' sb => ⟨.ref D, H5, ?_, rfl, qq⟩⟩
      have sb : Heap.SameBut ce.locals z6.heap h'' := sb
      rw [cL] at sb
      exact I7.turned (t' := z6.toks) (fun b o hb e => (sb.2 b hb).trans e) nC g1 g3 g4 g5
    · refine thnX (T.item (blkX X W σ z3 H3 scope ce fp) rfl rfl rfl hc i [] z5 _ H5 (fun _ _ => False) I5 (fpY I5 n5) tn5 go) (fun _ _ z => z.elim) fun r z6 ⟨u, hr, h6⟩ => ?_
      subst hr
      refine thnX h6 (fun _ _ z => z.elim) fun _ z7 ⟨x, H7, I7, r7, y7, tn7, n7⟩ => ?_
      have P7 := I7.pinned (fpY I7 n7) (T.obj _ _ tn7)
      refine thnX (pg.run _ z7 _ H7 x u _ P7 r7 (step x H7 y7)) lets fun _ z8 ⟨σ8, H8, I8, hw8, q8⟩ => ?_
      refine thnX (pt.run _ z8 σ8 H8 _ I8 q8) lets fun b z9 ⟨H9, I9, q9⟩ => ?_
      have next : ∀ {z : Shared} {K : Hp}, Inv (blkX X W σ z3 H3 scope ce fp) ([] ++ pinsAt fp z7.heap) σ8 K z → Nx K → ∃ m, m < n ∧ ∃ i K, Inv (blkX X W σ z3 H3 scope ce fp) [] (L2.wipe σ (own.map (·.2))) K z ∧ tn i z.heap ∧ (∀ b ∈ fp, K b = none) ∧ Wt i m K := fun {z K} J nx => by
        obtain ⟨m', lt, w'⟩ := hNx K nx
        have pin : ∀ b ∈ fp, ∀ o, z7.heap.get? b = some o → z.heap.get? b = some o ∧ K b = none := fun b m o e =>
          let q := J.pin (b, o) (List.mem_append_right _ (List.mem_append_right _ (mem_pinsAt m e)))
          ⟨q.1, q.2.1⟩
        refine ⟨m', lt, i + 1, K, (J.unpinned (pins := [])).weak (wipeL hw8) (fun j v e => ?_), T.keep _ _ _ tn7 fun b m o e => (pin b m o e).1, fun b m => ?_, w'⟩
        · rw [← hw8] at e
          exact (wipe_some e).1
        · obtain ⟨o, e, _⟩ := T.obj _ _ tn7 b m
          exact (pin b m o e).2
      cases b with
      | false => exact next I9 (by simpa using q9)
      | true =>
        have q9 := (if_pos rfl).mp q9
        refine thnX (pe.run _ z9 σ8 H9 _ I9 q9) lets fun y z10 ⟨yv, H10, I10, r10, acc, d10, l10, nx⟩ => ?_
        exact app_ok (X := blkX X W σ z3 H3 scope ce fp) I10 d10 l10 r10 fun z11 I11 => next I11 nx
  exact codeAny_compStart_list loop (T.self X.A 0 _ _ _ tn4 loop)
end
end KL
namespace KL
section GOX
open PySem PySem.Spec PyProof.Rows L2
variable {X : Cx} {W : WX} {C : Ctx}
/-- what a comprehension's loop is to come to: the list at D is l ++ r -/
def PostX1 (K : PySem.W.Frag) (W : WX) (σ : L2.St) (D : Addr) (l : List KL.D) (Q : Hp → Prop) (θ : Th) (H : Hp) : RL → Prop
  | .ok r s => ∀ θ' H' vs, Ext0 θ H θ' H' → θ'.b = θ.b → (∀ a ∈ θ.b, a ≠ D → H' a = H a) → RelS K θ' H' s → H' D = some (.lst vs) → Reps θ' H' (l ++ r) vs → Q H'
  | .exn c s => ∀ θ' H', Ext0 θ H θ' H' → θ'.b = θ.b → (∀ a ∈ θ.b, a ≠ D → H' a = H a) → RelS K θ' H' s → W (cV K c) none σ H'
  | .bad => False
theorem PostX1.up {K : PySem.W.Frag} {W : WX} {σ : L2.St} {D : Addr} {l : List KL.D} {Q : Hp → Prop} {θ θ1 : Th} {H H1 : Hp} {r : RL} (h : PostX1 K W σ D l Q θ H r) (x : Ext0 θ H θ1 H1) (eb : θ1.b = θ.b) (kb : ∀ a ∈ θ.b, a ≠ D → H1 a = H a) : PostX1 K W σ D l Q θ1 H1 r := by
  cases r with
  | ok r s => exact fun θ' H' vs y e2 k2 => h θ' H' vs (x.trans y) (e2.trans eb) fun a m n => (k2 a (by rw [eb]; exact m) n).trans (kb a m n)
  | exn _ _ => exact fun θ' H' y e2 k2 => h θ' H' (x.trans y) (e2.trans eb) fun a m n => (k2 a (by rw [eb]; exact m) n).trans (kb a m n)
  | bad => exact h
/-- the loop: W by the turn, the measure and the heap -/
theorem comp_goX {tg : List Nat} {ir : E} {J : It} {ds : List KL.D} {g : Guard} {θ0 : Th} {H0 : Hp} {s0 : Sto} {ρ : Env} {σ : L2.St} {Dd : Addr} {Q : Hp → Prop} (hD : H0 Dd = none) (R0 : RelS X.K θ0 H0 s0) (V0 : EnvR θ0 H0 ρ σ)
    (wk : Walk X.K θ0 H0 J ds g) (hl : ds.length ≤ lim)
    (h : PostX1 X.K W σ Dd [] Q (θ0.mk1 Dd) (upd H0 Dd (.lst [])) (compLoopX (fun ρ s => evalE C ir ρ s) tg g (wipeE ρ tg) ds s0)) :
    ∃ Wv : Nat → Nat → Hp → Prop, (∃ m, Wv 0 m (upd H0 Dd (.lst []))) ∧ ∀ i m H, Wv i m H →
      (J.stop i H ∧ Q H) ∨ (J.go i H ∧ ∃ Nx : Hp → Prop, (∀ H', Nx H' → ∃ m', m' < m ∧ Wv (i + 1) m' H') ∧ ∀ x H', J.yld i H x H' → tG X.K tg x (L2.wipe σ tg) H' fun σ2 H2 => L2.wipe σ2 tg = L2.wipe σ tg ∧ tTs X.K W0 C [] σ2 H2 fun b H3 =>
        if b = true then tE X.K (fun c d _ H' => W c d σ H') C ir σ2 H3 fun y H4 => ∃ acc, H4 Dd = some (.lst acc) ∧ acc.length < sizeLine ∧ Nx (upd H4 Dd (.lst (acc ++ [y]))) else Nx H3) := by
  refine ⟨fun i m H => m = ds.length - i ∧ i ≤ ds.length ∧ ∃ θ s l vs, Ext0 θ0 H0 θ H ∧ θ.b = Dd :: θ0.b ∧ RelS X.K θ H s ∧ H Dd = some (.lst vs) ∧ Reps θ H l vs ∧ l.length ≤ i ∧
      PostX1 X.K W σ Dd l Q θ H (compLoopX (fun ρ s => evalE C ir ρ s) tg g (wipeE ρ tg) (ds.drop i) s), ⟨ds.length, by simp, Nat.zero_le _, θ0.mk1 Dd, s0, [], [], Ext0.into hD, rfl, R0.into hD, upd_same, .nil, Nat.le_refl _, h⟩, ?_⟩
  rintro i m H ⟨rfl, hi, θ, s, l, vs, x, eb, R, eD, rs, ll, h⟩
  have mD : Dd ∈ θ.b := by rw [eb]; exact List.mem_cons_self
  by_cases hlt : i < ds.length
  · right
    rw [List.drop_eq_getElem_cons hlt] at h
    unfold compLoopX at h
    split at h
    · rename_i hg
      have hd : ds[i]? = some ds[i] := List.getElem?_eq_getElem hlt
      refine ⟨wk.go i θ H s _ x R hg hd, fun H' => ∃ m', m' < ds.length - i ∧ m' = ds.length - (i + 1) ∧ i + 1 ≤ ds.length ∧ ∃ θ s l vs, Ext0 θ0 H0 θ H' ∧ θ.b = Dd :: θ0.b ∧ RelS X.K θ H' s ∧ H' Dd = some (.lst vs) ∧ Reps θ H' l vs ∧ l.length ≤ i + 1 ∧
        PostX1 X.K W σ Dd l Q θ H' (compLoopX (fun ρ s => evalE C ir ρ s) tg g (wipeE ρ tg) (ds.drop (i + 1)) s), fun H' ⟨m', a1, a2, a3⟩ => ⟨m', a1, a2, a3⟩, fun xv H' y => ?_⟩
      obtain ⟨x1, R1, r1⟩ := wk.yld i θ H s _ xv H' x R hg hd y
      split at h
      · exact h.elim
      · rename_i ρ' hb
        refine ⟨θ, s, wipeE ρ tg, ds[i], ρ', R1, ((V0.wipe tg).ext0 x).ext x1, r1, hb, fun σ' V' hw => ⟨?_, ?_⟩⟩
        · rw [hw tg fun _ h => h]
          -- wiping twice
          have : ∀ (vs : List Nat) (σ : L2.St), (∀ i ∈ vs, i ∈ tg) → L2.wipe (L2.wipe σ vs) tg = L2.wipe σ tg := by
            intro vs
            induction vs with
            | nil => intro σ _; rfl
            | cons v vs ih =>
              intro σ hv
              show L2.wipe ((L2.wipe σ vs).set v none) tg = _
              rw [wipe_set (hv v List.mem_cons_self)]
              exact ih σ fun i m => hv i (List.mem_cons_of_mem _ m)
          exact this tg σ fun _ h => h
        · refine ⟨θ, s, ρ', R1, V', ?_⟩
          have h1 := PostX1.up h x1.toExt0 rfl (fun a m _ => x1.ban a m)
          unfold evalTs
          intro θ3 H3 x3 R3
          have eb3 : θ3.b = Dd :: θ0.b := x3.b.trans eb
          have eD3 : H3 Dd = some (.lst vs) := (x3.ban Dd mD).trans ((x1.ban Dd mD).trans eD)
          have x03 : Ext0 θ0 H0 θ3 H3 := x.trans (x1.toExt0.trans x3.toExt0)
          have rs3 : Reps θ3 H3 l vs := (rs.ext x1).ext x3
          rw [if_pos rfl]
          refine ⟨θ3, s, ρ', R3, V'.ext x3, ?_⟩
          have h2 := PostX1.up h1 x3.toExt0 x3.b (fun a m _ => x3.ban a m)
          have fin : ∀ (d : KL.D) (s4 : Sto) (θ4 : Th) (H4 : Hp) (y : V), Ext θ3 H3 θ4 H4 → RelS X.K θ4 H4 s4 → Rep θ4 H4 d y →
              PostX1 X.K W σ Dd l Q θ3 H3 ((compLoopX (fun ρ s => evalE C ir ρ s) tg g (wipeE ρ tg) (ds.drop (i + 1)) s4).bindL fun r s => .ok (d :: r) s) →
              ∃ acc, H4 Dd = some (.lst acc) ∧ acc.length < sizeLine ∧ ∃ m', m' < ds.length - i ∧ m' = ds.length - (i + 1) ∧ i + 1 ≤ ds.length ∧ ∃ θ s l vs, Ext0 θ0 H0 θ (upd H4 Dd (.lst (acc ++ [y]))) ∧ θ.b = Dd :: θ0.b ∧ RelS X.K θ (upd H4 Dd (.lst (acc ++ [y]))) s ∧
                (upd H4 Dd (.lst (acc ++ [y]))) Dd = some (.lst vs) ∧ Reps θ (upd H4 Dd (.lst (acc ++ [y]))) l vs ∧ l.length ≤ i + 1 ∧
                PostX1 X.K W σ Dd l Q θ (upd H4 Dd (.lst (acc ++ [y]))) (compLoopX (fun ρ s => evalE C ir ρ s) tg g (wipeE ρ tg) (ds.drop (i + 1)) s) := fun d s4 θ4 H4 y x4 R4 r4 h4 => by
            have eb4 : θ4.b = Dd :: θ0.b := x4.b.trans eb3
            have mD3 : Dd ∈ θ3.b := by rw [eb3]; exact List.mem_cons_self
            have mD4 : Dd ∈ θ4.b := by rw [eb4]; exact List.mem_cons_self
            have eD4 : H4 Dd = some (.lst vs) := (x4.ban Dd mD3).trans eD3
            have rs4 := rs3.ext x4
            have gr : Ext0 θ4 H4 θ4 (upd H4 Dd (.lst (vs ++ [y]))) := Ext0.grow (.inr mD4)
            have lv : vs.length ≤ i := by rw [← rs4.length]; exact ll
            refine ⟨vs, eD4, Nat.lt_of_lt_of_le (Nat.lt_of_le_of_lt lv hlt) (Nat.le_trans hl lim_le), ds.length - (i + 1), by omega, rfl, hlt, θ4, s4, l ++ [d], vs ++ [y], x03.trans (x4.toExt0.trans gr), eb4, R4.grow mD4, upd_same,
              (rs4.append (.cons r4 .nil)).ext0 gr, by rw [List.length_append]; simp; omega, ?_⟩
            cases hr : compLoopX (fun ρ s => evalE C ir ρ s) tg g (wipeE ρ tg) (ds.drop (i + 1)) s4 with
            | exn _ _ =>
              rw [hr] at h4
              refine fun θ5 H5 x5 e5 k5 R5 => h4 θ5 H5 (x4.toExt0.trans (gr.trans x5)) (e5.trans x4.b) (fun a m n => ?_) R5
              rw [k5 a (by rw [x4.b]; exact m) n, upd_ne n]
              exact x4.ban a m
            | bad => rw [hr] at h4; exact h4.elim
            | ok r s5 =>
              rw [hr] at h4
              intro θ5 H5 ws x5 e5 k5 R5 ed5 rs5
              refine h4 θ5 H5 ws (x4.toExt0.trans (gr.trans x5)) (e5.trans x4.b) (fun a m n => ?_) R5 ed5 (by rw [List.append_assoc] at rs5; exact rs5)
              rw [k5 a (by rw [x4.b]; exact m) n, upd_ne n]
              exact x4.ban a m
          cases hr : evalE C ir ρ' s with
          | exn c s4 =>
            rw [hr] at h2
            exact fun θ4 H4 x4 R4 => h2 θ4 H4 x4.toExt0 x4.b (fun a m _ => x4.ban a m) R4
          | bad => rw [hr] at h2; exact h2.elim
          | ok d s4 =>
            rw [hr] at h2
            exact fun θ4 H4 v x4 R4 r4 => fin d s4 θ4 H4 v x4 R4 r4 h2
          | new l' s4 =>
            rw [hr] at h2
            exact fun θ4 H4 a ws x4 R4 hn na ha rl => fin (.lst l') s4 θ4 H4 _ x4 R4.out (.lst (.inl ha) na rl.out) h2
    · exact h.elim
  · left
    have e : i = ds.length := by omega
    subst e
    rw [List.drop_length] at h
    unfold compLoopX at h
    split at h
    · rename_i hg
      refine ⟨wk.stop _ θ H s x R hg (Nat.le_refl _), ?_⟩
      exact h θ H vs (Ext0.refl _ _) rfl (fun _ _ _ => rfl) R eD (by rw [List.append_nil]; exact rs)
    · exact h.elim
theorem lc_goX {k : ItK} {tg : List Nat} {its : List E} {ir : E} {σ : L2.St} {H : Hp} {Q : VK} (h : tE X.K W C (.compX ir tg k its) σ H Q) :
    tLc (wI X.K W C k its) (tG X.K tg) (tTs X.K W0 C []) (tE X.K (fun c d _ H' => W c d σ H') C ir) tg σ H Q := by
  obtain ⟨θ, s, ρ, R, V, h⟩ := h
  unfold evalE at h
  refine ⟨θ, s, ρ, R, V, ?_⟩
  cases hr : evalEs C its ρ s with
  | exn c s1 => rw [hr] at h; exact h
  | bad => rw [hr] at h; exact h
  | ok l s1 =>
    rw [hr] at h
    simp only [RL.bind] at h
    unfold PostI
    dsimp only
    cases hi : items k l s1 with
    | none => rw [hi] at h; exact h
    | some q =>
      rw [hi] at h
      obtain ⟨ds, g⟩ := q
      dsimp only at h
      intro θ' H' J x R' hg wk D hD
      split at h
      · rename_i hl
        refine comp_goX hD R' (V.ext x) wk hl ?_
        have bridge : ∀ {θ2 : Th} {H2 : Hp} {s2 : Sto}, Ext0 (θ'.mk1 D) (upd H' D (.lst [])) θ2 H2 → θ2.b = (θ'.mk1 D).b → (∀ a ∈ (θ'.mk1 D).b, a ≠ D → H2 a = upd H' D (.lst []) a) → RelS X.K θ2 H2 s2 →
            ∃ c2, θ2 = ⟨c2, D :: θ'.b⟩ ∧ D ∉ c2 ∧ D ∉ θ' ∧ Ext θ' H' ⟨c2, θ'.b⟩ H2 := fun {θ2 H2 s2} y e k2 R2 => by
          obtain ⟨c2, b2⟩ := θ2
          have e' : b2 = D :: θ'.b := e
          subst e'
          have nD : D ∉ c2 := (R2.ban D List.mem_cons_self).2
          have nD' : D ∉ θ' := R'.free hD
          refine ⟨c2, rfl, nD, nD', ⟨⟨y.pre, fun _ m => m, fun a o e n => ?_, fun a m n => ?_⟩, rfl, fun a m => ?_⟩⟩
          · have ne : a ≠ D := ne_of_none e hD
            exact y.keep a o (by rw [upd_ne ne]; exact e) fun q => (Th.mk1_mem.mp q).elim ne n
          · by_cases q : a = D
            · rw [q]; exact hD
            · have q2 := y.new a (by
                rcases m with m | m
                · exact .inl m
                · exact .inr (List.mem_cons_of_mem _ m)) fun q3 => (Th.mk1_mem.mp q3).elim q n
              rw [upd_ne q] at q2
              exact q2
          · have ne : a ≠ D := fun q => nD' (q ▸ .inr m)
            rw [k2 a (List.mem_cons_of_mem _ m) ne, upd_ne ne]
        cases hc : compLoopX (fun ρ s => evalE C ir ρ s) tg g (wipeE ρ tg) ds s1 with
        | bad => rw [hc] at h; exact h.elim
        | exn c s2 =>
          rw [hc] at h
          intro θ2 H2 y e k2 R2
          obtain ⟨c2, rfl, nD, nD', z⟩ := bridge y e k2 R2
          exact h ⟨c2, θ'.b⟩ H2 (x.trans z) (RelS.out R2)
        | ok r s2 =>
          rw [hc] at h
          intro θ2 H2 vs y e k2 R2 eD rs
          obtain ⟨c2, rfl, nD, nD', z⟩ := bridge y e k2 R2
          have hD0 : H D = none := by
            cases q : H D with
            | none => rfl
            | some o =>
              by_cases m : D ∈ θ
              · exact absurd (x.mem m) nD'
              · have := x.keep D o q m
                rw [hD] at this
                cases this
          refine h ⟨c2, θ'.b⟩ H2 D vs (x.trans z) R2 hD0 (fun m => ?_) eD rs
          rcases m with m | m
          · exact nD m
          · exact nD' (.inr m)
      · exact h.elim
theorem s_compX {k : ItK} {tg : List Nat} {its : List E} {ir : E} {elt te iter : Expr} {scope : Scope} {own : List (Str × Nat)} {pos : Pos} (hs : X.stack = X.env :: X.outer) (hf : X.env.frame = some X.env.locals) (tk : Takes X W) (hc : X.calm = true) (hN : X.N.Nodup) (hi : PI X te iter (wI X.K W C k its)) (ok : BlkOk X.N X.env.scope scope own) (ho : own.map (·.2) = tg)
    (hg : ∀ (τ : L2.St) (s : Shared) (H : Hp) (Cc : Addr) (cl : List (Str × Addr)) (fp : List Addr), PG (blkX X W τ s H scope (compEnvC scope cl Cc X.env) fp) te (tG X.K tg))
    (he : ∀ (τ : L2.St) (s : Shared) (H : Hp) (Cc : Addr) (cl : List (Str × Addr)) (fp : List Addr), PE (blkX X W τ s H scope (compEnvC scope cl Cc X.env) fp) elt (tE X.K (fun c d _ H' => W c d τ H') C ir)) (hfo : ∀ x, foldedSetIterable iter X.env x = pure x) :
    PE X (.ListComp elt [⟨te, iter, [], 0⟩] scope pos) (tE X.K W C (.compX ir tg k its)) := by
  subst ho
  exact PE.imp (pe_lcX hs hf tk hc hN hi ok hg (fun τ s H Cc cl fp => ts_nil (W := W0) (C := C)) he hfo) fun σ H Q h => lc_goX h
end GOX
end KL

set_option Elab.async false
set_option linter.all false
set_option maxRecDepth 100000
set_option maxHeartbeats 4000000
set_option autoImplicit false
/-! KLObj: methods of built-in types, calls of own defs, objects. -/
namespace KL
open PySem PySem.Spec PyProof.Rows L2

def baseOk : Expr → Bool
  | .Call (.Name _ _) [] [] _ => false
  | _ => true
theorem base_ok {o : Expr} {attr : Str} {env : PySem.Env} {w : Sem Value} (h : baseOk o = true) : attributeBase o attr env w = w := by
  unfold attributeBase
  split
  · cases h
  · rfl
def notStar : Expr → Bool
  | .Starred _ _ => false
  | _ => true
theorem star_cons {e : Expr} {es : List Expr} {env : PySem.Env} (h : notStar e = true) : starEach (e :: es) env = (false, eval e env) :: starEach es env := by
  cases e <;> first | rfl | cases h
theorem star_plain : ∀ {es : List Expr} {env : PySem.Env} {pos : Pos}, es.all notStar = true → (backTo pos (starEach es env)).any (·.1) = false
  | [], _, _, _ => rfl
  | e :: es, env, pos, h => by
    simp only [List.all_cons, Bool.and_eq_true] at h
    rw [star_cons h.1]
    show (false || (backTo pos (starEach es env)).any (·.1)) = false
    rw [star_plain h.2]
    rfl
theorem star_few : ∀ {es : List Expr} {env : PySem.Env} {pos : Pos}, es.all notStar = true → (backTo pos (starEach es env)).all (fun x => !x.1) = true
  | [], _, _, _ => rfl
  | e :: es, env, pos, h => by
    simp only [List.all_cons, Bool.and_eq_true] at h
    rw [star_cons h.1]
    show (!false && (backTo pos (starEach es env)).all (fun x => !x.1)) = true
    rw [star_few h.2]
    rfl
theorem form_ok {es : List Expr} {env : PySem.Env} {pos : Pos} (h : es.all notStar = true) (hl : es.length < 20) : methodCallForm (es.length + ([] : List Keyword).length) (backTo pos (starEach es env)) (backToKw pos (keywordEach [] env)) = true := by
  unfold methodCallForm
  rw [star_few h]
  simp [keywordEach, backToKw]
  omega
theorem call_ht {o : Expr} {m : Str} {apos pos : Pos} {es : List Expr} {env : PySem.Env} (hb : baseOk o = true) (h : es.all notStar = true) (hl : es.length < 20) (hp : (apos.endLine == pos.line) = true) :
    eval (.Call (.Attribute o m apos) es [] pos) env = (do
      let ov ← eval o env
      standAt apos.atName
      let (f, first) ← holding [ov] (getMethod ov m (plainOf o env))
      callWith pos f first (backTo pos (starEach es env)) (backToKw pos (keywordEach [] env))) := by
  have e : eval (.Call (.Attribute o m apos) es [] pos) env = (do
    let ov ← attributeBase o m env (eval o env)
    standAt apos.atName
    methodCall o m apos pos env ov (es.length + ([] : List Keyword).length) (backTo pos (starEach es env)) (backToKw pos (keywordEach [] env))) := by rfl
  rw [e, base_ok hb]
  congr 1
  funext ov
  congr 1
  funext _
  exact mcall_line (form_ok h hl) hp

section
variable {X : Cx} {W : WX} {C : Ctx}
/-! ### methods of built-in types -/
/-- the value is of that builtin type, and has no dict of its own -/
def tyG (K : PySem.W.Frag) (T : String) (x : V) (H : Hp) : Prop := tyV K T x H ∨ T = "tuple" ∧ ∃ p ns, x = .ref p ∧ TpcR H p ns
theorem tyG_is {pins : List (Addr × Obj)} {σ : L2.St} {H : Hp} {s : Shared} {T : String} {x : V} {v : Value} (I : Inv X pins σ H s) (r : RelV x v) (ty : tyG X.K T x H) :
    s.TypeIs v T ∧ ∀ a, v = .ref a → ∃ ob, s.heap.get? a = some ob ∧ ob.dict = none := by
  rcases ty with ty | ⟨rfl, p, ns, rfl, ob, e, hc, hd⟩
  · exact tyV_is I r ty
  · cases r
    have g := (I.hok p _ e).1
    refine ⟨⟨ob, g, hc⟩, fun a e => ?_⟩
    cases e
    exact ⟨ob, g, hd⟩
def rMet (X : Cx) (name : Str) (x : V) (H : Hp) (k : (List V → Hp → VK → Prop) → Prop) : Prop := ∃ T id, PlainAttrs T ∧ Slot T name id ∧ typeOf (.builtin id) = pure (.type "method_descriptor") ∧ tyG X.K T x H ∧ k fun xs H2 Q => ∃ r, MtR X id r ∧ r x xs H2 Q
theorem pe_bmG {o e : Expr} {es : List Expr} {to : TE} {t : TA} {name : Str} {apos cpos : Pos} (ho : PE X o to) (ha : PA X (e :: es) t) (hb : baseOk o = true) (hn : (e :: es).all notStar = true) (hl : (e :: es).length < 20) (hp : (apos.endLine == cpos.line) = true) :
    PE X (.Call (.Attribute o name apos) (e :: es) [] cpos) (fun σ H Q => to σ H fun x H1 => rMet X name x H1 fun k => t σ H1 fun xs H2 => k xs H2 Q) := by
  refine ⟨fun pins s σ H Q I h => ?_⟩
  have hfew : ((backTo cpos (starEach (e :: es) X.env)).all (fun x => !x.1) && (backToKw cpos (keywordEach [] X.env)).all (fun x => x.1.isSome)
      && decide ((e :: es).length + ([] : List Keyword).length + (if ([] : List Keyword).isEmpty then 0 else 1) < 30)) = true := by
    rw [star_few hn]
    simp [keywordEach, backToKw]
    simp at hl
    omega
  refine wpAny_Call_method_late (base_ok hb) hfew hp rfl (thn (ho.run pins s σ H _ I h) fun v s1 ⟨x, H1, I1, r1, T, id, pa, slot, hty, ty, q1⟩ => ?_)
  obtain ⟨h1, h2⟩ := tyG_is I1 r1 ty
  refine ⟨T, id, pa, slot, hty, h1, h2, ?_⟩
  have hA := ha.run cpos pins s1 σ H1 _ I1 q1
  simp only [List.all_cons, Bool.and_eq_true] at hn
  rw [star_cons hn.1] at hA ⊢
  refine Calls.callWith_builtin (by show (false || (backTo cpos (starEach es X.env)).any (·.1)) = false; rw [star_plain hn.2] <;> rfl) (Calls.evalArgs_plain ?_)
  exact thn hA fun us s2 ⟨vs, H2, I2, r2, r, hm, q2⟩ => hm pins s2 σ H2 x vs v us Q I2 r1 r2 q2
theorem pe_bmG0 {o : Expr} {to : TE} {name : Str} {apos cpos : Pos} (ho : PE X o to) (hb : baseOk o = true) (hp : (apos.endLine == cpos.line) = true) :
    PE X (.Call (.Attribute o name apos) [] [] cpos) (fun σ H Q => to σ H fun x H1 => rMet X name x H1 fun k => k [] H1 Q) := by
  refine ⟨fun pins s σ H Q I h => ?_⟩
  refine wpAny_Call_method0_late (base_ok hb) hp (thn (ho.run pins s σ H _ I h) fun v s1 ⟨x, H1, I1, r1, T, id, pa, slot, hty, ty, r, hm, q1⟩ => ?_)
  obtain ⟨h1, h2⟩ := tyG_is I1 r1 ty
  exact ⟨T, id, pa, slot, hty, h1, h2, Calls.callWith_builtin rfl (PySem.evalArgs_none (hm pins s1 σ H1 x [] v [] Q I1 r1 .nil q1))⟩

def meN : Me → String
  | .append => "append"
  | .tcount => "count"
  | .reverse => "reverse"
  | .count => "count"
  | .remove => "remove"
  | .pop => "pop"
  | .get => "get"
  | .setd => "setdefault"
  | .clear => "clear"
  | .sfind => "find"
  | .supper => "upper"
  | .sjoin => "join"
  | .ssplit => "split"
  | .slstrip => "lstrip"
/-- whose method it is -/
def meT : Me → String
  | .tcount => "tuple"
  | .get => "dict"
  | .setd => "dict"
  | .sfind => "str"
  | .supper => "str"
  | .sjoin => "str"
  | .ssplit => "str"
  | .slstrip => "str"
  | _ => "list"
theorem cellL_of {K : PySem.W.Frag} {θ : Th} {H : Hp} {s : Sto} (R : RelS K θ H s) {d : D} {v : V} {n : Nat} {l : List D} (r : Rep θ H d v) (h : cellL s d = some (n, l)) : s[n]? = some (.lst l) ∧ ∃ a vs, v = .ref a ∧ θ.c[n]? = some a ∧ H a = some (.lst vs) ∧ Reps θ H l vs := by
  cases r with
  | @ref m a e =>
    cases hc : s[m]? with
    | none => simp [cellL, hc] at h
    | some c =>
      cases c with
      | lst l' =>
        simp [cellL, hc] at h
        obtain ⟨rfl, rfl⟩ := h
        obtain ⟨vs, e1, r1⟩ := R.cell _ _ _ hc e
        exact ⟨hc, a, vs, rfl, e, e1, r1⟩
      | ins _ _ => simp [cellL, hc] at h
      | dct _ => simp [cellL, hc] at h
      | tpc _ => simp [cellL, hc] at h
  | _ => simp [cellL] at h
/-- a cell is written -/
theorem Ext.put {θ : Th} {H : Hp} {K : PySem.W.Frag} {s : Sto} (R : RelS K θ H s) {n : Nat} {a : Addr} {o : HO} (h : θ.c[n]? = some a) : Ext θ H θ (upd H a o) :=
  ⟨Ext0.grow (.inl (List.mem_of_getElem? h)), rfl, fun b m => upd_ne fun e => (R.ban b m).2 (e ▸ List.mem_of_getElem? h)⟩
theorem RelS.put {K : PySem.W.Frag} {θ : Th} {H : Hp} {s : Sto} {n : Nat} {a : Addr} {o : HO} {c : Cell} (R : RelS K θ H s) (h : θ.c[n]? = some a) (hc : CellR K θ (upd H a o) a c) : RelS K θ (upd H a o) (s.set n c) where
  len := by rw [R.len, List.length_set]
  nd := R.nd
  cell := fun i c' b h1 h2 => by
    by_cases e : n = i
    · subst e
      have e2 : a = b := get_inj h h2
      subst e2
      have hl : n < s.length := by
        have := (List.getElem?_eq_some_iff.mp h1).1
        simpa using this
      rw [List.getElem?_set_self hl] at h1
      cases h1
      exact hc
    · rw [List.getElem?_set_ne e] at h1
      have ne : b ≠ a := fun q => by
        subst q
        exact e ((List.getElem_inj (h₀ := (List.getElem?_eq_some_iff.mp h).1) (h₁ := (List.getElem?_eq_some_iff.mp h2).1) R.nd).mp ((List.getElem?_eq_some_iff.mp h).2.trans (List.getElem?_eq_some_iff.mp h2).2.symm))
      exact (R.cell i c' b h1 h2).ext0 (Ext.put R h).toExt0 (upd_ne ne)
  ban := fun b m => by
    have ne : b ≠ a := fun e => (R.ban b m).2 (e ▸ List.mem_of_getElem? h)
    rw [upd_ne ne]
    exact R.ban b m
theorem Inv.small {pins : List (Addr × Obj)} {σ : L2.St} {H : Hp} {s : Shared} {a : Addr} {xs : List V} (I : Inv X pins σ H s) (h : H a = some (.lst xs)) : xs.length ≤ sizeLine := (I.hok a _ h).1
theorem erase_ix {ns : List Int} {k : Int} (h : k ∈ ns) : ∃ j : Nat, ns[j]? = some k ∧ (∀ m : Nat, m < j → ns[m]? ≠ some k) ∧ ns.eraseIdx j = ns.erase k := by
  induction ns with
  | nil => cases h
  | cons n ns ih =>
    by_cases e : n = k
    · subst e
      exact ⟨0, rfl, fun m hm => absurd hm (Nat.not_lt_zero _), by simp⟩
    · have h' : k ∈ ns := by
        rcases List.mem_cons.mp h with q | q
        · exact absurd q.symm e
        · exact q
      obtain ⟨j, h1, h2, h3⟩ := ih h'
      refine ⟨j + 1, by simpa using h1, fun m hm => ?_, ?_⟩
      · cases m with
        | zero => simpa using e
        | succ m => simpa using h2 m (by omega)
      · rw [List.eraseIdx_cons_succ, h3, List.erase_cons_tail (by simpa using e)]
/-- what a method does, by the interpreter -/
theorem mt_dget (hu : X.A.units + 1 < cLine) : MtR X "dict.get" (fun x vs H Q => ∃ a y d o, x = .ref a ∧ vs = [y, d] ∧ DGet H a y o ∧ Q (o.getD d) H) := by
  intro pins s σ H x xs v us Q I rx rs h
  obtain ⟨a, y, d, o, rfl, rfl, g, q⟩ := h
  obtain rfl : v = Value.ref a := rx
  obtain ⟨u1, u2, rfl, r1, r2⟩ := vals2 rs
  exact d_get2 hu I g r1 r2 fun w' s' I' rw' => ⟨_, H, I', rw', q⟩
theorem mt_dsetd : MtR X "dict.setdefault" (fun x vs H Q => ∃ a kvs k d, x = .ref a ∧ vs = [kV k, d] ∧ H a = some (.dK kvs) ∧ kvs.length < sizeLine ∧ (∀ v, valV kvs k = some v → Q v H) ∧ (valV kvs k = none → Q d (upd H a (.dK (putK kvs k d))))) := by
  intro pins s σ H x xs v us Q I rx rs h
  obtain ⟨a, kvs, k, d, rfl, rfl, e, hl, q1, q2⟩ := h
  obtain rfl : v = Value.ref a := rx
  obtain ⟨u1, u2, rfl, r1, r2⟩ := vals2 rs
  exact d_setd I e r1 r2 hl (fun w hw w' s' I' rw' => ⟨w, H, I', rw', q1 w hw⟩) fun hn w' s' I' rw' => ⟨d, _, I', rw', q2 hn⟩
theorem count_toS (zs : List String) (k : String) : (zs.map toS).count (toS k) = zs.count k := by
  induction zs with
  | nil => rfl
  | cons z zs ih => rw [List.map_cons, List.count_cons, List.count_cons, ih, toS_beq]
theorem Reps.eraseIdx {θ : Th} {H : Hp} : ∀ {ds : List D} {vs : List V} (i : Nat), Reps θ H ds vs → Reps θ H (ds.eraseIdx i) (vs.eraseIdx i)
  | _, _, _, .nil => .nil
  | _, _, 0, .cons _ t => t
  | _, _, i + 1, .cons r t => .cons r (Reps.eraseIdx i t)
def rCntN : V → List V → Hp → VK → Prop := fun x xs H Q => ∃ (p : Addr) (ns : List Int) (k : Int), x = .ref p ∧ xs = [.int k] ∧ Rd H p (.tup (ns.map V.int)) ∧ Q (.int (ns.count k : Nat)) H
theorem mt_tcount : MtR X "tuple.count" rCntN := by
  intro pins s σ H x xs v us Q I rx rxs h
  obtain ⟨p, ns, k, rfl, rfl, hs, q⟩ := h
  cases rx
  obtain ⟨u, rfl, ru⟩ := rxs.one
  obtain ⟨t, rfl⟩ := ru
  obtain ⟨its, rv, ⟨⟨cls, dd, data, sl⟩, ho, hc, n, hd⟩, hlen⟩ := I.tuple (.inl hs)
  simp only at hc hd
  subst hc hd
  have hi := ints_of_vals rv
  refine call_meets PySem.F.slot_tuple_count ⟨_, ho, rfl⟩ PySem.F.entry_tuple_count (PySem.F.args_tuple_count_2 _ _)
    (SeqAt.tuple_countAt p its.toArray n dd sl (.int k t) (eqk k)) ⟨ho, fun y hy => (eqk_gives hi y (by simpa using hy)).at _ _, ?_⟩
  have ec : its.toArray.toList.countP (eqk k) = ns.count k := eqk_count hi
  refine ⟨.int (ns.count k : Nat), H, I.tok _, ⟨s.toks, ?_⟩, q⟩
  show Value.int ((its.toArray.toList.countP (eqk k) : Nat) : Int) s.toks = Value.int ((ns.count k : Nat) : Int) s.toks
  rw [ec]
theorem met_go (hu : X.A.units + 1 < cLine) (m : Me) {σ : L2.St} {θ : Th} {H : Hp} {s : Sto} {Q : VK} {d : D} {x : V} {ds : List D} {vs : List V} (R : RelS X.K θ H s) (r : Rep θ H d x) (rs : Reps θ H ds vs) (h : PostE X.K W σ Q θ H (metD m d ds s)) :
    ∃ r', MtR X (meT m ++ "." ++ meN m) r' ∧ r' x vs H Q := by
  cases m with
  | tcount =>
    match ds, rs, h with
    | [], _, h => exact False.elim h
    | _ :: _ :: _, _, h => (simp [metD, PostE] at h)
    | [e], rs, h =>
      obtain ⟨w, rfl, r2⟩ := rs.one
      cases r2 with
      | int k =>
        simp only [metD] at h
        split at h
        · rename_i ns hn
          obtain ⟨a, rfl, ob, e1, _⟩ := cellT_rd R r hn
          exact ⟨_, mt_tcount, a, ns, k, rfl, rfl, .inr ⟨ob, e1⟩, h.val R (.int _)⟩
        · exact h.elim
      | _ => (simp [metD, PostE] at h)
  | append =>
    match ds, rs, h with
    | [], _, h => exact False.elim h
    | _ :: _ :: _, _, h => exact False.elim h
    | [e], rs, h =>
      obtain ⟨w, rfl, r2⟩ := rs.one
      simp only [metD] at h
      split at h
      · rename_i n l hc
        split at h
        · rename_i hl
          obtain ⟨h1, a, us, rfl, h2, h3, h4⟩ := cellL_of R r hc
          refine ⟨_, mt_append, a, us, w, rfl, rfl, h3, by rw [← h4.length]; exact Nat.lt_of_lt_of_le hl lim_le, ?_⟩
          have x1 : Ext θ H θ (upd H a (.lst (us ++ [w]))) := Ext.put R h2
          exact h θ _ .non x1 (R.put h2 ⟨_, upd_same, (h4.append (.cons r2 .nil)).ext x1⟩) .non
        · exact h.elim
      · exact h.elim
  | reverse =>
    match ds, rs, h with
    | _ :: _, _, h => exact False.elim h
    | [], rs, h =>
      cases rs
      simp only [metD] at h
      split at h
      · rename_i n l hc
        obtain ⟨h1, a, us, rfl, h2, h3, h4⟩ := cellL_of R r hc
        refine ⟨_, mt_reverse, a, us, rfl, rfl, h3, ?_⟩
        have x1 : Ext θ H θ (upd H a (.lst us.reverse)) := Ext.put R h2
        exact h θ _ .non x1 (R.put h2 ⟨_, upd_same, h4.reverse.ext x1⟩) .non
      · exact h.elim
  | clear =>
    match ds, rs, h with
    | _ :: _, _, h => exact False.elim h
    | [], rs, h =>
      cases rs
      simp only [metD] at h
      split at h
      · rename_i n l hc
        obtain ⟨h1, a, us, rfl, h2, h3, h4⟩ := cellL_of R r hc
        refine ⟨_, mt_clear, a, us, rfl, rfl, h3, ?_⟩
        have x1 : Ext θ H θ (upd H a (.lst [])) := Ext.put R h2
        exact h θ _ .non x1 (R.put h2 ⟨_, upd_same, .nil⟩) .non
      · exact h.elim
  | sfind =>
    match ds, rs, h with
    | [], _, h => cases r <;> exact False.elim h
    | _ :: _ :: _, _, h => cases r <;> (simp [metD, PostE] at h)
    | [e], rs, h =>
      obtain ⟨w, rfl, r2⟩ := rs.one
      cases r with
      | str z =>
        cases r2 with
        | str y =>
          simp only [metD] at h
          split at h
          · rename_i c hc
            refine ⟨_, mt_find, toS z, toS y, rfl, rfl, ?_⟩
            rw [find_txt z y c hc]
            exact h.val R (.int _)
          · exact h.elim
        | _ => exact False.elim h
      | _ => exact False.elim h
  | supper =>
    match ds, rs, h with
    | _ :: _, _, h => cases r <;> exact False.elim h
    | [], rs, h =>
      cases rs
      cases r with
      | str z =>
        simp only [metD] at h
        split at h
        · rename_i hc
          refine ⟨_, mt_upper, toS z, rfl, rfl, ?_, ?_⟩
          · rw [toS_length]
            have : z.length ≤ 1000000 := hc.2
            omega
          · rw [upper_txt z hc.1]
            exact h.val R (.str _)
        · exact h.elim
      | _ => exact False.elim h
  | sjoin =>
    match ds, rs, h with
    | [], _, h => cases r <;> exact False.elim h
    | _ :: _ :: _, _, h => cases r <;> (simp [metD, PostE] at h)
    | [e], rs, h =>
      obtain ⟨w, rfl, r2⟩ := rs.one
      cases r with
      | str z =>
        simp only [metD] at h
        split at h
        · rename_i l hl
          obtain ⟨a, vs, rfl, ha, ra⟩ := asL_rd R r2 hl
          split at h
          · rename_i zs hzs
            obtain ⟨rfl, rfl⟩ := ra.textsV hzs
            split at h
            · rename_i hc
              refine ⟨_, mt_join, toS z, a, zs.map toS, rfl, rfl, .inl (.inl ?_), ?_, ?_⟩
              · exact ha
              · have e1 : (List.map (fun x => x.length) (zs.map toS)).sum = (zs.map String.length).sum := by
                  rw [List.map_map]
                  congr 1
                  exact List.map_congr_left fun y _ => toS_length y
                rw [e1, List.length_map, toS_length]
                have : (zs.map String.length).sum + zs.length * z.length ≤ 1000000 := hc
                omega
              · rw [join_txt]
                exact h.val R (.str _)
            · exact h.elim
          · exact h.elim
        · exact h.elim
      | _ => exact False.elim h
  | ssplit =>
    match ds, rs, h with
    | [], _, h => cases r <;> exact False.elim h
    | _ :: _ :: _, _, h => cases r <;> (simp [metD, PostE] at h)
    | [e], rs, h =>
      obtain ⟨w, rfl, r2⟩ := rs.one
      cases r with
      | str z =>
        cases r2 with
        | str y =>
          simp only [metD] at h
          split at h
          · rename_i c hc
            split at h
            · rename_i hl
              refine ⟨_, mt_split, toS z, toS y, rfl, rfl, ?_, ?_, ?_⟩
              · rw [toS_length]
                have : y.length = 1 := by rw [← String.length_toList, hc]; rfl
                rw [this]
                rfl
              · rw [toS_length]
                exact Nat.le_trans hl.2 lim_le
              · rw [split_txt z y c hc hl.1]
                intro p hp
                have rr : Reps θ H ((cutC c [] z.toList).map fun l => KL.D.str (String.ofList l)) (((cutC c [] z.toList).map fun l => toS (String.ofList l)).map V.str) := by
                  generalize cutC c [] z.toList = ls
                  induction ls with
                  | nil => exact .nil
                  | cons l ls ih => exact .cons (.str _) ih
                exact h.lst R rr p hp
            · exact h.elim
          · exact h.elim
        | _ => exact False.elim h
      | _ => exact False.elim h
  | slstrip =>
    match ds, rs, h with
    | [], _, h => cases r <;> exact False.elim h
    | _ :: _ :: _, _, h => cases r <;> (simp [metD, PostE] at h)
    | [e], rs, h =>
      obtain ⟨w, rfl, r2⟩ := rs.one
      cases r with
      | str z =>
        cases r2 with
        | str y =>
          simp only [metD] at h
          split at h
          · rename_i c hc
            split at h
            · rename_i hl
              refine ⟨_, mt_lstripChars, toS z, toS y, rfl, rfl, ?_, ?_⟩
              · rw [toS_length]
                exact Nat.le_trans hl lim_le
              · rw [lstrip_txt z y c hc]
                exact h.val R (.str _)
            · exact h.elim
          · exact h.elim
        | _ => exact False.elim h
      | _ => exact False.elim h
  | pop =>
    match ds, rs, h with
    | _ :: _ :: _, _, h => (simp [metD, PostE] at h)
    | [e], rs, h =>
      obtain ⟨w, rfl, r2⟩ := rs.one
      cases r2 with
      | int i =>
        simp only [metD] at h
        split at h
        · rename_i n l hc
          split at h
          · rename_i hi
            split at h
            · rename_i e he
              obtain ⟨h1, a, us, rfl, h2, h3, h4⟩ := cellL_of R r hc
              obtain ⟨y, hy, ry⟩ := h4.get he
              have hlt : i.toNat < us.length := (List.getElem?_eq_some_iff.mp hy).1
              refine ⟨_, mt_popAt, a, us, i, i.toNat, y, rfl, rfl, h3, by omega, by omega, ?_, hy, ?_⟩
              · unfold PySem.seqIndex?
                simp
                omega
              · have x1 : Ext θ H θ (upd H a (.lst (us.eraseIdx i.toNat))) := Ext.put R h2
                exact h θ _ y x1 (R.put h2 ⟨_, upd_same, (h4.eraseIdx _).ext x1⟩) (ry.ext x1)
            · exact h.elim
          · exact h.elim
        · exact h.elim
      | _ => exact False.elim h
    | [], rs, h =>
      cases rs
      simp only [metD] at h
      split at h
      · rename_i n l hc
        split at h
        · rename_i e he
          obtain ⟨h1, a, us, rfl, h2, h3, h4⟩ := cellL_of R r hc
          rw [List.getLast?_eq_getElem?] at he
          obtain ⟨y, hy, ry⟩ := h4.get he
          refine ⟨_, mt_pop, a, us, y, rfl, rfl, h3, by rw [← h4.length]; exact hy, ?_⟩
          have x1 : Ext θ H θ (upd H a (.lst us.dropLast)) := Ext.put R h2
          exact h θ _ y x1 (R.put h2 ⟨_, upd_same, h4.dropLast.ext x1⟩) (ry.ext x1)
        · exact h.elim
      · exact h.elim
  | remove =>
    match ds, rs, h with
    | [], _, h => exact False.elim h
    | _ :: _ :: _, _, h => exact False.elim h
    | [e], rs, h =>
      obtain ⟨w, rfl, r2⟩ := rs.one
      simp only [metD] at h
      split at h
      · rename_i n l k hc
        split at h
        · rename_i ns hn
          split at h
          · rename_i hk
            cases r2
            obtain ⟨h1, a, us, rfl, h2, h3, h4⟩ := cellL_of R r hc
            obtain ⟨rfl, rfl⟩ := h4.intsV hn
            obtain ⟨j, j1, j2, j3⟩ := erase_ix hk
            refine ⟨_, mt_remove, a, ns, k, j, rfl, rfl, h3, j1, j2, ?_⟩
            rw [j3]
            have x1 : Ext θ H θ (upd H a (.lst ((ns.erase k).map V.int))) := Ext.put R h2
            exact h θ _ .non x1 (R.put h2 ⟨_, upd_same, Reps.ofInts _⟩) .non
          · exact h.elim
        · exact h.elim
      · exact h.elim
  | count =>
    match ds, rs, h with
    | [], _, h => exact False.elim h
    | _ :: _ :: _, _, h => (simp [metD, PostE] at h)
    | [e], rs, h =>
      obtain ⟨w, rfl, r2⟩ := rs.one
      cases r2 with
      | int k =>
        simp only [metD] at h
        split at h
        · rename_i l k' hc hk
          cases hk
          split at h
          · rename_i ns hn
            obtain ⟨a, us, rfl, h2, h4⟩ := asL_rd R r hc
            obtain ⟨rfl, rfl⟩ := h4.intsV hn
            exact ⟨_, mt_lcount, a, ns, k, rfl, rfl, .inl h2, h.val R (.int _)⟩
          · exact h.elim
        · exact h.elim
      | str k =>
        simp only [metD] at h
        split at h
        · rename_i l hc
          split at h
          · rename_i zs hz
            obtain ⟨a, us, rfl, h2, h4⟩ := asL_rd R r hc
            obtain ⟨rfl, rfl⟩ := h4.textsV hz
            refine ⟨_, mt_lcountS, a, zs.map toS, toS k, rfl, rfl, .inl h2, ?_⟩
            rw [count_toS]
            exact h.val R (.int _)
          · exact h.elim
        · exact h.elim
      | _ => simp only [metD] at h; split at h <;> first | exact h.elim | (rename_i e1 e2; cases e2) | skip
  | get =>
    match ds, rs, h with
    | [], _, h => exact False.elim h
    | [_], _, h => exact False.elim h
    | _ :: _ :: _ :: _, _, h => exact False.elim h
    | [e, f], rs, h =>
      obtain ⟨w, w2, rfl, r2, r3⟩ := rs.two
      simp only [metD] at h
      split at h
      · rename_i n kvs k hc hk
        obtain ⟨_, a, ws, rfl, ea, e1, e2, e3⟩ := cellK_rd R r hc
        refine ⟨_, mt_dget hu, a, w, w2, valV ws (toK k), rfl, rfl, by rw [key_rep r2 hk]; exact DGet.k e1, ?_⟩
        have hv := dct_val (k := k) e2 e3
        cases hd : valD kvs k with
        | none =>
          rw [hd] at hv h
          rw [show valV ws (toK k) = none from hv]
          exact h.val R r3
        | some d' =>
          rw [hd] at hv h
          obtain ⟨v, hv, rv⟩ := hv
          rw [hv]
          exact h.val R rv
      · exact h.elim
  | setd =>
    match ds, rs, h with
    | [], _, h => exact False.elim h
    | [_], _, h => exact False.elim h
    | _ :: _ :: _ :: _, _, h => exact False.elim h
    | [e, f], rs, h =>
      obtain ⟨w, w2, rfl, r2, r3⟩ := rs.two
      simp only [metD] at h
      split at h
      · rename_i n kvs k hc hk
        obtain ⟨hs, a, ws, rfl, ea, e1, e2, e3⟩ := cellK_rd R r hc
        have hv := dct_val (k := k) e2 e3
        cases hd : valD kvs k with
        | none =>
          rw [hd] at hv h
          dsimp only at h
          split at h
          · rename_i hl
            have ll : ws.length = kvs.length := by have := congrArg List.length e2; simpa using this
            refine ⟨_, mt_dsetd, a, ws, toK k, w2, rfl, by rw [key_rep r2 hk], e1, by rw [ll]; exact Nat.lt_of_lt_of_le hl lim_le, fun v hv2 => ?_, fun _ => ?_⟩
            · rw [show valV ws (toK k) = none from hv] at hv2
              cases hv2
            · have xp : Ext θ H θ (upd H a (.dK (putK ws (toK k) w2))) := Ext.put R ea
              obtain ⟨p1, p2⟩ := dct_put (k := k) r3 e2 e3
              exact h θ _ w2 xp (R.put ea ⟨_, upd_same, p1, p2.ext xp⟩) (r3.ext xp)
          · exact h.elim
        | some d' =>
          rw [hd] at hv h
          obtain ⟨v, hv, rv⟩ := hv

          have h' : PostE X.K W σ Q θ H (if kvs.length < lim then .ok d' s else .bad) := h
          split at h'
          · rename_i hl
            have ll : ws.length = kvs.length := by have := congrArg List.length e2; simpa using this
            refine ⟨_, mt_dsetd, a, ws, toK k, w2, rfl, by rw [key_rep r2 hk], e1, by rw [ll]; exact Nat.lt_of_lt_of_le hl lim_le, fun v2 hv2 => ?_, fun hn => ?_⟩
            · rw [hv] at hv2
              cases hv2
              exact h'.val R rv
            · rw [hv] at hn
              cases hn
          · exact h'.elim
      · exact h.elim
theorem recv_go (m : Me) {θ : Th} {H : Hp} {s : Sto} {d : D} {x : V} (R : RelS X.K θ H s) (r : Rep θ H d x) (h : recvOk m s d = true) {k : (List V → Hp → VK → Prop) → Prop} (q : k fun xs H2 Q => ∃ r, MtR X (meT m ++ "." ++ meN m) r ∧ r x xs H2 Q) : rMet X (toS (meN m)) x H k := by
  have ty : recvOk .append s d = true → tyV X.K "list" x H := fun h => by
    unfold recvOk at h
    obtain ⟨l, hl⟩ := Option.isSome_iff_exists.mp h
    obtain ⟨a, vs, rfl, h1, _⟩ := asL_rd R r hl
    exact .inl ⟨rfl, vs, .inl h1⟩
  have tys : recvOk .sfind s d = true → tyV X.K "str" x H := fun h => by
    cases r with
    | str z => exact rfl
    | _ => cases h
  have tyd : recvOk .get s d = true → tyV X.K "dict" x H := fun h => by
    unfold recvOk at h
    obtain ⟨⟨n, kvs⟩, hl⟩ := Option.isSome_iff_exists.mp h
    obtain ⟨_, a, ws, rfl, _, e1, _⟩ := cellK_rd R r hl
    exact .inr (.inr (.inl ⟨rfl, .inl ⟨ws, e1⟩⟩))
  have tyt : recvOk .tcount s d = true → tyG X.K "tuple" x H := fun h => by
    unfold recvOk at h
    obtain ⟨ns, hl⟩ := Option.isSome_iff_exists.mp h
    obtain ⟨a, ea, qt⟩ := cellT_rd R r hl
    exact .inr ⟨rfl, a, ns, ea, qt⟩
  cases m with
  | tcount => exact ⟨_, _, PySem.F.plainAttrs_tuple, PySem.F.slot_tuple_count, PySem.F.type_tuple_count, tyt h, q⟩
  | append => exact ⟨_, _, PySem.F.plainAttrs_list, PySem.F.slot_list_append, PySem.F.type_list_append, .inl (ty h), q⟩
  | reverse => exact ⟨_, _, PySem.F.plainAttrs_list, PySem.F.slot_list_reverse, PySem.F.type_list_reverse, .inl (ty h), q⟩
  | count => exact ⟨_, _, PySem.F.plainAttrs_list, PySem.F.slot_list_count, PySem.F.type_list_count, .inl (ty h), q⟩
  | remove => exact ⟨_, _, PySem.F.plainAttrs_list, PySem.F.slot_list_remove, PySem.F.type_list_remove, .inl (ty h), q⟩
  | pop => exact ⟨_, _, PySem.F.plainAttrs_list, PySem.F.slot_list_pop, PySem.F.type_list_pop, .inl (ty h), q⟩
  | get => exact ⟨_, _, PySem.F.plainAttrs_dict, PySem.F.slot_dict_get, PySem.F.type_dict_get, .inl (tyd h), q⟩
  | setd => exact ⟨_, _, PySem.F.plainAttrs_dict, PySem.F.slot_dict_setdefault, PySem.F.type_dict_setdefault, .inl (tyd h), q⟩
  | clear => exact ⟨_, _, PySem.F.plainAttrs_list, PySem.F.slot_list_clear, PySem.F.type_list_clear, .inl (ty h), q⟩
  | sfind => exact ⟨_, _, PySem.F.plainAttrs_str, PySem.F.slot_str_find, PySem.F.type_str_find, .inl (tys h), q⟩
  | supper => exact ⟨_, _, PySem.F.plainAttrs_str, PySem.F.slot_str_upper, PySem.F.type_str_upper, .inl (tys h), q⟩
  | sjoin => exact ⟨_, _, PySem.F.plainAttrs_str, PySem.F.slot_str_join, PySem.F.type_str_join, .inl (tys h), q⟩
  | ssplit => exact ⟨_, _, PySem.F.plainAttrs_str, PySem.F.slot_str_split, PySem.F.type_str_split, .inl (tys h), q⟩
  | slstrip => exact ⟨_, _, PySem.F.plainAttrs_str, PySem.F.slot_str_lstrip, PySem.F.type_str_lstrip, .inl (tys h), q⟩
theorem s_met (hu : X.A.units + 1 < cLine) {m : Me} {o e : Expr} {es : List Expr} {io : E} {irs : List E} {apos cpos : Pos} (ho : PE X o (tE X.K W C io)) (ha : PA X (e :: es) (tEs X.K W C irs)) (hb : baseOk o = true) (hn : (e :: es).all notStar = true) (hl : (e :: es).length < 20) (hp : (apos.endLine == cpos.line) = true) :
    PE X (.Call (.Attribute o (toS (meN m)) apos) (e :: es) [] cpos) (tE X.K W C (.met m io irs)) := PE.imp (pe_bmG ho ha hb hn hl hp) fun σ H Q ⟨θ, s, ρ, R, V, h⟩ => by
  unfold evalE at h
  refine tE.sub R V (PostE.bind h) fun x H1 ⟨θ1, s1, d, x1, R1, r1, h1⟩ => ?_
  dsimp only at h1
  split at h1
  · rename_i hr
    refine recv_go m R1 r1 hr ⟨θ1, s1, ρ, R1, V.ext x1, (PostL.bind h1).mono fun vs H2 ⟨θ2, s2, ds, x2, R2, r2, h2⟩ => ?_⟩
    exact met_go hu m R2 (r1.ext x2) r2 h2
  · exact h1.elim
theorem s_met0 (hu : X.A.units + 1 < cLine) {m : Me} {o : Expr} {io : E} {apos cpos : Pos} (ho : PE X o (tE X.K W C io)) (hb : baseOk o = true) (hp : (apos.endLine == cpos.line) = true) :
    PE X (.Call (.Attribute o (toS (meN m)) apos) [] [] cpos) (tE X.K W C (.met m io [])) := PE.imp (pe_bmG0 ho hb hp) fun σ H Q ⟨θ, s, ρ, R, V, h⟩ => by
  unfold evalE at h
  refine tE.sub R V (PostE.bind h) fun x H1 ⟨θ1, s1, d, x1, R1, r1, h1⟩ => ?_
  dsimp only at h1
  split at h1
  · rename_i hr
    unfold evalEs at h1
    exact recv_go m R1 r1 hr (met_go hu m R1 r1 .nil h1)
  · exact h1.elim

/-! ### calls of own defs -/
def PostC (K : PySem.W.Frag) (E : XK) (Q : VK) (θ : Th) (H : Hp) (r : RE) : Prop := PostE K (fun c d _ H => E c d H) [] Q θ H r
theorem PostE.toC {K : PySem.W.Frag} {σ : L2.St} {Q : VK} {θ : Th} {H : Hp} {r : RE} (h : PostE K W σ Q θ H r) : PostC K (WE W σ) Q θ H r := by
  cases r <;> exact h
/-- what the def f hands back, whoever calls it -/
structure CallOk (X : Cx) (C : Ctx) (f : String) : Prop where
  ex : ∃ (fa : Addr) (fd : FuncData) (ps : List Str) (n : Nat) (sp : Sp), FnOk X.prog X.w X.K X.mg X.base (L2.CX X.prog X.w) n fa fd ps sp ∧ Room n X.A ∧ X.mg (toS f) = some (.ref fa) ∧ PySem.W.keepIn X.K (.ref fa) = true ∧ Binds X.K fd ps [] ∧
    ∀ θ H s ds vs Q (E : XK), RelS X.K θ H s → Reps θ H ds vs → PostC X.K E Q θ H (C.call f ds s) → sp vs H Q E
theorem pe_call0S {k : Nat} {f : Addr} {fd : FuncData} {ps : List Str} {sp : Sp} {E : L2.St → XK} {x : Str} {p pos : Pos} (F : FnOk X.prog X.w X.K X.mg X.base (L2.CX X.prog X.w) k f fd ps sp) (hr : Room k X.A) (hg : Gl X x) (hm : X.mg x = some (.ref f)) (hk : PySem.W.keepIn X.K (.ref f) = true) (hb : Binds X.K fd ps [])
    (hx : ∀ σ, PassesAt (L2.CX X.prog X.w) X σ (E σ)) (hdb : (x == ("__debug__" : Str)) = false) : PE X (.Call (.Name x p) [] [] pos) (tCallS sp E tNil) := by
  refine ⟨fun pins s σ H Q I h => ?_⟩
  refine wpAny_Call_Name_kw (ld_glob I hg hm ?_ hdb)
  exact PySem.W.callWith_K0 I.kIn hk (run_fnS (us := []) F hr hb (hx σ) I .nil h)
theorem s_call {f : String} {e : Expr} {es : List Expr} {irs : List E} {p pos : Pos} (pa : ∀ τ, PassesAt (L2.CX X.prog X.w) X τ (WE W τ)) (F : CallOk X C f) (hg : Gl X (toS f)) (hd : (toS f == ("__debug__" : Str)) = false) (ha : PA X (e :: es) (tEs X.K W C irs)) (hn : (e :: es).all notStar = true) :
    PE X (.Call (.Name (toS f) p) (e :: es) [] pos) (tE X.K W C (.call f irs)) := by
  obtain ⟨fa, fd, ps, n, sp, F, hr, hm, hk, hb, go⟩ := F.ex
  simp only [List.all_cons, Bool.and_eq_true] at hn
  refine PE.imp (pe_callS F hr hg hm hk hb pa ha hd (star_cons hn.1) (star_plain hn.2)) fun σ H Q ⟨θ, s, ρ, R, V, h⟩ => ?_
  unfold evalE at h
  exact ⟨θ, s, ρ, R, V, (PostL.bind h).mono fun vs H1 ⟨θ1, s1, ds, x1, R1, r1, h1⟩ => go θ1 H1 s1 ds vs Q _ R1 r1 h1.toC⟩
theorem s_call0 {f : String} {p pos : Pos} (pa : ∀ τ, PassesAt (L2.CX X.prog X.w) X τ (WE W τ)) (F : CallOk X C f) (hg : Gl X (toS f)) (hd : (toS f == ("__debug__" : Str)) = false) : PE X (.Call (.Name (toS f) p) [] [] pos) (tE X.K W C (.call f [])) := by
  obtain ⟨fa, fd, ps, n, sp, F, hr, hm, hk, hb, go⟩ := F.ex
  refine PE.imp (pe_call0S F hr hg hm hk hb pa hd) fun σ H Q ⟨θ, s, ρ, R, V, h⟩ => ?_
  unfold evalE evalEs at h
  exact go θ H s [] [] Q _ R .nil (PostE.toC h)

/-! ### fields, methods of own classes, new objects -/
theorem look_of {θ : Th} {H : Hp} {f : String} : ∀ {fs : List (String × D)} {vfs : List (Str × V)}, vfs.map (·.1) = fs.map (fun p => toS p.1) → Reps θ H (fs.map (·.2)) (vfs.map (·.2)) →
    (∀ d, lookF f fs = some d → ∃ v, vfs.lookup (toS f) = some v ∧ Rep θ H d v) ∧ (lookF f fs = none → vfs.lookup (toS f) = none)
  | [], [], _, _ => ⟨fun d h => (nomatch h), fun _ => rfl⟩
  | [], _ :: _, h, _ => by cases h
  | _ :: _, [], h, _ => by cases h
  | (g, d) :: fs, (y, v) :: vfs, h, r => by
    simp only [List.map_cons, List.cons.injEq] at h
    obtain ⟨rfl, h2⟩ := h
    cases r with
    | cons r1 r2 =>
      obtain ⟨i1, i2⟩ := look_of (f := f) h2 r2
      by_cases e : f = g
      · subst e
        refine ⟨fun d' hd => ?_, fun hn => ?_⟩
        · simp only [lookF, if_pos] at hd
          cases hd
          exact ⟨v, by simp [List.lookup], r1⟩
        · simp [lookF] at hn
      · have ne : (toS f == toS g) = false := beq_eq_false_iff_ne.mpr fun q => e (toS_inj q)
        refine ⟨fun d' hd => ?_, fun hn => ?_⟩
        · simp only [lookF, if_neg e] at hd
          obtain ⟨v', h3, h4⟩ := i1 d' hd
          exact ⟨v', by simp only [List.lookup, ne]; exact h3, h4⟩
        · simp only [lookF, if_neg e] at hn
          simp only [List.lookup, ne]
          exact i2 hn
structure AttOk (X : Cx) (c f : String) : Prop where
  cl : Cls X.K (He.ga X.K (toS c))
  no : NoAttr X.K (He.ga X.K (toS c)) (toS f)
theorem s_attr {o : Expr} {io : E} {f : String} {pos : Pos} (T : ∀ c, C.att c f = true → AttOk X c f) (ho : PE X o (tE X.K W C io)) (hb : baseOk o = true) : PE X (.Attribute o (toS f) pos) (tE X.K W C (.attr io f)) :=
  PE.imp (pe_fld ho (base_ok hb)) fun σ H Q ⟨θ, s, ρ, R, V, h⟩ => by
    unfold evalE at h
    refine tE.sub R V (PostE.bind h) fun x H1 ⟨θ1, s1, d, x1, R1, r1, h1⟩ => ?_
    cases r1 with
    | @ref n a e =>
      dsimp only at h1
      split at h1
      · rename_i c fs hc
        split at h1
        · rename_i ha
          split at h1
          · rename_i d hd
            obtain ⟨dx, vfs, e1, e2, rs⟩ := R1.cell _ _ _ hc e
            obtain ⟨v, hv, rv⟩ := (look_of e2 rs).1 d hd
            exact ⟨a, _, dx, vfs, v, rfl, e1, (T c ha).cl, (T c ha).no, hv, h1.val R1 rv⟩
          · exact h1.elim
        · exact h1.elim
      · exact h1.elim
    | _ => exact False.elim h1
structure MethOk (X : Cx) (C : Ctx) (c m : String) : Prop where
  cl : Cls X.K (He.ga X.K (toS c))
  ex : ∃ (fa : Addr) (fd : FuncData) (ps : List Str) (n : Nat) (sp : Sp), FnOk X.prog X.w X.K X.mg X.base (L2.CX X.prog X.w) n fa fd ps sp ∧ Room n X.A ∧ Meth X.K (He.ga X.K (toS c)) (toS m) fa ∧ Binds X.K fd ps [] ∧
    ∀ θ H s ds vs Q (E : XK), RelS X.K θ H s → Reps θ H ds vs → PostC X.K E Q θ H (C.call (c ++ "." ++ m) ds s) → sp vs H Q E
/-- what a method of an own class is asked -/
def rUm (X : Cx) (m : Str) (x : V) (H : Hp) (k : Sp → Prop) : Prop := ∃ a Cc dx fs fa fd ps n sp, x = .ref a ∧ H a = some (.ins Cc dx fs) ∧ fs.lookup m = none ∧ Cls X.K Cc ∧ Meth X.K Cc m fa ∧ FnOk X.prog X.w X.K X.mg X.base (L2.CX X.prog X.w) n fa fd ps sp ∧ Room n X.A ∧ Binds X.K fd ps [] ∧ k sp
theorem pe_methG {o e : Expr} {es : List Expr} {m : Str} {ta : TE} {t : TA} {E : L2.St → XK} {apos pos : Pos} (he : PE X o ta) (ha : PA X (e :: es) t) (hx : ∀ σ, PassesAt (L2.CX X.prog X.w) X σ (E σ)) (hb : baseOk o = true) (hn : (e :: es).all notStar = true) (hl : (e :: es).length < 20) (hp : (apos.endLine == pos.line) = true) :
    PE X (.Call (.Attribute o m apos) (e :: es) [] pos) (fun σ H Q => ta σ H fun x H1 => rUm X m x H1 fun sp => t σ H1 fun vs H2 => sp (x :: vs) H2 Q (E σ)) := by
  refine ⟨fun pins s σ H Q I h => ?_⟩
  refine PySem.W.methodCall_KW (pl := plainOf o X.env) (thn (he.run pins s σ H _ I h) fun u s1 ⟨x, H1, I1, rx, a, Cc, dx, fs, fa, fd, ps, n, sp, ex, ea, l, c, hm, F, hr, hbd, q⟩ => ?_) (call_ht hb hn hl hp)
  subst ex
  obtain rfl : u = Value.ref a := rx
  refine getmeth_ok I1 ea c hm l ?_
  have hn' := hn
  simp only [List.all_cons, Bool.and_eq_true] at hn'
  refine PySem.W.callWith_K (first := [.ref a]) (h₀ := X.base) I.ok.mod.kin hm.kp (thn (ha.run pos pins s1 σ H1 _ I1 q) fun us s2 ⟨vs, H2, I2, r, q2⟩ => ⟨I2.kIn, ?_⟩) (star_cons hn'.1) (star_plain hn'.2)
  exact run_fnS (us := .ref a :: us) (vs := .ref a :: vs) F hr hbd (hx σ) I2 (.cons rfl r) q2
theorem pe_methG0 {o : Expr} {m : Str} {ta : TE} {E : L2.St → XK} {apos pos : Pos} (he : PE X o ta) (hx : ∀ σ, PassesAt (L2.CX X.prog X.w) X σ (E σ)) (hb : baseOk o = true) (hp : (apos.endLine == pos.line) = true) :
    PE X (.Call (.Attribute o m apos) [] [] pos) (fun σ H Q => ta σ H fun x H1 => rUm X m x H1 fun sp => sp [x] H1 Q (E σ)) := by
  refine ⟨fun pins s σ H Q I h => ?_⟩
  refine PySem.W.methodCall_KW (pl := plainOf o X.env) (thn (he.run pins s σ H _ I h) fun u s1 ⟨x, H1, I1, rx, a, Cc, dx, fs, fa, fd, ps, n, sp, ex, ea, l, c, hm, F, hr, hbd, q⟩ => ?_) (call_ht hb rfl (by decide) hp)
  subst ex
  obtain rfl : u = Value.ref a := rx
  refine getmeth_ok I1 ea c hm l ?_
  exact PySem.W.callWith_K0 (first := [.ref a]) I1.kIn hm.kp (run_fnS (us := [.ref a]) (vs := [.ref a]) F hr hbd (hx σ) I1 (.cons rfl .nil) q)
theorem um_go {σ : L2.St} {H : Hp} {Q : VK} {m : String} {io : E} {irs : List E} {t : L2.St → Hp → (List V → Hp → Prop) → Prop} (T : ∀ c, C.met c m = true → MethOk X C c m) (h : tE X.K W C (.umet m io irs) σ H Q)
    (ht : ∀ (θ : Th) (s : Sto) (ρ : KL.Env) (H1 : Hp) (P : List V → Hp → Prop), RelS X.K θ H1 s → EnvR θ H1 ρ σ → PostL X.K W σ P θ H1 (evalEs C irs ρ s) → t σ H1 P) :
    tE X.K W C io σ H fun x H1 => rUm X (toS m) x H1 fun sp => t σ H1 fun vs H2 => sp (x :: vs) H2 Q (WE W σ) := by
  obtain ⟨θ, s, ρ, R, V, h⟩ := h
  unfold evalE at h
  refine tE.sub R V (PostE.bind h) fun x H1 ⟨θ1, s1, d, x1, R1, r1, h1⟩ => ?_
  cases r1 with
  | @ref n a e =>
    dsimp only at h1
    split at h1
    · rename_i c fs hc
      split at h1
      · rename_i ha
        split at h1
        · rename_i hd
          obtain ⟨dx, vfs, e1, e2, rs⟩ := R1.cell _ _ _ hc e
          have M := T c ha
          obtain ⟨fa, fd, ps, k, sp, F, hr, hm, hb, go⟩ := M.ex
          refine ⟨a, _, dx, vfs, fa, fd, ps, k, sp, rfl, e1, (look_of e2 rs).2 hd, M.cl, hm, F, hr, hb, ?_⟩
          refine ht θ1 s1 ρ H1 _ R1 (V.ext x1) ((PostL.bind h1).mono fun vs H2 ⟨θ2, s2, ds, x2, R2, r2, h2⟩ => ?_)
          exact go θ2 H2 s2 _ _ Q _ R2 (.cons (.ref (x2.toExt0.get e)) r2) h2.toC
        · exact h1.elim
      · exact h1.elim
    · exact h1.elim
  | _ => exact False.elim h1
theorem s_umet {m : String} {o e : Expr} {es : List Expr} {io : E} {irs : List E} {apos pos : Pos} (pa : ∀ τ, PassesAt (L2.CX X.prog X.w) X τ (WE W τ)) (T : ∀ c, C.met c m = true → MethOk X C c m) (ho : PE X o (tE X.K W C io)) (ha : PA X (e :: es) (tEs X.K W C irs)) (hb : baseOk o = true) (hn : (e :: es).all notStar = true) (hl : (e :: es).length < 20)
    (hp : (apos.endLine == pos.line) = true) : PE X (.Call (.Attribute o (toS m) apos) (e :: es) [] pos) (tE X.K W C (.umet m io irs)) :=
  PE.imp (pe_methG ho ha pa hb hn hl hp) fun σ H Q h => um_go T h fun θ s ρ H1 P R V q => ⟨θ, s, ρ, R, V, q⟩
theorem s_umet0 {m : String} {o : Expr} {io : E} {apos pos : Pos} (pa : ∀ τ, PassesAt (L2.CX X.prog X.w) X τ (WE W τ)) (T : ∀ c, C.met c m = true → MethOk X C c m) (ho : PE X o (tE X.K W C io)) (hb : baseOk o = true) (hp : (apos.endLine == pos.line) = true) :
    PE X (.Call (.Attribute o (toS m) apos) [] [] pos) (tE X.K W C (.umet m io [])) :=
  PE.imp (pe_methG0 ho pa hb hp) fun σ H Q h => um_go (t := fun σ H P => P [] H) T h fun θ s ρ H1 P R V q => by
    unfold evalEs at q
    exact q θ H1 [] (Ext.refl _ _) R .nil
end
end KL

set_option Elab.async false
set_option linter.all false
set_option maxRecDepth 100000
set_option maxHeartbeats 4000000
set_option autoImplicit false
/-! KLChk: whether a text is the writing of a term of the core language; what such a text does. -/
namespace KL
open PySem PySem.Spec PyProof.Rows L2

section
variable {K : PySem.W.Frag} {θ : Th} {H : Hp} {s : Sto}
mutual
/-- a list that is made becomes a cell -/
theorem Rep.box {θ' : Th} {H' : Hp} {a : Addr} : ∀ {d : KL.D} {v : V}, Rep (θ'.mk1 a) H' d v → Rep ⟨θ'.c ++ [a], θ'.b⟩ H' d v
  | _, _, .non => .non
  | _, _, .bl b => .bl b
  | _, _, .int i => .int i
  | _, _, .str z => .str z
  | _, _, .tup h n r => .tup h (fun m => n (by
      rcases m with m | m
      · rcases List.mem_append.mp m with m | m
        · exact .inl m
        · exact .inr (by rw [List.mem_singleton.mp m]; exact List.mem_cons_self)
      · exact .inr (List.mem_cons_of_mem _ m))) (Reps.box r)
  | _, _, .lst h n r => .lst h (fun m => n (by
      rcases m with m | m
      · rcases List.mem_append.mp m with m | m
        · exact .inl m
        · exact .inr (by rw [List.mem_singleton.mp m]; exact List.mem_cons_self)
      · exact .inr (List.mem_cons_of_mem _ m))) (Reps.box r)
  | _, _, .ref (n := n) h => .ref (by
      have hl : n < θ'.c.length := (List.getElem?_eq_some_iff.mp h).1
      show (θ'.c ++ [a])[n]? = _
      rw [List.getElem?_append_left hl]
      exact h)
theorem Reps.box {θ' : Th} {H' : Hp} {a : Addr} : ∀ {ds : List KL.D} {vs : List V}, Reps (θ'.mk1 a) H' ds vs → Reps ⟨θ'.c ++ [a], θ'.b⟩ H' ds vs
  | _, _, .nil => .nil
  | _, _, .cons h t => .cons (Rep.box h) (Reps.box t)
end
theorem CellR.box {θ' : Th} {H' : Hp} {a b : Addr} {c : Cell} (h : CellR K (θ'.mk1 a) H' b c) : CellR K ⟨θ'.c ++ [a], θ'.b⟩ H' b c := by
  cases c with
  | lst l =>
    obtain ⟨vs, h, r⟩ := h
    exact ⟨vs, h, r.box⟩
  | ins c fs =>
    obtain ⟨dx, vfs, h, m, r⟩ := h
    exact ⟨dx, vfs, h, m, r.box⟩
  | dct kvs =>
    obtain ⟨ws, h, m, r⟩ := h
    exact ⟨ws, h, m, r.box⟩
  | tpc ns =>
    exact h
theorem RelS.box {θ' : Th} {H' : Hp} {a : Addr} {l : List KL.D} {vs : List V} (R : RelS K (θ'.mk1 a) H' s) (n : a ∉ θ') (e : H' a = some (.lst vs)) (r : Reps (θ'.mk1 a) H' l vs) : RelS K ⟨θ'.c ++ [a], θ'.b⟩ H' (s ++ [.lst l]) where
  len := by
    have := R.len
    show (θ'.c ++ [a]).length = _
    rw [List.length_append, List.length_append]
    have e : θ'.c.length = s.length := this
    rw [e]
    rfl
  nd := by
    show (θ'.c ++ [a]).Nodup
    rw [List.nodup_append]
    refine ⟨R.nd, by simp, fun x hx y hy => ?_⟩
    rw [List.mem_singleton.mp hy]
    intro q
    exact n (.inl (q ▸ hx))
  cell := fun i c b h1 h2 => by
    have el : θ'.c.length = s.length := R.len
    have h2' : (θ'.c ++ [a])[i]? = some b := h2
    by_cases hi : i < s.length
    · rw [List.getElem?_append_left hi] at h1
      rw [List.getElem?_append_left (by rw [el]; exact hi)] at h2'
      exact (R.cell i c b h1 h2').box
    · rw [List.getElem?_append_right (by omega)] at h1
      rw [List.getElem?_append_right (by omega), el] at h2'
      cases z : i - s.length with
      | zero =>
        rw [z] at h1 h2'
        cases h1
        cases h2'
        exact ⟨vs, e, r.box⟩
      | succ k =>
        rw [z] at h1
        simp at h1
  ban := fun b m => by
    obtain ⟨q1, q2⟩ := R.ban b (List.mem_cons_of_mem _ m)
    refine ⟨q1, fun z => ?_⟩
    rcases List.mem_append.mp z with z | z
    · exact q2 z
    · rw [List.mem_singleton.mp z] at m
      exact n (.inr m)
theorem Ext.box {θ' : Th} {H' : Hp} {a : Addr} (x : Ext θ H θ' H') (e : H a = Option.none) : Ext θ H ⟨θ'.c ++ [a], θ'.b⟩ H' where
  pre := by
    obtain ⟨t, q⟩ := x.pre
    exact ⟨t ++ [a], by show θ'.c ++ [a] = _; rw [q, List.append_assoc]⟩
  sub := x.sub
  keep := x.keep
  new := fun b m nb => by
    rcases m with m | m
    · rcases List.mem_append.mp m with m | m
      · exact x.new b (.inl m) nb
      · rw [List.mem_singleton.mp m]; exact e
    · exact x.new b (.inr m) nb
  b := x.b
  ban := x.ban
end
section
variable {X : Cx} {W : WX} {C : Ctx}
structure MakeOk (X : Cx) (C : Ctx) (c : String) : Prop where
  ex : ∃ (fa : Addr) (fd : FuncData) (ps : List Str) (n : Nat) (sp : Sp), Mk X.K (He.ga X.K (toS c)) fa ∧ FnOk X.prog X.w X.K X.mg X.base (L2.CX X.prog X.w) n fa fd ps sp ∧ Room (n + 1) X.A ∧ X.mg (toS c) = some (.ref (He.ga X.K (toS c))) ∧ Binds X.K fd ps [] ∧
    ∀ θ H s ds vs Q (E : XK), RelS X.K θ H s → Reps θ H ds vs → PostC X.K E Q θ H (C.make c ds s) →
      ∀ x dx, H x = none → H dx = none → dx ≠ x → sp (.ref x :: vs) (upd (upd H dx (.own x)) x (.ins (He.ga X.K (toS c)) dx [])) (fun v H2 => v = .non ∧ Q (.ref x) H2) E
theorem run_makeS {k : Nat} {f Cc : Addr} {fd : FuncData} {ps : List Str} {sp : Sp} {E : L2.St → XK} {pins : List (Addr × Obj)} {σ : L2.St} {H : Hp} {s : Shared} {Q : VK} {us : List Value} {vs : List V} (M : Mk X.K Cc f) (F : FnOk X.prog X.w X.K X.mg X.base (L2.CX X.prog X.w) k f fd ps sp) (hr : Room (k + 1) X.A) (hb : Binds X.K fd ps [])
    (hx : PassesAt (L2.CX X.prog X.w) X σ (E σ)) (I : Inv X pins σ H s) (r : Vals vs us)
    (h : ∀ x dx, H x = none → H dx = none → dx ≠ x → sp (.ref x :: vs) (upd (upd H dx (.own x)) x (.ins Cc dx [])) (fun v H2 => v = .non ∧ Q (.ref x) H2) (E σ)) :
    wpAny (model X.prog X.w) X.A (PySem.call (.ref Cc) us) (EP X pins σ Q) X.xe s := by
  have hq := h (s.heap.objs.size + 1) s.heap.objs.size (I.hok.fresh (Nat.le_succ _)) (I.hok.fresh (Nat.le_refl _)) (Nat.ne_of_lt (Nat.lt_succ_self _))
  have I2 := Inv.made (C := Cc) I
  have r2 : Vals (V.ref (s.heap.objs.size + 1) :: vs) (Value.ref (s.heap.objs.size + 1) :: us) := .cons rfl r
  have hl : (Value.ref (s.heap.objs.size + 1) :: us).length = ps.length := by
    have e := r2.length
    rw [F.len _ _ _ _ hq] at e
    exact e.symm
  have b := hb (Shared.mk _ _ _ _ _) (Value.ref (s.heap.objs.size + 1) :: us) I2.kIn (by rw [List.append_nil]; exact hl)
  rw [List.append_nil] at b
  refine wpAny_call (make_map (f := f) I.kIn M.makes M.init (beq_iff_eq.mp M.fn) (codeAny_mono (F.run _ X.stack _ _ ⟨Value.ref (s.heap.objs.size + 1) :: us, []⟩ (Value.ref (s.heap.objs.size + 1) :: us) _ _ (E σ) (hr.make Cc us [])
    (I2.env0.make Cc us []) b r2 hq) fun r s' hq' => ?_))
  cases r with
  | error e => exact hx pins _ _ e s' I2 hq'
  | ok fl =>
    cases fl with
    | ret u =>
      obtain ⟨v, H', I3, rv, ev, q3⟩ := I2.after hq'
      subst ev
      exact ⟨rv, ⟨V.ref (s.heap.objs.size + 1), H', I3, rfl, q3⟩⟩
    | next => exact False.elim hq'
    | brk => exact False.elim hq'
    | cont => exact False.elim hq'
def tMakeS (Cc : Addr) (sp : Sp) (E : L2.St → XK) (t : TA) : TE := fun σ H Q => t σ H fun vs H1 => ∀ x dx, H1 x = none → H1 dx = none → dx ≠ x →
  sp (.ref x :: vs) (upd (upd H1 dx (.own x)) x (.ins Cc dx [])) (fun v H2 => v = .non ∧ Q (.ref x) H2) (E σ)
theorem pe_makeS {k : Nat} {f Cc : Addr} {fd : FuncData} {ps : List Str} {sp : Sp} {E : L2.St → XK} {x : Str} {p pos : Pos} {e : Expr} {es : List Expr} {t : TA} (M : Mk X.K Cc f) (F : FnOk X.prog X.w X.K X.mg X.base (L2.CX X.prog X.w) k f fd ps sp) (hr : Room (k + 1) X.A) (hg : Gl X x) (hm : X.mg x = some (.ref Cc))
    (hb : Binds X.K fd ps []) (hx : ∀ σ, PassesAt (L2.CX X.prog X.w) X σ (E σ)) (ha : PA X (e :: es) t) (hdb : (x == ("__debug__" : Str)) = false) (hn : (e :: es).all notStar = true) : PE X (.Call (.Name x p) (e :: es) [] pos) (tMakeS Cc sp E t) := by
  refine ⟨fun pins s σ H Q I h => ?_⟩
  simp only [List.all_cons, Bool.and_eq_true] at hn
  refine wpAny_Call_Name_kw (ld_glob I hg hm ?_ hdb)
  refine PySem.W.callWith_K (h₀ := X.base) I.ok.mod.kin M.kp (thn (ha.run pos pins s σ H _ I h) fun us s1 ⟨vs, H1, I1, r, q⟩ => ⟨I1.kIn, ?_⟩) (star_cons hn.1) (star_plain hn.2)
  exact run_makeS M F hr hb (hx σ) I1 r q
theorem pe_makeS0 {k : Nat} {f Cc : Addr} {fd : FuncData} {ps : List Str} {sp : Sp} {E : L2.St → XK} {x : Str} {p pos : Pos} (M : Mk X.K Cc f) (F : FnOk X.prog X.w X.K X.mg X.base (L2.CX X.prog X.w) k f fd ps sp) (hr : Room (k + 1) X.A) (hg : Gl X x) (hm : X.mg x = some (.ref Cc))
    (hb : Binds X.K fd ps []) (hx : ∀ σ, PassesAt (L2.CX X.prog X.w) X σ (E σ)) (hdb : (x == ("__debug__" : Str)) = false) : PE X (.Call (.Name x p) [] [] pos) (tMakeS Cc sp E tNil) := by
  refine ⟨fun pins s σ H Q I h => ?_⟩
  refine wpAny_Call_Name_kw (ld_glob I hg hm ?_ hdb)
  exact PySem.W.callWith_K0 I.kIn M.kp (run_makeS (us := []) M F hr hb (hx σ) I .nil h)
theorem s_mk {c : String} {e : Expr} {es : List Expr} {irs : List E} {p pos : Pos} (pa : ∀ τ, PassesAt (L2.CX X.prog X.w) X τ (WE W τ)) (T : MakeOk X C c) (hg : Gl X (toS c)) (hd : (toS c == ("__debug__" : Str)) = false) (ha : PA X (e :: es) (tEs X.K W C irs)) (hn : (e :: es).all notStar = true) :
    PE X (.Call (.Name (toS c) p) (e :: es) [] pos) (tE X.K W C (.mk c irs)) := by
  obtain ⟨fa, fd, ps, n, sp, M, F, hr, hm, hb, go⟩ := T.ex
  refine PE.imp (pe_makeS M F hr hg hm hb pa ha hd hn) fun σ H Q ⟨θ, s, ρ, R, V, h⟩ => ?_
  unfold evalE at h
  exact ⟨θ, s, ρ, R, V, (PostL.bind h).mono fun vs H1 ⟨θ1, s1, ds, x1, R1, r1, h1⟩ => go θ1 H1 s1 ds vs Q _ R1 r1 h1.toC⟩
theorem s_mk0 {c : String} {p pos : Pos} (pa : ∀ τ, PassesAt (L2.CX X.prog X.w) X τ (WE W τ)) (T : MakeOk X C c) (hg : Gl X (toS c)) (hd : (toS c == ("__debug__" : Str)) = false) : PE X (.Call (.Name (toS c) p) [] [] pos) (tE X.K W C (.mk c [])) := by
  obtain ⟨fa, fd, ps, n, sp, M, F, hr, hm, hb, go⟩ := T.ex
  refine PE.imp (pe_makeS0 M F hr hg hm hb pa hd) fun σ H Q ⟨θ, s, ρ, R, V, h⟩ => ?_
  unfold evalE evalEs at h
  exact go θ H s [] [] Q _ R .nil (PostE.toC h)
end

theorem s_box {X : Cx} {W : WX} {C : Ctx} {e : Expr} {ir : E} (hp : PE X e (tE X.K W C ir)) : PE X e (tE X.K W C (.box ir)) :=
  PE.imp hp fun σ H Q ⟨θ, s, ρ, R, V, h⟩ => by
    unfold evalE at h
    refine ⟨θ, s, ρ, R, V, ?_⟩
    cases hr : evalE C ir ρ s with
    | ok d s1 => rw [hr] at h; exact h
    | new l s1 =>
      rw [hr] at h
      intro θ' H' a vs x R' hn na ha rl
      have x2 : Ext θ H ⟨θ'.c ++ [a], θ'.b⟩ H' := x.box hn
      have el : θ'.c.length = s1.length := R'.len
      refine h _ H' _ x2 (R'.box na ha rl) (.ref ?_)
      show (θ'.c ++ [a])[s1.length]? = some a
      rw [← el, List.getElem?_append_right (Nat.le_refl _)]
      simp
    | exn c s1 => rw [hr] at h; exact h
    | bad => rw [hr] at h; exact h
theorem s_dnew {X : Cx} {W : WX} {C : Ctx} {pos : Pos} : PE X (.Dict [] [] pos) (tE X.K W C .dnew) :=
  PE.imp pe_dnewK fun σ H Q ⟨θ, s, ρ, R, V, h⟩ => by
    unfold evalE at h
    intro p hp
    refine h ⟨θ.c ++ [p], θ.b⟩ _ (.ref p) (Ext.dct R hp) (R.dct hp (ws := []) rfl .nil) (.ref ?_)
    show (θ.c ++ [p])[s.length]? = some p
    rw [List.getElem?_append_right (by rw [R.len]; exact Nat.le_refl _), R.len, Nat.sub_self]
    rfl

/-! ### a written dict -/
def Hp.less (H : Hp) (p : Addr) : Hp := fun b => if b = p then none else H b
theorem Hp.less_ne {H : Hp} {p a : Addr} (h : a ≠ p) : Hp.less H p a = H a := if_neg h
theorem Hp.less_same {H : Hp} {p : Addr} : Hp.less H p p = none := if_pos rfl
theorem Hp.less_upd {H : Hp} {p : Addr} {o : HO} : upd (Hp.less H p) p o = upd H p o := by
  funext b
  unfold upd Hp.less
  split <;> rfl
section
variable {K : PySem.W.Frag} {θ : Th} {H : Hp} {s : Sto} {p : Addr} {ws0 : List (Key × V)}
theorem rd_less {a : Addr} {o : HO} (hp : H p = some (.dK ws0)) (h : Rd H a o) (ho : ∀ ws, o ≠ .dK ws) : Rd (Hp.less H p) a o := by
  have ne : a ≠ p := fun e => by
    subst e
    rcases h with h | ⟨ob, h⟩
    · rw [hp] at h
      exact ho _ (Option.some.inj h).symm
    · rw [hp] at h
      cases h
  rcases h with h | ⟨ob, h⟩
  · exact .inl (by rw [Hp.less_ne ne]; exact h)
  · exact .inr ⟨ob, by rw [Hp.less_ne ne]; exact h⟩
mutual
theorem Rep.less (hp : H p = some (.dK ws0)) : ∀ {d : D} {v : V}, Rep θ H d v → Rep θ (Hp.less H p) d v
  | _, _, .non => .non
  | _, _, .bl b => .bl b
  | _, _, .int i => .int i
  | _, _, .str z => .str z
  | _, _, .tup h n r => .tup (rd_less hp h fun _ q => nomatch q) n (Reps.less hp r)
  | _, _, .lst h n r => .lst (rd_less hp h fun _ q => nomatch q) n (Reps.less hp r)
  | _, _, .ref h => .ref h
theorem Reps.less (hp : H p = some (.dK ws0)) : ∀ {ds : List D} {vs : List V}, Reps θ H ds vs → Reps θ (Hp.less H p) ds vs
  | _, _, .nil => .nil
  | _, _, .cons h t => .cons (Rep.less hp h) (Reps.less hp t)
end
theorem RelS.less (R : RelS K θ H s) (hp : H p = some (.dK ws0)) (n : p ∉ θ) : RelS K θ (Hp.less H p) s where
  len := R.len
  nd := R.nd
  cell := fun i c a h1 h2 => by
    have ne : a ≠ p := fun e => n (.inl (e ▸ List.mem_of_getElem? h2))
    have q := R.cell i c a h1 h2
    cases c with
    | lst l =>
      obtain ⟨vs, e, r⟩ := q
      exact ⟨vs, by rw [Hp.less_ne ne]; exact e, r.less hp⟩
    | ins c fs =>
      obtain ⟨dx, vfs, e, m, r⟩ := q
      exact ⟨dx, vfs, by rw [Hp.less_ne ne]; exact e, m, r.less hp⟩
    | dct kvs =>
      obtain ⟨ws, e, m, r⟩ := q
      exact ⟨ws, by rw [Hp.less_ne ne]; exact e, m, r.less hp⟩
    | tpc ns =>
      obtain ⟨ob, e, m⟩ := q
      exact ⟨ob, by rw [Hp.less_ne ne]; exact e, m⟩
  ban := fun a m => by
    obtain ⟨⟨xs, e⟩, q⟩ := R.ban a m
    exact ⟨⟨xs, by rw [Hp.less_ne fun z => n (.inr (by rw [← z]; exact m))]; exact e⟩, q⟩
end
def dTrs (K : PySem.W.Frag) (W : WX) (C : Ctx) (ks : List String) (irs : List E) : List (TE × TE) := (ks.zip irs).map fun p => (tC (.str (toS p.1)), tE K W C p.2)
theorem pairs_go {X : Cx} {W : WX} {C : Ctx} {σ : L2.St} {ρ : KL.Env} : ∀ (irs : List E) (ks : List String) (θ : Th) (H : Hp) (s : Sto) (P : List V → Hp → Prop), RelS X.K θ H s → EnvR θ H ρ σ → ks.length = irs.length → PostL X.K W σ P θ H (evalEs C irs ρ s) →
    tPairs (dTrs X.K W C ks irs) σ H fun ps H2 => ∃ vs, ps = (ks.zip vs).map (fun q => (V.str (toS q.1), q.2)) ∧ P vs H2
  | [], [], θ, H, s, P, R, Ve, _, h => by
    unfold evalEs at h
    exact ⟨[], rfl, h θ H [] (Ext.refl _ _) R .nil⟩
  | [], _ :: _, _, _, _, _, _, _, hl, _ => by cases hl
  | _ :: _, [], _, _, _, _, _, _, hl, _ => by cases hl
  | e :: irs, k :: ks, θ, H, s, P, R, Ve, hl, h => by
    unfold evalEs at h
    show tE X.K W C e σ H fun y H2 => tPairs (dTrs X.K W C ks irs) σ H2 _
    refine ⟨θ, s, ρ, R, Ve, (PostE.bindL h).mono fun y H1 ⟨θ1, s1, d, x1, R1, r1, h1⟩ => ?_⟩
    have q := pairs_go irs ks θ1 H1 s1 (fun vs H3 => P (y :: vs) H3) R1 (Ve.ext x1) (by simpa using hl) ((PostL.bindL h1).mono fun vs H2 ⟨θ2, s2, dl, x2, R2, r2, h2⟩ => h2 θ2 H2 (y :: vs) (Ext.refl _ _) R2 (.cons (r1.ext x2) r2))
    have mono : ∀ (trs : List (TE × TE)) (σ : L2.St) (H : Hp) (Q Q' : List (V × V) → Hp → Prop), (∀ ps H2, Q ps H2 → Q' ps H2) → (∀ t ∈ trs, ∃ (a : V) (i : E), t = (tC a, tE X.K W C i)) → tPairs trs σ H Q → tPairs trs σ H Q' := by
      intro trs
      induction trs with
      | nil => exact fun σ H Q Q' i _ h => i _ _ h
      | cons t trs ih =>
        intro σ H Q Q' i ht h
        obtain ⟨a, ir, rfl⟩ := ht t List.mem_cons_self
        obtain ⟨θ, s, ρ, R, Ve, h⟩ := h
        exact ⟨θ, s, ρ, R, Ve, h.mono fun v H' q => ih σ H' _ _ (fun ps H2 => i _ _) (fun t m => ht t (List.mem_cons_of_mem _ m)) q⟩
    refine mono _ σ H1 _ _ (fun ps H2 ⟨vs, e1, e2⟩ => ⟨y :: vs, by rw [e1]; rfl, e2⟩) (fun t m => ?_) q
    obtain ⟨z, _, rfl⟩ := List.mem_map.mp m
    exact ⟨_, _, rfl⟩
theorem putK_new {kvs : List (Key × V)} {k : Key} {v : V} (h : ∀ q ∈ kvs, q.1 ≠ k) : putK kvs k v = kvs ++ [(k, v)] := by
  unfold putK
  rw [if_neg]
  intro q
  obtain ⟨x, m, e⟩ := List.any_eq_true.mp q
  exact h x m (of_decide_eq_true e)
theorem merge_new : ∀ (more kvs : List (Key × V)), ((kvs ++ more).map (·.1)).Nodup → mergeK kvs more = kvs ++ more
  | [], kvs, _ => by unfold mergeK; simp
  | kv :: more, kvs, h => by
    unfold mergeK
    rw [List.foldl_cons]
    have hn : ∀ q ∈ kvs, q.1 ≠ kv.1 := fun q m e => by
      rw [List.map_append, List.nodup_append] at h
      exact h.2.2 q.1 (List.mem_map_of_mem m) kv.1 (List.mem_map_of_mem List.mem_cons_self) e
    have e : putK kvs kv.1 kv.2 = kvs ++ [kv] := putK_new hn
    rw [e]
    have := merge_new more (kvs ++ [kv]) (by rw [List.append_assoc]; exact h)
    unfold mergeK at this
    rw [this, List.append_assoc]
    rfl
theorem s_ddisp {X : Cx} {W : WX} {C : Ctx} {ks : List String} {irs : List E} {keys : List (Option Expr)} {values : List Expr} {pos : Pos} (hp : PPs X pos keys values (dTrs X.K W C ks irs)) (hall : keys.all (·.isSome) = true) (hl : keys.length = values.length) (h0 : keys ≠ []) (h15 : keys.length ≤ 15) (hk : ks.length = keys.length) (hi : ks.length = irs.length) :
    PE X (.Dict keys values pos) (tE X.K W C (.ddisp ks irs)) := PE.imp (pe_disp hp hall hl h0 h15) fun σ H Q ⟨θ, s, ρ, R, Ve, h⟩ => by
  intro p hp
  unfold evalE at h
  have R1 : RelS X.K θ (upd H p (.dK [])) s := R.newUpd hp
  have x1 : Ext θ H θ (upd H p (.dK [])) := R.ext hp
  have h1 : PostL X.K W σ (fun vs H2 => H2 p = some (.dK []) ∧ ∃ kvs : List (Key × V), (ks.zip vs).map (fun q => (V.str (toS q.1), q.2)) = kvs.map (fun kv => (kV kv.1, kv.2)) ∧ kvs.length ≤ 15 ∧ Q (.ref p) (upd H2 p (.dK (mergeK [] kvs)))) θ (upd H p (.dK [])) (evalEs C irs ρ s) := by
    cases hr : evalEs C irs ρ s with
    | bad => rw [hr] at h; exact h
    | exn c s1 =>
      rw [hr] at h
      exact fun θ' H' y => h θ' H' (x1.trans y)
    | ok l s1 =>
      rw [hr] at h
      dsimp only [RL.bind] at h
      intro θ1 H2 vs x2 R2 r2
      have np : p ∉ θ := R.free hp
      have e2 : H2 p = some (.dK []) := x2.keep p _ upd_same np
      have np1 : p ∉ θ1 := x2.toExt0.out upd_same np
      split at h
      · rename_i hc
        obtain ⟨hc1, hc2⟩ := hc
        have lv : vs.length = ks.length := by rw [← r2.length, hc1]
        have key : ∀ (ks : List String) (vs : List V), (ks.zip vs).map (fun q => (V.str (toS q.1), q.2)) = ((ks.zip vs).map fun q => ((Sum.inr (toS q.1) : Key), q.2)).map (fun kv => (kV kv.1, kv.2)) := fun ks vs => by
          rw [List.map_map]
          rfl
        refine ⟨e2, (ks.zip vs).map fun q => ((Sum.inr (toS q.1) : Key), q.2), key ks vs, ?_, ?_⟩
        · rw [List.length_map, List.length_zip, lv, Nat.min_self, hk]
          exact h15
        · have fst : ∀ (ks : List String) (vs : List V), vs.length = ks.length → ((ks.zip vs).map fun q => ((Sum.inr (toS q.1) : Key), q.2)).map (·.1) = ks.map fun k => (Sum.inr (toS k) : Key) := by
            intro ks
            induction ks with
            | nil => exact fun _ _ => rfl
            | cons k ks ih =>
              intro vs hv
              cases vs with
              | nil => cases hv
              | cons v vs =>
                rw [List.zip_cons_cons, List.map_cons, List.map_cons, ih vs (by simpa using hv)]
                rfl
          have snd : ∀ (ks : List String) (vs : List V), vs.length = ks.length → ((ks.zip vs).map fun q => ((Sum.inr (toS q.1) : Key), q.2)).map (·.2) = vs := by
            intro ks
            induction ks with
            | nil => exact fun vs hv => by rw [List.length_eq_zero_iff.mp hv]; rfl
            | cons k ks ih =>
              intro vs hv
              cases vs with
              | nil => cases hv
              | cons v vs =>
                rw [List.zip_cons_cons, List.map_cons, List.map_cons, ih vs (by simpa using hv)]
          have snd2 : ∀ (ks : List String) (l : List D), l.length = ks.length → ((ks.map DK.str).zip l).map (·.2) = l := by
            intro ks
            induction ks with
            | nil => exact fun vs hv => by rw [List.length_eq_zero_iff.mp hv]; rfl
            | cons k ks ih =>
              intro vs hv
              cases vs with
              | nil => cases hv
              | cons v vs =>
                rw [List.map_cons, List.zip_cons_cons, List.map_cons, ih vs (by simpa using hv)]
          have fst2 : ∀ (ks : List String) (l : List D), l.length = ks.length → ((ks.map DK.str).zip l).map (fun p => toK p.1) = ks.map fun k => (Sum.inr (toS k) : Key) := by
            intro ks
            induction ks with
            | nil => exact fun vs hv => rfl
            | cons k ks ih =>
              intro vs hv
              cases vs with
              | nil => cases hv
              | cons v vs =>
                rw [List.map_cons, List.zip_cons_cons, List.map_cons, ih vs (by simpa using hv)]
                rfl
          have nd : (ks.map fun k => (Sum.inr (toS k) : Key)).Nodup := by
            rw [List.Nodup, List.pairwise_map]
            exact List.Pairwise.imp (fun {a b} ne e => ne (toS_inj (Sum.inr.inj e))) hc2
          rw [merge_new _ [] (by rw [List.nil_append, fst ks vs lv]; exact nd), List.nil_append, ← Hp.less_upd]
          have hm : Hp.less H2 p p = none := Hp.less_same
          have Rm := R2.less e2 np1
          have rm := r2.less e2
          have xm : Ext θ H θ1 (Hp.less H2 p) := by
            refine ⟨⟨x2.pre, x2.sub, fun a o e n => ?_, fun a m n => ?_⟩, x2.b, fun a m => ?_⟩
            · have ne : a ≠ p := ne_of_none e hp
              rw [Hp.less_ne ne]
              exact x2.keep a o (by rw [upd_ne ne]; exact e) n
            · have ne : a ≠ p := fun q => np1 (q ▸ m)
              have := x2.new a m n
              rwa [upd_ne ne] at this
            · have ne : a ≠ p := fun q => np (q ▸ .inr m)
              rw [Hp.less_ne ne, x2.ban a m, upd_ne ne]
          refine h ⟨θ1.c ++ [p], θ1.b⟩ _ (.ref p) (xm.trans (Ext.dct Rm hm)) (Rm.dct hm ?_ ?_) (.ref ?_)
          · rw [fst ks vs lv, fst2 ks l hc1]
          · rw [snd ks vs lv, snd2 ks l hc1]
            exact rm
          · show (θ1.c ++ [p])[s1.length]? = some p
            rw [List.getElem?_append_right (by rw [R2.len]; exact Nat.le_refl _), R2.len, Nat.sub_self]
            rfl
      · exact h.elim
  have go := pairs_go irs ks θ (upd H p (.dK [])) s _ R1 (Ve.ext x1) hi h1
  have mono : ∀ (trs : List (TE × TE)) (σ : L2.St) (H : Hp) (Q Q' : List (V × V) → Hp → Prop), (∀ ps H2, Q ps H2 → Q' ps H2) → (∀ t ∈ trs, ∃ (a : V) (i : E), t = (tC a, tE X.K W C i)) → tPairs trs σ H Q → tPairs trs σ H Q' := by
    intro trs
    induction trs with
    | nil => exact fun σ H Q Q' i _ h => i _ _ h
    | cons t trs ih =>
      intro σ H Q Q' i ht h
      obtain ⟨a, ir, rfl⟩ := ht t List.mem_cons_self
      obtain ⟨θ, s, ρ, R, Ve, h⟩ := h
      exact ⟨θ, s, ρ, R, Ve, h.mono fun v H' q => ih σ H' _ _ (fun ps H2 => i _ _) (fun t m => ht t (List.mem_cons_of_mem _ m)) q⟩
  refine mono _ σ _ _ _ (fun ps H2 ⟨vs, e1, e2, kvs, e3, e4, e5⟩ => ⟨e2, kvs, e1.trans e3, e4, e5⟩) (fun t m => ?_) go
  obtain ⟨z, _, rfl⟩ := List.mem_map.mp m
  exact ⟨_, _, rfl⟩
theorem s_rev {X : Cx} {W : WX} {C : Ctx} {e : Expr} {ie : E} {k : Nat} {p1 p2 p3 pos : Pos} (he : PE X e (tE X.K W C ie)) : PE X (.Subscript e (.Slice none none (some (.UnaryOp .USub (.Constant (.int 1) k p1) p2)) p3) pos) (tE X.K W C (.rev ie)) :=
  PE.imp (pe_revT he) fun σ H Q ⟨θ, s, ρ, R, V, h⟩ => by
    unfold evalE at h
    refine tE.sub R V (PostE.bind h) fun x H1 ⟨θ1, s1, d, x1, R1, r1, h1⟩ => ?_
    cases r1 with
    | tup h2 n2 q2 => exact ⟨_, _, rfl, .inl h2, h1.tup R1 q2.reverse⟩
    | _ => exact False.elim h1
def okKey (k : String) : Option Expr → Bool
  | some (.Constant (.str x) _ _) => decide (x = toS k)
  | _ => false
def okPairs (f : Expr → E → Bool) : List String → List (Option Expr) → List Expr → List E → Bool
  | [], [], [], [] => true
  | k :: ks, o :: os, e :: es, i :: is => okKey k o && f e i && okPairs f ks os es is
  | _, _, _, _ => false
theorem okPairs_ok {X : Cx} {W : WX} {C : Ctx} {pos : Pos} {f : Expr → E → Bool} (ih : ∀ e i, f e i = true → PE X e (tE X.K W C i)) : ∀ {ks : List String} {os : List (Option Expr)} {es : List Expr} {is : List E}, okPairs f ks os es is = true →
    PPs X pos os es (dTrs X.K W C ks is) ∧ os.all (·.isSome) = true ∧ os.length = es.length ∧ ks.length = os.length ∧ ks.length = is.length
  | [], [], [], [], _ => ⟨pps_nil, rfl, rfl, rfl, rfl⟩
  | k :: ks, o :: os, e :: es, i :: is, h => by
    simp only [okPairs, Bool.and_eq_true] at h
    obtain ⟨⟨h1, h2⟩, h3⟩ := h
    obtain ⟨a1, a2, a3, a4, a5⟩ := okPairs_ok ih h3
    unfold okKey at h1
    split at h1
    · rename_i x j p
      have ex := of_decide_eq_true h1
      subst ex
      exact ⟨pps_cons pe_str (ih e i h2) a1, by simpa using a2, by simp [a3], by simp [a4], by simp [a5]⟩
    · cases h1

/-! ### the check -/
structure Tab where
  /-- built-in names that the module leaves as they are -/
  free : List String
  /-- the module's constants -/
  con : List (String × D)
  fns : List String
  mks : List String
  exs : List String
  xcls : List String := []
  xfns : List String := []
  /-- not within a block -/
  top : Bool := true
abbrev Tab.blk (T : Tab) : Tab := { T with top := false }
def isVis (sc : Scope) (x : Str) : Bool := match sc.names.lookup x with
  | some .local => true
  | some .cell => true
  | some .free => true
  | _ => false
def isLoc (sc : Scope) (x : Str) : Bool := match sc.names.lookup x with
  | some .local => true
  | _ => false
def isLc (sc : Scope) (x : Str) : Bool := match sc.names.lookup x with
  | some .local => true
  | some .cell => true
  | _ => false
def isGl (sc : Scope) (x : Str) : Bool := match sc.names.lookup x with
  | some .globalImplicit => true
  | _ => false
def noDbg (x : Str) : Bool := !(x == ("__debug__" : Str)) && !(x == ("__classdict__" : Str))
def flatCon (d : D) (c : Const) : Bool := match d, c with
  | .non, .none => true
  | .bl a, .bool b => a == b
  | .int i, .int j => decide (i = j)
  | .str z, .str x => decide (x = toS z)
  | _, _ => false
def okCon (T : Tab) (sc : Scope) (d : D) : Expr → Bool
  | .Constant c _ _ => flatCon d c
  | .Name x _ => isGl sc x && noDbg x && T.con.any fun p => decide (x = toS p.1) && (match d, p.2 with
    | .int i, .int j => decide (i = j)
    | .str a, .str b => decide (a = b)
    | _, _ => false)
  | _ => false
def okEs (f : Expr → E → Bool) : List Expr → List E → Bool
  | [], [] => true
  | e :: es, i :: is => notStar e && f e i && okEs f es is
  | _, _ => false
def okBool (f : Expr → E → Bool) (op : BoolOp) : List Expr → E → Bool
  | [], _ => false
  | [x], ir => f x ir
  | x :: y :: r, ir => match op, ir with
    | .And, .and a b => f x a && okBool f op (y :: r) b
    | .Or, .or a b => f x a && okBool f op (y :: r) b
    | _, _ => false
def okPart (f : Expr → E → Bool) : Option Expr → List E → Bool
  | none, [] => true
  | some e, [i] => f e i
  | _, _ => false
def notSlice : Expr → Bool
  | .Slice _ _ _ _ => false
  | _ => true
def notSet : Expr → Bool
  | .Set _ _ _ => false
  | _ => true
def notIf : Expr → Bool
  | .IfExp _ _ _ _ => false
  | _ => true
def okTg (N : List Str) (L : Str → Bool) : Expr → List Nat → Bool
  | .Name x _, [i] => decide (N[i]? = some x) && L x
  | .Tuple [.Name x _, .Name y _] _ _, [i, j] => decide (N[i]? = some x) && L x && decide (N[j]? = some y) && L y
  | .Tuple [.Name x _, .Name y _, .Name z _] _ _, [i, j, l] => decide (N[i]? = some x) && L x && decide (N[j]? = some y) && L y && decide (N[l]? = some z) && L z
  | .Tuple [.Name x _, .Name y _, .Name z _, .Name w _] _ _, [i, j, l, m] => decide (N[i]? = some x) && L x && decide (N[j]? = some y) && L y && decide (N[l]? = some z) && L z && decide (N[m]? = some w) && L w
  | _, _ => false
def tgNames : Expr → List Str
  | .Name x _ => [x]
  | .Tuple [.Name x _, .Name y _] _ _ => [x, y]
  | .Tuple [.Name x _, .Name y _, .Name z _] _ _ => [x, y, z]
  | .Tuple [.Name x _, .Name y _, .Name z _, .Name w _] _ _ => [x, y, z, w]
  | _ => []
def isTup : Expr → Bool
  | .Tuple _ _ _ => true
  | _ => false
def okIt (T : Tab) (sc : Scope) (f : Expr → E → Bool) (tg : Expr) : ItK → List E → Expr → Bool
  | .seq, [i], e => notSet e && f e i
  | .range1, [i], .Call (.Name x _) [a] [] _ => decide (x = toS "range") && isGl sc x && T.free.contains "range" && notStar a && f a i
  | .range2, [i, j], .Call (.Name x _) [a, b] [] _ => decide (x = toS "range") && isGl sc x && T.free.contains "range" && notStar a && notStar b && f a i && f b j
  | .enum, [i], .Call (.Name x _) [a] [] _ => isTup tg && decide (x = toS "enumerate") && isGl sc x && T.free.contains "enumerate" && notStar a && f a i
  | .zip, [i, j], .Call (.Name x _) [a, b] [] _ => isTup tg && decide (x = toS "zip") && isGl sc x && T.free.contains "zip" && notStar a && notStar b && f a i && f b j
  | _, _, _ => false
def okE (T : Tab) : Nat → Scope → List Str → Expr → E → Bool
  | 0, _, _, _, _ => false
  | n + 1, sc, N, e, ir => match ir with
    | .var i => (match e with
      | .Name x _ => decide (N[i]? = some x) && isVis sc x && noDbg x
      | _ => false)
    | .con d => okCon T sc d e
    | .tup is => (match e with
      | .Tuple es _ _ => okEs (okE T n sc N) es is
      | _ => false)
    | .lst is => (match e with
      | .List es _ => okEs (okE T n sc N) es is
      | _ => false)
    | .bin o a b => (match e with
      | .BinOp x op y _ => decide (op = bop o) && okE T n sc N x a && okE T n sc N y b
      | _ => false)
    | .neg a => (match e with
      | .UnaryOp .USub x _ => okE T n sc N x a
      | _ => false)
    | .not a => (match e with
      | .UnaryOp .Not x _ => notIf x && okE T n sc N x a
      | _ => false)
    | .and a b => (match e with
      | .BoolOp op (x :: y :: r) _ => decide (op = .And) && okBool (fun e i => notIf e && okE T n sc N e i) .And (x :: y :: r) (.and a b)
      | _ => false)
    | .or a b => (match e with
      | .BoolOp op (x :: y :: r) _ => decide (op = .Or) && okBool (fun e i => notIf e && okE T n sc N e i) .Or (x :: y :: r) (.or a b)
      | _ => false)
    | .ite c a b => (match e with
      | .IfExp x y z _ => notIf x && okE T n sc N x c && okE T n sc N y a && okE T n sc N z b
      | _ => false)
    | .cmp o a b => (match e with
      | .Compare x [op] [y] _ => decide (op = cop o) && notSet y && okE T n sc N x a && okE T n sc N y b
      | _ => false)
    | .cmp2 o p a b c => (match e with
      | .Compare x [op, op2] [y, z] _ => decide (op = cop o) && decide (op2 = cop p) && notSet z && okE T n sc N x a && okE T n sc N y b && okE T n sc N z c
      | _ => false)
    | .idx a b => (match e with
      | .Subscript x y _ => notSlice y && okE T n sc N x a && okE T n sc N y b
      | _ => false)
    | .slice a lo hi => (match e with
      | .Subscript x (.Slice l h none _) _ => okE T n sc N x a && okPart (okE T n sc N) l lo && okPart (okE T n sc N) h hi
      | _ => false)
    | .call g is => (match e with
      | .Call (.Name x _) es [] _ => decide (x = toS g) && T.fns.contains g && isGl sc x && noDbg x && okEs (okE T n sc N) es is
      | _ => false)
    | .bi b is => (match e with
      | .Call (.Name x _) (y :: es) [] _ => decide (x = toS (biN b)) && T.free.contains (biN b) && isGl sc x && okEs (okE T n sc N) (y :: es) is
      | _ => false)
    | .met m o is => (match e with
      | .Call (.Attribute x a p) es [] q => decide (a = toS (meN m)) && baseOk x && decide (es.length < 20) && (p.endLine == q.line) && okE T n sc N x o && okEs (okE T n sc N) es is
      | _ => false)
    | .isi a [t] => (match e with
      | .Call (.Name x _) [y, .Name z _] [] _ => decide (x = toS "isinstance") && isGl sc x && T.free.contains "isinstance" && decide (z = toS (tyN t)) && isGl sc z && T.free.contains (tyN t) && notStar y && okE T n sc N y a
      | _ => false)
    | .isi _ _ => false
    | .comp elt tg k its cs => (match e with
      | .ListComp x [⟨te, it, ifs, 0⟩] scope _ => okTg N (isLoc (relS scope sc)) te tg && blkC N sc scope ((tgNames te).zip tg) && decide ((tgNames te).length = tg.length) && notSet it && okIt T sc (okE T n sc N) te k its it &&
          (match ifs, cs with
          | [], [] => true
          | [c], [i] => notIf c && okE T.blk n (relS scope sc) N c i
          | _, _ => false) && okE T.blk n (relS scope sc) N x elt
      | _ => false)
    | .compX elt tg k its => (match e with
      | .ListComp x [⟨te, it, [], 0⟩] scope _ => T.top && okTg N (isLoc (relS scope sc)) te tg && blkC N sc scope ((tgNames te).zip tg) && decide ((tgNames te).length = tg.length) && notSet it && okIt T sc (okE T n sc N) te k its it && okE T.blk n (relS scope sc) N x elt
      | _ => false)
    | .attr a f => (match e with
      | .Attribute x g _ => decide (g = toS f) && baseOk x && okE T n sc N x a
      | _ => false)
    | .umet m o is => (match e with
      | .Call (.Attribute x a p) es [] q => decide (a = toS m) && baseOk x && decide (es.length < 20) && (p.endLine == q.line) && okE T n sc N x o && okEs (okE T n sc N) es is
      | _ => false)
    | .mk c is => (match e with
      | .Call (.Name x _) es [] _ => decide (x = toS c) && T.mks.contains c && isGl sc x && noDbg x && okEs (okE T n sc N) es is
      | _ => false)
    | .dnew => (match e with
      | .Dict [] [] _ => true
      | _ => false)
    | .box a => (match e with
      | .List _ _ => okE T n sc N e a
      | .BinOp _ _ _ _ => okE T n sc N e a
      | _ => false)
    | .rev a => (match e with
      | .Subscript x (.Slice none none (some (.UnaryOp .USub (.Constant (.int i) _ _) _)) _) _ => decide (i = 1) && okE T n sc N x a
      | _ => false)
    | .ddisp ks is => (match e with
      | .Dict os es _ => !os.isEmpty && decide (os.length ≤ 15) && okPairs (okE T n sc N) ks os es is
      | _ => false)

/-- what stands ready where a text runs -/
structure Good (T : Tab) (C : Ctx) (sc : Scope) (N : List Str) (W : WX) (X : Cx) : Prop where
  scope : X.env.scope = sc
  names : X.N = N
  nd : X.N.Nodup
  calm : X.calm = true
  pass : ∀ τ, PassesAt (L2.CX X.prog X.w) X τ (WE W τ)
  home : T.top = true → Takes X W ∧ X.stack = X.env :: X.outer ∧ X.env.frame = some X.env.locals
  units : X.A.units + 64 < cLine
  free : ∀ x ∈ T.free, X.mg (toS x) = none
  con : ∀ p ∈ T.con, ∃ u v, X.mg (toS p.1) = some u ∧ RelV v u ∧ ∀ θ H, Rep θ H p.2 v
  fn : ∀ f ∈ T.fns, CallOk X C f
  mks : ∀ c ∈ T.mks, MakeOk X C c
  att : ∀ c f, C.att c f = true → AttOk X c f
  met : ∀ c m, C.met c m = true → MethOk X C c m
theorem Good.blk {T : Tab} {C : Ctx} {sc : Scope} {N : List Str} {W : WX} {X : Cx} (G : Good T C sc N W X) (scope : Scope) (s : Shared) (H : Hp) (Cc : Addr) (cl : List (Str × Addr)) (fp : List Addr) :
    Good T.blk C (relS scope sc) N W0 (X.blk s H scope (compEnvC scope cl Cc X.env) fp) where
  scope := by rw [← G.scope]; rfl
  names := G.names
  nd := G.nd
  calm := G.calm
  pass := fun τ => passAt takes0 τ
  home := fun h => nomatch h
  units := G.units
  free := G.free
  con := G.con
  fn := fun f h => ⟨(G.fn f h).ex⟩
  mks := fun f h => ⟨(G.mks f h).ex⟩
  att := fun c f h => ⟨(G.att c f h).cl, (G.att c f h).no⟩
  met := fun c f h => ⟨(G.met c f h).cl, (G.met c f h).ex⟩
theorem Good.blkX {T : Tab} {C : Ctx} {sc : Scope} {N : List Str} {W : WX} {X : Cx} (G : Good T C sc N W X) (τ : L2.St) (scope : Scope) (s : Shared) (H : Hp) (Cc : Addr) (cl : List (Str × Addr)) (fp : List Addr) :
    Good T.blk C (relS scope sc) N (fun c d _ H => W c d τ H) (KL.blkX X W τ s H scope (compEnvC scope cl Cc X.env) fp) where
  scope := by rw [← G.scope]; rfl
  names := G.names
  nd := G.nd
  calm := G.calm
  pass := fun ρ pins K z e z' I c => ⟨pins, ρ, K, z, I.unwish, c⟩
  home := fun h => nomatch h
  units := G.units
  free := G.free
  con := G.con
  fn := fun f h => ⟨(G.fn f h).ex⟩
  mks := fun f h => ⟨(G.mks f h).ex⟩
  att := fun c f h => ⟨(G.att c f h).cl, (G.att c f h).no⟩
  met := fun c f h => ⟨(G.met c f h).cl, (G.met c f h).ex⟩
section
variable {T : Tab} {C : Ctx} {sc : Scope} {N : List Str} {W : WX} {X : Cx}
theorem Good.u1 (G : Good T C sc N W X) : X.A.units + 1 < cLine := by
  have := G.units
  omega
theorem Good.vis (G : Good T C sc N W X) {x : Str} (h : isVis sc x = true) : Vis X.env.scope x := by
  rw [G.scope]
  unfold isVis at h
  unfold Vis
  split at h
  · rename_i e; exact .inl e
  · rename_i e; exact .inr (.inl e)
  · rename_i e; exact .inr (.inr e)
  · cases h
theorem Good.loc (G : Good T C sc N W X) {x : Str} (h : isLoc sc x = true) : X.env.scope.names.lookup x = some .local := by
  rw [G.scope]
  unfold isLoc at h
  split at h
  · rename_i e; exact e
  · cases h
theorem Good.gl (G : Good T C sc N W X) {x : Str} (h : isGl sc x = true) : Gl X x := by
  unfold Gl PySem.Env.kindOf
  rw [G.scope]
  unfold isGl at h
  split at h
  · rename_i e; exact e
  · cases h
theorem noDbg_1 {x : Str} (h : noDbg x = true) : (x == ("__debug__" : Str)) = false ∧ (x == ("__classdict__" : Str)) = false := by
  unfold noDbg at h
  simpa using h
theorem b2 {a b : Bool} (h : (a && b) = true) : a = true ∧ b = true := Bool.and_eq_true_iff.mp h
theorem con_mem {l : List String} {x : String} (h : l.contains x = true) : x ∈ l := by simpa using h
theorem plain_ix {y : Expr} (h : notSlice y = true) : PlainIx y := by
  intro o i
  cases y <;> first | rfl | cases h
theorem marks {op : CmpOp} {y : Expr} (h : notSet y = true) : behindInMarks op y = false := by
  cases y <;> first | rfl | cases h
theorem folded {e : Expr} {env : PySem.Env} (h : notSet e = true) : ∀ x, foldedSetIterable e env x = pure x := by
  intro x
  cases e <;> first | rfl | cases h
theorem okEs_star {f : Expr → E → Bool} : ∀ {es : List Expr} {is : List E}, okEs f es is = true → es.all notStar = true
  | [], [], _ => rfl
  | e :: es, i :: is, h => by
    obtain ⟨h1, h2⟩ := b2 h
    rw [List.all_cons, (b2 h1).1, okEs_star h2]
    rfl
  | [], _ :: _, h => by cases h
  | _ :: _, [], h => by cases h
theorem okEs_ok {f : Expr → E → Bool} (ih : ∀ e i, f e i = true → PE X e (tE X.K W C i)) : ∀ {es : List Expr} {is : List E}, okEs f es is = true → PA X es (tEs X.K W C is)
  | [], [], _ => s_nil
  | e :: es, i :: is, h => by
    obtain ⟨h1, h2⟩ := b2 h
    obtain ⟨h3, h4⟩ := b2 h1
    exact s_cons (ih e i h4) (okEs_ok ih h2) (star_cons h3)
  | [], _ :: _, h => by cases h
  | _ :: _, [], h => by cases h
theorem okBool_and {f : Expr → E → Bool} {pos : Pos} (ih : ∀ e i, f e i = true → PE X e (tE X.K W C i)) : ∀ {es : List Expr} {i : E}, okBool f .And es i = true → PE X (.BoolOp .And es pos) (tE X.K W C i)
  | [], _, h => by cases h
  | [x], i, h => pe_one (ih x i h)
  | x :: y :: r, i, h => by
    cases i with
    | and a b =>
      obtain ⟨h1, h2⟩ := b2 (show (f x a && okBool f .And (y :: r) b) = true from h)
      exact s_and (ih x a h1) (okBool_and ih h2)
    | _ => cases h
theorem okBool_or {f : Expr → E → Bool} {pos : Pos} (ih : ∀ e i, f e i = true → PE X e (tE X.K W C i)) : ∀ {es : List Expr} {i : E}, okBool f .Or es i = true → PE X (.BoolOp .Or es pos) (tE X.K W C i)
  | [], _, h => by cases h
  | [x], i, h => pe_one (ih x i h)
  | x :: y :: r, i, h => by
    cases i with
    | or a b =>
      obtain ⟨h1, h2⟩ := b2 (show (f x a && okBool f .Or (y :: r) b) = true from h)
      exact s_or (ih x a h1) (okBool_or ih h2)
    | _ => cases h
theorem okBool_andT {f : Expr → E → Bool} {pos : Pos} (ih : ∀ e i, f e i = true → PT X e (tT X.K W C i)) : ∀ {es : List Expr} {i : E}, okBool f .And es i = true → PW X (.BoolOp .And es pos) (tT X.K W C i)
  | [], _, h => by cases h
  | [x], i, h => stw_and1 (ih x i h)
  | x :: y :: r, i, h => by
    cases i with
    | and a b =>
      obtain ⟨h1, h2⟩ := b2 (show (f x a && okBool f .And (y :: r) b) = true from h)
      exact stw_and (ih x a h1) (okBool_andT ih h2)
    | _ => cases h
theorem okBool_orT {f : Expr → E → Bool} {pos : Pos} (ih : ∀ e i, f e i = true → PT X e (tT X.K W C i)) : ∀ {es : List Expr} {i : E}, okBool f .Or es i = true → PW X (.BoolOp .Or es pos) (tT X.K W C i)
  | [], _, h => by cases h
  | [x], i, h => stw_or1 (ih x i h)
  | x :: y :: r, i, h => by
    cases i with
    | or a b =>
      obtain ⟨h1, h2⟩ := b2 (show (f x a && okBool f .Or (y :: r) b) = true from h)
      exact stw_or (ih x a h1) (okBool_orT ih h2)
    | _ => cases h
theorem okPart_ok {f : Expr → E → Bool} (ih : ∀ e i, f e i = true → PE X e (tE X.K W C i)) : ∀ {e : Option Expr} {is : List E}, okPart f e is = true → PartOk X W C e is
  | none, [], _ => .none
  | some e, [i], h => .some (ih e i h)
  | none, _ :: _, h => by cases h
  | some _, [], h => by cases h
  | some _, _ :: _ :: _, h => by cases h
theorem flatCon_ok {d : D} {c : Const} {j : Nat} {pos : Pos} (h : flatCon d c = true) : ∃ v, PE X (.Constant c j pos) (tC v) ∧ ∀ θ H, Rep θ H d v := by
  cases d with
  | non => cases c with
    | none => exact ⟨_, pe_non, fun _ _ => .non⟩
    | _ => cases h
  | bl a => cases c with
    | bool b =>
      have e : a = b := by simpa [flatCon] using h
      subst e
      exact ⟨_, pe_bl, fun _ _ => .bl _⟩
    | _ => cases h
  | int i => cases c with
    | int k =>
      have e : i = k := of_decide_eq_true h
      subst e
      exact ⟨_, pe_int, fun _ _ => .int _⟩
    | _ => cases h
  | str z => cases c with
    | str x =>
      have e : x = toS z := of_decide_eq_true h
      subst e
      exact ⟨_, pe_str, fun _ _ => .str _⟩
    | _ => cases h
  | _ => cases c <;> cases h
theorem okCon_ok (G : Good T C sc N W X) {d : D} {e : Expr} (h : okCon T sc d e = true) : PE X e (tE X.K W C (.con d)) := by
  unfold okCon at h
  split at h
  · obtain ⟨v, h1, h2⟩ := flatCon_ok (X := X) h
    exact s_con h1 h2
  · rename_i x pos
    obtain ⟨h1, h2⟩ := b2 h
    obtain ⟨h3, h4⟩ := b2 h1
    obtain ⟨p, hp, hq⟩ := List.any_eq_true.mp h2
    obtain ⟨q1, q2⟩ := b2 hq
    obtain ⟨u, v, g1, g2, g3⟩ := G.con p hp
    have ex : x = toS p.1 := of_decide_eq_true q1
    subst ex
    have ed : d = p.2 := by
      split at q2
      · rename_i i j e1
        rw [of_decide_eq_true q2, e1]
      · rename_i i j e1
        rw [of_decide_eq_true q2, e1]
      · cases q2
    rw [ed]
    exact s_con (pe_glob (G.gl h3) g1 g2 (noDbg_1 h4).1) g3
  · cases h
theorem okTg_ok (G : Good T C sc N W X) {L : Str → Bool} (hL : ∀ x, L x = true → Loc X.env.scope x ∧ (X.fn x = true ∨ X.env.scope.names.lookup x = some .local)) {te : Expr} {tg : List Nat} (h : okTg N L te tg = true) : PG X te (tG X.K tg) := by
  have nm : ∀ {x : Str} {pos : Pos} {i : Nat}, decide (N[i]? = some x) = true → L x = true → PG X (.Name x pos) (gName i) := fun h1 h2 =>
    pg_name G.nd (by rw [G.names]; exact of_decide_eq_true h1) (hL _ h2).1 (hL _ h2).2
  unfold okTg at h
  split at h
  · obtain ⟨h1, h2⟩ := b2 h
    exact g_name (nm h1 h2)
  · obtain ⟨h, h4⟩ := b2 h
    obtain ⟨h, h3⟩ := b2 h
    obtain ⟨h1, h2⟩ := b2 h
    exact g_tup2 G.calm (nm h1 h2) (nm h3 h4)
  · obtain ⟨h, h6⟩ := b2 h
    obtain ⟨h, h5⟩ := b2 h
    obtain ⟨h, h4⟩ := b2 h
    obtain ⟨h, h3⟩ := b2 h
    obtain ⟨h1, h2⟩ := b2 h
    exact g_tup3 G.calm (nm h1 h2) (nm h3 h4) (nm h5 h6)
  · obtain ⟨h, h8⟩ := b2 h
    obtain ⟨h, h7⟩ := b2 h
    obtain ⟨h, h6⟩ := b2 h
    obtain ⟨h, h5⟩ := b2 h
    obtain ⟨h, h4⟩ := b2 h
    obtain ⟨h, h3⟩ := b2 h
    obtain ⟨h1, h2⟩ := b2 h
    exact g_tup4 G.calm (nm h1 h2) (nm h3 h4) (nm h5 h6) (nm h7 h8)
  · cases h
theorem okIt_ok (G : Good T C sc N W X) {f : Expr → E → Bool} (ih : ∀ e i, f e i = true → PE X e (tE X.K W C i)) {tg : Expr} {k : ItK} {its : List E} {e : Expr} (h : okIt T sc f tg k its e = true) : PI X tg e (wI X.K W C k its) := by
  unfold okIt at h
  split at h
  · obtain ⟨h1, h2⟩ := b2 h
    exact p_seq (ih _ _ h2)
  · obtain ⟨h, h5⟩ := b2 h
    obtain ⟨h, h4⟩ := b2 h
    obtain ⟨h, h3⟩ := b2 h
    obtain ⟨h1, h2⟩ := b2 h
    have ex := of_decide_eq_true h1
    subst ex
    exact p_range1 (G.gl h2) (G.free _ (con_mem h3)) (s_cons (ih _ _ h5) s_nil (star_cons h4)) (star_cons h4)
  · obtain ⟨h, h7⟩ := b2 h
    obtain ⟨h, h6⟩ := b2 h
    obtain ⟨h, h5⟩ := b2 h
    obtain ⟨h, h4⟩ := b2 h
    obtain ⟨h, h3⟩ := b2 h
    obtain ⟨h1, h2⟩ := b2 h
    have ex := of_decide_eq_true h1
    subst ex
    exact p_range2 (G.gl h2) (G.free _ (con_mem h3)) (s_cons (ih _ _ h6) (s_cons (ih _ _ h7) s_nil (star_cons h5)) (star_cons h4)) (by rw [star_cons h4, star_cons h5]; rfl) (star_cons h5)
  · obtain ⟨h, h5⟩ := b2 h
    obtain ⟨h, h4⟩ := b2 h
    obtain ⟨h, h3⟩ := b2 h
    obtain ⟨h, h2⟩ := b2 h
    obtain ⟨h0, h1⟩ := b2 h
    have ex := of_decide_eq_true h1
    subst ex
    cases tg with
    | Tuple elts kk tpos => exact p_enum (G.gl h2) (G.free _ (con_mem h3)) (s_cons (ih _ _ h5) s_nil (star_cons h4)) (star_cons h4)
    | _ => cases h0
  · obtain ⟨h, h7⟩ := b2 h
    obtain ⟨h, h6⟩ := b2 h
    obtain ⟨h, h5⟩ := b2 h
    obtain ⟨h, h4⟩ := b2 h
    obtain ⟨h, h3⟩ := b2 h
    obtain ⟨h, h2⟩ := b2 h
    obtain ⟨h0, h1⟩ := b2 h
    have ex := of_decide_eq_true h1
    subst ex
    cases tg with
    | Tuple elts kk tpos => exact p_zip (G.gl h2) (G.free _ (con_mem h3)) (s_cons (ih _ _ h6) (s_cons (ih _ _ h7) s_nil (star_cons h5)) (star_cons h4)) (star_cons h4) (star_plain (by rw [List.all_cons, h5]; rfl))
    | _ => cases h0
  · cases h
theorem zip_snd : ∀ {xs : List Str} {tg : List Nat}, xs.length = tg.length → (xs.zip tg).map (·.2) = tg
  | [], [], _ => rfl
  | x :: xs, t :: tg, h => by
    show t :: (xs.zip tg).map (·.2) = _
    rw [zip_snd (by simpa using h)]
  | [], _ :: _, h => by cases h
  | _ :: _, [], h => by cases h
theorem okIt_set {f : Expr → E → Bool} {tg : Expr} {k : ItK} {its : List E} {e : Expr} (h : okIt T sc f tg k its e = true) : notSet e = true := by
  unfold okIt at h
  split at h
  · exact (b2 h).1
  · rfl
  · rfl
  · rfl
  · rfl
  · cases h
/-- THE CHECK IS RIGHT -/
theorem okE_ok : ∀ (n : Nat) (T : Tab) (sc : Scope) (N : List Str) (W : WX) (X : Cx) (e : Expr) (ir : E), Good T C sc N W X → okE T n sc N e ir = true → PE X e (tE X.K W C ir) ∧ (notIf e = true → PT X e (tT X.K W C ir))
  | 0, _, _, _, _, _, _, _, _, h => by cases h
  | n + 1, T, sc, N, W, X, e, ir, G, h => by
    have ih : ∀ e i, okE T n sc N e i = true → PE X e (tE X.K W C i) := fun e i q => (okE_ok n _ sc N W X e i G q).1
    have iht : ∀ e i, (notIf e && okE T n sc N e i) = true → PT X e (tT X.K W C i) := fun e i q => (okE_ok n _ sc N W X e i G (b2 q).2).2 (b2 q).1
    have ihn : ∀ e i, (notIf e && okE T n sc N e i) = true → PE X e (tE X.K W C i) := fun e i q => (okE_ok n _ sc N W X e i G (b2 q).2).1
    have plain : PE X e (tE X.K W C ir) → (∀ whole, isTrue e X.env whole = (do let v ← whole; standAt e.pos; holding [v] (truthy v))) → PE X e (tE X.K W C ir) ∧ (notIf e = true → PT X e (tT X.K W C ir)) := fun a b => ⟨a, fun _ => st_truth a b⟩
    cases ir with
    | var i =>
      simp only [okE] at h
      split at h
      · obtain ⟨h, h3⟩ := b2 h
        obtain ⟨h1, h2⟩ := b2 h
        exact plain (s_var (by rw [G.names]; exact of_decide_eq_true h1) (G.vis h2) (noDbg_1 h3).1 (noDbg_1 h3).2) fun _ => rfl
      · cases h
    | con d =>
      have h' : okCon T sc d e = true := h
      refine plain (okCon_ok G h') ?_
      unfold okCon at h'
      split at h'
      · exact fun _ => rfl
      · exact fun _ => rfl
      · cases h'
    | tup is =>
      simp only [okE] at h
      split at h
      · exact plain (s_tup (okEs_ok ih h)) fun _ => rfl
      · cases h
    | lst is =>
      simp only [okE] at h
      split at h
      · exact plain (s_lst (okEs_ok ih h)) fun _ => rfl
      · cases h
    | bin o a b =>
      simp only [okE] at h
      split at h
      · obtain ⟨h, h3⟩ := b2 h
        obtain ⟨h1, h2⟩ := b2 h
        have ex := of_decide_eq_true h1
        subst ex
        exact plain (s_bin (ih _ _ h2) (ih _ _ h3)) fun _ => rfl
      · cases h
    | neg a =>
      simp only [okE] at h
      split at h
      · exact plain (s_neg (ih _ _ h)) fun _ => rfl
      · cases h
    | not a =>
      simp only [okE] at h
      split at h
      · exact ⟨s_not (ihn _ _ h), fun _ => st_not (iht _ _ h)⟩
      · cases h
    | and a b =>
      simp only [okE] at h
      split at h
      · obtain ⟨h1, h2⟩ := b2 h
        have ex := of_decide_eq_true h1
        subst ex
        exact ⟨okBool_and ihn h2, fun _ => (okBool_andT iht h2).pt⟩
      · cases h
    | or a b =>
      simp only [okE] at h
      split at h
      · obtain ⟨h1, h2⟩ := b2 h
        have ex := of_decide_eq_true h1
        subst ex
        exact ⟨okBool_or ihn h2, fun _ => (okBool_orT iht h2).pt⟩
      · cases h
    | ite c a b =>
      simp only [okE] at h
      split at h
      · obtain ⟨h, h3⟩ := b2 h
        obtain ⟨h1, h2⟩ := b2 h
        exact ⟨s_ite (iht _ _ h1) (ih _ _ h2) (ih _ _ h3), fun q => by cases q⟩
      · cases h
    | cmp o a b =>
      simp only [okE] at h
      split at h
      · obtain ⟨h, h4⟩ := b2 h
        obtain ⟨h, h3⟩ := b2 h
        obtain ⟨h1, h2⟩ := b2 h
        have ex := of_decide_eq_true h1
        subst ex
        exact ⟨s_cmp G.units (ih _ _ h3) (ih _ _ h4) (marks h2), fun _ => st_cmp G.units (ih _ _ h3) (ih _ _ h4) (marks h2)⟩
      · cases h
    | cmp2 o p a b c =>
      simp only [okE] at h
      split at h
      · obtain ⟨h, h6⟩ := b2 h
        obtain ⟨h, h5⟩ := b2 h
        obtain ⟨h, h4⟩ := b2 h
        obtain ⟨h, h3⟩ := b2 h
        obtain ⟨h1, h2⟩ := b2 h
        have ex := of_decide_eq_true h1
        subst ex
        have ex2 := of_decide_eq_true h2
        subst ex2
        exact ⟨s_cmp2 G.units (ih _ _ h4) (ih _ _ h5) (ih _ _ h6) (marks h3), fun _ => st_cmp2 G.units (ih _ _ h4) (ih _ _ h5) (ih _ _ h6) (marks h3)⟩
      · cases h
    | idx a b =>
      simp only [okE] at h
      split at h
      · obtain ⟨h, h3⟩ := b2 h
        obtain ⟨h1, h2⟩ := b2 h
        exact plain (s_idx G.u1 (ih _ _ h2) (ih _ _ h3) (plain_ix h1)) fun _ => rfl
      · cases h
    | slice a lo hi =>
      simp only [okE] at h
      split at h
      · obtain ⟨h, h3⟩ := b2 h
        obtain ⟨h1, h2⟩ := b2 h
        exact plain (s_slice (ih _ _ h1) (okPart_ok ih h2) (okPart_ok ih h3)) fun _ => rfl
      · cases h
    | call g is =>
      simp only [okE] at h
      split at h
      · rename_i x p es pos
        obtain ⟨h, h5⟩ := b2 h
        obtain ⟨h, h4⟩ := b2 h
        obtain ⟨h, h3⟩ := b2 h
        obtain ⟨h1, h2⟩ := b2 h
        have ex := of_decide_eq_true h1
        subst ex
        cases es with
        | nil =>
          cases is with
          | nil => exact plain (s_call0 G.pass (G.fn _ (con_mem h2)) (G.gl h3) (noDbg_1 h4).1) fun _ => rfl
          | cons _ _ => cases h5
        | cons y ys => exact plain (s_call G.pass (G.fn _ (con_mem h2)) (G.gl h3) (noDbg_1 h4).1 (okEs_ok ih h5) (okEs_star h5)) fun _ => rfl
      · cases h
    | bi b is =>
      simp only [okE] at h
      split at h
      · obtain ⟨h, h4⟩ := b2 h
        obtain ⟨h, h3⟩ := b2 h
        obtain ⟨h1, h2⟩ := b2 h
        have ex := of_decide_eq_true h1
        subst ex
        have hst := okEs_star h4
        simp only [List.all_cons, Bool.and_eq_true] at hst
        exact plain (s_bi G.calm (G.gl h3) (G.free _ (con_mem h2)) (okEs_ok ih h4) (star_cons hst.1) (star_plain hst.2)) fun _ => rfl
      · cases h
    | met m o is =>
      simp only [okE] at h
      split at h
      · rename_i x a p es q
        obtain ⟨h, h6⟩ := b2 h
        obtain ⟨h, h5⟩ := b2 h
        obtain ⟨h, h4⟩ := b2 h
        obtain ⟨h, h3⟩ := b2 h
        obtain ⟨h1, h2⟩ := b2 h
        have ex := of_decide_eq_true h1
        subst ex
        cases es with
        | nil =>
          cases is with
          | nil => exact plain (s_met0 G.u1 (ih _ _ h5) h2 h4) fun _ => rfl
          | cons _ _ => cases h6
        | cons y ys => exact plain (s_met G.u1 (ih _ _ h5) (okEs_ok ih h6) h2 (okEs_star h6) (of_decide_eq_true h3) h4) fun _ => rfl
      · cases h
    | isi a ts =>
      match ts, h with
      | [], h => cases h
      | _ :: _ :: _, h => cases h
      | [t], h =>
        simp only [okE] at h
        split at h
        · obtain ⟨h, h8⟩ := b2 h
          obtain ⟨h, h7⟩ := b2 h
          obtain ⟨h, h6⟩ := b2 h
          obtain ⟨h, h5⟩ := b2 h
          obtain ⟨h, h4⟩ := b2 h
          obtain ⟨h, h3⟩ := b2 h
          obtain ⟨h1, h2⟩ := b2 h
          have ex := of_decide_eq_true h1
          subst ex
          have ex2 := of_decide_eq_true h4
          subst ex2
          exact plain (s_isi1 (G.gl h2) (G.free _ (con_mem h3)) (G.gl h5) (G.free _ (con_mem h6)) (ih _ _ h8) (star_cons h7)) fun _ => rfl
        · cases h
    | comp elt tg k its cs =>
      simp only [okE] at h
      split at h
      · rename_i x te it ifs scope pos
        obtain ⟨h, h7⟩ := b2 h
        obtain ⟨h, h6⟩ := b2 h
        obtain ⟨h, h5⟩ := b2 h
        obtain ⟨h, h4⟩ := b2 h
        obtain ⟨h, h3⟩ := b2 h
        obtain ⟨h1, h2⟩ := b2 h
        refine plain (s_comp G.calm G.nd (okIt_ok G ih h5) (by rw [G.names, G.scope]; exact blkOk_by h2) (zip_snd (of_decide_eq_true h3)) (fun s H Cc cl fp => okTg_ok (G.blk scope s H Cc cl fp) (fun x q => ⟨.inl ((G.blk scope s H Cc cl fp).loc q), .inr ((G.blk scope s H Cc cl fp).loc q)⟩) h1) (fun s H Cc cl fp => ?_) (fun s H Cc cl fp => (okE_ok n _ _ N W0 _ x elt (G.blk scope s H Cc cl fp) h7).1) (folded h4)) fun _ => rfl
        split at h6
        · exact ts_nil
        · obtain ⟨a1, a2⟩ := b2 h6
          exact ts_one ((okE_ok n _ _ N W0 _ _ _ (G.blk scope s H Cc cl fp) a2).2 a1)
        · cases h6
      · cases h
    | compX elt tg k its =>
      simp only [okE] at h
      split at h
      · rename_i x te it scope pos
        obtain ⟨h, h7⟩ := b2 h
        obtain ⟨h, h5⟩ := b2 h
        obtain ⟨h, h4⟩ := b2 h
        obtain ⟨h, h3⟩ := b2 h
        obtain ⟨h, h2⟩ := b2 h
        obtain ⟨h0, h1⟩ := b2 h
        obtain ⟨tk, e1, e2⟩ := G.home h0
        exact plain (s_compX e1 e2 tk G.calm G.nd (okIt_ok G ih h5) (by rw [G.names, G.scope]; exact blkOk_by h2) (zip_snd (of_decide_eq_true h3)) (fun τ s H Cc cl fp => okTg_ok (G.blkX τ scope s H Cc cl fp) (fun x q => ⟨.inl ((G.blkX τ scope s H Cc cl fp).loc q), .inr ((G.blkX τ scope s H Cc cl fp).loc q)⟩) h1) (fun τ s H Cc cl fp => (okE_ok n _ _ N _ _ x elt (G.blkX τ scope s H Cc cl fp) h7).1) (folded h4)) fun _ => rfl
      · cases h
    | attr a f =>
      simp only [okE] at h
      split at h
      · obtain ⟨h, h3⟩ := b2 h
        obtain ⟨h1, h2⟩ := b2 h
        have ex := of_decide_eq_true h1
        subst ex
        exact plain (s_attr (fun c q => G.att c f q) (ih _ _ h3) h2) fun _ => rfl
      · cases h
    | umet m o is =>
      simp only [okE] at h
      split at h
      · rename_i x a p es q
        obtain ⟨h, h6⟩ := b2 h
        obtain ⟨h, h5⟩ := b2 h
        obtain ⟨h, h4⟩ := b2 h
        obtain ⟨h, h3⟩ := b2 h
        obtain ⟨h1, h2⟩ := b2 h
        have ex := of_decide_eq_true h1
        subst ex
        cases es with
        | nil =>
          cases is with
          | nil => exact plain (s_umet0 G.pass (fun c q => G.met c m q) (ih _ _ h5) h2 h4) fun _ => rfl
          | cons _ _ => cases h6
        | cons y ys => exact plain (s_umet G.pass (fun c q => G.met c m q) (ih _ _ h5) (okEs_ok ih h6) h2 (okEs_star h6) (of_decide_eq_true h3) h4) fun _ => rfl
      · cases h
    | mk c is =>
      simp only [okE] at h
      split at h
      · rename_i x p es pos
        obtain ⟨h, h5⟩ := b2 h
        obtain ⟨h, h4⟩ := b2 h
        obtain ⟨h, h3⟩ := b2 h
        obtain ⟨h1, h2⟩ := b2 h
        have ex := of_decide_eq_true h1
        subst ex
        cases es with
        | nil =>
          cases is with
          | nil => exact plain (s_mk0 G.pass (G.mks _ (con_mem h2)) (G.gl h3) (noDbg_1 h4).1) fun _ => rfl
          | cons _ _ => cases h5
        | cons y ys => exact plain (s_mk G.pass (G.mks _ (con_mem h2)) (G.gl h3) (noDbg_1 h4).1 (okEs_ok ih h5) (okEs_star h5)) fun _ => rfl
      · cases h
    | dnew =>
      simp only [okE] at h
      split at h
      · exact plain s_dnew fun _ => rfl
      · cases h
    | box a =>
      simp only [okE] at h
      split at h
      · exact plain (s_box (ih _ _ h)) fun _ => rfl
      · exact plain (s_box (ih _ _ h)) fun _ => rfl
      · cases h
    | rev a =>
      simp only [okE] at h
      split at h
      · obtain ⟨h1, h2⟩ := b2 h
        have ex := of_decide_eq_true h1
        subst ex
        exact plain (s_rev (ih _ _ h2)) fun _ => rfl
      · cases h
    | ddisp ks is =>
      simp only [okE] at h
      split at h
      · rename_i os es pos
        obtain ⟨h, h3⟩ := b2 h
        obtain ⟨h1, h2⟩ := b2 h
        obtain ⟨a1, a2, a3, a4, a5⟩ := okPairs_ok (pos := pos) ih h3
        exact plain (s_ddisp a1 a2 a3 (fun q => by rw [q] at h1; cases h1) (of_decide_eq_true h2) a4 a5) fun _ => rfl
      · cases h
end
end KL

set_option Elab.async false
set_option linter.all false
set_option maxRecDepth 100000
set_option maxHeartbeats 4000000
set_option autoImplicit false
/-! KLExc: handlers of exceptions. -/
namespace KL
open PySem PySem.Spec PyProof.Rows L2

def fv : D → V
  | .non => .non
  | .bl b => .bl b
  | .int i => .int i
  | .str z => .str (toS z)
  | _ => .non
theorem PS.imp {X : Cx} {e : Stmt} {t t' : TS} (h : PS X e t) (i : ∀ D σ H, t' D σ H → t D σ H) : PS X e t' := ⟨fun pins s σ H D I q => h.run pins s σ H D I (i D σ H q)⟩
theorem PSs.imp {X : Cx} {e : List Stmt} {t t' : TS} (h : PSs X e t) (i : ∀ D σ H, t' D σ H → t D σ H) : PSs X e t' := ⟨fun pins s σ H D I q => h.run pins s σ H D I (i D σ H q)⟩
theorem fv_rep {θ : Th} {H : Hp} {d : D} (h : flat d = true) : Rep θ H d (fv d) := by
  cases d <;> first | exact .non | exact .bl _ | exact .int _ | exact .str _ | cases h
theorem rep_fv {θ : Th} {H : Hp} {d : D} {v : V} (r : Rep θ H d v) (h : flat d = true) : v = fv d := by
  cases r <;> first | rfl | cases h
theorem varH_flat {ρ : KL.Env} {j : Nat} {d : D} (h : varH ρ j = some d) : flat d = true ∧ ρ[j]? = some (some d) := by
  unfold varH at h
  split at h
  · rename_i d' e
    split at h
    · rename_i hf
      cases h
      exact ⟨hf, e⟩
    · cases h
  · cases h
theorem evalH_flat {sub : String → String → Option Bool} {xf : String → String → Option D} {i : Option Nat} {c : String} {ρ : KL.Env} : ∀ {e : HE} {d : D}, evalH sub xf i c ρ e = some d → flat d = true
  | .var j, d, h => (varH_flat h).1
  | .con d', d, h => by
    simp only [evalH] at h
    split at h
    · rename_i hf; cases h; exact hf
    · cases h
  | .not a, d, h => by
    simp only [evalH] at h
    split at h
    · cases h; rfl
    · cases h
  | .and a b, d, h => by
    simp only [evalH] at h
    split at h
    · exact evalH_flat h
    · cases h; rfl
    · cases h
  | .or a b, d, h => by
    simp only [evalH] at h
    split at h
    · cases h; rfl
    · exact evalH_flat h
    · cases h
  | .isNone j, d, h => by
    simp only [evalH] at h
    split at h
    · cases h; rfl
    · cases h; rfl
    · cases h
  | .isx j cs, d, h => by
    simp only [evalH] at h
    split at h
    · split at h
      · cases h; rfl
      · cases h
    · cases h
  | .xcall f j, d, h => by
    simp only [evalH] at h
    split at h
    · split at h
      · split at h
        · rename_i hf; cases h; exact hf
        · cases h
      · cases h
    · cases h
  | .pick ss b, d, h => by
    simp only [evalH] at h
    split at h
    · split at h
      · cases h; rfl
      · cases h
    · cases h

mutual
theorem runH_flat {sub : String → String → Option Bool} {xf : String → String → Option D} {i : Option Nat} {c : String} {ρ : KL.Env} : ∀ {h : HS} {d : D}, runH sub xf i c ρ h = some (.ret d) → flat d = true
  | .ret e, d, h => by
    simp only [runH] at h
    split at h
    · rename_i e'; cases h; exact evalH_flat e'
    · cases h
  | .retL, d, h => by simp [runH] at h
  | .iff t a, d, h => by
    simp only [runH] at h
    split at h
    · exact runHs_flat h
    · cases h
    · cases h
theorem runHs_flat {sub : String → String → Option Bool} {xf : String → String → Option D} {i : Option Nat} {c : String} {ρ : KL.Env} : ∀ {h : List HS} {d : D}, runHs sub xf i c ρ h = some (.ret d) → flat d = true
  | [], d, h => by simp [runHs] at h
  | s :: ss, d, h => by
    simp only [runHs] at h
    split at h
    · exact runHs_flat h
    · rename_i hn
      exact runH_flat h
end
/-- slots as a handler sees them; slot i is the exception, at a -/
structure FlatR (i : Option Nat) (a : Addr) (ρ : KL.Env) (σ : L2.St) : Prop where
  at_ : ∀ (j : Nat) (d : D), ρ[j]? = some (some d) → ∃ v, σ[j]? = some (some v) ∧ (flat d = true → v = fv d) ∧ (v = .non ↔ d = .non)
  ex : ∀ j, i = some j → σ[j]? = some (some (.ref a))
theorem EnvR.flat {θ : Th} {H : Hp} {ρ : KL.Env} {σ : L2.St} (h : EnvR θ H ρ σ) (a : Addr) : FlatR none a ρ σ where
  at_ := fun j d e => by
    obtain ⟨v, e1, r⟩ := h.2 j d e
    refine ⟨v, e1, fun hf => rep_fv r hf, ?_⟩
    cases r <;> simp
  ex := fun j e => by cases e
theorem EnvR.flatAs {θ : Th} {H : Hp} {ρ : KL.Env} {σ : L2.St} (h : EnvR θ H ρ σ) (a : Addr) {i : Nat} (hi : i < σ.length) : FlatR (some i) a (ρ.set i none) (σ.set i (some (.ref a))) where
  at_ := fun j d e => by
    by_cases q : i = j
    · subst q
      have hl : i < ρ.length := by rw [h.1]; exact hi
      rw [List.getElem?_set_self hl] at e
      cases e
    · rw [List.getElem?_set_ne q] at e ⊢
      obtain ⟨v, e1, r⟩ := h.2 j d e
      refine ⟨v, e1, fun hf => rep_fv r hf, ?_⟩
      cases r <;> simp
  ex := fun j e => by
    cases e
    rw [List.getElem?_set_self hi]

/-! ### classes -/
def clsV (K : PySem.W.Frag) (k : String) : Value := if k = "ValueError" then .type "ValueError" else .ref (He.ga K (toS k))
def clsW (K : PySem.W.Frag) (k : String) : V := if k = "ValueError" then .ty "ValueError" else .ref (He.ga K (toS k))
theorem clsVW (K : PySem.W.Frag) (k : String) : ClsV (clsW K k) (clsV K k) := by
  unfold clsW clsV
  split
  · exact .ty _
  · exact .own _
section
variable {X : Cx} {a Cc : Addr} {oe : Obj}
theorem inst_at (hp : (a, oe) ∈ X.pn) (hz : Zc (.ref Cc) none oe) (hf : ∃ vs, oe.data = .fields vs) {pins : List (Addr × Obj)} {σ : L2.St} {H : Hp} {s : Shared} (I : Inv X pins σ H s) : PySem.W.InstAt s.heap a oe Cc none := by
  obtain ⟨hget, _⟩ := I.pin (a, oe) (List.mem_append.mpr (.inl hp))
  obtain ⟨vs, hv⟩ := hf
  obtain ⟨oc, od, oda, osl⟩ := oe
  obtain ⟨h1, h2⟩ := hz
  dsimp only at h1 h2 hv
  subst h1 h2 hv
  exact ⟨hget, rfl, rfl, trivial⟩
def rIsX (K : PySem.W.Frag) (Cc a : Addr) : List V → Hp → VK → Prop := fun xs H Q => ∃ (c : V) (cv : Value) (b : Bool), xs = [.ref a, c] ∧ ClsV c cv ∧ PySem.W.kitOne K (.ref Cc) cv = some b ∧ Q (.bl b) H
def rIsXT (K : PySem.W.Frag) (Cc a : Addr) : List V → Hp → VK → Prop := fun xs H Q => ∃ (tp : Addr) (cs : List V) (us : List Value) (b : Bool), xs = [.ref a, .ref tp] ∧ H tp = some (.tup cs) ∧ Paired ClsV cs us ∧ PySem.W.kitAny K (.ref Cc) us = some b ∧ Q (.bl b) H
theorem call_isX (E : ExcC X.K Cc) (hp : (a, oe) ∈ X.pn) (hz : Zc (.ref Cc) none oe) (hf : ∃ vs, oe.data = .fields vs) : CallR X (.builtin "isinstance") (rIsX X.K Cc a) := by
  intro pins s σ H xs us Q I r h
  obtain ⟨c, cv, b, rfl, hcv, e, q⟩ := h
  cases r with
  | cons rx rr =>
    cases rr with
    | cons rt rr =>
      cases rr
      cases rx
      have ec := hcv.eq rt
      subst ec
      exact PySem.W.kia_one (PySem.W.handS_kitx_exc E.hg E.hk E.hs E.hd E.ha E.hn E.ht E.hm) I.kIn (inst_at hp hz hf I) e (fun z => nomatch z) fun tk => ⟨.bl b, H, I.kept (t' := tk) fun _ _ z => z, rfl, q⟩
theorem call_isXT (E : ExcC X.K Cc) (hp : (a, oe) ∈ X.pn) (hz : Zc (.ref Cc) none oe) (hf : ∃ vs, oe.data = .fields vs) : CallR X (.builtin "isinstance") (rIsXT X.K Cc a) := by
  intro pins s σ H xs us Q I r h
  obtain ⟨tp, cs, ws, b, rfl, hT, k, e, q⟩ := h
  cases r with
  | cons rx rr =>
    cases rr with
    | cons rt rr =>
      cases rr
      cases rx
      cases rt
      obtain ⟨_, its, rv, o, h1, h2, n, h3⟩ := (show ObjOk X.prog X.w H s.heap tp (.tup cs) from I.hok tp _ hT)
      have e3 := ClsV.all k rv
      subst e3
      obtain ⟨oc, od, dt, sl⟩ := o
      simp only at h2 h3
      subst h2 h3
      exact PySem.W.kia_tup (PySem.W.handS_kitx_exc E.hg E.hk E.hs E.hd E.ha E.hn E.ht E.hm) I.kIn (inst_at hp hz hf I) h1 e (fun z => nomatch z) fun tk => ⟨.bl b, H, I.kept (t' := tk) fun _ _ z => z, rfl, q⟩
end

/-- a heap in which all stays -/
def Grow (H H' : Hp) : Prop := ∀ a o, H a = some o → H' a = some o
theorem Grow.refl (H : Hp) : Grow H H := fun _ _ h => h
theorem Grow.trans {H H1 H2 : Hp} (g : Grow H H1) (h : Grow H1 H2) : Grow H H2 := fun a o e => h a o (g a o e)
theorem Grow.upd {H : Hp} {p : Addr} {o : HO} (h : H p = none) : Grow H (upd H p o) := fun a o' e => by
  rw [upd_ne (ne_of_none e h)]
  exact e
theorem Grow.none {H H' : Hp} (g : Grow H H') {p : Addr} (h : H' p = none) : H p = none := by
  cases e : H p with
  | none => rfl
  | some o =>
    rw [g p o e] at h
    cases h
/-- an own def of an exception, called within a handler -/
structure XfnOk (X : Cx) (f : String) (a : Addr) (d : D) : Prop where
  mg : X.mg (toS f) = some (.ref (He.ga X.K (toS f)))
  kp : PySem.W.keepIn X.K (.ref (He.ga X.K (toS f))) = true
  run : ∀ (pins : List (Addr × Obj)) (s : Shared) (σ : L2.St) (H : Hp) (Q : VK), Inv X pins σ H s → (∀ H', Grow H H' → Q (fv d) H') → wpAny (model X.prog X.w) X.A (PySem.call (.ref (He.ga X.K (toS f))) [.ref a]) (EP X pins σ Q) X.xe s

section
variable (sub : String → String → Option Bool) (xf : String → String → Option D) (i : Option Nat) (c : String) (a : Addr)
def tH (e : HE) : TE := fun σ H Q => ∃ ρ d, FlatR i a ρ σ ∧ evalH sub xf i c ρ e = some d ∧ ∀ H', Grow H H' → Q (fv d) H'
def tHT (e : HE) : TT := fun σ H Q => ∃ ρ b, FlatR i a ρ σ ∧ evalH sub xf i c ρ e = some (.bl b) ∧ ∀ H', Grow H H' → Q b H'
def tHR (r : Option HR) : TS := fun D σ H => match r with
  | some (.ret d) => ∀ H', Grow H H' → D.rt (fv d) H'
  | some .retL => ∀ H' p, Grow H H' → H' p = none → D.rt (.ref p) (upd H' p (.lst []))
  | some .next => ∀ H', Grow H H' → D.nx σ H'
  | none => False
def tHs (hs : List HS) : TS := fun D σ H => ∃ ρ, FlatR i a ρ σ ∧ tHR (runHs sub xf i c ρ hs) D σ H
def tH1 (hs : HS) : TS := fun D σ H => ∃ ρ, FlatR i a ρ σ ∧ tHR (runH sub xf i c ρ hs) D σ H
end
theorem tHR.up {r : Option HR} {D : Ends} {σ : L2.St} {H H' : Hp} (g : Grow H H') (h : tHR r D σ H) : tHR r D σ H' := by
  cases r with
  | none => exact h
  | some r =>
    cases r with
    | ret d => exact fun H2 g2 => h H2 (g.trans g2)
    | retL => exact fun H2 p g2 => h H2 p (g.trans g2)
    | next => exact fun H2 g2 => h H2 (g.trans g2)
section
variable {X : Cx} {sub : String → String → Option Bool} {xf : String → String → Option D} {i : Option Nat} {c : String} {a : Addr}
theorem h_var {j : Nat} {x : Str} {pos : Pos} (hN : X.N[j]? = some x) (hv : Vis X.env.scope x) (h1 : (x == ("__debug__" : Str)) = false) (h2 : (x == ("__classdict__" : Str)) = false) : PE X (.Name x pos) (tH sub xf i c a (.var j)) :=
  PE.imp (pe_var hN hv h1 h2) fun σ H Q ⟨ρ, d, F, e, q⟩ => by
    obtain ⟨hf, e1⟩ := varH_flat (show varH ρ j = some d from e)
    obtain ⟨v, e2, h3, _⟩ := F.at_ j d e1
    refine ⟨v, e2, ?_⟩
    rw [h3 hf]
    exact q _ (.refl _)
theorem h_con {e : Expr} {d : D} (h : PE X e (tC (fv d))) : PE X e (tH sub xf i c a (.con d)) :=
  PE.imp h fun σ H Q ⟨ρ, d', F, e, q⟩ => by
    simp only [evalH] at e
    split at e
    · cases e; exact q _ (.refl _)
    · cases e
theorem h_not {e : Expr} {ie : HE} {pos : Pos} (h : PE X e (tH sub xf i c a ie)) : PE X (.UnaryOp .Not e pos) (tH sub xf i c a (.not ie)) :=
  PE.imp (pe_not h) fun σ H Q ⟨ρ, d, F, e, q⟩ => by
    simp only [evalH] at e
    split at e
    · rename_i b hb
      cases e
      exact ⟨ρ, _, F, hb, fun H' g => ⟨b, rfl, q H' g⟩⟩
    · cases e
theorem h_and {x y : Expr} {r : List Expr} {ia ib : HE} {pos : Pos} (ha : PE X x (tH sub xf i c a ia)) (hb : PE X (.BoolOp .And (y :: r) pos) (tH sub xf i c a ib)) : PE X (.BoolOp .And (x :: y :: r) pos) (tH sub xf i c a (.and ia ib)) :=
  PE.imp (pe_and ha hb) fun σ H Q ⟨ρ, d, F, e, q⟩ => by
    simp only [evalH] at e
    split at e
    · rename_i hb
      exact ⟨ρ, _, F, hb, fun H' g => ⟨true, rfl, by rw [if_pos rfl]; exact ⟨ρ, d, F, e, fun H2 g2 => q H2 (g.trans g2)⟩⟩⟩
    · rename_i hb
      cases e
      exact ⟨ρ, _, F, hb, fun H' g => ⟨false, rfl, by rw [if_neg Bool.false_ne_true]; exact q H' g⟩⟩
    · cases e
theorem h_or {x y : Expr} {r : List Expr} {ia ib : HE} {pos : Pos} (ha : PE X x (tH sub xf i c a ia)) (hb : PE X (.BoolOp .Or (y :: r) pos) (tH sub xf i c a ib)) : PE X (.BoolOp .Or (x :: y :: r) pos) (tH sub xf i c a (.or ia ib)) :=
  PE.imp (pe_or ha hb) fun σ H Q ⟨ρ, d, F, e, q⟩ => by
    simp only [evalH] at e
    split at e
    · rename_i hb
      cases e
      exact ⟨ρ, _, F, hb, fun H' g => ⟨true, rfl, by rw [if_pos rfl]; exact q H' g⟩⟩
    · rename_i hb
      exact ⟨ρ, _, F, hb, fun H' g => ⟨false, rfl, by rw [if_neg Bool.false_ne_true]; exact ⟨ρ, d, F, e, fun H2 g2 => q H2 (g.trans g2)⟩⟩⟩
    · cases e
theorem h_isNone {j j2 : Nat} {x : Str} {p p2 pos : Pos} (hN : X.N[j]? = some x) (hv : Vis X.env.scope x) (h1 : (x == ("__debug__" : Str)) = false) (h2 : (x == ("__classdict__" : Str)) = false) :
    PE X (.Compare (.Name x p) [.Is] [.Constant .none j2 p2] pos) (tH sub xf i c a (.isNone j)) :=
  PE.imp (pe_cmpR op_isN (pe_var hN hv h1 h2) pe_non rfl) fun σ H Q ⟨ρ, d, F, e, q⟩ => by
    simp only [evalH] at e
    split at e
    · rename_i e1
      cases e
      obtain ⟨v, e2, h3, h4⟩ := F.at_ j _ e1
      refine ⟨v, e2, rfl, ?_⟩
      rw [h4.mpr rfl]
      exact q _ (.refl _)
    · rename_i d' hn e1
      cases e
      obtain ⟨v, e2, h3, h4⟩ := F.at_ j _ e1
      refine ⟨v, e2, rfl, ?_⟩
      have : decide (v = V.non) = false := decide_eq_false fun z => hn (by rw [← h4.mp z])
      rw [this]
      exact q _ (.refl _)
    · cases e
/-- the name of a class -/
theorem pe_cls {k : String} {p : Pos} (hg : Gl X (toS k)) (hd : noDbg (toS k) = true) (hm : X.mg (toS k) = (if k = "ValueError" then none else some (.ref (He.ga X.K (toS k))))) : PE X (.Name (toS k) p) (tC (clsW X.K k)) := by
  unfold clsW
  have hdb : (toS k == ("__debug__" : Str)) = false := by
    unfold noDbg at hd
    simp at hd
    simpa using hd.1
  by_cases hk : k = "ValueError"
  · subst hk
    rw [if_pos rfl] at hm ⊢
    exact pe_bltn hg hm (by decide +kernel) rfl (by decide +kernel) hdb
  · rw [if_neg hk] at hm ⊢
    exact pe_glob hg hm rfl hdb
theorem kit_any {K : PySem.W.Frag} {c : String} (hs : ∀ k b, sub c k = some b → PySem.W.kitOne K (cV K c) (clsV K k) = some b) : ∀ {cs : List String} {b : Bool}, isAny sub c cs = some b → PySem.W.kitAny K (cV K c) (cs.map (clsV K)) = some b
  | [], b, h => h
  | k :: cs, b, h => by
    unfold isAny at h
    cases e : sub c k with
    | none => rw [e] at h; cases h
    | some t =>
      rw [e] at h
      refine kitAny_cons (hs k t e) (fun ht => ?_) fun ht => ?_
      · subst ht
        exact kit_any hs h
      · subst ht
        cases h
        rfl

/-! ### the check of handlers -/
def okXc (T : Tab) (sc : Scope) (k : String) : Expr → Bool
  | .Name x _ => decide (x = toS k) && isGl sc x && noDbg x && (if k = "ValueError" then T.free.contains k else T.xcls.contains k)
  | _ => false
def okXcs (T : Tab) (sc : Scope) : List Expr → List String → Bool
  | [], [] => true
  | e :: es, k :: ks => notStar e && okXc T sc k e && okXcs T sc es ks
  | _, _ => false
def okCls (T : Tab) (sc : Scope) : Expr → List String → Bool
  | .Name k p, [k'] => okXc T sc k' (.Name k p)
  | .Tuple es _ _, k :: ks => okXcs T sc es (k :: ks) && decide ((k :: ks).length < 20)
  | _, _ => false
def okBoolH (f : Expr → HE → Bool) (op : BoolOp) : List Expr → HE → Bool
  | [], _ => false
  | [x], ir => f x ir
  | x :: y :: r, ir => match op, ir with
    | .And, .and a b => f x a && okBoolH f op (y :: r) b
    | .Or, .or a b => f x a && okBoolH f op (y :: r) b
    | _, _ => false
def okStrs : List Expr → List String → Bool
  | [], [] => true
  | .Constant (.str x) _ _ :: es, z :: zs => decide (x = toS z) && okStrs es zs
  | _, _ => false
def okVar (sc : Scope) (N : List Str) (j : Nat) (x : Str) : Bool := decide (N[j]? = some x) && isVis sc x && noDbg x
def okH (T : Tab) : Nat → Scope → List Str → Expr → HE → Bool
  | 0, _, _, _, _ => false
  | n + 1, sc, N, e, ir => match ir with
    | .var j => (match e with
      | .Name x _ => okVar sc N j x
      | _ => false)
    | .con d => (match e with
      | .Constant c _ _ => flatCon d c
      | _ => false)
    | .not a => (match e with
      | .UnaryOp .Not x _ => okH T n sc N x a
      | _ => false)
    | .and a b => (match e with
      | .BoolOp op (x :: y :: r) _ => decide (op = .And) && okBoolH (okH T n sc N) .And (x :: y :: r) (.and a b)
      | _ => false)
    | .or a b => (match e with
      | .BoolOp op (x :: y :: r) _ => decide (op = .Or) && okBoolH (okH T n sc N) .Or (x :: y :: r) (.or a b)
      | _ => false)
    | .isNone j => (match e with
      | .Compare (.Name x _) [.Is] [.Constant .none _ _] _ => okVar sc N j x
      | _ => false)
    | .isx j cs => (match e with
      | .Call (.Name f _) [.Name x _, c] [] _ => decide (f = toS "isinstance") && isGl sc f && T.free.contains "isinstance" && okVar sc N j x && notStar c && okCls T sc c cs
      | _ => false)
    | .xcall g j => (match e with
      | .Call (.Name f _) [.Name x _] [] _ => decide (f = toS g) && isGl sc f && noDbg f && T.xfns.contains g && okVar sc N j x
      | _ => false)
    | .pick ss b => (match e with
      | .Subscript (.List es _) (.Call (.Name t _) [x] [] _) _ => decide (t = toS "int") && isGl sc t && T.free.contains "int" && notStar x && okH T n sc N x b && okStrs es ss && decide (es.length < 20)
      | _ => false)
mutual
def okHS (T : Tab) (sc : Scope) (N : List Str) : Stmt → HS → Bool
  | .Return (some v) _, .ret e => okH T 30 sc N v e
  | .Return (some (.List [] _)) _, .retL => true
  | .If t x [] _, .iff c a => okH T 30 sc N t c && okHSs T sc N x a
  | _, _ => false
def okHSs (T : Tab) (sc : Scope) (N : List Str) : List Stmt → List HS → Bool
  | [], [] => true
  | s :: ss, h :: hs => okHS T sc N s h && okHSs T sc N ss hs
  | _, _ => false
end
/-- what stands ready in a handler -/
structure GoodH (T : Tab) (sub : String → String → Option Bool) (xf : String → String → Option D) (sc : Scope) (N : List Str) (X : Cx) (c : String) (a : Addr) : Prop where
  scope : X.env.scope = sc
  names : X.N = N
  free : ∀ x ∈ T.free, X.mg (toS x) = none
  xcl : ∀ k ∈ T.xcls, X.mg (toS k) = some (.ref (He.ga X.K (toS k)))
  kit : ∀ k b, sub c k = some b → PySem.W.kitOne X.K (cV X.K c) (clsV X.K k) = some b ∧ ExcC X.K (He.ga X.K (toS c))
  inst : ∃ oe, (a, oe) ∈ X.pn ∧ Zc (cV X.K c) none oe ∧ ∃ vs, oe.data = .fields vs
  xfn : ∀ f ∈ T.xfns, ∀ d, xf f c = some d → XfnOk X f a d
section
variable {T : Tab} {X : Cx} {sub : String → String → Option Bool} {xf : String → String → Option D} {i : Option Nat} {c : String} {a : Addr} {sc : Scope} {N : List Str}
theorem GoodH.gl (G : GoodH T sub xf sc N X c a) {x : Str} (h : isGl sc x = true) : Gl X x := by
  unfold Gl PySem.Env.kindOf
  rw [G.scope]
  unfold isGl at h
  split at h
  · rename_i e; exact e
  · cases h
theorem GoodH.vis (G : GoodH T sub xf sc N X c a) {x : Str} (h : isVis sc x = true) : Vis X.env.scope x := by
  rw [G.scope]
  unfold isVis at h
  unfold Vis
  split at h
  · rename_i e; exact .inl e
  · rename_i e; exact .inr (.inl e)
  · rename_i e; exact .inr (.inr e)
  · cases h
theorem GoodH.var (G : GoodH T sub xf sc N X c a) {j : Nat} {x : Str} (h : okVar sc N j x = true) : X.N[j]? = some x ∧ Vis X.env.scope x ∧ (x == ("__debug__" : Str)) = false ∧ (x == ("__classdict__" : Str)) = false := by
  unfold okVar at h
  obtain ⟨h, h3⟩ := b2 h
  obtain ⟨h1, h2⟩ := b2 h
  exact ⟨by rw [G.names]; exact of_decide_eq_true h1, G.vis h2, noDbg_1 h3⟩
theorem okXc_ok (G : GoodH T sub xf sc N X c a) {k : String} {e : Expr} (h : okXc T sc k e = true) : PE X e (tC (clsW X.K k)) := by
  unfold okXc at h
  split at h
  · obtain ⟨h, h4⟩ := b2 h
    obtain ⟨h, h3⟩ := b2 h
    obtain ⟨h1, h2⟩ := b2 h
    have ex := of_decide_eq_true h1
    subst ex
    refine pe_cls (G.gl h2) h3 ?_
    by_cases hk : k = "ValueError"
    · rw [if_pos hk] at h4 ⊢
      exact G.free _ (con_mem h4)
    · rw [if_neg hk] at h4 ⊢
      exact G.xcl _ (con_mem h4)
  · cases h
theorem okXcs_ok (G : GoodH T sub xf sc N X c a) : ∀ {es : List Expr} {ks : List String}, okXcs T sc es ks = true → ∃ t : TA, PA X es t ∧ ∀ σ H Q, Q (ks.map (clsW X.K)) H → t σ H Q
  | [], [], _ => ⟨_, pa_nil, fun _ _ _ q => q⟩
  | e :: es, k :: ks, h => by
    obtain ⟨h, h3⟩ := b2 (show (notStar e && okXc T sc k e && okXcs T sc es ks) = true from h)
    obtain ⟨h1, h2⟩ := b2 h
    obtain ⟨t, g1, g2⟩ := okXcs_ok G h3
    exact ⟨_, pa_cons (okXc_ok G h2) g1 (star_cons h1), fun σ H Q q => g2 σ H _ q⟩
  | [], _ :: _, h => by cases h
  | _ :: _, [], h => by cases h
theorem okCls_ok (G : GoodH T sub xf sc N X c a) {e : Expr} {cs : List String} (h : okCls T sc e cs = true) : (∃ k0, cs = [k0] ∧ PE X e (tC (clsW X.K k0))) ∨ ∃ k0 ks t, cs = k0 :: ks ∧ cs.length < 20 ∧ PE X e (tTup t) ∧ ∀ σ H Q, Q (cs.map (clsW X.K)) H → t σ H Q := by
  unfold okCls at h
  split at h
  · exact .inl ⟨_, rfl, okXc_ok G h⟩
  · obtain ⟨h6, h7⟩ := b2 h
    obtain ⟨t, g1, g2⟩ := okXcs_ok G h6
    exact .inr ⟨_, _, t, rfl, of_decide_eq_true h7, pe_tup g1, g2⟩
  · cases h
theorem paired_cls {K : PySem.W.Frag} : ∀ ks : List String, Paired ClsV (ks.map (clsW K)) (ks.map (clsV K))
  | [] => .nil
  | k :: ks => .cons (clsVW K k) (paired_cls ks)
theorem okStrs_ok : ∀ {es : List Expr} {zs : List String}, okStrs es zs = true → ∃ t : TA, PA X es t ∧ es.all notStar = true ∧ es.length = zs.length ∧ ∀ σ H Q, Q (zs.map fun z => V.str (toS z)) H → t σ H Q
  | [], [], _ => ⟨_, pa_nil, rfl, rfl, fun _ _ _ q => q⟩
  | .Constant (.str x) j p :: es, z :: zs, h => by
    obtain ⟨h1, h2⟩ := b2 (show (decide (x = toS z) && okStrs es zs) = true from h)
    obtain ⟨t, g1, g2, g3, g4⟩ := okStrs_ok h2
    have ex := of_decide_eq_true h1
    subst ex
    exact ⟨_, pa_cons pe_str g1 rfl, by rw [List.all_cons, g2]; rfl, congrArg (· + 1) g3, fun σ H Q q => g4 σ H _ q⟩
  | [], _ :: _, h => by cases h
  | _ :: _, [], h => by simp [okStrs] at h
theorem call_intb : CallR X (.type "int") (fun xs H Q => ∃ b, xs = [.bl b] ∧ Q (.int (if b then 1 else 0)) H) := CallR.impR fun xs H Q ⟨b, e, q⟩ => ⟨_, call_int1, .inr ⟨b, e, q⟩⟩
theorem okBoolH_and {f : Expr → HE → Bool} {pos : Pos} (ih : ∀ e i', f e i' = true → PE X e (tH sub xf i c a i')) : ∀ {es : List Expr} {i' : HE}, okBoolH f .And es i' = true → PE X (.BoolOp .And es pos) (tH sub xf i c a i')
  | [], _, h => by cases h
  | [x], i, h => pe_one (ih x i h)
  | x :: y :: r, i, h => by
    cases i with
    | and a b =>
      obtain ⟨h1, h2⟩ := b2 (show (f x a && okBoolH f .And (y :: r) b) = true from h)
      exact h_and (ih x a h1) (okBoolH_and ih h2)
    | _ => cases h
theorem okBoolH_or {f : Expr → HE → Bool} {pos : Pos} (ih : ∀ e i', f e i' = true → PE X e (tH sub xf i c a i')) : ∀ {es : List Expr} {i' : HE}, okBoolH f .Or es i' = true → PE X (.BoolOp .Or es pos) (tH sub xf i c a i')
  | [], _, h => by cases h
  | [x], i, h => pe_one (ih x i h)
  | x :: y :: r, i, h => by
    cases i with
    | or a b =>
      obtain ⟨h1, h2⟩ := b2 (show (f x a && okBoolH f .Or (y :: r) b) = true from h)
      exact h_or (ih x a h1) (okBoolH_or ih h2)
    | _ => cases h
theorem okBoolH_andT {f : Expr → HE → Bool} {pos : Pos} (ih : ∀ e i', f e i' = true → PT X e (tHT sub xf i c a i')) : ∀ {es : List Expr} {i' : HE}, okBoolH f .And es i' = true → PW X (.BoolOp .And es pos) (tHT sub xf i c a i')
  | [], _, h => by cases h
  | [x], i, h => pw_and1 (ih x i h)
  | x :: y :: r, i, h => by
    cases i with
    | and ia ib =>
      obtain ⟨h1, h2⟩ := b2 (show (f x ia && okBoolH f .And (y :: r) ib) = true from h)
      refine PW.imp (pw_and (ih x ia h1) (okBoolH_andT ih h2)) fun σ H Q ⟨ρ, b, F, e, q⟩ => ?_
      simp only [evalH] at e
      split at e
      · rename_i hb
        exact ⟨ρ, _, F, hb, fun H1 g => by dsimp only; rw [if_pos rfl]; exact ⟨ρ, b, F, e, fun H2 g2 => q H2 (g.trans g2)⟩⟩
      · rename_i hb
        cases e
        exact ⟨ρ, _, F, hb, fun H1 g => by dsimp only; rw [if_neg Bool.false_ne_true]; exact q H1 g⟩
      · cases e
    | _ => cases h
theorem okBoolH_orT {f : Expr → HE → Bool} {pos : Pos} (ih : ∀ e i', f e i' = true → PT X e (tHT sub xf i c a i')) : ∀ {es : List Expr} {i' : HE}, okBoolH f .Or es i' = true → PW X (.BoolOp .Or es pos) (tHT sub xf i c a i')
  | [], _, h => by cases h
  | [x], i, h => pw_or1 (ih x i h)
  | x :: y :: r, i, h => by
    cases i with
    | or ia ib =>
      obtain ⟨h1, h2⟩ := b2 (show (f x ia && okBoolH f .Or (y :: r) ib) = true from h)
      refine PW.imp (pw_or (ih x ia h1) (okBoolH_orT ih h2)) fun σ H Q ⟨ρ, b, F, e, q⟩ => ?_
      simp only [evalH] at e
      split at e
      · rename_i hb
        cases e
        exact ⟨ρ, _, F, hb, fun H1 g => by dsimp only; rw [if_pos rfl]; exact q H1 g⟩
      · rename_i hb
        exact ⟨ρ, _, F, hb, fun H1 g => by dsimp only; rw [if_neg Bool.false_ne_true]; exact ⟨ρ, b, F, e, fun H2 g2 => q H2 (g.trans g2)⟩⟩
      · cases e
    | _ => cases h
theorem h_test {e : Expr} {ir : HE} (h : PE X e (tH sub xf i c a ir)) (hp : ∀ whole, isTrue e X.env whole = (do let v ← whole; standAt e.pos; holding [v] (truthy v))) : PT X e (tHT sub xf i c a ir) :=
  PT.imp (pt_val h hp) fun σ H Q ⟨ρ, b, F, e, q⟩ => ⟨ρ, _, F, e, fun H1 g => ⟨b, rfl, q H1 g⟩⟩
theorem okH_ok (G : GoodH T sub xf sc N X c a) : ∀ (n : Nat) (e : Expr) (ir : HE), okH T n sc N e ir = true → PE X e (tH sub xf i c a ir) ∧ PT X e (tHT sub xf i c a ir)
  | 0, _, _, h => by cases h
  | n + 1, e, ir, h => by
    have ih : ∀ e i', okH T n sc N e i' = true → PE X e (tH sub xf i c a i') := fun e i' q => (okH_ok G n e i' q).1
    have iht : ∀ e i', okH T n sc N e i' = true → PT X e (tHT sub xf i c a i') := fun e i' q => (okH_ok G n e i' q).2
    have plain : PE X e (tH sub xf i c a ir) → (∀ whole, isTrue e X.env whole = (do let v ← whole; standAt e.pos; holding [v] (truthy v))) → PE X e (tH sub xf i c a ir) ∧ PT X e (tHT sub xf i c a ir) := fun a b => ⟨a, h_test a b⟩
    cases ir with
    | var j =>
      simp only [okH] at h
      split at h
      · obtain ⟨h1, h2, h3, h4⟩ := G.var h
        exact plain (h_var h1 h2 h3 h4) fun _ => rfl
      · cases h
    | con d =>
      simp only [okH] at h
      split at h
      · rename_i k j p
        obtain ⟨v, h1, h2⟩ := flatCon_ok (X := X) (j := j) (pos := p) h
        have hf : flat d = true := by
          cases d <;> first | rfl | (cases k <;> cases h)
        have ev := rep_fv (h2 ⟨[], []⟩ (fun _ => none)) hf
        subst ev
        exact plain (h_con h1) fun _ => rfl
      · cases h
    | not b =>
      simp only [okH] at h
      split at h
      · refine ⟨h_not (ih _ _ h), PT.imp (pt_not (iht _ _ h)) fun σ H Q ⟨ρ, k, F, e, q⟩ => ?_⟩
        simp only [evalH] at e
        split at e
        · rename_i b' hb
          cases e
          exact ⟨ρ, b', F, hb, q⟩
        · cases e
      · cases h
    | and x y =>
      simp only [okH] at h
      split at h
      · obtain ⟨h1, h2⟩ := b2 h
        have ex := of_decide_eq_true h1
        subst ex
        exact ⟨okBoolH_and ih h2, (okBoolH_andT iht h2).pt⟩
      · cases h
    | or x y =>
      simp only [okH] at h
      split at h
      · obtain ⟨h1, h2⟩ := b2 h
        have ex := of_decide_eq_true h1
        subst ex
        exact ⟨okBoolH_or ih h2, (okBoolH_orT iht h2).pt⟩
      · cases h
    | isNone j =>
      simp only [okH] at h
      split at h
      · obtain ⟨h1, h2, h3, h4⟩ := G.var h
        refine ⟨h_isNone h1 h2 h3 h4, PT.imp (pt_cmpR op_isN (pe_var h1 h2 h3 h4) pe_non rfl) fun σ H Q ⟨ρ, b, F, e, q⟩ => ?_⟩
        simp only [evalH] at e
        split at e
        · rename_i e1
          cases e
          obtain ⟨v, e2, h3, h4⟩ := F.at_ j _ e1
          refine ⟨v, e2, rfl, _, rfl, ?_⟩
          rw [h4.mpr rfl]
          exact q _ (.refl _)
        · rename_i d' hn e1
          cases e
          obtain ⟨v, e2, h3, h4⟩ := F.at_ j _ e1
          refine ⟨v, e2, rfl, _, rfl, ?_⟩
          have : decide (v = V.non) = false := decide_eq_false fun z => hn (by rw [← h4.mp z])
          rw [this]
          exact q _ (.refl _)
        · cases e
      · cases h
    | isx j cs =>
      simp only [okH] at h
      split at h
      · rename_i f p x p2 k pos
        obtain ⟨h, h6⟩ := b2 h
        obtain ⟨h, h5⟩ := b2 h
        obtain ⟨h, h4⟩ := b2 h
        obtain ⟨h, h3⟩ := b2 h
        obtain ⟨h1, h2⟩ := b2 h
        have ex := of_decide_eq_true h1
        subst ex
        obtain ⟨v1, v2, v3, v4⟩ := G.var h4
        obtain ⟨oe, hp, hz, hf⟩ := G.inst
        have vr : PE X (.Name x p2) (fun σ H Q => ∃ v, σ[j]? = some (some v) ∧ Q v H) := pe_var v1 v2 v3 v4
        refine plain ⟨fun pins s σ H Q I ⟨ρ, d, F, e, q⟩ => ?_⟩ fun _ => rfl
        simp only [evalH] at e
        split at e
        · rename_i hi
          split at e
          · rename_i b hb
            cases e
            rcases okCls_ok G h6 with ⟨k0, rfl, hc⟩ | ⟨k0, ks, t, rfl, hl, hc, g2⟩
            · have hk : sub c k0 = some b := by
                unfold isAny isAny at hb
                cases z : sub c k0 with
                | none => rw [z] at hb; cases hb
                | some t => rw [z] at hb; cases t <;> exact hb
              exact (pe_callB (call_isX (G.kit k0 b hk).2 hp hz hf) (G.gl h2) (G.free _ (con_mem h3)) (by decide +kernel) (pa_cons vr (pa_cons hc pa_nil (star_cons h5)) rfl) (by decide +kernel) (by decide +kernel) rfl (by rw [star_cons h5]; rfl)).run pins s σ H Q I
                ⟨_, F.ex j hi, _, _, b, rfl, clsVW X.K k0, (G.kit k0 b hk).1, q _ (.refl _)⟩
            · obtain ⟨b0, hk⟩ : ∃ b0, sub c k0 = some b0 := by
                unfold isAny at hb
                cases z : sub c k0 with
                | none => rw [z] at hb; cases hb
                | some t => exact ⟨t, rfl⟩
              refine (pe_callB (call_isXT (G.kit k0 b0 hk).2 hp hz hf) (G.gl h2) (G.free _ (con_mem h3)) (by decide +kernel) (pa_cons vr (pa_cons hc pa_nil (star_cons h5)) rfl) (by decide +kernel) (by decide +kernel) rfl (by rw [star_cons h5]; rfl)).run pins s σ H Q I
                ⟨_, F.ex j hi, g2 σ H _ ⟨?_, fun p hp => ?_⟩⟩
              · rw [List.length_map]
                exact Nat.le_trans (Nat.le_of_lt hl) (by decide)
              · exact ⟨p, _, _, b, rfl, upd_same, paired_cls _, kit_any (fun k b q => (G.kit k b q).1) hb, q _ (.upd hp)⟩
          · cases e
        · cases e
      · cases h
    | xcall g j =>
      simp only [okH] at h
      split at h
      · rename_i f p x p2 pos
        obtain ⟨h, h5⟩ := b2 h
        obtain ⟨h, h4⟩ := b2 h
        obtain ⟨h, h3⟩ := b2 h
        obtain ⟨h1, h2⟩ := b2 h
        have ex := of_decide_eq_true h1
        subst ex
        obtain ⟨v1, v2, v3, v4⟩ := G.var h5
        have vr : PE X (.Name x p2) (fun σ H Q => ∃ v, σ[j]? = some (some v) ∧ Q v H) := pe_var v1 v2 v3 v4
        refine plain ⟨fun pins s σ H Q I ⟨ρ, d, F, e, q⟩ => ?_⟩ fun _ => rfl
        simp only [evalH] at e
        split at e
        · rename_i hi
          split at e
          · rename_i d' hd
            split at e
            · cases e
              have M := G.xfn _ (con_mem h4) d hd
              refine wpAny_Call_Name_kw (ld_glob I (G.gl h2) M.mg ?_ (noDbg_1 h3).1)
              refine PySem.W.callWith_K (h₀ := X.base) I.ok.mod.kin M.kp (thn ((pa_cons vr pa_nil).run pos pins s σ H (fun vs H1 => vs = [.ref a] ∧ H1 = H) I ⟨_, F.ex j hi, rfl, rfl⟩) fun us s1 ⟨vs, H1, I1, r, q1, q2⟩ => ⟨I1.kIn, ?_⟩) rfl rfl
              subst q1 q2
              cases r with
              | cons r1 r2 =>
                cases r2
                cases r1
                exact M.run pins s1 σ _ Q I1 q
            · cases e
          · cases e
        · cases e
      · cases h
    | pick ss b =>
      simp only [okH] at h
      split at h
      · rename_i es lp t tp x cp pos
        obtain ⟨h, h7⟩ := b2 h
        obtain ⟨h, h6⟩ := b2 h
        obtain ⟨h, h5⟩ := b2 h
        obtain ⟨h, h4⟩ := b2 h
        obtain ⟨h, h3⟩ := b2 h
        obtain ⟨h1, h2⟩ := b2 h
        have ex := of_decide_eq_true h1
        subst ex
        obtain ⟨ts, g1, g2, g3, g4⟩ := okStrs_ok (X := X) h6
        refine plain (PE.imp (pe_ix ix_list (pe_lst g1) (pe_callTy call_intb (G.gl h2) (G.free _ (con_mem h3)) (by decide +kernel) (pa_cons (ih _ _ h5) pa_nil (star_cons h4)) (by decide +kernel) (by decide +kernel) (star_cons h4) rfl) (plain_ix rfl)) fun σ H Q ⟨ρ, d, F, e, q⟩ => ?_) fun _ => rfl
        simp only [evalH] at e
        split at e
        · rename_i k hk
          split at e
          · rename_i z hz
            cases e
            refine g4 σ H _ ⟨?_, fun p hp => ⟨ρ, _, F, hk, fun H' g => ⟨k, rfl, ?_⟩⟩⟩
            · rw [List.length_map, ← g3]
              exact Nat.le_trans (Nat.le_of_lt (of_decide_eq_true h7)) (by decide)
            · have e1 : H' p = some (.lst (ss.map fun z => V.str (toS z))) := g p _ upd_same
              refine ⟨p, _, _, _, rfl, rfl, .inl (.inl e1), ?_, q H' ((Grow.upd hp).trans g)⟩
              have hl : (if k then 1 else 0 : Nat) < ss.length := (List.getElem?_eq_some_iff.mp hz).1
              have ei : (if k = true then (1 : Int) else 0) = ((if k then 1 else 0 : Nat) : Int) := by cases k <;> rfl
              show atI _ (if k = true then (1 : Int) else 0) = _
              rw [← atD_eq, ei]
              unfold atD
              rw [if_pos (by omega)]
              simp only [Int.toNat_natCast, List.getElem?_map]
              rw [hz]
              rfl
          · cases e
        · cases e
      · cases h
mutual
theorem okHS_ok (G : GoodH T sub xf sc N X c a) : ∀ (h : HS) (s : Stmt), okHS T sc N s h = true → PS X s (tH1 sub xf i c a h)
  | .ret e, s, h => by
    unfold okHS at h
    split at h
    · rename_i v pos e' heq
      cases heq
      refine PS.imp (ps_ret (okH_ok (i := i) G 30 v e h).1) fun D σ H ⟨ρ, F, q⟩ => ?_
      simp only [runH] at q
      cases hd : evalH sub xf i c ρ e with
      | none => rw [hd] at q; exact q.elim
      | some d => rw [hd] at q; exact ⟨ρ, d, F, hd, q⟩
    · rename_i heq; cases heq
    · rename_i heq; cases heq
    · cases h
  | .retL, s, h => by
    unfold okHS at h
    split at h
    · rename_i heq; cases heq
    · refine PS.imp (ps_ret (pe_lst pa_nil)) fun D σ H ⟨ρ, F, q⟩ => ?_
      exact ⟨Nat.zero_le _, fun p hp => q H p (.refl _) hp⟩
    · rename_i heq; cases heq
    · cases h
  | .iff t b, s, h => by
    unfold okHS at h
    split at h
    · rename_i heq; cases heq
    · rename_i heq; cases heq
    · rename_i e x pos t' b' heq
      cases heq
      obtain ⟨h1, h2⟩ := b2 h
      refine PS.imp (ps_if (okH_ok (i := i) G 30 e t h1).2 (okHSs_ok G b x h2) pss_nil) fun D σ H ⟨ρ, F, q⟩ => ?_
      simp only [runH] at q
      cases hd : evalH sub xf i c ρ t with
      | none => rw [hd] at q; exact q.elim
      | some d =>
        rw [hd] at q
        cases d with
        | bl k =>
          refine ⟨ρ, k, F, hd, fun H' g => ?_⟩
          cases k with
          | true =>
            rw [if_pos rfl]
            exact ⟨ρ, F, tHR.up g q⟩
          | false =>
            rw [if_neg Bool.false_ne_true]
            exact q H' g
        | _ => exact q.elim
    · cases h
theorem okHSs_ok (G : GoodH T sub xf sc N X c a) : ∀ (h : List HS) (s : List Stmt), okHSs T sc N s h = true → PSs X s (tHs sub xf i c a h)
  | [], [], _ => PSs.imp pss_nil fun D σ H ⟨ρ, F, q⟩ => q _ (.refl _)
  | h :: hs, s :: ss, q => by
    obtain ⟨h1, h2⟩ := b2 (show (okHS T sc N s h && okHSs T sc N ss hs) = true by simpa [okHSs] using q)
    refine PSs.imp (pss_cons (okHS_ok G h s h1) (okHSs_ok G hs ss h2)) fun D σ H ⟨ρ, F, q⟩ => ?_
    refine ⟨ρ, F, ?_⟩
    simp only [runHs] at q
    cases hr : runH sub xf i c ρ h with
    | none => rw [hr] at q; exact q
    | some r =>
      rw [hr] at q
      cases r with
      | ret d => exact q
      | retL => exact q
      | next => exact fun H' g => ⟨ρ, F, tHR.up g q⟩
  | [], _ :: _, h => by simp [okHSs] at h
  | _ :: _, [], h => by simp [okHSs] at h
end
end
end
/-! ### own defs of exceptions -/
theorem fn_ofX {CX : CXT} {P : Program} {w : World} {K : PySem.W.Frag} {mg : Str → Option Value} {base : Heap} {f : Addr} {name qual : Str} {params : Arguments} {body : List Stmt} {scope : Scope} {dV kV doc pm cdv ct oc : Value} {an od : Option Addr}
    {osl : Array (Option Value)} {N ps : List Str} (lk : K.lookup f = some ⟨oc, od, .func (PySem.W.fnOf name qual params body scope dV kV doc pm an cdv ct), osl⟩) (hcd : PySem.W.codeIn K cdv qual = true) (S : FnScope N ps scope)
    {A : Around} {outer : List PySem.Env} {s : Shared} {H : Hp} {args : Args} {us : List Value} {vs : List V} {Q : VK} {E : XK} {p : Addr × Obj} (hd : A.depth < recursionLimit) (hpin : L2H.PinOk outer H s p) (e0 : Env0 P w K mg base A outer s H)
    (hb : BindsTo s (PySem.W.fnOf name qual params body scope dV kV doc pm an cdv ct) args (ps.zip us)) (r : Vals vs us) (hl : vs.length = ps.length)
    (hbody : ∃ t, PSs (L2H.cxH CX P w K mg base N qual scope f cdv A outer s H E p) body t ∧ t { nx := fun _ H' => Q .non H', rt := Q } (L2.start N vs) H) :
    codeAny (model P w) A (.call (.ref f) args) (CR CX outer P w H s Q E) s := by
  have KX : K.In s.heap := e0.mod.kin.keeps fun b o e => (e0.bs b o e).1
  have lim : s.heap.NoLimit := e0.mod.nolimit.keeps fun b o e => (e0.bs b o e).1
  have hkind : ∀ y ∈ ps.zip us, scope.names.lookup y.1 = some .local ∨ (scope.names.lookup y.1 = some .cell ∧ ((cellsFrom (s.heap.objs.size + 1) scope.names []).lookup y.1).isSome = true) := fun ⟨n, v⟩ hy => by
    rcases S.par n (List.of_mem_zip hy).1 with q | q
    · exact .inl q
    · exact .inr ⟨q, PySem.W.cellsFrom_some _ _ _ (.inl q)⟩
  refine codeAny_call_function hd (KX _ _ lk) rfl S.co S.gen rfl (PySem.W.codeRec_of KX hcd) (hb _ _ _ _ ?_)
  refine wpAny_newFunctionEnv_cells S.kind hkind fun env he s1 x => ?_
  subst he
  refine ⟨lim.keeps x.toInCall.keep, codeAny_func ?_⟩
  obtain ⟨t, ht, hq⟩ := hbody
  have I : Inv (L2H.cxH CX P w K mg base N qual scope f cdv A outer s H E p) [] (L2.start N vs) H s1 := L2H.inv_startH S hpin e0 hl r x
  refine wpAny_mono (ht.run [] s1 (L2.start N vs) H _ I hq) (fun fl s' hs => ?_) fun e s' hs => hs
  have fin : ∀ {σ' : L2.St} {H' : Hp} {v : V} {u : Value}, Inv (L2H.cxH CX P w K mg base N qual scope f cdv A outer s H E p) [] σ' H' s' → RelV v u → Q v H' → CE outer P w H s Q u s' :=
    fun {σ' H' v u} J rv q => ⟨v, H', J.os, J.bare, J.base, J.hok, rv, q⟩
  cases fl with
  | ret u =>
    obtain ⟨v, σ', H', J, rv, q⟩ := hs
    exact fin J rv q
  | next =>
    obtain ⟨σ', H', J, q⟩ := hs
    exact fin (v := V.non) (u := Value.none) J rfl q
  | brk =>
    obtain ⟨_, _, _, q⟩ := hs
    exact False.elim q
  | cont =>
    obtain ⟨_, _, _, q⟩ := hs
    exact False.elim q
/-- what is known of the classes and defs of exceptions -/
structure XFacts (T : Tab) (sub : String → String → Option Bool) (K : PySem.W.Frag) (mg : Str → Option Value) : Prop where
  free : ∀ x ∈ T.free, mg (toS x) = none
  xcl : ∀ k ∈ T.xcls, mg (toS k) = some (.ref (He.ga K (toS k)))
  kit : ∀ c k b, sub c k = some b → PySem.W.kitOne K (cV K c) (clsV K k) = some b ∧ ExcC K (He.ga K (toS c)) ∧ (k ≠ "ValueError" → PySem.W.exmOne K (cV K c) (.ref (He.ga K (toS k))) = some b)
structure XfD (T : Tab) (sub : String → String → Option Bool) (xf : String → String → Option D) (K : PySem.W.Frag) (mg : Str → Option Value) (f : String) : Prop where
  mg : mg (toS f) = some (.ref (He.ga K (toS f)))
  ex : ∃ (name qual : Str) (params : Arguments) (body : List Stmt) (scope : Scope) (N ps : List Str) (fd : FuncData) (hs : List HS), FunD K name qual params body scope [] [] (He.ga K (toS f)) fd ∧ FnScope N ps scope ∧ ps.length = 1 ∧
    Binds K fd ps [] ∧ okHSs T scope N body hs = true ∧ ∀ c d, xf f c = some d → runHs sub (fun _ _ => none) (some 0) c [none] hs = some (.ret d)
theorem xfn_ok {X : Cx} {T : Tab} {sub : String → String → Option Bool} {xf : String → String → Option D} {f c : String} {a : Addr} {d : D} (F : XFacts T sub X.K X.mg) (G : XfD T sub xf X.K X.mg f) (hd : X.A.depth < recursionLimit)
    (hi : ∃ oe, (a, oe) ∈ X.pn ∧ Zc (cV X.K c) none oe ∧ ∃ vs, oe.data = .fields vs) (h : xf f c = some d) : XfnOk X f a d := by
  obtain ⟨name, qual, params, body, scope, N, ps, fd, hs, FD, S, hps, hb, hok, hrun⟩ := G.ex
  refine ⟨G.mg, FD.kp, fun pins s σ H Q I q => ?_⟩
  obtain ⟨oe, hp, hz, hf⟩ := hi
  obtain ⟨oc, od, dV, kV, doc, pm, an, cdv, ct, osl, rfl, lk, hcd, _, _⟩ := FD.ex
  have b := hb s [.ref a] I.kIn (by rw [List.append_nil]; exact hps.symm)
  rw [List.append_nil] at b
  have P1 := I.pin (a, oe) (List.mem_append_left _ hp)
  have hpin : L2H.PinOk X.stack H s (a, oe) := ⟨P1.1, P1.2.1, fun hm => (List.mem_cons.mp (I.stkSub a hm)).elim P1.2.2.1 P1.2.2.2.1, P1.2.2.2.2⟩
  have e := hrun c d h
  refine wpAny_call (codeAny_mono (fn_ofX (CX := L2.CX X.prog X.w) (E := WE W0 σ) (vs := [.ref a]) (Q := Q) lk hcd S hd hpin I.env0 b (.cons rfl .nil) hps.symm ⟨_, okHSs_ok (xf := fun _ _ => none) (c := c) (i := some 0) (a := a) (sub := sub) (X := L2H.cxH (L2.CX X.prog X.w) X.prog X.w X.K X.mg X.base N qual scope (He.ga X.K (toS f)) cdv X.A X.stack s H (WE W0 σ) (a, oe)) (sc := scope) (N := N) ⟨rfl, rfl, F.free, F.xcl, fun k b q => ⟨(F.kit c k b q).1, (F.kit c k b q).2.1⟩, ⟨oe, List.mem_cons_self, hz, hf⟩, fun _ _ _ q => nomatch q⟩ hs body hok, [none], ⟨fun j d' e' => ?_, fun j e' => ?_⟩, ?_⟩) fun r s' hq => ?_)
  · cases j with
    | zero => cases e'
    | succ j => simp at e'
  · cases e'
    rfl
  · rw [e]
    exact q
  · cases r with
    | error e => exact passAt takes0 σ pins H s e s' I hq
    | ok fl =>
      cases fl with
      | ret u => exact I.after hq
      | next => exact False.elim hq
      | brk => exact False.elim hq
      | cont => exact False.elim hq
end KL

set_option Elab.async false
set_option linter.all false
set_option maxRecDepth 100000
set_option maxHeartbeats 4000000
set_option autoImplicit false
/-! KLStm: statements. -/
namespace KL
open PySem PySem.Spec PyProof.Rows L2

/-- what a statement's result asks of what follows -/
def PostS (K : PySem.W.Frag) (W : WX) (D : Ends) (θ : Th) (H : Hp) : RS → Prop
  | .next ρ s => ∀ θ' H' σ', Ext θ H θ' H' → RelS K θ' H' s → EnvR θ' H' ρ σ' → D.nx σ' H'
  | .brk ρ s => ∀ θ' H' σ', Ext θ H θ' H' → RelS K θ' H' s → EnvR θ' H' ρ σ' → D.bk σ' H'
  | .cont ρ s => ∀ θ' H' σ', Ext θ H θ' H' → RelS K θ' H' s → EnvR θ' H' ρ σ' → D.ct σ' H'
  | .ret d s => ∀ θ' H' v, Ext θ H θ' H' → RelS K θ' H' s → Rep θ' H' d v → D.rt v H'
  | .retN l s => ∀ θ' H' a vs, Ext θ H θ' H' → RelS K (θ'.mk1 a) H' s → H a = none → a ∉ θ' → H' a = some (.lst vs) → Reps (θ'.mk1 a) H' l vs → D.rt (.ref a) H'
  | .exn c ρ s => ∀ θ' H' σ', Ext θ H θ' H' → RelS K θ' H' s → EnvR θ' H' ρ σ' → W (cV K c) none σ' H'
  | .bad => False
def tS (K : PySem.W.Frag) (W : WX) (C : Ctx) (st : S) : TS := fun D σ H => ∃ θ s ρ, RelS K θ H s ∧ EnvR θ H ρ σ ∧ PostS K W D θ H (exec C st ρ s)
def tSs (K : PySem.W.Frag) (W : WX) (C : Ctx) (st : List S) : TS := fun D σ H => ∃ θ s ρ, RelS K θ H s ∧ EnvR θ H ρ σ ∧ PostS K W D θ H (execs C st ρ s)
section
variable {K : PySem.W.Frag} {W : WX} {D : Ends} {σ : L2.St} {θ θ1 : Th} {H H1 : Hp} {s : Sto} {ρ : KL.Env}
theorem PostS.up (x : Ext θ H θ1 H1) {r : RS} (h : PostS K W D θ H r) : PostS K W D θ1 H1 r := by
  cases r with
  | next ρ s => exact fun θ' H' v y => h θ' H' v (x.trans y)
  | brk ρ s => exact fun θ' H' v y => h θ' H' v (x.trans y)
  | cont ρ s => exact fun θ' H' v y => h θ' H' v (x.trans y)
  | ret d s => exact fun θ' H' v y => h θ' H' v (x.trans y)
  | retN l s => exact fun θ' H' a vs y R e n => h θ' H' a vs (x.trans y) R (x.none y e n) n
  | exn c ρ s => exact fun θ' H' σ' y => h θ' H' σ' (x.trans y)
  | bad => exact h
theorem PostE.st {r : RE} {k : KL.D → Sto → RS} (V : EnvR θ H ρ σ) (h : PostS K W D θ H (r.st ρ k)) : PostE K W σ (At K θ H fun θ1 H1 d s1 => PostS K W D θ1 H1 (k d s1)) θ H r := by
  cases r with
  | ok d s => exact fun θ' H' v x R p => ⟨θ', s, d, x, R, p, PostS.up x h⟩
  | new l s => exact fun θ' H' a vs x R e n e2 p => ⟨θ', s, .lst l, x, R.out, .lst (.inl e2) n p.out, PostS.up x h⟩
  | exn c s => exact fun θ' H' x R => h θ' H' σ x R (V.ext x)
  | bad => exact h
theorem PostB.st {r : RB} {k : Bool → Sto → RS} (V : EnvR θ H ρ σ) (h : PostS K W D θ H (r.st ρ k)) : PostB K W σ (fun b H1 => ∃ θ1 s1, Ext θ H θ1 H1 ∧ RelS K θ1 H1 s1 ∧ PostS K W D θ1 H1 (k b s1)) θ H r := by
  cases r with
  | ok b s => exact fun θ' H' x R => ⟨θ', s, x, R, PostS.up x h⟩
  | exn c s => exact fun θ' H' x R => h θ' H' σ x R (V.ext x)
  | bad => exact h
theorem Ext.mkc {θ' : Th} {a : Addr} {b : Addr} : b ∈ (⟨θ'.c ++ [a], θ'.b⟩ : Th) ↔ b ∈ θ' ∨ b = a := by
  rw [Th.mem, Th.mem]
  show b ∈ θ'.c ++ [a] ∨ b ∈ θ'.b ↔ _
  rw [List.mem_append, List.mem_singleton]
  constructor
  · rintro ((h | h) | h)
    · exact .inl (.inl h)
    · exact .inr h
    · exact .inl (.inr h)
  · rintro ((h | h) | h)
    · exact .inl (.inl h)
    · exact .inr h
    · exact .inl (.inr h)
end

section
variable {X : Cx} {W : WX} {C : Ctx} {D : Ends}
theorem ss_nil : PSs X [] (tSs X.K W C []) := PSs.imp pss_nil fun D σ H ⟨θ, s, ρ, R, V, h⟩ => by
  unfold execs at h
  exact h θ H σ (Ext.refl _ _) R V
theorem ss_cons {st : Stmt} {sts : List Stmt} {i : S} {is : List S} (h1 : PS X st (tS X.K W C i)) (h2 : PSs X sts (tSs X.K W C is)) : PSs X (st :: sts) (tSs X.K W C (i :: is)) :=
  PSs.imp (pss_cons h1 h2) fun D σ H ⟨θ, s, ρ, R, V, h⟩ => by
    unfold execs at h
    refine ⟨θ, s, ρ, R, V, ?_⟩
    cases hr : exec C i ρ s with
    | next ρ1 s1 =>
      rw [hr] at h
      exact fun θ' H' σ' x R' V' => ⟨θ', s1, ρ1, R', V', PostS.up x h⟩
    | brk ρ1 s1 => rw [hr] at h; exact h
    | cont ρ1 s1 => rw [hr] at h; exact h
    | ret d s1 => rw [hr] at h; exact h
    | retN d s1 => rw [hr] at h; exact h
    | exn c ρ1 s1 => rw [hr] at h; exact h
    | bad => rw [hr] at h; exact h
theorem asg_go {i : Nat} {ir : E} {σ : L2.St} {H : Hp} (h : tS X.K W C (.asg i ir) D σ H) : tE X.K W C ir σ H fun x H1 => D.nx (σ.set i (some x)) H1 := by
  obtain ⟨θ, s, ρ, R, V, h⟩ := h
  unfold exec at h
  refine tE.sub R V (PostE.st V h) fun x H1 ⟨θ1, s1, d, x1, R1, r1, h1⟩ => ?_
  exact h1 θ1 H1 _ (Ext.refl _ _) R1 ((V.ext x1).set r1 i)
theorem asgB_go {i : Nat} {ir : E} {σ : L2.St} {H : Hp} (h : tS X.K W C (.asgB i ir) D σ H) : tE X.K W C ir σ H fun x H1 => D.nx (σ.set i (some x)) H1 := by
  obtain ⟨θ, s, ρ, R, V, h⟩ := h
  unfold exec at h
  refine ⟨θ, s, ρ, R, V, ?_⟩
  cases hr : evalE C ir ρ s with
  | ok d s1 =>
    rw [hr] at h
    exact fun θ' H' v x R' r => h θ' H' _ x R' ((V.ext x).set r i)
  | new l s1 =>
    rw [hr] at h
    intro θ' H' a vs x R' hn na ha rl
    have x2 : Ext θ H ⟨θ'.c ++ [a], θ'.b⟩ H' := x.box hn
    have el : θ'.c.length = s1.length := R'.len
    refine h _ H' _ x2 (R'.box na ha rl) ((V.ext x2).set (.ref ?_) i)
    show (θ'.c ++ [a])[s1.length]? = some a
    rw [← el, List.getElem?_append_right (Nat.le_refl _)]
    simp
  | exn c s1 =>
    rw [hr] at h
    exact fun θ' H' x R' => h θ' H' σ x R' (V.ext x)
  | bad => rw [hr] at h; exact h
theorem s_asg {i : Nat} {ir : E} {st : Stmt} {t : TE} (hs : PS X st (tAsg t (gName i))) (h : ∀ σ H Q, tE X.K W C ir σ H Q → t σ H Q) : PS X st (tS X.K W C (.asg i ir)) := PS.imp hs fun D σ H q => h σ H _ (asg_go q)
theorem s_asgB {i : Nat} {ir : E} {st : Stmt} {t : TE} (hs : PS X st (tAsg t (gName i))) (h : ∀ σ H Q, tE X.K W C ir σ H Q → t σ H Q) : PS X st (tS X.K W C (.asgB i ir)) := PS.imp hs fun D σ H q => h σ H _ (asgB_go q)
theorem sw_no {v : Expr} {tg : Option Expr} {l : Nat} {env : PySem.Env} (h : (match v with | .ListComp _ _ _ _ => false | .SetComp _ _ _ _ => false | .DictComp _ _ _ _ _ => false | _ => true) = true) : swapsWith v tg l env = pure false := by
  cases v <;> first | rfl | cases h
def isTupE : Expr → Bool
  | .Tuple _ _ _ => true
  | _ => false
theorem sw_tg {tg v : Expr} {l : Nat} {env : PySem.Env} (h : (match tg with | .Name _ _ => false | _ => true) = true) : swapsWithSole [tg] v l env = pure false := by
  show swapsWith v (some tg) l env = pure false
  unfold swapsWith
  cases tg <;> first | (cases v <;> rfl) | cases h
theorem sw_st {tg v : Expr} {env : PySem.Env} (h : isTupE v = false) : swappedStores [tg] v env = pure none := by
  unfold swappedStores
  cases v <;> first | (cases tg <;> rfl) | cases h
theorem sw_st2 {tg v : Expr} {env : PySem.Env} (h : (match tg with | .Tuple _ _ _ => false | .List _ _ => false | _ => true) = true) : swappedStores [tg] v env = pure none := by
  unfold swappedStores
  cases tg <;> first | (cases v <;> rfl) | cases h
theorem s_unp {te e : Expr} {is : List Nat} {ir : E} {pos : Pos} (he : PE X e (tE X.K W C ir)) (hg : PG X te (tG X.K is)) (hn : (match te with | .Name _ _ => false | .Starred _ _ => false | _ => true) = true) (hv : isTupE e = false) :
    PS X (.Assign [te] e pos) (tS X.K W C (.unp is ir)) := by
  refine PS.imp (ps_asg he hg (sw_tg ?_) (sw_st hv) ?_) fun D σ H ⟨θ, s, ρ, R, V, h⟩ => ?_
  · cases te <;> first | rfl | cases hn
  · cases te <;> first | rfl | cases hn
  unfold exec at h
  refine tE.sub R V (PostE.st V h) fun x H1 ⟨θ1, s1, d, x1, R1, r1, h1⟩ => ?_
  dsimp only at h1
  cases hb : bindT is d ρ with
  | none => rw [hb] at h1; exact h1.elim
  | some ρ' =>
    rw [hb] at h1
    exact ⟨θ1, s1, ρ, d, ρ', R1, V.ext x1, r1, hb, fun σ' V' _ => h1 θ1 H1 σ' (Ext.refl _ _) R1 V'⟩
theorem ixN_of {n : Nat} {i : Int} (h0 : 0 ≤ i) (h1 : i < n) : ixN n i = some i.toNat := by
  unfold ixN
  rw [if_pos h0, if_pos h1]
theorem PSet.impR {t : TSet} (h : ∀ o i v H Q, t o i v H Q → ∃ t', PSet X t' ∧ t' o i v H Q) : PSet X t := fun pins s σ H o i v ov iv u Q I ro ri rv q =>
  let ⟨_, h1, h2⟩ := h o i v H Q q
  h1 pins s σ H o i v ov iv u Q I ro ri rv h2
def rSetA (K : PySem.W.Frag) : TSet := fun o i v H Q => ∃ (θ : Th) (s s' : Sto) (d1 d2 d3 : KL.D), RelS K θ H s ∧ Rep θ H d1 o ∧ Rep θ H d2 i ∧ Rep θ H d3 v ∧ setAt s d1 d2 d3 = some s' ∧ ∀ H', Ext θ H θ H' → RelS K θ H' s' → Q H'
theorem set_A (hu : X.A.units + 1 < cLine) : PSet X (rSetA X.K) := PSet.impR fun o i v H Q ⟨θ, s, s', d1, d2, d3, R, r1, r2, r3, h, q⟩ => by
  cases r1 with
  | @ref n a ea =>
    have h : setC s n d2 d3 s[n]? = some s' := h
    cases hc : s[n]? with
    | none => rw [hc] at h; cases h
    | some c =>
      rw [hc] at h
      cases c with
      | ins _ _ => cases h
      | tpc _ => cases h
      | lst l =>
        cases r2 with
        | int i =>
          obtain ⟨vs, e1, rl⟩ := R.cell _ _ _ hc ea
          have h : (if 0 ≤ i ∧ i < l.length then some (s.set n (.lst (l.set i.toNat d3))) else none) = some s' := h
          split at h
          · rename_i hb
            cases h
            have ll := rl.length
            refine ⟨_, set_list, a, vs, i, i.toNat, rfl, rfl, e1, ixN_of hb.1 (by rw [← ll]; exact hb.2), ?_⟩
            have xp : Ext θ H θ (upd H a (.lst (vs.set i.toNat v))) := Ext.put R ea
            exact q _ xp (R.put ea ⟨_, upd_same, (Reps.set r3 _ rl).ext xp⟩)
          · cases h
        | _ => cases h
      | dct kvs =>
        have h : (match keyD d2 with
          | some k => if kvs.length < lim then some (s.set n (.dct (putD kvs k d3))) else none
          | none => none) = some s' := h
        split at h
        · rename_i k hk
          split at h
          · rename_i hl
            cases h
            obtain ⟨ws, e1, e2, e3⟩ := R.cell _ _ _ hc ea
            have ll : ws.length = kvs.length := by have := congrArg List.length e2; simpa using this
            refine ⟨_, set_dict hu, a, upd H a (.dK (putK ws (toK k) v)), rfl, ?_, ?_⟩
            · rw [key_rep r2 hk]
              exact DPut.k e1 (by rw [ll]; exact Nat.lt_of_lt_of_le hl lim_le)
            · have xp : Ext θ H θ (upd H a (.dK (putK ws (toK k) v))) := Ext.put R ea
              obtain ⟨p1, p2⟩ := dct_put (k := k) r3 e2 e3
              exact q _ xp (R.put ea ⟨_, upd_same, p1, p2.ext xp⟩)
          · cases h
        · cases h
  | _ => cases h
theorem s_sub (hu : X.A.units + 1 < cLine) {o k e : Expr} {io ik ie : E} {p pos : Pos} (ho : PE X o (tE X.K W C io)) (hk : PE X k (tE X.K W C ik)) (he : PE X e (tE X.K W C ie)) (hs : notSlice k = true) : PS X (.Assign [.Subscript o k p] e pos) (tS X.K W C (.sub io ik ie)) := by
  refine PS.imp (ps_asg he (pg_sub ho hk (set_A hu) ?_) (sw_tg rfl) (sw_st2 rfl) rfl) fun D σ H ⟨θ, s, ρ, R, V, h⟩ => ?_
  · intro v
    cases k <;> first | rfl | cases hs
  unfold exec at h
  refine tE.sub R V (PostE.st V h) fun x H1 ⟨θ1, s1, d, x1, R1, r1, h1⟩ => ?_
  have V1 := V.ext x1
  refine tE.sub R1 V1 (PostE.st V1 h1) fun y H2 ⟨θ2, s2, d2, x2, R2, r2, h2⟩ => ?_
  have V2 := V1.ext x2
  refine tE.sub R2 V2 (PostE.st V2 h2) fun z H3 ⟨θ3, s3, d3, x3, R3, r3, h3⟩ => ?_
  have V3 := V2.ext x3
  dsimp only at h3
  split at h3
  · rename_i s4 h4
    exact ⟨θ3, s3, s4, d2, d3, d, R3, r2.ext x3, r3, (r1.ext x2).ext x3, h4, fun H' xp R' => h3 θ3 _ σ xp R' (V3.ext xp)⟩
  · exact h3.elim
theorem putF_map {f : String} {d : KL.D} {v : V} : ∀ {fs : List (String × KL.D)} {vfs : List (Str × V)}, vfs.map (·.1) = fs.map (fun p => toS p.1) → (L2.putF (toS f) v vfs).map (·.1) = (KL.putF f d fs).map (fun p => toS p.1)
  | [], [], _ => rfl
  | [], _ :: _, h => by cases h
  | _ :: _, [], h => by cases h
  | (g, e) :: fs, (y, w) :: vfs, h => by
    simp only [List.map_cons, List.cons.injEq] at h
    obtain ⟨rfl, h2⟩ := h
    unfold L2.putF KL.putF
    by_cases e : g = f
    · have e1 : toS g = toS f := by rw [e]
      simp only [if_pos e, if_pos e1, List.map_cons, h2]
    · have e1 : ¬ toS g = toS f := fun q => e (toS_inj q)
      simp only [if_neg e, if_neg e1, List.map_cons]
      rw [putF_map (d := d) (v := v) h2]
theorem putF_rep {θ : Th} {H : Hp} {f : String} {d : KL.D} {v : V} (r : Rep θ H d v) : ∀ {fs : List (String × KL.D)} {vfs : List (Str × V)}, vfs.map (·.1) = fs.map (fun p => toS p.1) → Reps θ H (fs.map (·.2)) (vfs.map (·.2)) → Reps θ H ((KL.putF f d fs).map (·.2)) ((L2.putF (toS f) v vfs).map (·.2))
  | [], [], _, _ => .cons r .nil
  | [], _ :: _, h, _ => by cases h
  | _ :: _, [], h, _ => by cases h
  | (g, e) :: fs, (y, w) :: vfs, h, rs => by
    simp only [List.map_cons, List.cons.injEq] at h
    obtain ⟨rfl, h2⟩ := h
    cases rs with
    | cons a b =>
      unfold L2.putF KL.putF
      by_cases e : g = f
      · have e1 : toS g = toS f := by rw [e]
        simp only [if_pos e, if_pos e1]
        exact .cons r b
      · have e1 : ¬ toS g = toS f := fun q => e (toS_inj q)
        simp only [if_neg e, if_neg e1]
        exact .cons a (putF_rep r h2 b)
theorem s_fld {o e : Expr} {io ie : E} {f : String} {p pos : Pos} (T : ∀ c, C.att c f = true → AttOk X c f) (ho : PE X o (tE X.K W C io)) (he : PE X e (tE X.K W C ie)) : PS X (.Assign [.Attribute o (toS f) p] e pos) (tS X.K W C (.fld io f ie)) := by
  refine PS.imp (ps_fld ho he (sw_tg (l := pos.line) (env := X.env) (tg := .Attribute o (toS f) p) (v := e) rfl)) fun D σ H ⟨θ, s, ρ, R, V, h⟩ => ?_
  unfold exec at h
  refine tE.sub R V (PostE.st V h) fun x H1 ⟨θ1, s1, d, x1, R1, r1, h1⟩ => ?_
  have V1 := V.ext x1
  refine tE.sub R1 V1 (PostE.st V1 h1) fun y H2 ⟨θ2, s2, d2, x2, R2, r2, h2⟩ => ?_
  have V2 := V1.ext x2
  dsimp only at h2
  have r1' := r1.ext x2
  cases r2 with
  | @ref n a ea =>
    dsimp only at h2
    split at h2
    · rename_i c fs hc
      split at h2
      · rename_i hb
        obtain ⟨dx, vfs, e1, em, rf⟩ := R2.cell _ _ _ hc ea
        have ll : vfs.length = fs.length := by
          have := congrArg List.length em
          simpa using this
        refine ⟨a, _, dx, vfs, rfl, e1, (T c hb.1).cl, (T c hb.1).no, by have := hb.2; omega, ?_⟩
        have xp : Ext θ2 H2 θ2 (upd H2 a (.ins (He.ga X.K (toS c)) dx (L2.putF (toS f) x vfs))) := Ext.put R2 ea
        exact h2 θ2 _ σ xp (R2.put ea ⟨dx, _, upd_same, putF_map em, (putF_rep r1' em rf).ext xp⟩) (V2.ext xp)
      · exact h2.elim
    · exact h2.elim
  | _ => exact False.elim h2
theorem s_expr {e : Expr} {ie : E} {pos : Pos} (he : PE X e (tE X.K W C ie)) (hs : ∀ l env, swapsWith e none l env = pure false) : PS X (.Expr e pos) (tS X.K W C (.expr ie)) := by
  refine PS.imp (ps_expr he (hs _ _)) fun D σ H ⟨θ, s, ρ, R, V, h⟩ => ?_
  unfold exec at h
  refine tE.sub R V (PostE.st V h) fun x H1 ⟨θ1, s1, d, x1, R1, r1, h1⟩ => ?_
  exact h1 θ1 H1 σ (Ext.refl _ _) R1 (V.ext x1)
theorem s_ret {e : Expr} {ie : E} {pos : Pos} (he : PE X e (tE X.K W C ie)) : PS X (.Return (some e) pos) (tS X.K W C (.ret ie)) := by
  refine PS.imp (ps_ret he) fun D σ H ⟨θ, s, ρ, R, V, h⟩ => ?_
  unfold exec at h
  refine ⟨θ, s, ρ, R, V, ?_⟩
  cases hr : evalE C ie ρ s with
  | ok d s1 => rw [hr] at h; exact h
  | new l s1 => rw [hr] at h; exact h
  | exn c s1 => rw [hr] at h; exact fun θ' H' x R' => h θ' H' σ x R' (V.ext x)
  | bad => rw [hr] at h; exact h
theorem s_retN {pos : Pos} : PS X (.Return none pos) (tS X.K W C .retN) := PS.imp ps_retN fun D σ H ⟨θ, s, ρ, R, V, h⟩ => by
  unfold exec at h
  exact h θ H .non (Ext.refl _ _) R .non
theorem s_pass {pos : Pos} : PS X (.Pass pos) (tS X.K W C .pass) := PS.imp ps_pass fun D σ H ⟨θ, s, ρ, R, V, h⟩ => by
  unfold exec at h
  exact h θ H σ (Ext.refl _ _) R V
theorem s_brk {pos : Pos} : PS X (.Break pos) (tS X.K W C .brk) := PS.imp ps_break fun D σ H ⟨θ, s, ρ, R, V, h⟩ => by
  unfold exec at h
  exact h θ H σ (Ext.refl _ _) R V
theorem s_cont {pos : Pos} : PS X (.Continue pos) (tS X.K W C .cont) := PS.imp ps_continue fun D σ H ⟨θ, s, ρ, R, V, h⟩ => by
  unfold exec at h
  exact h θ H σ (Ext.refl _ _) R V
theorem s_if {c : Expr} {a b : List Stmt} {ic : E} {ia ib : List S} {pos : Pos} (hc : PT X c (tT X.K W C ic)) (ha : PSs X a (tSs X.K W C ia)) (hb : PSs X b (tSs X.K W C ib)) : PS X (.If c a b pos) (tS X.K W C (.if_ ic ia ib)) :=
  PS.imp (ps_if hc ha hb) fun D σ H ⟨θ, s, ρ, R, V, h⟩ => by
    unfold exec at h
    refine ⟨θ, s, ρ, R, V, (PostB.st V h).mono fun k H1 ⟨θ1, s1, x1, R1, h1⟩ => ?_⟩
    cases k with
    | true => exact ⟨θ1, s1, ρ, R1, V.ext x1, h1⟩
    | false => exact ⟨θ1, s1, ρ, R1, V.ext x1, h1⟩
theorem s_while {c : Expr} {b : List Stmt} {ic : E} {ib : List S} {pos : Pos} (hp : PassesOwn (model X.prog X.w) X.A X.env X.xe) (hc : PT X c (tT X.K W C ic)) (hb : PSs X b (tSs X.K W C ib)) : PS X (.While c b [] pos) (tS X.K W C (.while_ ic ib)) :=
  PS.imp (ps_while hp hc hb) fun D σ H ⟨θ, s, ρ, R, V, h⟩ => by
    unfold exec at h
    refine ⟨fun m σ H => ∃ θ s ρ, RelS X.K θ H s ∧ EnvR θ H ρ σ ∧ PostS X.K W D θ H (whileLoop (fun ρ s => evalT C ic ρ s) (fun ρ s => execs C ib ρ s) m ρ s), ⟨_, θ, s, ρ, R, V, h⟩, ?_⟩
    rintro m σ H ⟨θ, s, ρ, R, V, h⟩
    cases m with
    | zero => exact False.elim h
    | succ m =>
      unfold whileLoop at h
      refine ⟨θ, s, ρ, R, V, (PostB.st V h).mono fun k H1 ⟨θ1, s1, x1, R1, h1⟩ => ?_⟩
      cases k with
      | false => exact h1 θ1 H1 σ (Ext.refl _ _) R1 (V.ext x1)
      | true =>
        simp only [if_true] at h1 ⊢
        refine ⟨fun σ' H' => ∃ m', m' < m + 1 ∧ ∃ θ s ρ, RelS X.K θ H' s ∧ EnvR θ H' ρ σ' ∧ PostS X.K W D θ H' (whileLoop (fun ρ s => evalT C ic ρ s) (fun ρ s => execs C ib ρ s) m' ρ s), fun σ' H' q => q, ?_⟩
        refine ⟨θ1, s1, ρ, R1, V.ext x1, ?_⟩
        cases hr : execs C ib ρ s1 with
        | next ρ1 s2 => rw [hr] at h1; exact fun θ' H' σ' x R' V' => ⟨m, Nat.lt_succ_self _, θ', s2, ρ1, R', V', PostS.up x h1⟩
        | cont ρ1 s2 => rw [hr] at h1; exact fun θ' H' σ' x R' V' => ⟨m, Nat.lt_succ_self _, θ', s2, ρ1, R', V', PostS.up x h1⟩
        | brk ρ1 s2 => rw [hr] at h1; exact h1
        | ret d s2 => rw [hr] at h1; exact h1
        | retN d s2 => rw [hr] at h1; exact h1
        | exn c ρ1 s2 => rw [hr] at h1; exact h1
        | bad => rw [hr] at h1; exact h1
theorem RL.st_ok {σ : L2.St} {θ : Th} {H : Hp} {ρ : KL.Env} {r : RL} {k : ItK} {f : List KL.D → Sto → RS} (V : EnvR θ H ρ σ) {R : It → Hp → Prop} (h : PostS X.K W D θ H (r.st ρ f)) (hb : ∀ l s, f l s = match items k l s with | none => .bad | some (ds, g) => f l s)
    (q : ∀ l s ds g, r = .ok l s → items k l s = some (ds, g) → PostS X.K W D θ H (f l s) → ∀ θ' H' J, Ext θ H θ' H' → RelS X.K θ' H' s → g.ok s → Walk X.K θ' H' J ds g → R J H') : PostI X.K W σ k R θ H r := by
  cases r with
  | ok l s =>
    have h' : PostS X.K W D θ H (f l s) := h
    unfold PostI
    dsimp only
    have e := hb l s
    cases hi : items k l s with
    | none =>
      rw [hi] at e
      rw [e] at h'
      exact h'
    | some p => exact q l s p.1 p.2 rfl hi h'
  | exn c s => exact fun θ' H' x R => h θ' H' σ x R (V.ext x)
  | bad => exact h
theorem s_for {te iter : Expr} {b : List Stmt} {tg : List Nat} {k : ItK} {its : List E} {ib : List S} {pos : Pos} (hp : PassesOwn (model X.prog X.w) X.A X.env X.xe) (hc : X.calm = true) (hi : PI X te iter (wI X.K W C k its)) (hg : PG X te (tG X.K tg)) (hb : PSs X b (tSs X.K W C ib))
    (hs : ∀ x, foldedSetIterable iter X.env x = pure x) : PS X (.For te iter b [] pos) (tS X.K W C (.for_ tg k its ib)) :=
  PS.imp (ps_for hp hc hi hg hb hs) fun D σ H ⟨θ, s, ρ, R, V, h⟩ => by
    unfold exec at h
    refine ⟨θ, s, ρ, R, V, RL.st_ok V h (fun l s => by cases items k l s <;> rfl) fun l s1 ds g hl hit h1 θ' H' J x1 R1 hgo wk => ?_⟩
    rw [hit] at h1
    dsimp only at h1
    have h2 := PostS.up x1 h1
    have V1 := V.ext x1
    clear h h1 hit hl R V
    refine ⟨fun i m σ H => m = ds.length - i ∧ i ≤ ds.length ∧ ∃ θ s ρ, Ext θ' H' θ H ∧ RelS X.K θ H s ∧ EnvR θ H ρ σ ∧ PostS X.K W D θ H (forLoop (fun ρ s => execs C ib ρ s) tg g (ds.drop i) ρ s), ⟨ds.length, by simp, Nat.zero_le _, θ', s1, ρ, Ext.refl _ _, R1, V1, h2⟩, ?_⟩
    rintro i m σ H ⟨rfl, hle, θ, s, ρ, x, R, V, h⟩
    by_cases hlt : i < ds.length
    · right
      rw [List.drop_eq_getElem_cons hlt] at h
      unfold forLoop at h
      split at h
      · rename_i hgs
        have hd : ds[i]? = some ds[i] := List.getElem?_eq_getElem hlt
        refine ⟨wk.go i θ H s _ x.toExt0 R hgs hd, fun σ2 H2 => ∃ m', m' < ds.length - i ∧ m' = ds.length - (i + 1) ∧ i + 1 ≤ ds.length ∧ ∃ θ s ρ, Ext θ' H' θ H2 ∧ RelS X.K θ H2 s ∧ EnvR θ H2 ρ σ2 ∧ PostS X.K W D θ H2 (forLoop (fun ρ s => execs C ib ρ s) tg g (ds.drop (i + 1)) ρ s),
          fun σ2 H2 ⟨m', a1, a2, a3⟩ => ⟨m', a1, a2, a3⟩, fun xv H2 y => ?_⟩
        obtain ⟨x2, R2, r2⟩ := wk.yld i θ H s _ xv H2 x.toExt0 R hgs hd y
        split at h
        · exact h.elim
        · rename_i ρ' hbd
          refine ⟨θ, s, ρ, ds[i], ρ', R2, V.ext x2, r2, hbd, fun σ' V' _ => ⟨θ, s, ρ', R2, V', ?_⟩⟩
          have h3 := PostS.up x2 h
          have fin : ∀ (ρ1 : KL.Env) (s2 : Sto), PostS X.K W D θ H2 (forLoop (fun ρ s => execs C ib ρ s) tg g (ds.drop (i + 1)) ρ1 s2) → ∀ θ3 H3 σ3, Ext θ H2 θ3 H3 → RelS X.K θ3 H3 s2 → EnvR θ3 H3 ρ1 σ3 →
              ∃ m', m' < ds.length - i ∧ m' = ds.length - (i + 1) ∧ i + 1 ≤ ds.length ∧ ∃ θ s ρ, Ext θ' H' θ H3 ∧ RelS X.K θ H3 s ∧ EnvR θ H3 ρ σ3 ∧ PostS X.K W D θ H3 (forLoop (fun ρ s => execs C ib ρ s) tg g (ds.drop (i + 1)) ρ s) :=
            fun ρ1 s2 q θ3 H3 σ3 x3 R3 V3 => ⟨ds.length - (i + 1), by omega, rfl, hlt, θ3, s2, ρ1, (x.trans x2).trans x3, R3, V3, PostS.up x3 q⟩
          cases hr : execs C ib ρ' s with
          | next ρ1 s2 => rw [hr] at h3; exact fin ρ1 s2 h3
          | cont ρ1 s2 => rw [hr] at h3; exact fin ρ1 s2 h3
          | brk ρ1 s2 => rw [hr] at h3; exact h3
          | ret d s2 => rw [hr] at h3; exact h3
          | retN d s2 => rw [hr] at h3; exact h3
          | exn c ρ1 s2 => rw [hr] at h3; exact h3
          | bad => rw [hr] at h3; exact h3
      · exact h.elim
    · left
      have e : i = ds.length := by omega
      subst e
      rw [List.drop_length] at h
      unfold forLoop at h
      split at h
      · rename_i hgs
        exact ⟨wk.stop _ θ H s x.toExt0 R hgs (Nat.le_refl _), h θ H σ (Ext.refl _ _) R V⟩
      · exact h.elim
/-- a class whose instances a text raises -/
structure ExnOk (X : Cx) (c : String) : Prop where
  mg : X.mg (toS c) = some (.ref (He.ga X.K (toS c)))
  ex : PySem.W.excIn X.K (He.ga X.K (toS c)) [.type "ValueError", .type "Exception", .type "BaseException", .type "object"] "ValueError.__new__" = true
  kp : PySem.W.keepIn X.K (.ref (He.ga X.K (toS c))) = true
  sb : PySem.W.subIn X.K (.ref (He.ga X.K (toS c))) (.type "BaseException") = some true
  ty : PySem.W.typeIn X.K (.ref (He.ga X.K (toS c))) = some (.type "type")
theorem s_raise {c : String} {m : Str} {j : Nat} {p p2 p3 pos : Pos} (hc : X.calm = true) (tk : Takes X W) (T : ExnOk X c) (hg : Gl X (toS c)) (hd : (toS c == ("__debug__" : Str)) = false) :
    PS X (.Raise (some (.Call (.Name (toS c) p) [.Constant (.str m) j p2] [] p3)) none pos) (tS X.K W C (.raise c)) :=
  PS.imp (ps_raise hc tk (pmk_own PySem.F.excBase_ValueError T.ex T.mg T.kp (raises_own T.sb T.ty) hg hd)) fun D σ H ⟨θ, s, ρ, R, V, h⟩ => by
    unfold exec at h
    exact h θ H σ (Ext.refl _ _) R V
/-! ### handlers -/
theorem grow_ext {K : PySem.W.Frag} {θ : Th} {H H' : Hp} {s : Sto} (R : RelS K θ H s) (g : Grow H H') : Ext θ H θ H' ∧ RelS K θ H' s := by
  have e : ∀ a, a ∈ θ → H' a = H a := fun a m => by
    rcases m with m | m
    · obtain ⟨i, c, _, _, q⟩ := R.at m
      obtain ⟨o, e, _⟩ := q.some
      rw [e, g _ _ e]
    · obtain ⟨⟨xs, e⟩, _⟩ := R.ban a m
      rw [e, g _ _ e]
  have x : Ext θ H θ H' := ⟨⟨⟨[], by simp⟩, fun _ h => h, fun a o e _ => g a o e, fun a m n => absurd m n⟩, rfl, fun a m => e a (.inr m)⟩
  exact ⟨x, R.same x.toExt0 e⟩
theorem end_go {K : PySem.W.Frag} {W : WX} {D D2 : Ends} {sub : String → String → Option Bool} {xf : String → String → Option KL.D} {i : Option Nat} {c : String} {ρ0 ρ : KL.Env} {hs : List HS} {θ : Th} {H : Hp} {s : Sto} {σ : L2.St} (R : RelS K θ H s)
    (h : PostS K W D θ H (endH (runHs sub xf i c ρ0 hs) ρ s)) (hr : D2.rt = D.rt) (hn : ∀ H', Ext θ H θ H' → RelS K θ H' s → (∀ σ', EnvR θ H' ρ σ' → D.nx σ' H') → D2.nx σ H') : tHR (runHs sub xf i c ρ0 hs) D2 σ H := by
  cases e : runHs sub xf i c ρ0 hs with
  | none => rw [e] at h; exact h.elim
  | some r =>
    rw [e] at h
    cases r with
    | ret d =>
      intro H' g
      obtain ⟨x, R'⟩ := grow_ext R g
      rw [hr]
      exact h θ H' _ x R' (fv_rep (runHs_flat e))
    | retL =>
      intro H' p g hp
      obtain ⟨x, R'⟩ := grow_ext R g
      rw [hr]
      exact h θ _ p [] (x.trans (R'.ext hp)) (R'.into hp) (g.none hp) (R'.free hp) upd_same .nil
    | next =>
      intro H' g
      obtain ⟨x, R'⟩ := grow_ext R g
      exact hn H' x R' fun σ' V => h θ H' σ' x R' V
theorem EnvR.unset {θ : Th} {H : Hp} {ρ : KL.Env} {σ : L2.St} (h : EnvR θ H ρ σ) (i : Nat) : EnvR θ H (ρ.set i none) (σ.set i none) := by
  refine ⟨by simp [h.1], fun j e hj => ?_⟩
  by_cases q : i = j
  · subst q
    by_cases hl : i < ρ.length
    · rw [List.getElem?_set_self hl] at hj
      cases hj
    · rw [List.getElem?_eq_none (by simp; omega)] at hj
      cases hj
  · rw [List.getElem?_set_ne q] at hj ⊢
    exact h.2 j e hj
/-- a suite, whatever the class -/
def tSu (K : PySem.W.Frag) (sub : String → String → Option Bool) (xf : String → String → Option KL.D) (i : Option Nat) (hs : List HS) : Addr → Value → Option Addr → TS := fun a cls d D σ H => ∃ c, cls = cV K c ∧ d = none ∧ tHs sub xf i c a hs D σ H
structure GoodX (T : Tab) (C : Ctx) (sc : Scope) (N : List Str) (X : Cx) : Prop where
  scope : X.env.scope = sc
  names : X.N = N
  nd : X.N.Nodup
  own : X.stack = X.env :: X.outer ∧ X.env.frame = some X.env.locals
  xfa : XFacts T C.sub X.K X.mg
  xfd : ∀ f ∈ T.xfns, XfD T C.sub C.xf X.K X.mg f
  dp : X.A.depth < recursionLimit
theorem suite_ok {T : Tab} {sc : Scope} {N : List Str} (G : GoodX T C sc N X) {ss : List Stmt} {hs : List HS} {i : Option Nat} (ok : okHSs T sc N ss hs = true) (a : Addr) (oe : Obj) (cls : Value) (d : Option Addr) (pn : List (Addr × Obj)) (hz : Zc cls d oe) (hf : ∃ vs, oe.data = .fields vs) :
    PSs (X.suite a ((a, oe) :: pn)) ss (tSu X.K C.sub C.xf i hs a cls d) := by
  refine ⟨fun pins s σ H D I ⟨c, h1, h2, h⟩ => ?_⟩
  subst h1 h2
  refine (okHSs_ok (X := X.suite a ((a, oe) :: pn)) (i := i) (c := c) (a := a) (sub := C.sub) (xf := C.xf) ⟨G.scope, G.names, G.xfa.free, G.xfa.xcl, fun k b q => ⟨(G.xfa.kit c k b q).1, (G.xfa.kit c k b q).2.1⟩, ⟨oe, List.mem_cons_self, hz, hf⟩, fun f m d hd => ?_⟩ hs ss ok).run pins s σ H D I h
  exact xfn_ok (X := X.suite a ((a, oe) :: pn)) G.xfa (G.xfd f m) G.dp ⟨oe, List.mem_cons_self, hz, hf⟩ hd
theorem s_tryAs {T : Tab} {sc : Scope} {N : List Str} (G : GoodX T C sc N X) (tk : Takes X W) {cls : String} {n : Str} {i : Nat} {b : List Stmt} {s0 : Stmt} {ss : List Stmt} {ib : List S} {hs : List HS} {np pos' pos : Pos} (hi : X.N[i]? = some n) (hln : X.env.kindOf n = some .local) (hg : Gl X (toS cls)) (hd : (toS cls == ("__debug__" : Str)) = false)
    (hk : cls ∈ T.xcls) (hv : cls ≠ "ValueError") (ok : okHSs T sc N (s0 :: ss) hs = true)
    (hb : ∀ (W' : WX) (pn : List (Addr × Obj)) (xe : Value → Shared → Prop), Takes (X.tr pn xe) W' → PassesOwn (model X.prog X.w) X.A X.env xe → PSs (X.tr pn xe) b (tSs X.K W' C ib)) :
    PS X (.Try b [.ExceptHandler (some (.Name (toS cls) np)) (some n) (s0 :: ss) pos'] [] [] pos) (tS X.K W C (.tryAs ib cls i hs)) := by
  refine PS.imp (ps_try_as (tb := fun W' => tSs X.K W' C ib) (ts := tSu X.K C.sub C.xf (some i) hs) G.own.1 G.own.2 G.nd hi hln ⟨hg, hd, .inl (G.xfa.xcl _ hk)⟩ tk hb fun a oe cls d pn hz hf => suite_ok G ok a oe cls d pn hz hf) fun D σ H ⟨θ, s, ρ, R, V, h⟩ => ?_
  unfold exec at h
  refine ⟨θ, s, ρ, R, V, ?_⟩
  cases hr : execs C ib ρ s with
  | next ρ1 s1 => rw [hr] at h; exact h
  | brk ρ1 s1 => rw [hr] at h; exact h
  | cont ρ1 s1 => rw [hr] at h; exact h
  | ret d s1 => rw [hr] at h; exact h
  | retN d s1 => rw [hr] at h; exact h
  | bad => rw [hr] at h; exact h
  | exn c ρ1 s1 =>
    rw [hr] at h
    simp only [catchAs] at h
    cases hs' : C.sub c cls with
    | none => rw [hs'] at h; exact h.elim
    | some bb =>
      rw [hs'] at h
      intro θ' H' σ' x R' V'
      refine ⟨bb, (G.xfa.kit c cls bb hs').2.2 hv, fun hbb a na => ?_, fun hbb => ?_⟩
      · subst hbb
        dsimp only at h
        split at h
        · rename_i hl
          refine ⟨c, rfl, rfl, ρ1.set i none, V'.flatAs a (by rw [← V'.1]; exact hl), end_go R' (PostS.up x h) rfl fun H2 x2 R2 q => ?_⟩
          dsimp only
          rw [List.set_set]
          exact q _ ((V'.ext x2).unset i)
        · exact h.elim
      · subst hbb
        exact h θ' H' σ' x R' V'
theorem catchL_go {T : Tab} {sc : Scope} {N : List Str} (G : GoodX T C sc N X) {c : String} {ρ1 : KL.Env} {s1 : Sto} {θ : Th} {H : Hp} : ∀ (cl : List (String × List HS)), (∀ p ∈ cl, p.1 ≠ "ValueError") → PostS X.K W D θ H (catchL C c ρ1 s1 cl) →
    ∀ θ' H' σ', Ext θ H θ' H' → RelS X.K θ' H' s1 → EnvR θ' H' ρ1 σ' → wMany X.K W D (cl.map fun p => ((.ref (He.ga X.K (toS p.1)) : Value), tSu X.K C.sub C.xf none p.2)) (cV X.K c) none σ' H'
  | [], _, h, θ', H', σ', x, R', V' => h θ' H' σ' x R' V'
  | (k, hs) :: cl, hv, h, θ', H', σ', x, R', V' => by
    simp only [catchL] at h
    cases hs' : C.sub c k with
    | none => rw [hs'] at h; exact h.elim
    | some bb =>
      rw [hs'] at h
      refine ⟨bb, (G.xfa.kit c k bb hs').2.2 (hv _ List.mem_cons_self), fun hbb a na => ?_, fun hbb => ?_⟩
      · subst hbb
        refine ⟨c, rfl, rfl, ρ1, V'.flat a, end_go R' (PostS.up x h) rfl fun H2 x2 R2 q => q _ (V'.ext x2)⟩
      · subst hbb
        exact catchL_go G cl (fun p m => hv p (List.mem_cons_of_mem _ m)) h θ' H' σ' x R' V'
theorem s_tryM {T : Tab} {sc : Scope} {N : List Str} (G : GoodX T C sc N X) (tk : Takes X W) {b : List Stmt} {h0 : ExceptHandler} {hds : List ExceptHandler} {ib : List S} {cl : List (String × List HS)} {pos : Pos}
    (hh : HdsOk X (h0 :: hds) (cl.map fun p => ((.ref (He.ga X.K (toS p.1)) : Value), tSu X.K C.sub C.xf none p.2))) (hv : ∀ p ∈ cl, p.1 ≠ "ValueError")
    (hb : ∀ (W' : WX) (pn : List (Addr × Obj)) (xe : Value → Shared → Prop), Takes (X.tr pn xe) W' → PassesOwn (model X.prog X.w) X.A X.env xe → PSs (X.tr pn xe) b (tSs X.K W' C ib)) :
    PS X (.Try b (h0 :: hds) [] [] pos) (tS X.K W C (.tryM ib cl)) := by
  refine PS.imp (ps_try_many (tb := fun W' => tSs X.K W' C ib) G.own.1 G.own.2 tk hb hh) fun D σ H ⟨θ, s, ρ, R, V, h⟩ => ?_
  unfold exec at h
  refine ⟨θ, s, ρ, R, V, ?_⟩
  cases hr : execs C ib ρ s with
  | next ρ1 s1 => rw [hr] at h; exact h
  | brk ρ1 s1 => rw [hr] at h; exact h
  | cont ρ1 s1 => rw [hr] at h; exact h
  | ret d s1 => rw [hr] at h; exact h
  | retN d s1 => rw [hr] at h; exact h
  | bad => rw [hr] at h; exact h
  | exn c ρ1 s1 =>
    rw [hr] at h
    exact catchL_go G cl hv h
end

/-! ### the check of statements -/
def isFun (sc : Scope) : Bool := match sc.kind with
  | .function => true
  | _ => false
def isCell (sc : Scope) (x : Str) : Bool := match sc.names.lookup x with
  | some .cell => true
  | _ => false
def swOk (sc : Scope) (x : Str) (p : Pos) : Expr → Bool
  | .ListComp _ _ scope pos => isCell sc x || isLoc sc x && isFun sc && (p.line == pos.line) && !(scope.names.any fun y => y.1 == x && (y.2 == .local || y.2 == .cell))
  | .SetComp _ _ _ _ => false
  | .DictComp _ _ _ _ _ => false
  | _ => true
def plainV : Expr → Bool
  | .ListComp _ _ _ _ => false
  | .SetComp _ _ _ _ => false
  | .DictComp _ _ _ _ _ => false
  | _ => true
def okSs (f : Stmt → S → Bool) : List Stmt → List S → Bool
  | [], [] => true
  | s :: ss, i :: is => f s i && okSs f ss is
  | _, _ => false
def notX : E → Bool
  | .compX _ _ _ _ => false
  | _ => true
def okAsg (T : Tab) (n : Nat) (sc : Scope) (N : List Str) (i : Nat) (e : E) : Stmt → Bool
  | .Assign [.Name x p] v _ => decide (N[i]? = some x) && isLc sc x && okE T n sc N v e && swOk sc x p v && notX e
  | _ => false
def okHds (T : Tab) (sc : Scope) (N : List Str) : List ExceptHandler → List (String × List HS) → Bool
  | [], [] => true
  | .ExceptHandler (some (.Name x _)) none (s0 :: ss) _ :: r, (cls, hs) :: cl => decide (x = toS cls) && isGl sc x && noDbg x && T.xcls.contains cls && !(cls == "ValueError") && okHSs T sc N (s0 :: ss) hs && okHds T sc N r cl
  | _, _ => false
def okS (T : Tab) : Nat → Scope → List Str → Stmt → S → Bool
  | 0, _, _, _, _ => false
  | n + 1, sc, N, st, ir => match ir with
    | .asg i e => okAsg T (n + 1) sc N i e st
    | .asgB i e => okAsg T (n + 1) sc N i e st
    | .unp is e => (match st with
      | .Assign [te] v _ => isTupE te && !isTupE v && okTg N (isLc sc) te is && okE T n sc N v e
      | _ => false)
    | .sub o k e => (match st with
      | .Assign [.Subscript a b _] v _ => notSlice b && okE T n sc N a o && okE T n sc N b k && okE T n sc N v e
      | _ => false)
    | .fld o f e => (match st with
      | .Assign [.Attribute a g _] v _ => decide (g = toS f) && okE T n sc N a o && okE T n sc N v e
      | _ => false)
    | .expr e => (match st with
      | .Expr v _ => plainV v && okE T n sc N v e
      | _ => false)
    | .ret e => (match st with
      | .Return (some v) _ => okE T n sc N v e
      | _ => false)
    | .retN => (match st with
      | .Return none _ => true
      | _ => false)
    | .if_ c a b => (match st with
      | .If t x y _ => notIf t && okE T n sc N t c && okSs (okS T n sc N) x a && okSs (okS T n sc N) y b
      | _ => false)
    | .for_ tg k its body => (match st with
      | .For te it b [] _ => okTg N (isLc sc) te tg && notSet it && okIt T sc (okE T n sc N) te k its it && okSs (okS T n sc N) b body
      | _ => false)
    | .while_ c body => (match st with
      | .While t b [] _ => notIf t && okE T n sc N t c && okSs (okS T n sc N) b body
      | _ => false)
    | .raise c => (match st with
      | .Raise (some (.Call (.Name x _) [.Constant (.str _) _ _] [] _)) none _ => decide (x = toS c) && T.exs.contains c && isGl sc x && noDbg x
      | _ => false)
    | .brk => (match st with
      | .Break _ => true
      | _ => false)
    | .cont => (match st with
      | .Continue _ => true
      | _ => false)
    | .pass => (match st with
      | .Pass _ => true
      | _ => false)
    | .tryAs body cls i hs => (match st with
      | .Try b [.ExceptHandler (some (.Name x _)) (some y) (s0 :: ss) _] [] [] _ => okSs (okS T n sc N) b body && decide (x = toS cls) && isGl sc x && noDbg x && T.xcls.contains cls && !(cls == "ValueError") && decide (N[i]? = some y) && isLoc sc y && okHSs T sc N (s0 :: ss) hs
      | _ => false)
    | .tryM body cl => (match st with
      | .Try b (h0 :: hds) [] [] _ => okSs (okS T n sc N) b body && okHds T sc N (h0 :: hds) cl
      | _ => false)
structure GoodS (T : Tab) (C : Ctx) (sc : Scope) (N : List Str) (W : WX) (X : Cx) : Prop extends Good T C sc N W X where
  takes : Takes X W
  passes : PassesOwn (model X.prog X.w) X.A X.env X.xe
  exn : ∀ c ∈ T.exs, ExnOk X c
  fnT : ∀ x, X.fn x = true
  own : X.stack = X.env :: X.outer ∧ X.env.frame = some X.env.locals
  xfa : XFacts T C.sub X.K X.mg
  xfd : ∀ f ∈ T.xfns, XfD T C.sub C.xf X.K X.mg f
  dp : X.A.depth < recursionLimit
theorem GoodS.x {T : Tab} {C : Ctx} {sc : Scope} {N : List Str} {W : WX} {X : Cx} (G : GoodS T C sc N W X) : GoodX T C sc N X := ⟨G.scope, G.names, G.nd, G.own, G.xfa, G.xfd, G.dp⟩
theorem GoodS.tr {T : Tab} {C : Ctx} {sc : Scope} {N : List Str} {W W' : WX} {X : Cx} (G : GoodS T C sc N W X) {pn : List (Addr × Obj)} {xe : Value → Shared → Prop} (tk : Takes (X.tr pn xe) W') (po : PassesOwn (model X.prog X.w) X.A X.env xe) : GoodS T C sc N W' (X.tr pn xe) where
  scope := G.scope
  names := G.names
  nd := G.nd
  calm := G.calm
  takes := tk
  pass := fun τ => passAt tk τ
  home := fun _ => ⟨tk, G.own⟩
  units := G.units
  free := G.free
  con := G.con
  fn := fun f h => ⟨(G.fn f h).ex⟩
  mks := fun f h => ⟨(G.mks f h).ex⟩
  att := fun c f h => ⟨(G.att c f h).cl, (G.att c f h).no⟩
  met := fun c f h => ⟨(G.met c f h).cl, (G.met c f h).ex⟩
  passes := po
  exn := fun c h => ⟨(G.exn c h).mg, (G.exn c h).ex, (G.exn c h).kp, (G.exn c h).sb, (G.exn c h).ty⟩
  fnT := G.fnT
  own := G.own
  xfa := ⟨G.xfa.free, G.xfa.xcl, G.xfa.kit⟩
  xfd := fun f h => ⟨(G.xfd f h).mg, (G.xfd f h).ex⟩
  dp := G.dp
theorem lc_loc {T : Tab} {C : Ctx} {sc : Scope} {N : List Str} {W : WX} {X : Cx} (G : Good T C sc N W X) {x : Str} (h : isLc sc x = true) : Loc X.env.scope x := by
  rw [G.scope]
  unfold isLc at h
  split at h
  · rename_i e; exact .inl e
  · rename_i e; exact .inr e
  · cases h
theorem sw_cell {elt : Expr} {gs : List Comprehension} {scope : Scope} {pos py : Pos} {y : Str} {l : Nat} {env : PySem.Env} (hy : env.scope.names.lookup y = some .cell) : swapsWith (.ListComp elt gs scope pos) (some (.Name y py)) l env = pure false := by
  have ky : env.kindOf y = some .cell := hy
  unfold swapsWith
  simp only [ky]
  have e : (some NameKind.cell == some NameKind.local) = false := rfl
  rw [e]
  simp
section
variable {T : Tab} {C : Ctx} {sc : Scope} {N : List Str} {W : WX} {X : Cx}
theorem okSs_ok {f : Stmt → S → Bool} (ih : ∀ e i, f e i = true → PS X e (tS X.K W C i)) : ∀ {es : List Stmt} {is : List S}, okSs f es is = true → PSs X es (tSs X.K W C is)
  | [], [], _ => ss_nil
  | e :: es, i :: is, h => by
    obtain ⟨h1, h2⟩ := b2 h
    exact ss_cons (ih e i h1) (okSs_ok ih h2)
  | [], _ :: _, h => by cases h
  | _ :: _, [], h => by cases h
theorem okAsg_ok (G : Good T C sc N W X) (hf : ∀ x, X.fn x = true) {n i : Nat} {e : E} {st : Stmt} (h : okAsg T n sc N i e st = true) : ∃ t : TE, PS X st (tAsg t (gName i)) ∧ ∀ σ H Q, tE X.K W C e σ H Q → t σ H Q := by
  unfold okAsg at h
  split at h
  · rename_i x p v pos
    have hh := b2 h
    clear h
    obtain ⟨h, h5x⟩ := hh
    obtain ⟨h, h4⟩ := b2 h
    obtain ⟨h, h3⟩ := b2 h
    obtain ⟨h1, h2⟩ := b2 h
    have hi : X.N[i]? = some x := by rw [G.names]; exact of_decide_eq_true h1
    have hlc := lc_loc G h2
    unfold swOk at h4
    split at h4
    · rename_i elt gs scope lpos hxx
      rcases Bool.or_eq_true_iff.mp h4 with hcell | h4
      · refine ⟨_, ps_set G.nd hi hlc (okE_ok n _ sc N W X _ e G h3).1 (sw_cell ?_) (.inl (hf _)), fun σ H Q q => q⟩
        rw [G.scope]
        unfold isCell at hcell
        split at hcell
        · assumption
        · cases hcell
      obtain ⟨h4, h6⟩ := b2 h4
      obtain ⟨h4, h5⟩ := b2 h4
      obtain ⟨h4', h4⟩ := b2 h4
      have hl := G.loc h4'
      cases n with
      | zero => cases h3
      | succ n =>
        cases e with
        | comp ielt tg k its cs =>
          simp only [okE] at h3
          split at h3
          · rename_i e2 te it ifs scope2 pos2 heq
            cases heq
            have ih : ∀ e i, okE T n sc N e i = true → PE X e (tE X.K W C i) := fun e i q => (okE_ok n _ sc N W X e i G q).1
            obtain ⟨h, a7⟩ := b2 h3
            obtain ⟨h, a6⟩ := b2 h
            obtain ⟨h, a5⟩ := b2 h
            obtain ⟨h, a4⟩ := b2 h
            obtain ⟨h, a3⟩ := b2 h
            obtain ⟨a1, a2⟩ := b2 h
            have zs : ((tgNames te).zip tg).map (·.2) = tg := zip_snd (of_decide_eq_true a3)
            have key := ps_setLc (y := x) (py := p) (spos := pos) (pos := lpos) (tt := tTs X.K W0 C cs) (te := tE X.K W0 C ielt) (g := tG X.K tg) (elt := _) (ifs := ifs) (own := (tgNames te).zip tg) G.calm G.nd hi hl
              (sw_true (by
                rw [G.scope]
                unfold isFun at h4
                split at h4
                · assumption
                · cases h4) hl h5 (by simpa using h6)) (okIt_ok G ih a5) (by rw [G.names, G.scope]; exact blkOk_by a2) (fun s H Cc cl fp => okTg_ok (G.blk scope s H Cc cl fp) (fun x q => ⟨.inl ((G.blk scope s H Cc cl fp).loc q), .inr ((G.blk scope s H Cc cl fp).loc q)⟩) a1) (fun s H Cc cl fp => ?_) (fun s H Cc cl fp => (okE_ok n _ _ N W0 _ _ ielt (G.blk scope s H Cc cl fp) a7).1) (folded a4)
            · rw [zs] at key
              exact ⟨_, key, fun σ H Q q => lc_go q⟩
            · split at a6
              · exact ts_nil
              · obtain ⟨c1, c2⟩ := b2 a6
                exact ts_one ((okE_ok n _ _ N W0 _ _ _ (G.blk scope s H Cc cl fp) c2).2 c1)
              · cases a6
          · cases h3
        | isi a ts =>
          match ts, h3 with
          | [], h3 => cases h3
          | [_], h3 => cases h3
          | _ :: _ :: _, h3 => cases h3
        | compX _ _ _ _ => cases h5x
        | _ => cases h3
    · cases h4
    · cases h4
    · rename_i q1 q2 q3
      refine ⟨_, ps_set G.nd hi hlc (okE_ok n _ sc N W X v e G h3).1 (sw_no ?_) (.inl (hf _)), fun σ H Q q => q⟩
      cases v <;> first | rfl | exact absurd rfl (q1 _ _ _ _) | exact absurd rfl (q2 _ _ _ _) | exact absurd rfl (q3 _ _ _ _ _)
  · cases h
theorem okHds_ok {X : Cx} (G : GoodX T C sc N X) (gl : ∀ x, isGl sc x = true → Gl X x) : ∀ {hds : List ExceptHandler} {cl : List (String × List HS)}, okHds T sc N hds cl = true → HdsOk X hds (cl.map fun p => ((.ref (He.ga X.K (toS p.1)) : Value), tSu X.K C.sub C.xf none p.2)) ∧ ∀ p ∈ cl, p.1 ≠ "ValueError"
  | [], [], _ => ⟨.nil, fun p m => by cases m⟩
  | .ExceptHandler (some (.Name x np)) none (s0 :: ss) p' :: r, (cls, hs) :: cl, h => by
    obtain ⟨h, h7⟩ := b2 (show (decide (x = toS cls) && isGl sc x && noDbg x && T.xcls.contains cls && !(cls == "ValueError") && okHSs T sc N (s0 :: ss) hs && okHds T sc N r cl) = true from h)
    obtain ⟨h, h6⟩ := b2 h
    obtain ⟨h, h5⟩ := b2 h
    obtain ⟨h, h4⟩ := b2 h
    obtain ⟨h, h3⟩ := b2 h
    obtain ⟨h1, h2⟩ := b2 h
    have ex := of_decide_eq_true h1
    subst ex
    obtain ⟨i1, i2⟩ := okHds_ok G gl h7
    refine ⟨.cons ⟨gl _ h2, (noDbg_1 h3).1, .inl (G.xfa.xcl _ (con_mem h4))⟩ (fun a oe cls d pn hz hf => suite_ok G h6 a oe cls d pn hz hf) i1, fun p m => ?_⟩
    rcases List.mem_cons.mp m with rfl | m
    · simpa using h5
    · exact i2 p m
  | [], _ :: _, h => by simp [okHds] at h
  | _ :: _, [], h => by simp [okHds] at h
theorem okS_ok : ∀ (n : Nat) (W : WX) (X : Cx) (st : Stmt) (ir : S), GoodS T C sc N W X → okS T n sc N st ir = true → PS X st (tS X.K W C ir)
  | 0, _, _, _, _, _, h => by cases h
  | n + 1, W, X, st, ir, G, h => by
    have ih : ∀ e i, okE T n sc N e i = true → PE X e (tE X.K W C i) := fun e i q => (okE_ok n _ sc N W X e i G.toGood q).1
    have iht : ∀ e i, notIf e = true → okE T n sc N e i = true → PT X e (tT X.K W C i) := fun e i q1 q => (okE_ok n _ sc N W X e i G.toGood q).2 q1
    have ihs : ∀ e i, okS T n sc N e i = true → PS X e (tS X.K W C i) := fun e i q => okS_ok n W X e i G q
    cases ir with
    | asg i e =>
      obtain ⟨t, h1, h2⟩ := okAsg_ok G.toGood G.fnT (show okAsg T (n + 1) sc N i e st = true from h)
      exact s_asg h1 h2
    | asgB i e =>
      obtain ⟨t, h1, h2⟩ := okAsg_ok G.toGood G.fnT (show okAsg T (n + 1) sc N i e st = true from h)
      exact s_asgB h1 h2
    | unp is e =>
      simp only [okS] at h
      split at h
      · rename_i te v pos
        obtain ⟨h, h4⟩ := b2 h
        obtain ⟨h, h3⟩ := b2 h
        obtain ⟨h1, h2⟩ := b2 h
        refine s_unp (ih _ _ h4) (okTg_ok G.toGood (fun x q => ⟨lc_loc G.toGood q, .inl (G.fnT x)⟩) h3) ?_ (by simpa using h2)
        cases te <;> first | rfl | cases h1
      · cases h
    | sub o k e =>
      simp only [okS] at h
      split at h
      · obtain ⟨h, h4⟩ := b2 h
        obtain ⟨h, h3⟩ := b2 h
        obtain ⟨h1, h2⟩ := b2 h
        exact s_sub G.toGood.u1 (ih _ _ h2) (ih _ _ h3) (ih _ _ h4) h1
      · cases h
    | fld o f e =>
      simp only [okS] at h
      split at h
      · obtain ⟨h, h3⟩ := b2 h
        obtain ⟨h1, h2⟩ := b2 h
        have ex := of_decide_eq_true h1
        subst ex
        exact s_fld (fun c q => G.att c f q) (ih _ _ h2) (ih _ _ h3)
      · cases h
    | expr e =>
      simp only [okS] at h
      split at h
      · rename_i v pos
        obtain ⟨h1, h2⟩ := b2 h
        refine s_expr (ih _ _ h2) fun l env => sw_no ?_
        cases v <;> first | rfl | cases h1
      · cases h
    | ret e =>
      simp only [okS] at h
      split at h
      · exact s_ret (ih _ _ h)
      · cases h
    | retN =>
      simp only [okS] at h
      split at h
      · exact s_retN
      · cases h
    | if_ c a b =>
      simp only [okS] at h
      split at h
      · obtain ⟨h, h4⟩ := b2 h
        obtain ⟨h, h3⟩ := b2 h
        obtain ⟨h1, h2⟩ := b2 h
        exact s_if (iht _ _ h1 h2) (okSs_ok ihs h3) (okSs_ok ihs h4)
      · cases h
    | for_ tg k its body =>
      simp only [okS] at h
      split at h
      · obtain ⟨h, h4⟩ := b2 h
        obtain ⟨h, h3⟩ := b2 h
        obtain ⟨h1, h2⟩ := b2 h
        exact s_for G.passes G.calm (okIt_ok G.toGood ih h3) (okTg_ok G.toGood (fun x q => ⟨lc_loc G.toGood q, .inl (G.fnT x)⟩) h1) (okSs_ok ihs h4) (folded h2)
      · cases h
    | while_ c body =>
      simp only [okS] at h
      split at h
      · obtain ⟨h, h3⟩ := b2 h
        obtain ⟨h1, h2⟩ := b2 h
        exact s_while G.passes (iht _ _ h1 h2) (okSs_ok ihs h3)
      · cases h
    | raise c =>
      simp only [okS] at h
      split at h
      · obtain ⟨h, h4⟩ := b2 h
        obtain ⟨h, h3⟩ := b2 h
        obtain ⟨h1, h2⟩ := b2 h
        have ex := of_decide_eq_true h1
        subst ex
        exact s_raise G.calm G.takes (G.exn _ (con_mem h2)) (G.gl h3) (noDbg_1 h4).1
      · cases h
    | brk =>
      simp only [okS] at h
      split at h
      · exact s_brk
      · cases h
    | cont =>
      simp only [okS] at h
      split at h
      · exact s_cont
      · cases h
    | pass =>
      simp only [okS] at h
      split at h
      · exact s_pass
      · cases h
    | tryAs body cls i hs =>
      simp only [okS] at h
      split at h
      · obtain ⟨h, h9⟩ := b2 h
        obtain ⟨h, h8⟩ := b2 h
        obtain ⟨h, h7⟩ := b2 h
        obtain ⟨h, h6⟩ := b2 h
        obtain ⟨h, h5⟩ := b2 h
        obtain ⟨h, h4⟩ := b2 h
        obtain ⟨h, h3⟩ := b2 h
        obtain ⟨h1, h2⟩ := b2 h
        have ex := of_decide_eq_true h2
        subst ex
        exact s_tryAs G.x G.takes (by rw [G.names]; exact of_decide_eq_true h7) (G.toGood.loc h8) (G.gl h3) (noDbg_1 h4).1 (con_mem h5) (by simpa using h6) h9 fun W' pn xe tk po => okSs_ok (fun e i q => okS_ok n W' _ e i (G.tr tk po) q) h1
      · cases h
    | tryM body cl =>
      simp only [okS] at h
      split at h
      · obtain ⟨h1, h2⟩ := b2 h
        obtain ⟨i1, i2⟩ := okHds_ok G.x (fun x q => G.gl q) h2
        exact s_tryM G.x G.takes i1 i2 fun W' pn xe tk po => okSs_ok (fun e i q => okS_ok n W' _ e i (G.tr tk po) q) h1
      · cases h
theorem okSs_run {n : Nat} {sts : List Stmt} {is : List S} (G : GoodS T C sc N W X) (h : okSs (okS T n sc N) sts is = true) : PSs X sts (tSs X.K W C is) := okSs_ok (fun e i q => okS_ok n W X e i G q) h
end
end KL

set_option Elab.async false
set_option linter.all false
set_option maxRecDepth 100000
set_option maxHeartbeats 4000000
set_option autoImplicit false
/-! KLTop: whole programs: the interpreter's word about a def is the def's word. -/
namespace KL
open PySem PySem.Spec PyProof.Rows L2

/-! ### a call's end -/
theorem Rep.cut {θ θ' : Th} {H' : Hp} (hc : ∀ n, n < θ.c.length → θ'.c[n]? = θ.c[n]?) (hm : ∀ a, a ∈ θ → a ∈ θ') : (∀ (d : D) (v : V), Rep θ' H' d v → (∀ r ∈ d.refs, r < θ.c.length) → Rep θ H' d v) := by
  have key : ∀ (k : Nat), (∀ (d : D) (v : V), sizeOf d < k → Rep θ' H' d v → (∀ r ∈ d.refs, r < θ.c.length) → Rep θ H' d v) ∧ (∀ (ds : List D) (vs : List V), sizeOf ds < k → Reps θ' H' ds vs → (∀ r ∈ D.refsL ds, r < θ.c.length) → Reps θ H' ds vs) := by
    intro k
    induction k with
    | zero => exact ⟨fun _ _ h => absurd h (Nat.not_lt_zero _), fun _ _ h => absurd h (Nat.not_lt_zero _)⟩
    | succ k ih =>
      refine ⟨fun d v hk r u => ?_, fun ds vs hk r u => ?_⟩
      · cases r with
        | non => exact .non
        | bl b => exact .bl b
        | int i => exact .int i
        | str z => exact .str z
        | tup h n rs => exact .tup h (fun m => n (hm _ m)) (ih.2 _ _ (by simp at hk; omega) rs (by simpa [D.refs] using u))
        | lst h n rs => exact .lst h (fun m => n (hm _ m)) (ih.2 _ _ (by simp at hk; omega) rs (by simpa [D.refs] using u))
        | @ref n a h => exact .ref (by rw [← hc n (u n (by simp [D.refs]))]; exact h)
      · cases r with
        | nil => exact .nil
        | cons a b =>
          simp only [D.refsL, List.mem_append] at u
          simp at hk
          exact .cons (ih.1 _ _ (by omega) a fun r m => u r (.inl m)) (ih.2 _ _ (by omega) b fun r m => u r (.inr m))
  exact fun d v r u => (key (sizeOf d + 1)).1 d v (Nat.lt_succ_self _) r u
theorem Reps.cut {θ θ' : Th} {H' : Hp} (hc : ∀ n, n < θ.c.length → θ'.c[n]? = θ.c[n]?) (hm : ∀ a, a ∈ θ → a ∈ θ') : ∀ {ds : List D} {vs : List V}, Reps θ' H' ds vs → (∀ r ∈ D.refsL ds, r < θ.c.length) → Reps θ H' ds vs
  | [], _, .nil, _ => .nil
  | d :: ds, _, .cons a b, u => by
    simp only [D.refsL, List.mem_append] at u
    exact .cons (Rep.cut hc hm _ _ a fun r m => u r (.inl m)) (Reps.cut hc hm b fun r m => u r (.inr m))
theorem Rep.under {θ : Th} {H : Hp} : (∀ (d : D) (v : V), Rep θ H d v → ∀ r ∈ d.refs, r < θ.c.length) := by
  have key : ∀ (k : Nat), (∀ (d : D) (v : V), sizeOf d < k → Rep θ H d v → (∀ r ∈ d.refs, r < θ.c.length)) ∧ (∀ (ds : List D) (vs : List V), sizeOf ds < k → Reps θ H ds vs → (∀ r ∈ D.refsL ds, r < θ.c.length)) := by
    intro k
    induction k with
    | zero => exact ⟨fun _ _ h => absurd h (Nat.not_lt_zero _), fun _ _ h => absurd h (Nat.not_lt_zero _)⟩
    | succ k ih =>
      refine ⟨fun d v hk r => ?_, fun ds vs hk r => ?_⟩
      · cases r with
        | non => intro r m; simp [D.refs] at m
        | bl b => intro r m; simp [D.refs] at m
        | int i => intro r m; simp [D.refs] at m
        | str z => intro r m; simp [D.refs] at m
        | tup h n rs =>
          have := ih.2 _ _ (by simp at hk; omega) rs
          simpa [D.refs] using this
        | lst h n rs =>
          have := ih.2 _ _ (by simp at hk; omega) rs
          simpa [D.refs] using this
        | @ref n a h =>
          intro r m
          simp [D.refs] at m
          subst m
          exact (List.getElem?_eq_some_iff.mp h).1
      · cases r with
        | nil => intro r m; simp [D.refsL] at m
        | cons a b =>
          intro r m
          simp only [D.refsL, List.mem_append] at m
          simp at hk
          rcases m with m | m
          · exact ih.1 _ _ (by omega) a r m
          · exact ih.2 _ _ (by omega) b r m
  exact fun d v r => (key (sizeOf d + 1)).1 d v (Nat.lt_succ_self _) r
theorem Reps.under {θ : Th} {H : Hp} : ∀ {ds : List D} {vs : List V}, Reps θ H ds vs → ∀ r ∈ D.refsL ds, r < θ.c.length
  | [], _, .nil, r, m => by simp [D.refsL] at m
  | d :: ds, _, .cons a b, r, m => by
    simp only [D.refsL, List.mem_append] at m
    rcases m with m | m
    · exact Rep.under _ _ a r m
    · exact Reps.under b r m
theorem CellR.under {K : PySem.W.Frag} {θ : Th} {H : Hp} {a : Addr} {c : Cell} (h : CellR K θ H a c) : c.under θ.c.length := by
  cases c with
  | lst l =>
    obtain ⟨vs, _, r⟩ := h
    exact fun q m => r.under q m
  | ins c fs =>
    obtain ⟨dx, vfs, _, _, r⟩ := h
    exact fun q m => r.under q m
  | dct kvs =>
    obtain ⟨ws, _, _, r⟩ := h
    exact fun q m => r.under q m
  | tpc ns =>
    exact fun q m => (nomatch m)
theorem CellR.cut {K : PySem.W.Frag} {θ θ' : Th} {H' : Hp} {a : Addr} {c : Cell} (hc : ∀ n, n < θ.c.length → θ'.c[n]? = θ.c[n]?) (hm : ∀ a, a ∈ θ → a ∈ θ') (h : CellR K θ' H' a c) (u : c.under θ.c.length) : CellR K θ H' a c := by
  cases c with
  | lst l =>
    obtain ⟨vs, e, r⟩ := h
    exact ⟨vs, e, r.cut hc hm u⟩
  | ins c fs =>
    obtain ⟨dx, vfs, e, m, r⟩ := h
    exact ⟨dx, vfs, e, m, r.cut hc hm u⟩
  | dct kvs =>
    obtain ⟨ws, e, m, r⟩ := h
    exact ⟨ws, e, m, r.cut hc hm u⟩
  | tpc ns =>
    exact h
section
variable {K : PySem.W.Frag} {θ θ' : Th} {H H' : Hp} {s s' : Sto}
theorem drop_c (x : Ext θ H θ' H') (R : RelS K θ H s) : (∀ n, n < θ.c.length → θ'.c[n]? = θ.c[n]?) ∧ (∀ a, a ∈ θ → a ∈ θ') ∧ θ'.c.take s.length = θ.c := by
  obtain ⟨t, e⟩ := x.pre
  refine ⟨fun n h => ?_, fun a m => x.mem m, ?_⟩
  · rw [e, List.getElem?_append_left h]
  · rw [e, ← R.len]
    simp
theorem drop_x (x : Ext θ H θ' H') : Ext θ H θ H' where
  pre := ⟨[], by simp⟩
  sub := fun _ h => h
  keep := fun a o h n => x.keep a o h n
  new := fun a m n => absurd m n
  b := rfl
  ban := x.ban
theorem drop_rel (x : Ext θ H θ' H') (R : RelS K θ H s) (R' : RelS K θ' H' s') (hk : keptOk s s') : RelS K θ H' (s'.take s.length) where
  len := by rw [List.length_take, R.len]; have := hk.1; omega
  nd := R.nd
  cell := fun i c a h1 h2 => by
    obtain ⟨c1, c2, c3⟩ := drop_c x R
    have hi : i < s.length := by
      have := (List.getElem?_eq_some_iff.mp h1).1
      rw [List.length_take] at this
      omega
    rw [List.getElem?_take_of_lt hi] at h1
    have h3 : θ'.c[i]? = some a := by rw [c1 i (by rw [R.len]; exact hi)]; exact h2
    have hq := R'.cell i c a h1 h3
    refine hq.cut c1 c2 ?_
    rcases hk.2 i hi with q | ⟨d, q, u⟩
    · rw [h1] at q
      exact (R.cell i c a q.symm h2).under
    · rw [h1] at q
      cases q
      rw [R.len]
      exact u
  ban := fun a m => by
    obtain ⟨q1, q2⟩ := R'.ban a (by rw [x.b]; exact m)
    refine ⟨q1, fun z => q2 ?_⟩
    obtain ⟨t, e⟩ := x.pre
    rw [e]
    exact List.mem_append_left _ z
theorem RelS.mk1 {a : Addr} {vs : List V} (R : RelS K θ H s) (h : H a = some (.lst vs)) (n : a ∉ θ.c) (hcell : ∀ (i : Nat) (c : Cell) (b : Addr), s[i]? = some c → θ.c[i]? = some b → CellR K (θ.mk1 a) H b c) : RelS K (θ.mk1 a) H s where
  len := R.len
  nd := R.nd
  cell := hcell
  ban := fun b m => by
    rcases List.mem_cons.mp m with rfl | m
    · exact ⟨⟨vs, h⟩, n⟩
    · exact R.ban b m
/-- what is handed out of a call -/
theorem drop_new {a : Addr} {vs : List V} {l : List D} (x : Ext θ H θ' H') (R : RelS K θ H s) (R' : RelS K (θ'.mk1 a) H' s') (hk : keptOk s s') (na : a ∉ θ') (e : H' a = some (.lst vs)) (r : Reps (θ'.mk1 a) H' l vs) (u : (D.lst l).under s.length) :
    RelS K (θ.mk1 a) H' (s'.take s.length) ∧ Reps (θ.mk1 a) H' l vs := by
  obtain ⟨c1, c2, c3⟩ := drop_c x R
  have hm : ∀ b, b ∈ θ.mk1 a → b ∈ θ'.mk1 a := fun b m => by
    rcases Th.mk1_mem.mp m with q | q
    · exact Th.mk1_mem.mpr (.inl q)
    · exact Th.mk1_mem.mpr (.inr (x.mem q))
  have hc : ∀ n, n < (θ.mk1 a).c.length → (θ'.mk1 a).c[n]? = (θ.mk1 a).c[n]? := c1
  have u' : ∀ q ∈ D.refsL l, q < (θ.mk1 a).c.length := fun q m => by
    have := u q (by simpa [D.refs] using m)
    show q < θ.c.length
    rw [R.len]
    exact this
  refine ⟨RelS.mk1 (drop_rel x R R'.out hk) e (fun q => na (x.mem (.inl q))) fun i c b h1 h2 => ?_, r.cut hc hm u'⟩
  have hi : i < s.length := by
    have := (List.getElem?_eq_some_iff.mp h1).1
    rw [List.length_take] at this
    omega
  rw [List.getElem?_take_of_lt hi] at h1
  have h3 : (θ'.mk1 a).c[i]? = some b := by
    show θ'.c[i]? = _
    rw [c1 i (by rw [R.len]; exact hi)]
    exact h2
  refine (R'.cell i c b h1 h3).cut hc hm ?_
  show c.under θ.c.length
  rcases hk.2 i hi with q | ⟨d, q, w⟩
  · rw [h1] at q
    exact (R.cell i c b q.symm h2).under
  · rw [h1] at q
    cases q
    rw [R.len]
    exact w
end
mutual
theorem Rep.into1 {θ : Th} {H : Hp} {D : Addr} (hD : D ∈ θ) : ∀ {d : KL.D} {v : V}, Rep θ H d v → Rep (θ.mk1 D) H d v
  | _, _, .non => .non
  | _, _, .bl b => .bl b
  | _, _, .int i => .int i
  | _, _, .str z => .str z
  | _, _, .tup h n r => .tup h (fun m => n ((Th.mk1_mem.mp m).elim (fun q => q ▸ hD) id)) (Reps.into1 hD r)
  | _, _, .lst h n r => .lst h (fun m => n ((Th.mk1_mem.mp m).elim (fun q => q ▸ hD) id)) (Reps.into1 hD r)
  | _, _, .ref h => .ref h
theorem Reps.into1 {θ : Th} {H : Hp} {D : Addr} (hD : D ∈ θ) : ∀ {ds : List KL.D} {vs : List V}, Reps θ H ds vs → Reps (θ.mk1 D) H ds vs
  | _, _, .nil => .nil
  | _, _, .cons h t => .cons (Rep.into1 hD h) (Reps.into1 hD t)
end
theorem under_int {n : Nat} {d : D} (h : d.under n) {θ : Th} (hn : n = θ.c.length) : ∀ r ∈ d.refs, r < θ.c.length := fun r m => hn ▸ h r m
theorem fin_ok {K : PySem.W.Frag} {E : XK} {Q : VK} {θ : Th} {H : Hp} {s : Sto} {r : RS} (R : RelS K θ H s) (h : PostC K E Q θ H (finish s r)) : PostS K (fun c d _ H => E c d H) { nx := fun _ H' => Q .non H', rt := Q } θ H r := by
  cases r with
  | bad => exact h
  | brk ρ s' => exact False.elim h
  | cont ρ s' => exact False.elim h
  | next ρ s' =>
    intro θ' H' σ' x R' V'
    simp only [finish] at h
    split at h
    · rename_i hk
      exact h θ H' .non (drop_x x) (drop_rel x R R' hk) .non
    · exact h θ' H' .non x R' .non
  | exn c ρ s' =>
    intro θ' H' σ' x R' V'
    simp only [finish] at h
    split at h
    · rename_i hk
      exact h θ H' (drop_x x) (drop_rel x R R' hk)
    · exact h θ' H' x R'
  | retN l s' =>
    intro θ' H' a vs x R' hn na ha rl
    simp only [finish] at h
    split at h
    · rename_i hk
      obtain ⟨q1, q2⟩ := drop_new x R R' hk.1 na ha rl hk.2
      exact h θ H' a vs (drop_x x) q1 hn (fun m => na (x.mem m)) ha q2
    · exact h θ' H' a vs x R' hn na ha rl
  | ret d s' =>
    intro θ' H' v x R' r
    simp only [finish] at h
    split at h
    · rename_i hk
      split at h
      · rename_i hu
        obtain ⟨c1, c2, c3⟩ := drop_c x R
        exact h θ H' v (drop_x x) (drop_rel x R R' hk) (r.cut c1 c2 _ _ (under_int hu R.len.symm))
      · rename_i hu
        split at h
        · rename_i j
          split at h
          · rename_i l hc
            split at h
            · rename_i hl
              cases r with
              | @ref _ a ea =>
                obtain ⟨vs, e1, rl⟩ := R'.cell _ _ _ hc ea
                have hj : ¬ j < s.length := fun z => hu fun q m => by
                  simp [D.refs] at m
                  omega
                have na : a ∉ θ := fun m => by
                  rcases m with m | m
                  · obtain ⟨i, hi, ei⟩ := List.mem_iff_getElem.mp m
                    obtain ⟨t, et⟩ := x.pre
                    have h1 : θ'.c[i]? = some a := by
                      rw [et, List.getElem?_append_left hi, List.getElem?_eq_getElem hi, ei]
                    have hij : i = j := (List.getElem_inj (h₀ := (List.getElem?_eq_some_iff.mp h1).1) (h₁ := (List.getElem?_eq_some_iff.mp ea).1) R'.nd).mp ((List.getElem?_eq_some_iff.mp h1).2.trans (List.getElem?_eq_some_iff.mp ea).2.symm)
                    rw [R.len] at hi
                    omega
                  · exact (R'.ban a (x.sub a m)).2 (List.mem_of_getElem? ea)
                have ma : a ∈ θ' := .inl (List.mem_of_getElem? ea)
                have hn : H a = none := x.new a ma na
                obtain ⟨c1, c2, c3⟩ := drop_c x R
                have hm : ∀ b, b ∈ θ.mk1 a → b ∈ θ' := fun b m => by
                  rcases Th.mk1_mem.mp m with q | q
                  · exact q ▸ ma
                  · exact x.mem q
                have c1' : ∀ n, n < (θ.mk1 a).c.length → θ'.c[n]? = (θ.mk1 a).c[n]? := c1
                have hl' : ∀ q ∈ D.refsL l, q < (θ.mk1 a).c.length := fun q m => by
                  have := hl q (by simpa [D.refs] using m)
                  show q < θ.c.length
                  rw [R.len]
                  exact this
                refine h θ H' a vs (drop_x x) (RelS.mk1 (drop_rel x R R' hk) e1 (fun q => na (.inl q)) fun i c b h1 h2 => ?_) hn na e1 (rl.cut c1' hm hl')
                have hi : i < s.length := by
                  have := (List.getElem?_eq_some_iff.mp h1).1
                  rw [List.length_take] at this
                  omega
                rw [List.getElem?_take_of_lt hi] at h1
                have h3 : θ'.c[i]? = some b := by rw [c1 i (by rw [R.len]; exact hi)]; exact h2
                refine (R'.cell i c b h1 h3).cut c1' hm ?_
                show c.under θ.c.length
                rcases hk.2 i hi with q | ⟨d, q, w⟩
                · rw [h1] at q
                  exact (R.cell i c b q.symm h2).under
                · rw [h1] at q
                  cases q
                  rw [R.len]
                  exact w
            · exact h θ' H' v x R' r
          · exact h θ' H' v x R' r
        · exact h θ' H' v x R' r
    · exact h θ' H' v x R' r

/-! ### a program's data -/
structure FnT where
  cls : Option String
  nm : String
  d : He.DefD
  ps : List Str
  N : List Str
  fd : FDef
def FnT.key (t : FnT) : String := match t.cls with
  | none => t.nm
  | some c => c ++ "." ++ t.nm
structure XFnT where
  nm : String
  d : He.DefD
  ps : List Str
  N : List Str
  hs : List HS
structure PD where
  fns : List FnT
  free : List String
  con : List (String × D)
  calls : List String
  exs : List String
  mks : List String
  clss : List String
  atts : List (String × String)
  mets : List (String × String)
  xcls : List String := []
  xcs : List String := []
  subs : List (String × String × Bool) := []
  xfns : List XFnT := []
def conFa : String × D → He.Fa
  | (x, .int i) => .int (toS x) i
  | (x, .str z) => .str (toS x) (toS z)
  | (x, _) => .glo (toS x)
def PD.fa (D : PD) : List He.Fa := D.free.map (fun x => .free (toS x)) ++ (D.calls.map (fun x => .glo (toS x)) ++ (D.con.map conFa ++ (D.exs.map (fun x => .glo (toS x)) ++ (D.exs.map (fun x => .exc (toS x)) ++ (D.mks.map (fun x => .glo (toS x)) ++ (D.mks.map (fun x => .mkr (toS x)) ++ (D.clss.map (fun x => .cls (toS x)) ++
  (D.atts.map (fun p => .noat (toS p.1) (toS p.2)) ++ (D.mets.map (fun p => .meth (toS p.1) (toS p.2)) ++ (D.xcls.map (fun x => .glo (toS x)) ++ D.xfns.map (fun t => .glo (toS t.nm))))))))))))
def PD.defs (D : PD) : List He.DefD := D.fns.map (·.d) ++ D.xfns.map (·.d)
def PD.tab (D : PD) : Tab := ⟨D.free, D.con, D.calls, D.mks, D.exs, D.xcls, D.xfns.map (·.nm), true⟩
def PD.prog (D : PD) : Prog := ⟨fun f => (D.fns.find? fun t => t.key == f).map (·.fd), fun c f => D.atts.contains (c, f), fun c m => D.mets.contains (c, m), fun c => D.mks.contains c, fun c k => (D.subs.find? fun p => p.1 == c && p.2.1 == k).map (·.2.2), fun f => (D.xfns.find? fun t => t.nm == f).map (·.hs)⟩
def scopeOk (N P : List Str) (sc : Scope) : Bool := isFun sc && !sc.isCoroutine && !sc.isGenerator && decide N.Nodup && decide (N.take P.length = P) && (P.all fun x => match sc.names.lookup x with
  | some .local => true
  | some .cell => true
  | _ => false) && sc.names.all fun y => match y.2 with
  | .free => false
  | _ => true
def FnT.ok (T : Tab) (t : FnT) : Bool := scopeOk t.N t.ps t.d.scope && okSs (okS T 60 t.d.scope t.N) t.d.body t.fd.body && t.d.dfl.isEmpty && t.d.kwd.isEmpty && decide (t.N.length = t.fd.nv) && decide (t.ps.length = t.fd.np) && decide (t.d.at_ = match t.cls with
  | none => (toS t.nm, none)
  | some c => (toS c, some (toS t.nm)))
def XFnT.ok (T : Tab) (t : XFnT) : Bool := scopeOk t.N t.ps t.d.scope && okHSs T t.d.scope t.N t.d.body t.hs && t.d.dfl.isEmpty && t.d.kwd.isEmpty && decide (t.ps.length = 1) && decide (t.d.at_ = (toS t.nm, none))
def PD.okX (D : PD) : Bool := (D.xfns.all fun t => t.ok D.tab) && D.subs.all fun p => D.xcs.contains p.1
def PD.ok0 (D : PD) : Bool := (D.fns.all fun t => t.ok D.tab) && decide (D.fns.map (·.key)).Nodup && (D.calls.all fun f => D.fns.any fun t => decide (t.cls = none) && decide (t.nm = f)) && (D.mks.all fun c => D.fns.any fun t => decide (t.cls = some c) && decide (t.nm = "__init__")) &&
  (D.atts.all fun p => D.clss.contains p.1) && (D.mets.all fun p => D.clss.contains p.1 && D.fns.any fun t => decide (t.cls = some p.1) && decide (t.nm = p.2)) && D.con.all fun p => match p.2 with
  | .int _ => true
  | .str _ => true
  | _ => false
def PD.ok (D : PD) : Bool := D.okX && D.ok0
def BdOk (t : FnT) : Prop := ∀ (kV doc pm : Value) (an : Option Addr) (cdv ct : Value) (us : List Value), us.length = t.ps.length → bindArgs (PySem.W.fnOf t.d.name t.d.qual t.d.params t.d.body t.d.scope .none kV doc pm an cdv ct) ⟨us, []⟩ = pure (t.ps.zip us)
def BdAll : List FnT → Prop
  | [] => True
  | t :: ts => BdOk t ∧ BdAll ts
def BdX (t : XFnT) : Prop := ∀ (kV doc pm : Value) (an : Option Addr) (cdv ct : Value) (us : List Value), us.length = t.ps.length → bindArgs (PySem.W.fnOf t.d.name t.d.qual t.d.params t.d.body t.d.scope .none kV doc pm an cdv ct) ⟨us, []⟩ = pure (t.ps.zip us)
def BdAllX : List XFnT → Prop
  | [] => True
  | t :: ts => BdX t ∧ BdAllX ts
theorem BdAllX.at : ∀ {l : List XFnT}, BdAllX l → ∀ t ∈ l, BdX t
  | [], _, _, m => by cases m
  | t :: ts, h, u, m => by
    rcases List.mem_cons.mp m with rfl | m
    · exact h.1
    · exact BdAllX.at h.2 u m
def BdP (D : PD) : Prop := BdAll D.fns ∧ BdAllX D.xfns
theorem BdAll.at : ∀ {l : List FnT}, BdAll l → ∀ t ∈ l, BdOk t
  | [], _, _, m => by cases m
  | t :: ts, h, u, m => by
    rcases List.mem_cons.mp m with rfl | m
    · exact h.1
    · exact BdAll.at h.2 u m
theorem scope_ok {N P : List Str} {sc : Scope} (h : scopeOk N P sc = true) : FnScope N P sc := by
  unfold scopeOk at h
  obtain ⟨h, h7⟩ := b2 h
  obtain ⟨h, h6⟩ := b2 h
  obtain ⟨h, h5⟩ := b2 h
  obtain ⟨h, h4⟩ := b2 h
  obtain ⟨h, h3⟩ := b2 h
  obtain ⟨h1, h2⟩ := b2 h
  refine ⟨?_, by simpa using h2, by simpa using h3, of_decide_eq_true h4, of_decide_eq_true h5, fun x m => ?_, fun y m e => ?_⟩
  · unfold isFun at h1
    split at h1
    · assumption
    · cases h1
  · have q := List.all_eq_true.mp h6 x m
    split at q
    · rename_i e; exact .inl e
    · rename_i e; exact .inr e
    · cases q
  · have q := List.all_eq_true.mp h7 y m
    rw [e] at q
    cases q
/-- no list stands in the written part -/
def notList : Value → Bool
  | .type c => !(c == "list")
  | _ => true
def noLst (K : PySem.W.Frag) : Bool := K.all fun q => notList q.2.cls
theorem noLst_ok {K : PySem.W.Frag} (h : noLst K = true) {a : Addr} {o : Obj} (e : K.lookup a = some o) : o.cls ≠ .type "list" := fun q => by
  have := List.all_eq_true.mp h _ (He.lookup_mem e)
  rw [q] at this
  revert this
  decide

/-- the classes of exceptions, looked at in K -/
def excChk (K : PySem.W.Frag) (c : String) : Bool := decide (PySem.W.findIn K (cV K c) "__getattribute__" = some (some (.builtin "BaseException.__getattribute__"))) && decide (PySem.W.findIn K (cV K c) "__getattr__" = some none) && decide (PySem.W.subIn K (cV K c) (.type "BaseException") = some true) &&
  PySem.W.hasDictIn K (He.ga K (toS c)) && decide (PySem.W.findIn K (cV K c) "__class__" = some (some (.builtin "object.__class__"))) && decide (PySem.W.specialIn K (.builtin "object.__class__") "__get__" = some (some (.builtin "getset_descriptor.__get__"))) &&
  decide (PySem.W.takesIn K (.builtin "object.__class__") = some true) && decide (PySem.W.mroIn K (He.ga K (toS c)) (.type "object") = some true)
theorem excChk_ok {K : PySem.W.Frag} {c : String} (h : excChk K c = true) : ExcC K (He.ga K (toS c)) := by
  unfold excChk at h
  obtain ⟨h, h8⟩ := b2 h
  obtain ⟨h, h7⟩ := b2 h
  obtain ⟨h, h6⟩ := b2 h
  obtain ⟨h, h5⟩ := b2 h
  obtain ⟨h, h4⟩ := b2 h
  obtain ⟨h, h3⟩ := b2 h
  obtain ⟨h1, h2⟩ := b2 h
  exact ⟨of_decide_eq_true h1, of_decide_eq_true h2, of_decide_eq_true h3, h4, of_decide_eq_true h5, of_decide_eq_true h6, of_decide_eq_true h7, of_decide_eq_true h8⟩
def subChk (K : PySem.W.Frag) (p : String × String × Bool) : Bool := decide (PySem.W.kitOne K (cV K p.1) (clsV K p.2.1) = some p.2.2) && (decide (p.2.1 = "ValueError") || decide (PySem.W.exmOne K (cV K p.1) (.ref (He.ga K (toS p.2.1))) = some p.2.2))
def chk (D : PD) (K : PySem.W.Frag) : Bool := noLst K && (D.xcs.all fun c => excChk K c) && D.subs.all fun p => subChk K p
/-- what is known of K -/
structure Facts (D : PD) (K : PySem.W.Frag) (mg : Str → Option Value) : Prop where
  free : ∀ x ∈ D.free, mg (toS x) = none
  call : ∀ x ∈ D.calls, mg (toS x) = some (.ref (He.ga K (toS x)))
  con : ∀ p ∈ D.con, ∃ u v, mg (toS p.1) = some u ∧ RelV v u ∧ ∀ θ H, Rep θ H p.2 v
  exg : ∀ x ∈ D.exs, mg (toS x) = some (.ref (He.ga K (toS x)))
  exc : ∀ x ∈ D.exs, (He.Fa.exc (toS x)).ok K = true
  mkg : ∀ x ∈ D.mks, mg (toS x) = some (.ref (He.ga K (toS x)))
  mkr : ∀ x ∈ D.mks, Mk K (He.ga K (toS x)) (He.ma K (He.ga K (toS x)) "__init__")
  att : ∀ p ∈ D.atts, Cls K (He.ga K (toS p.1)) ∧ NoAttr K (He.ga K (toS p.1)) (toS p.2)
  met : ∀ p ∈ D.mets, Cls K (He.ga K (toS p.1)) ∧ Meth K (He.ga K (toS p.1)) (toS p.2) (He.ma K (He.ga K (toS p.1)) (toS p.2))
  defs : ∀ t ∈ D.fns, ∃ fd, FunD K t.d.name t.d.qual t.d.params t.d.body t.d.scope [] [] (He.fAd K t.d.at_) fd
  xcl : ∀ k ∈ D.xcls, mg (toS k) = some (.ref (He.ga K (toS k)))
  xfg : ∀ t ∈ D.xfns, mg (toS t.nm) = some (.ref (He.ga K (toS t.nm)))
  defsX : ∀ t ∈ D.xfns, ∃ fd, FunD K t.d.name t.d.qual t.d.params t.d.body t.d.scope [] [] (He.fAd K t.d.at_) fd
  chk : KL.chk D K = true
theorem facts_of {D : PD} {K : PySem.W.Frag} {mg : Str → Option Value} {h : Heap} (ok : D.ok = true) (X : K.In h) (G : h.Ns mainGlobals mg) (c : He.SaysD D.fa D.defs K) (hchk : KL.chk D K = true) : Facts D K mg := by
  have okx := (b2 ok).1
  replace ok := (b2 ok).2
  unfold PD.ok0 at ok
  obtain ⟨ok, o7⟩ := b2 ok
  obtain ⟨ok, o6⟩ := b2 ok
  obtain ⟨ok, o5⟩ := b2 ok
  obtain ⟨ok, o4⟩ := b2 ok
  obtain ⟨ok, o3⟩ := b2 ok
  obtain ⟨o1, o2⟩ := b2 ok
  have fa : ∀ {f : He.Fa}, f ∈ D.fa → f.ok K = true := fun m => He.SaysD.facts c m
  have mm : ∀ {α : Type} {l : List α} {g : α → He.Fa} {x : α}, x ∈ l → g x ∈ l.map g := fun m => List.mem_map_of_mem m
  refine ⟨fun x m => ?_, fun x m => ?_, fun p m => ?_, fun x m => ?_, fun x m => ?_, fun x m => ?_, fun x m => ?_, fun p m => ?_, fun p m => ?_, fun t m => ?_, fun x m => ?_, fun t m => ?_, fun t m => ?_, hchk⟩
  · exact He.free_ok X G (fa (f := .free (toS x)) (by unfold PD.fa; simp only [List.mem_append]; exact .inl (mm (g := fun x => He.Fa.free (toS x)) m)))
  · exact He.glo_ok X G (fa (f := .glo (toS x)) (by unfold PD.fa; simp only [List.mem_append]; exact .inr (.inl (mm (g := fun x => He.Fa.glo (toS x)) m))))
  · have q := fa (f := conFa p) (by unfold PD.fa; simp only [List.mem_append]; exact .inr (.inr (.inl (mm (g := conFa) m))))
    have z := List.all_eq_true.mp o7 p m
    obtain ⟨x, d⟩ := p
    cases d with
    | int i =>
      obtain ⟨t, e⟩ := He.int_ok X G (x := toS x) (i := i) q
      exact ⟨_, .int i, e, ⟨t, rfl⟩, fun _ _ => .int i⟩
    | str y =>
      obtain ⟨t, e⟩ := He.str_ok X G (x := toS x) (z := toS y) q
      exact ⟨_, .str (toS y), e, ⟨t, rfl⟩, fun _ _ => .str y⟩
    | _ => cases z
  · exact He.glo_ok X G (fa (f := .glo (toS x)) (by unfold PD.fa; simp only [List.mem_append]; exact .inr (.inr (.inr (.inl (mm (g := fun x => He.Fa.glo (toS x)) m))))))
  · exact fa (f := .exc (toS x)) (by unfold PD.fa; simp only [List.mem_append]; exact .inr (.inr (.inr (.inr (.inl (mm (g := fun x => He.Fa.exc (toS x)) m))))))
  · exact He.glo_ok X G (fa (f := .glo (toS x)) (by unfold PD.fa; simp only [List.mem_append]; exact .inr (.inr (.inr (.inr (.inr (.inl (mm (g := fun x => He.Fa.glo (toS x)) m))))))))
  · exact He.mkr_ok (fa (f := .mkr (toS x)) (by unfold PD.fa; simp only [List.mem_append]; exact .inr (.inr (.inr (.inr (.inr (.inr (.inl (mm (g := fun x => He.Fa.mkr (toS x)) m)))))))))
  · have hc := con_mem (List.all_eq_true.mp o5 p m)
    refine ⟨He.cls_ok (fa (f := .cls (toS p.1)) (by unfold PD.fa; simp only [List.mem_append]; exact .inr (.inr (.inr (.inr (.inr (.inr (.inr (.inl (mm (g := fun x => He.Fa.cls (toS x)) hc)))))))))), ?_⟩
    exact He.noat_ok (fa (f := .noat (toS p.1) (toS p.2)) (by unfold PD.fa; simp only [List.mem_append]; exact .inr (.inr (.inr (.inr (.inr (.inr (.inr (.inr (.inl (mm (g := fun p : String × String => He.Fa.noat (toS p.1) (toS p.2)) m)))))))))))
  · have hc := con_mem (b2 (List.all_eq_true.mp o6 p m)).1
    refine ⟨He.cls_ok (fa (f := .cls (toS p.1)) (by unfold PD.fa; simp only [List.mem_append]; exact .inr (.inr (.inr (.inr (.inr (.inr (.inr (.inl (mm (g := fun x => He.Fa.cls (toS x)) hc)))))))))), ?_⟩
    exact He.meth_ok (fa (f := .meth (toS p.1) (toS p.2)) (by unfold PD.fa; simp only [List.mem_append]; exact .inr (.inr (.inr (.inr (.inr (.inr (.inr (.inr (.inr (.inl (mm (g := fun p : String × String => He.Fa.meth (toS p.1) (toS p.2)) m))))))))))))
  · have hk := List.all_eq_true.mp o1 t m
    unfold FnT.ok at hk
    obtain ⟨hk, _⟩ := b2 hk
    obtain ⟨hk, _⟩ := b2 hk
    obtain ⟨hk, _⟩ := b2 hk
    obtain ⟨hk, k4⟩ := b2 hk
    obtain ⟨hk, k3⟩ := b2 hk
    obtain ⟨fd, F⟩ := He.SaysD.defs c (d := t.d) (List.mem_append_left _ (List.mem_map_of_mem m))
    have e1 : t.d.dvs K = [] := by unfold He.DefD.dvs; rw [List.isEmpty_iff.mp k3]; rfl
    have e2 : t.d.kws K = [] := by unfold He.DefD.kws; rw [List.isEmpty_iff.mp k4]; rfl
    rw [e1, e2] at F
    exact ⟨fd, F⟩
  · exact He.glo_ok X G (fa (f := .glo (toS x)) (by unfold PD.fa; simp only [List.mem_append]; exact .inr (.inr (.inr (.inr (.inr (.inr (.inr (.inr (.inr (.inr (.inl (mm (g := fun x => He.Fa.glo (toS x)) m)))))))))))))
  · exact He.glo_ok X G (fa (f := .glo (toS t.nm)) (by unfold PD.fa; simp only [List.mem_append]; exact .inr (.inr (.inr (.inr (.inr (.inr (.inr (.inr (.inr (.inr (.inr (mm (g := fun t : XFnT => He.Fa.glo (toS t.nm)) m)))))))))))))
  · have hk := List.all_eq_true.mp (b2 okx).1 t m
    unfold XFnT.ok at hk
    obtain ⟨hk, _⟩ := b2 hk
    obtain ⟨hk, _⟩ := b2 hk
    obtain ⟨hk, k4⟩ := b2 hk
    obtain ⟨hk, k3⟩ := b2 hk
    obtain ⟨fd, F⟩ := He.SaysD.defs c (d := t.d) (List.mem_append_right _ (List.mem_map_of_mem m))
    have e1 : t.d.dvs K = [] := by unfold He.DefD.dvs; rw [List.isEmpty_iff.mp k3]; rfl
    have e2 : t.d.kws K = [] := by unfold He.DefD.kws; rw [List.isEmpty_iff.mp k4]; rfl
    rw [e1, e2] at F
    exact ⟨fd, F⟩

/-- the promise of a def: what the interpreter says -/
def spR (D : PD) (K : PySem.W.Frag) (wf n : Nat) (f : String) : Sp := fun vs H Q E => ∃ θ s ds, RelS K θ H s ∧ Reps θ H ds vs ∧ PostC K E Q θ H (run D.prog wf n f ds s)
theorem find_key {l : List FnT} (nd : (l.map (·.key)).Nodup) {t : FnT} (m : t ∈ l) : l.find? (fun u => u.key == t.key) = some t := by
  induction l with
  | nil => cases m
  | cons u us ih =>
    simp only [List.map_cons, List.nodup_cons] at nd
    rcases List.mem_cons.mp m with rfl | m
    · simp
    · have ne : (u.key == t.key) = false := beq_eq_false_iff_ne.mpr fun e => nd.1 (e ▸ List.mem_map_of_mem m)
      rw [List.find?_cons, ne]
      exact ih nd.2 m
section
variable {D : PD} {P : Program} {w : World} {K : PySem.W.Frag} {mg : Str → Option Value} {base : Heap} {wf : Nat}
theorem Ext.obj {θ : Th} {H : Hp} {s : Sto} {x dx C : Addr} (R : RelS K θ H s) (h1 : H x = Option.none) (h2 : H dx = Option.none) (ne : dx ≠ x) : Ext θ H ⟨θ.c ++ [x], θ.b⟩ (upd (upd H dx (.own x)) x (.ins C dx [])) where
  pre := ⟨[x], rfl⟩
  sub := fun _ h => h
  keep := fun a o e _ => by rw [upd_ne (ne_of_none e h1), upd_ne (ne_of_none e h2)]; exact e
  new := fun a m n => by
    rcases Ext.mkc.mp m with m | m
    · exact absurd m n
    · rw [m]; exact h1
  b := rfl
  ban := fun a m => by
    obtain ⟨⟨xs, e⟩, _⟩ := R.ban a m
    rw [upd_ne (ne_of_none e h1), upd_ne (ne_of_none e h2)]
theorem RelS.obj {θ : Th} {H : Hp} {s : Sto} {x dx : Addr} {c : String} (R : RelS K θ H s) (h1 : H x = none) (h2 : H dx = none) (ne : dx ≠ x) : RelS K ⟨θ.c ++ [x], θ.b⟩ (upd (upd H dx (.own x)) x (.ins (He.ga K (toS c)) dx [])) (s ++ [.ins c []]) where
  len := by
    show (θ.c ++ [x]).length = _
    rw [List.length_append, List.length_append, R.len]
    rfl
  nd := by
    show (θ.c ++ [x]).Nodup
    rw [List.nodup_append]
    refine ⟨R.nd, by simp, fun a ha b hb => ?_⟩
    rw [List.mem_singleton.mp hb]
    intro q
    exact R.free h1 (.inl (q ▸ ha))
  cell := fun i c' b g1 g2 => by
    have g2' : (θ.c ++ [x])[i]? = some b := g2
    by_cases hi : i < s.length
    · rw [List.getElem?_append_left hi] at g1
      rw [List.getElem?_append_left (by rw [R.len]; exact hi)] at g2'
      have q := R.cell i c' b g1 g2'
      obtain ⟨o, e, _⟩ := q.some
      exact q.ext0 (Ext.obj (C := He.ga K (toS c)) R h1 h2 ne).toExt0 (by rw [upd_ne (ne_of_none e h1), upd_ne (ne_of_none e h2)])
    · rw [List.getElem?_append_right (by omega)] at g1
      rw [List.getElem?_append_right (by rw [R.len]; omega), R.len] at g2'
      cases z : i - s.length with
      | zero =>
        rw [z] at g1 g2'
        cases g1
        cases g2'
        exact ⟨dx, [], upd_same, rfl, .nil⟩
      | succ k =>
        rw [z] at g1
        simp at g1
  ban := fun a m => by
    obtain ⟨⟨xs, e⟩, n⟩ := R.ban a m
    refine ⟨⟨xs, by rw [upd_ne (ne_of_none e h1), upd_ne (ne_of_none e h2)]; exact e⟩, fun q => ?_⟩
    rcases List.mem_append.mp q with q | q
    · exact n q
    · rw [List.mem_singleton.mp q, h1] at e
      cases e
/-- what stands ready in a body -/
theorem good_of (ok : D.ok = true) (hB : BdP D) (F : Facts D K mg) {n : Nat} (IH : ∀ t ∈ D.fns, ∀ fd, FunD K t.d.name t.d.qual t.d.params t.d.body t.d.scope [] [] (He.fAd K t.d.at_) fd → FnOk P w K mg base (L2.CX P w) (2 * n) (He.fAd K t.d.at_) fd t.ps (spR D K wf n t.key))
    {X : Cx} {W : WX} {sc : Scope} {N : List Str} (eP : X.prog = P) (ew : X.w = w) (eK : X.K = K) (em : X.mg = mg) (eb : X.base = base) (hs : X.env.scope = sc) (hN : X.N = N) (nd : N.Nodup) (hc : X.calm = true) (tk : Takes X W) (hown : X.stack = X.env :: X.outer ∧ X.env.frame = some X.env.locals) (hp : PassesOwn (model X.prog X.w) X.A X.env X.xe) (hfn : ∀ x, X.fn x = true) (hr : Room (2 * n + 1) X.A) :
    GoodS D.tab (ctxOf D.prog wf (run D.prog wf n)) sc N W X := by
  subst eP ew eK em eb
  have ok' := ok
  replace ok' := (b2 ok').2
  unfold PD.ok0 at ok'
  obtain ⟨ok', o7⟩ := b2 ok'
  obtain ⟨ok', o6⟩ := b2 ok'
  obtain ⟨ok', o5⟩ := b2 ok'
  obtain ⟨ok', o4⟩ := b2 ok'
  obtain ⟨ok', o3⟩ := b2 ok'
  obtain ⟨o1, o2⟩ := b2 ok'
  have atE : ∀ t ∈ D.fns, t.d.at_ = match t.cls with
      | none => (toS t.nm, none)
      | some c => (toS c, some (toS t.nm)) := fun t m => by
    have hk := List.all_eq_true.mp o1 t m
    unfold FnT.ok at hk
    exact of_decide_eq_true (b2 hk).2
  have bd : ∀ t ∈ D.fns, ∀ fd, FunD X.K t.d.name t.d.qual t.d.params t.d.body t.d.scope [] [] (He.fAd X.K t.d.at_) fd → Binds X.K fd t.ps [] := fun t m fd G => G.bindsN (hB.1.at t m)
  refine { scope := hs, names := hN, nd := by rw [hN]; exact nd, calm := hc, takes := tk, pass := fun τ => passAt tk τ, home := fun _ => ⟨tk, hown⟩, units := by have := hr.units; exact this, free := F.free, con := F.con, fn := fun f m => ?_, mks := fun c m => ?_, att := fun c f q => ?_, met := fun c f q => ?_, passes := hp, fnT := hfn, exn := fun c m => ?_, own := hown, xfa := ⟨F.free, F.xcl, fun c k b q => ?_⟩, xfd := fun f m => ?_, dp := hr.depth }
  · obtain ⟨t, mt, ht⟩ := List.any_eq_true.mp (List.all_eq_true.mp o3 f m)
    obtain ⟨h1, h2⟩ := b2 ht
    have e1 := of_decide_eq_true h1
    have e2 := of_decide_eq_true h2
    obtain ⟨fd, G⟩ := F.defs t mt
    have ea : t.d.at_ = (toS f, none) := by rw [atE t mt, e1, e2]
    have ek : t.key = f := by unfold FnT.key; rw [e1]; exact e2
    have ef : He.fAd X.K t.d.at_ = He.ga X.K (toS f) := by rw [ea]; rfl
    have kp := G.kp
    have b := bd t mt fd G
    have I := IH t mt fd G
    rw [ef] at I kp
    refine ⟨He.ga X.K (toS f), fd, t.ps, 2 * n, spR D X.K wf n t.key, I, hr.mono (Nat.le_succ _), F.call f m, kp, b, fun θ H s ds vs Q E R r h => ⟨θ, s, ds, R, r, ?_⟩⟩
    rw [ek]
    exact h
  · obtain ⟨t, mt, ht⟩ := List.any_eq_true.mp (List.all_eq_true.mp o4 c m)
    obtain ⟨h1, h2⟩ := b2 ht
    have e1 := of_decide_eq_true h1
    have e2 := of_decide_eq_true h2
    obtain ⟨fd, G⟩ := F.defs t mt
    have ea : t.d.at_ = (toS c, some (toS "__init__")) := by rw [atE t mt, e1, e2]
    have ek : t.key = c ++ "." ++ "__init__" := by unfold FnT.key; rw [e1, e2]
    have ef : He.fAd X.K t.d.at_ = He.ma X.K (He.ga X.K (toS c)) (toS "__init__") := by rw [ea]; rfl
    have b := bd t mt fd G
    have I := IH t mt fd G
    rw [ef] at I
    refine ⟨_, fd, t.ps, 2 * n, spR D X.K wf n t.key, F.mkr c m, I, hr, F.mkg c m, b, fun θ H s ds vs Q E R r h x dx h1 h2 ne => ?_⟩
    have x1 : Ext θ H ⟨θ.c ++ [x], θ.b⟩ (upd (upd H dx (.own x)) x (.ins (He.ga X.K (toS c)) dx [])) := Ext.obj R h1 h2 ne
    have gx : (θ.c ++ [x])[s.length]? = some x := by
      rw [← R.len, List.getElem?_append_right (Nat.le_refl _)]
      simp
    refine ⟨⟨θ.c ++ [x], θ.b⟩, s ++ [.ins c []], .ref s.length :: ds, R.obj h1 h2 ne, .cons (.ref gx) (r.ext x1), ?_⟩
    rw [ek]
    have h' : PostC X.K E Q θ H (makeR D.prog (run D.prog wf n) c ds s) := h
    unfold makeR at h'
    split at h'
    · split at h'
      · rename_i s2 hr2
        rw [hr2]
        intro θ2 H2 v y R2 rv
        cases rv
        refine ⟨rfl, h' θ2 H2 _ (x1.trans y) R2 (.ref ?_)⟩
        obtain ⟨t2, e2⟩ := y.pre
        have hlt : s.length < (θ.c ++ [x]).length := by rw [List.length_append, R.len]; simp
        show θ2.c[s.length]? = some x
        rw [e2, List.getElem?_append_left hlt]
        exact gx
      · rename_i c2 s2 hr2
        rw [hr2]
        exact fun θ2 H2 y R2 => h' θ2 H2 (x1.trans y) R2
      · exact False.elim h'
    · exact False.elim h'
  · have m : (c, f) ∈ D.atts := by
      have q' : D.atts.contains (c, f) = true := q
      simpa using q'
    exact ⟨(F.att _ m).1, (F.att _ m).2⟩
  · have m : (c, f) ∈ D.mets := by
      have q' : D.mets.contains (c, f) = true := q
      simpa using q'
    obtain ⟨t, mt, ht⟩ := List.any_eq_true.mp (b2 (List.all_eq_true.mp o6 _ m)).2
    obtain ⟨h1, h2⟩ := b2 ht
    have e1 := of_decide_eq_true h1
    have e2 := of_decide_eq_true h2
    obtain ⟨fd, G⟩ := F.defs t mt
    have ea : t.d.at_ = (toS c, some (toS f)) := by rw [atE t mt, e1, e2]
    have ek : t.key = c ++ "." ++ f := by unfold FnT.key; rw [e1, e2]
    have ef : He.fAd X.K t.d.at_ = He.ma X.K (He.ga X.K (toS c)) (toS f) := by rw [ea]; rfl
    have b := bd t mt fd G
    have I := IH t mt fd G
    rw [ef] at I
    refine ⟨(F.met _ m).1, _, fd, t.ps, 2 * n, spR D X.K wf n t.key, I, hr.mono (Nat.le_succ _), (F.met _ m).2, b, fun θ H s ds vs Q E R r h => ⟨θ, s, ds, R, r, ?_⟩⟩
    rw [ek]
    exact h
  · obtain ⟨q1, q2, q3, q4⟩ := He.exc_ok (F.exc c m)
    exact ⟨F.exg c m, q1, q2, q3, q4⟩
  · have hok := F.chk
    unfold KL.chk at hok
    obtain ⟨hok, c3⟩ := b2 hok
    obtain ⟨c1, c2⟩ := b2 hok
    have q : (D.subs.find? fun p => p.1 == c && p.2.1 == k).map (·.2.2) = some b := q
    obtain ⟨p, hp, hb⟩ := Option.map_eq_some_iff.mp q
    have h1 := List.find?_some hp
    have h2 := List.mem_of_find?_eq_some hp
    obtain ⟨e1, e2⟩ := b2 h1
    have e1 := beq_iff_eq.mp e1
    have e2 := beq_iff_eq.mp e2
    subst e1 e2 hb
    have h3 := List.all_eq_true.mp c3 p h2
    unfold subChk at h3
    obtain ⟨s1, s2⟩ := b2 h3
    have h4 := con_mem (List.all_eq_true.mp (b2 (b2 ok).1).2 p h2)
    refine ⟨of_decide_eq_true s1, excChk_ok (List.all_eq_true.mp c2 _ h4), fun ne => ?_⟩
    rcases Bool.or_eq_true_iff.mp s2 with z | z
    · exact absurd (of_decide_eq_true z) ne
    · exact of_decide_eq_true z
  · obtain ⟨t0, m0, e0⟩ := List.mem_map.mp m
    obtain ⟨t, ht⟩ : ∃ t, (D.xfns.find? fun t => t.nm == f) = some t := by
      cases z : D.xfns.find? fun t => t.nm == f with
      | some t => exact ⟨t, rfl⟩
      | none =>
        have := List.find?_eq_none.mp z t0 m0
        rw [e0] at this
        simp at this
    have mt := List.mem_of_find?_eq_some ht
    have en : t.nm = f := beq_iff_eq.mp (List.find?_some (p := fun t : XFnT => t.nm == f) ht)
    have hk := List.all_eq_true.mp (b2 (b2 ok).1).1 t mt
    unfold XFnT.ok at hk
    obtain ⟨hk, k6⟩ := b2 hk
    obtain ⟨hk, k5⟩ := b2 hk
    obtain ⟨hk, k4⟩ := b2 hk
    obtain ⟨hk, k3⟩ := b2 hk
    obtain ⟨k1, k2⟩ := b2 hk
    obtain ⟨fd, G⟩ := F.defsX t mt
    have ea := of_decide_eq_true k6
    have ef : He.fAd X.K t.d.at_ = He.ga X.K (toS f) := by rw [ea, en]; rfl
    have b : Binds X.K fd t.ps [] := G.bindsN (hB.2.at t mt)
    rw [ef] at G
    refine ⟨by rw [← en]; exact F.xfg t mt, _, _, _, _, _, t.N, t.ps, fd, t.hs, G, scope_ok k1, of_decide_eq_true k5, b, k2, fun c d hd => ?_⟩
    have hd : D.prog.xf f c = some d := hd
    unfold Prog.xf at hd
    have e1 : D.prog.xfn f = some t.hs := by
      show (D.xfns.find? fun t => t.nm == f).map (·.hs) = _
      rw [ht]
      rfl
    rw [e1] at hd
    dsimp only at hd
    split at hd
    · rename_i d' e2
      cases hd
      exact e2
    · cases hd
theorem run_len {t : FnT} (ok : D.ok = true) (m : t ∈ D.fns) {n : Nat} {ds : List KL.D} {s : Sto} {E : XK} {Q : VK} {θ : Th} {H : Hp} (h : PostC K E Q θ H (run D.prog wf n t.key ds s)) : ∃ k, n = k + 1 ∧ ds.length = t.ps.length ∧ t.fd.np = t.ps.length ∧ PostC K E Q θ H (finish s (execs (ctxOf D.prog wf (run D.prog wf k)) t.fd.body (startE t.fd ds) s)) := by
  cases n with
  | zero => exact False.elim h
  | succ k =>
    refine ⟨k, rfl, ?_⟩
    replace ok := (b2 ok).2
    unfold PD.ok0 at ok
    obtain ⟨ok, o7⟩ := b2 ok
    obtain ⟨ok, o6⟩ := b2 ok
    obtain ⟨ok, o5⟩ := b2 ok
    obtain ⟨ok, o4⟩ := b2 ok
    obtain ⟨ok, o3⟩ := b2 ok
    obtain ⟨o1, o2⟩ := b2 ok
    have e : D.prog.fn t.key = some t.fd := by
      show (D.fns.find? fun u => u.key == t.key).map (·.fd) = _
      rw [find_key (of_decide_eq_true o2) m]
      rfl
    have hk := List.all_eq_true.mp o1 t m
    unfold FnT.ok at hk
    have np := of_decide_eq_true (b2 (b2 hk).1).2
    unfold run at h
    rw [e] at h
    dsimp only at h
    split at h
    · rename_i hl
      exact ⟨hl.trans np.symm, np.symm, h⟩
    · exact False.elim h
/-- a body -/
theorem body_ok (ok : D.ok = true) {t : FnT} (m : t ∈ D.fns) {n : Nat} {X : Cx} {W : WX} {E : XK} {Q : VK} {H : Hp} {θ : Th} {s : Sto} {ds : List KL.D} {vs : List V} (G : GoodS D.tab (ctxOf D.prog wf (run D.prog wf n)) t.d.scope t.N W X) (hW : ∀ c d σ H, E c d H → W c d σ H)
    (R : RelS X.K θ H s) (r : Reps θ H ds vs) (hl : ds.length = t.ps.length) (h : PostC X.K E Q θ H (finish s (execs (ctxOf D.prog wf (run D.prog wf n)) t.fd.body (startE t.fd ds) s))) :
    ∃ tt, PSs X t.d.body tt ∧ tt { nx := fun _ H' => Q .non H', rt := Q } (start t.N vs) H := by
  replace ok := (b2 ok).2
  unfold PD.ok0 at ok
  obtain ⟨ok, o7⟩ := b2 ok
  obtain ⟨ok, o6⟩ := b2 ok
  obtain ⟨ok, o5⟩ := b2 ok
  obtain ⟨ok, o4⟩ := b2 ok
  obtain ⟨ok, o3⟩ := b2 ok
  obtain ⟨o1, o2⟩ := b2 ok
  have hk := List.all_eq_true.mp o1 t m
  unfold FnT.ok at hk
  obtain ⟨hk, k7⟩ := b2 hk
  obtain ⟨hk, k6⟩ := b2 hk
  obtain ⟨hk, k5⟩ := b2 hk
  obtain ⟨hk, k4⟩ := b2 hk
  obtain ⟨hk, k3⟩ := b2 hk
  obtain ⟨k1, k2⟩ := b2 hk
  refine ⟨_, okSs_run G k2, θ, s, startE t.fd ds, R, ?_, ?_⟩
  · have e5 := of_decide_eq_true k5
    have lv := r.length
    refine ⟨?_, fun i d hi => ?_⟩
    · unfold startE L2.start
      simp only [List.length_append, List.length_map, List.length_replicate]
      omega
    · unfold startE at hi
      unfold L2.start
      by_cases hd : i < ds.length
      · rw [List.getElem?_append_left (by simpa using hd), List.getElem?_map] at hi
        rw [List.getElem?_append_left (by simp; omega), List.getElem?_map]
        cases e : ds[i]? with
        | none => rw [e] at hi; cases hi
        | some d' =>
          rw [e] at hi
          cases hi
          obtain ⟨v, ev, rv⟩ := r.get e
          exact ⟨v, by rw [ev]; rfl, rv⟩
      · rw [List.getElem?_append_right (by simp; omega), List.getElem?_replicate] at hi
        split at hi <;> cases hi
  · have q := fin_ok R h
    cases hx : execs (ctxOf D.prog wf (run D.prog wf n)) t.fd.body (startE t.fd ds) s with
    | exn c ρ s' =>
      rw [hx] at q
      exact fun θ' H' σ' x R' V' => hW _ _ _ _ (q θ' H' σ' x R' V')
    | next _ _ => rw [hx] at q; exact q
    | brk _ _ => rw [hx] at q; exact q
    | cont _ _ => rw [hx] at q; exact q
    | ret _ _ => rw [hx] at q; exact q
    | retN _ _ => rw [hx] at q; exact q
    | bad => rw [hx] at q; exact q
theorem scope_at (ok : D.ok = true) {t : FnT} (m : t ∈ D.fns) : FnScope t.N t.ps t.d.scope := by
  replace ok := (b2 ok).2
  unfold PD.ok0 at ok
  obtain ⟨ok, o7⟩ := b2 ok
  obtain ⟨ok, o6⟩ := b2 ok
  obtain ⟨ok, o5⟩ := b2 ok
  obtain ⟨ok, o4⟩ := b2 ok
  obtain ⟨ok, o3⟩ := b2 ok
  obtain ⟨o1, o2⟩ := b2 ok
  have hk := List.all_eq_true.mp o1 t m
  unfold FnT.ok at hk
  obtain ⟨hk, k7⟩ := b2 hk
  obtain ⟨hk, k6⟩ := b2 hk
  obtain ⟨hk, k5⟩ := b2 hk
  obtain ⟨hk, k4⟩ := b2 hk
  obtain ⟨hk, k3⟩ := b2 hk
  obtain ⟨k1, k2⟩ := b2 hk
  exact scope_ok k1
/-- EVERY DEF KEEPS THE INTERPRETER'S WORD -/
theorem runs (ok : D.ok = true) (hB : BdP D) (F : Facts D K mg) : ∀ (n : Nat), ∀ t ∈ D.fns, ∀ fd, FunD K t.d.name t.d.qual t.d.params t.d.body t.d.scope [] [] (He.fAd K t.d.at_) fd → FnOk P w K mg base (L2.CX P w) (2 * n) (He.fAd K t.d.at_) fd t.ps (spR D K wf n t.key)
  | 0, t, m, fd, G => ⟨fun vs H Q E ⟨θ, s, ds, R, r, h⟩ => False.elim h, fun A outer s H args us vs Q E hr e0 hb rv ⟨θ, s, ds, R, r, h⟩ => False.elim h⟩
  | n + 1, t, m, fd, G => by
    refine FunD.ok (k := 2 * n + 1) G (scope_at ok m) (fun vs H Q E ⟨θ, s, ds, R, r, h⟩ => ?_) fun cdv A outer s0 H vs Q E hr ⟨θ, s, ds, R, r, h⟩ => ?_
    · obtain ⟨k, _, e, _⟩ := run_len ok m h
      rw [← r.length]
      exact e
    · obtain ⟨k, e, hl, _, h'⟩ := run_len ok m h
      cases e
      refine body_ok (W := fun c d _ H => E c d H) ok m (good_of ok hB F (runs ok hB F n) rfl rfl rfl rfl rfl rfl rfl (scope_at ok m).nd rfl (takes_of rfl rfl rfl rfl) ⟨rfl, rfl⟩ (passes_of rfl) (fun _ => rfl) hr) (fun _ _ _ _ z => z) R r hl h'
/-- the law's def, which lets nothing out -/
theorem runs0 (ok : D.ok = true) (hB : BdP D) (F : Facts D K mg) (n : Nat) {t : FnT} (m : t ∈ D.fns) {fd : FuncData} (G : FunD K t.d.name t.d.qual t.d.params t.d.body t.d.scope [] [] (He.fAd K t.d.at_) fd) :
    FnOk P w K mg base CX0 (2 * n + 2) (He.fAd K t.d.at_) fd t.ps (fun vs H Q _ => ∃ θ s ds, RelS K θ H s ∧ Reps θ H ds vs ∧ PostC K (fun _ _ _ => False) Q θ H (run D.prog wf (n + 1) t.key ds s)) := by
  refine FunD.ok (k := 2 * n + 1) G (scope_at ok m) (fun vs H Q E ⟨θ, s, ds, R, r, h⟩ => ?_) fun cdv A outer s0 H vs Q E hr ⟨θ, s, ds, R, r, h⟩ => ?_
  · obtain ⟨k, _, e, _⟩ := run_len ok m h
    rw [← r.length]
    exact e
  · obtain ⟨k, e, hl, _, h'⟩ := run_len ok m h
    cases e
    exact body_ok (W := W0) ok m (good_of ok hB F (runs ok hB F n) rfl rfl rfl rfl rfl rfl rfl (scope_at ok m).nd rfl takes0 ⟨rfl, rfl⟩ (passes_of (E₁ := fun e' s'' => CX0 outer H s0 E e' s'') (K := fun e s'' => CX0 outer H s0 E e s'') rfl) (fun _ => rfl) hr) (fun _ _ _ _ z => z) R r hl h'
end
/-- THE TOP: what the law's end asks -/
theorem top_of {D : PD} (ok : D.ok = true) (hB : BdP D) {t : FnT} (m : t ∈ D.fns) {x : String} (hps : t.ps = [toS x]) {P : Program} {w : World} {K : PySem.W.Frag} {h : Heap} {mg : Str → Option Value} {f : Addr} (wf n : Nat)
    (X : K.In h) (G : h.Ns mainGlobals mg) (hc : t.cls = none) (hnm : t.nm ∈ D.calls) (hfa : mg (toS t.nm) = some (.ref f)) (c : He.SaysX D.fa D.defs [] [] (chk D) w h K) {mo : Nat}
    (hrun : ∀ ns : List Int, ns.length ≤ mo → ∃ s', run D.prog wf (n + 1) t.key [.lst (ns.map .int)] [] = .ok (.bl true) s') :
    ∃ (fd : FuncData) (sp : Sp), (∀ (s : Shared) (u : Value), BindsTo s fd ⟨[u], []⟩ [(toS x, u)]) ∧
      (∀ (H : Hp) (a : Addr) (ns : List Int), ns.length ≤ mo → Only H → SqL K H a (ns.map V.int) → sp [.ref a] H (fun v _ => v = .bl true) fun _ _ _ => False) ∧
      ∀ base : Heap, K.In base → base.Ns mainGlobals mg → FnOk P w K mg base CX0 (2 * n + 2) f fd [toS x] sp := by
  have F := facts_of ok X G (He.SaysT.d c.t) c.more
  obtain ⟨fd, Gf⟩ := F.defs t m
  have ok' := ok
  replace ok' := (b2 ok').2
  unfold PD.ok0 at ok'
  obtain ⟨ok', o7⟩ := b2 ok'
  obtain ⟨ok', o6⟩ := b2 ok'
  obtain ⟨ok', o5⟩ := b2 ok'
  obtain ⟨ok', o4⟩ := b2 ok'
  obtain ⟨ok', o3⟩ := b2 ok'
  obtain ⟨o1, o2⟩ := b2 ok'
  have hk := List.all_eq_true.mp o1 t m
  unfold FnT.ok at hk
  have ea : t.d.at_ = (toS t.nm, none) := by
    have := of_decide_eq_true (b2 hk).2
    rw [this, hc]
  have ef : He.fAd K t.d.at_ = He.ga K (toS t.nm) := by rw [ea]; rfl
  have e := hfa.symm.trans (F.call _ hnm)
  cases e
  have b := FunD.bindsA (ps := t.ps) Gf (hB.1.at t m)
  have I : ∀ base : Heap, FnOk P w K mg base CX0 (2 * n + 2) (He.fAd K t.d.at_) fd t.ps (fun vs H Q _ => ∃ θ s ds, RelS K θ H s ∧ Reps θ H ds vs ∧ PostC K (fun _ _ _ => False) Q θ H (run D.prog wf (n + 1) t.key ds s)) := fun base => runs0 ok hB F n m Gf
  rw [ef, hps] at I
  rw [hps] at b
  refine ⟨fd, _, fun s u => b s [u] rfl, fun H a ns hl hO hS => ⟨⟨[], []⟩, [], [.lst (ns.map .int)], ⟨rfl, by simp, fun i c a h1 => by simp at h1, fun a m => by cases m⟩, .cons ?_ .nil, ?_⟩, fun base _ _ => I base⟩
  · rcases hS with hS | ⟨o, its, k, e1, e2, _⟩
    · exact .lst hS (fun m => by rcases m with m | m <;> cases m) (Reps.ofInts ns)
    · exact absurd e2 (noLst_ok (b2 (b2 (show (noLst K && (D.xcs.all fun c => excChk K c) && D.subs.all fun p => subChk K p) = true from c.more)).1).1 e1)
  · obtain ⟨s', e⟩ := hrun ns hl
    rw [e]
    intro θ' H' v _ _ r
    cases r
    rfl
end KL

set_option Elab.async false
set_option linter.all false
set_option maxRecDepth 100000
set_option maxHeartbeats 4000000
set_option autoImplicit false
/-! KLHead: what is looked at behind the head: the newest objects of the heap, by their numbers. -/
namespace KL
open PySem PySem.Spec PyProof.Rows L2
def keepL (g : Addr → Option Obj) (a : Addr) : Bool := match g a with
  | some o => notList o.cls
  | none => false
def asN (k : Nat) (g : Addr → Option Obj) (n : Nat) : List Addr := mainGlobals :: (List.range' (n - k) k).filter (keepL g)
def obsY (k : Nat) (fa : List He.Fa) (fn : List He.DefD) (ex : PySem.W.Frag → Bool) (g : Addr → Option Obj) (n : Nat) : He.AlX := (He.obsT fa fn [] (He.frT g (asN k g n)), ex (He.frT g (asN k g n)))
def hookY (k : Nat) (fa : List He.Fa) (fn : List He.DefD) (ex : PySem.W.Frag → Bool) : PySem.W.Hook where
  α := He.AlX
  obs := fun s => obsY k fa fn ex s.heap.get? s.heap.objs.size
  val := fun w => He.valX fn [] w
  says := (He.hookX 6 fa fn [] [] ex).says
  of := fun _ _ e => ⟨_, He.frT_in, ⟨congrArg (fun z : He.AlX => z.1) e, congrArg (fun z : He.AlX => z.2) e, (fun p hp => by cases hp), (fun p hp => by cases hp), (fun p hp => by cases hp)⟩⟩
  keeps := (He.hookX 6 fa fn [] [] ex).keeps
theorem obsY_eq {k : Nat} {fa : List He.Fa} {fn : List He.DefD} {ex : PySem.W.Frag → Bool} {g : Addr → Option Obj} {n : Nat} {s : Shared} (h : ∀ a, g a = s.heap.get? a) (hn : n = s.heap.objs.size) : obsY k fa fn ex g n = (hookY k fa fn ex).obs s := by
  have e : g = s.heap.get? := funext h
  rw [e, hn]
  rfl
end KL

set_option Elab.async false
set_option linter.all false
set_option maxRecDepth 100000
set_option maxHeartbeats 4000000
set_option autoImplicit false
/-! the head's equation by parts, each looked at for itself -/
namespace KL
section
open PySem PySem.W PySem.Calls PyProof.Rows HandSHeadRun
noncomputable abbrev ranE (r : OpenRow) (M : Nat) (w : World) (os : OsState) := endF (stepQ (denQ tabQ) r.prog w) M r.prog w os
abbrev frY (k : Nat) (s : SharedT) : PySem.W.Frag := He.frT (getT s) (asN k (getT s) s.n)
def HP1 (r : OpenRow) (q : Program) (M : Nat) (loose : List PySem.Str) (w : World) : Prop := ∀ os : OsState, (endF (stepQ (denQ tabQ) r.prog w) M r.prog w os).map (fun s => (looksF r.prog (boot_heap w.params) s.abs, seenQ q loose (importedModules r.prog.main.body) (fun s => xlAt q [] s && recOk r.toRowW.records s) s.abs)) = some (true, openGood q loose)
def HP2 (r : OpenRow) (k M : Nat) (fa : List He.Fa) (w : World) : Prop := ∀ os : OsState, (endF (stepQ (denQ tabQ) r.prog w) M r.prog w os).map (fun s => fa.all fun f => f.ok (He.frT (getT s) (asN k (getT s) s.n))) = some true
def HP3 (r : OpenRow) (k M : Nat) (fn : List He.DefD) (w : World) : Prop := ∀ os : OsState, (endF (stepQ (denQ tabQ) r.prog w) M r.prog w os).map (fun s => fn.all fun d => d.ok (He.frT (getT s) (asN k (getT s) s.n))) = some true
def HP4 (r : OpenRow) (k M : Nat) (fn : List He.DefD) (w : World) : Prop := ∀ os : OsState, (endF (stepQ (denQ tabQ) r.prog w) M r.prog w os).map (fun s => fn.map fun d => He.fnW (He.frT (getT s) (asN k (getT s) s.n)) d.at_) = some (fn.map He.DefD.val)
def HP5 (r : OpenRow) (k M : Nat) (ex : PySem.W.Frag → Bool) (w : World) : Prop := ∀ os : OsState, (endF (stepQ (denQ tabQ) r.prog w) M r.prog w os).map (fun s => ex (He.frT (getT s) (asN k (getT s) s.n))) = some true
theorem opt_parts {σ α : Type _} {E : Option σ} {f : σ → α} {a : α} (h : E.map f = some a) : ∃ s, E = some s ∧ f s = a := by
  cases E with
  | none => cases h
  | some s => exact ⟨s, rfl, Option.some.inj h⟩
theorem opt_at {σ α : Type _} {E : Option σ} {f : σ → α} {a : α} {s : σ} (h : E.map f = some a) (e : E = some s) : f s = a := by
  rw [e] at h
  exact Option.some.inj h
theorem obsY_of {k : Nat} {fa : List He.Fa} {fn : List He.DefD} {ex : PySem.W.Frag → Bool} {g : Addr → Option Obj} {n : Nat} {w : World} (i j : Nat)
    (h2 : ((fa.take j).all fun f => f.ok (He.frT g (asN k g n))) = true) (h2' : ((fa.drop j).all fun f => f.ok (He.frT g (asN k g n))) = true)
    (h3 : ((fn.take i).all fun d => d.ok (He.frT g (asN k g n))) = true) (h3' : ((fn.drop i).all fun d => d.ok (He.frT g (asN k g n))) = true)
    (h4 : ((fn.take i).map fun d => He.fnW (He.frT g (asN k g n)) d.at_) = (fn.take i).map He.DefD.val) (h4' : ((fn.drop i).map fun d => He.fnW (He.frT g (asN k g n)) d.at_) = (fn.drop i).map He.DefD.val)
    (h5 : ex (He.frT g (asN k g n)) = true) : obsY k fa fn ex g n = He.valX fn [] w := by
  unfold obsY
  generalize He.frT g (asN k g n) = K at *
  have a2 : (fa.all fun f => f.ok K) = true := by
    rw [← List.take_append_drop j fa, List.all_append, h2, h2']
    rfl
  have a3 : (fn.all fun d => d.ok K) = true := by
    rw [← List.take_append_drop i fn, List.all_append, h3, h3']
    rfl
  have a4 : (fn.map fun d => He.fnW K d.at_) = fn.map He.DefD.val := by
    conv => lhs; rw [← List.take_append_drop i fn]
    rw [List.map_append, h4, h4', ← List.map_append, List.take_append_drop]
  show (((((fa.all fun f => f.ok K) && fn.all fun d => d.ok K), fn.map fun d => He.fnW K d.at_), []), ex K) = (((true, fn.map He.DefD.val), []), true)
  rw [a2, a3, a4, h5]
  rfl
theorem head_parts {r : OpenRow} {q : Program} {k M : Nat} {fa : List He.Fa} {fn : List He.DefD} {ex : PySem.W.Frag → Bool} {ob : SharedT → He.AlX} {loose : List PySem.Str} {w : World} (ho : ∀ s, ob s = obsY k fa fn ex (getT s) s.n) (i j : Nat)
    (p1 : HP1 r q M loose w) (p2 : HP2 r k M (fa.take j) w) (p2' : HP2 r k M (fa.drop j) w) (p3 : HP3 r k M (fn.take i) w) (p3' : HP3 r k M (fn.drop i) w)
    (p4 : HP4 r k M (fn.take i) w) (p4' : HP4 r k M (fn.drop i) w) (p5 : HP5 r k M ex w) : RunEq r q (hookY k fa fn ex) ob M loose w := by
  intro os
  obtain ⟨s, e, h1⟩ := opt_parts (p1 os)
  have q2 := opt_at (p2 os) e
  have q2' := opt_at (p2' os) e
  have q3 := opt_at (p3 os) e
  have q3' := opt_at (p3' os) e
  have q4 := opt_at (p4 os) e
  have q4' := opt_at (p4' os) e
  have q5 := opt_at (p5 os) e
  have hb : ob s = He.valX fn [] w := (ho s).trans (obsY_of i j q2 q2' q3 q3' q4 q4' q5)
  rw [e]
  show some (_, _, ob s) = some (true, openGood q loose, He.valX fn [] w)
  rw [hb]
  have h1a := congrArg Prod.fst h1
  have h1b := congrArg Prod.snd h1
  dsimp only at h1a h1b
  rw [h1a, h1b]
end
end KL

set_option linter.all false
set_option autoImplicit false
/-! KLRun: the interpreter, stepped by simp. -/
namespace KL
section
variable {C : Ctx} {ρ : Env} {s : Sto}
@[simp] theorem RE.bind_ok {d : D} {f : D → Sto → RE} : (RE.ok d s).bind f = f d s := rfl
@[simp] theorem RE.bind_new {l : List D} {f : D → Sto → RE} : (RE.new l s).bind f = f (.lst l) s := rfl
@[simp] theorem RE.bind_exn {c : String} {f : D → Sto → RE} : (RE.exn c s).bind f = .exn c s := rfl
@[simp] theorem RE.bind_bad {f : D → Sto → RE} : RE.bad.bind f = .bad := rfl
@[simp] theorem RE.bindL_ok {d : D} {f : D → Sto → RL} : (RE.ok d s).bindL f = f d s := rfl
@[simp] theorem RE.bindL_new {l : List D} {f : D → Sto → RL} : (RE.new l s).bindL f = f (.lst l) s := rfl
@[simp] theorem RE.bindL_exn {c : String} {f : D → Sto → RL} : (RE.exn c s).bindL f = .exn c s := rfl
@[simp] theorem RE.bindL_bad {f : D → Sto → RL} : RE.bad.bindL f = .bad := rfl
@[simp] theorem RE.bindB_ok {d : D} {f : D → Sto → RB} : (RE.ok d s).bindB f = f d s := rfl
@[simp] theorem RE.bindB_new {l : List D} {f : D → Sto → RB} : (RE.new l s).bindB f = f (.lst l) s := rfl
@[simp] theorem RE.bindB_exn {c : String} {f : D → Sto → RB} : (RE.exn c s).bindB f = .exn c s := rfl
@[simp] theorem RE.bindB_bad {f : D → Sto → RB} : RE.bad.bindB f = .bad := rfl
@[simp] theorem RL.bind_ok {d : List D} {f : List D → Sto → RE} : (RL.ok d s).bind f = f d s := rfl
@[simp] theorem RL.bind_exn {c : String} {f : List D → Sto → RE} : (RL.exn c s).bind f = .exn c s := rfl
@[simp] theorem RL.bind_bad {f : List D → Sto → RE} : RL.bad.bind f = .bad := rfl
@[simp] theorem RL.bindL_ok {d : List D} {f : List D → Sto → RL} : (RL.ok d s).bindL f = f d s := rfl
@[simp] theorem RL.bindL_exn {c : String} {f : List D → Sto → RL} : (RL.exn c s).bindL f = .exn c s := rfl
@[simp] theorem RL.bindL_bad {f : List D → Sto → RL} : RL.bad.bindL f = .bad := rfl
@[simp] theorem RB.bind_ok {d : Bool} {f : Bool → Sto → RE} : (RB.ok d s).bind f = f d s := rfl
@[simp] theorem RE.st_ok {d : D} {f : D → Sto → RS} : (RE.ok d s).st ρ f = f d s := rfl
@[simp] theorem RE.st_new {l : List D} {f : D → Sto → RS} : (RE.new l s).st ρ f = f (.lst l) s := rfl
@[simp] theorem RE.st_exn {c : String} {f : D → Sto → RS} : (RE.exn c s).st ρ f = .exn c ρ s := rfl
@[simp] theorem RE.st_bad {f : D → Sto → RS} : RE.bad.st ρ f = .bad := rfl
@[simp] theorem RL.st_okk {d : List D} {f : List D → Sto → RS} : (RL.ok d s).st ρ f = f d s := rfl
@[simp] theorem RL.st_exn {c : String} {f : List D → Sto → RS} : (RL.exn c s).st ρ f = .exn c ρ s := rfl
@[simp] theorem RL.st_bad {f : List D → Sto → RS} : RL.bad.st ρ f = .bad := rfl
@[simp] theorem RB.st_ok {d : Bool} {f : Bool → Sto → RS} : (RB.ok d s).st ρ f = f d s := rfl
@[simp] theorem RB.st_exn {c : String} {f : Bool → Sto → RS} : (RB.exn c s).st ρ f = .exn c ρ s := rfl
@[simp] theorem RB.st_bad {f : Bool → Sto → RS} : RB.bad.st ρ f = .bad := rfl
@[simp] theorem RS.seq_next {f : Env → Sto → RS} : (RS.next ρ s).seq f = f ρ s := rfl
@[simp] theorem RS.seq_ret {d : D} {f : Env → Sto → RS} : (RS.ret d s).seq f = .ret d s := rfl
@[simp] theorem RS.seq_retN {d : List D} {f : Env → Sto → RS} : (RS.retN d s).seq f = .retN d s := rfl
@[simp] theorem RS.seq_brk {f : Env → Sto → RS} : (RS.brk ρ s).seq f = .brk ρ s := rfl
@[simp] theorem RS.seq_cont {f : Env → Sto → RS} : (RS.cont ρ s).seq f = .cont ρ s := rfl
@[simp] theorem RS.seq_exn {c : String} {f : Env → Sto → RS} : (RS.exn c ρ s).seq f = .exn c ρ s := rfl
@[simp] theorem RS.seq_bad {f : Env → Sto → RS} : RS.bad.seq f = .bad := rfl

@[simp] theorem truth_bl {b : Bool} : truth s (.bl b) = some b := rfl
@[simp] theorem truth_int {i : Int} : truth s (.int i) = some (i != 0) := rfl
@[simp] theorem truth_non : truth s .non = some false := rfl
@[simp] theorem truth_tup {l : List D} : truth s (.tup l) = some (!l.isEmpty) := rfl
@[simp] theorem truth_lst {l : List D} : truth s (.lst l) = some (!l.isEmpty) := rfl

def andK (o : Option Bool) (x : D) (s : Sto) (r : RE) : RE := match o with
  | some true => r
  | some false => .ok x s
  | none => .bad
def orK (o : Option Bool) (x : D) (s : Sto) (r : RE) : RE := match o with
  | some true => .ok x s
  | some false => r
  | none => .bad
def iteK (o : Option Bool) (a b : RE) : RE := match o with
  | some true => a
  | some false => b
  | none => .bad
@[simp] theorem andK_some {b : Bool} {x : D} {r : RE} : andK (some b) x s r = if b = true then r else .ok x s := by cases b <;> rfl
@[simp] theorem orK_some {b : Bool} {x : D} {r : RE} : orK (some b) x s r = if b = true then .ok x s else r := by cases b <;> rfl
@[simp] theorem iteK_some {b : Bool} {x r : RE} : iteK (some b) x r = if b = true then x else r := by cases b <;> rfl
def notK (o : Option Bool) (s : Sto) : RE := match o with
  | some k => .ok (.bl (!k)) s
  | none => .bad
@[simp] theorem notK_some {b : Bool} : notK (some b) s = .ok (.bl (!b)) s := rfl
def negK (x : D) (s : Sto) : RE := match x with
  | .int i => .ok (.int (-i)) s
  | _ => .bad
@[simp] theorem negK_int {i : Int} : negK (.int i) s = .ok (.int (-i)) s := rfl
def varK (o : Option (Option D)) (s : Sto) : RE := match o with
  | some (some d) => .ok d s
  | _ => .bad
@[simp] theorem varK_some {d : D} : varK (some (some d)) s = .ok d s := rfl
def testK (o : Option Bool) (s : Sto) : RB := match o with
  | some k => .ok k s
  | none => .bad
@[simp] theorem testK_some {b : Bool} : testK (some b) s = .ok b s := rfl
def cmp2K (o : Option Bool) (s : Sto) (r : RE) : RE := match o with
  | none => .bad
  | some false => .ok (.bl false) s
  | some true => r
@[simp] theorem cmp2K_some {b : Bool} {r : RE} : cmp2K (some b) s r = if b = true then r else .ok (.bl false) s := by cases b <;> rfl
@[simp] theorem ev_var {i : Nat} : evalE C (.var i) ρ s = varK ρ[i]? s := by
  unfold evalE varK
  rfl
@[simp] theorem ev_con {d : D} : evalE C (.con d) ρ s = .ok d s := by unfold evalE; rfl
@[simp] theorem ev_tup {es : List E} : evalE C (.tup es) ρ s = (evalEs C es ρ s).bind fun l s => if l.length ≤ lim then .ok (.tup l) s else .bad := by rw [evalE]
@[simp] theorem ev_lst {es : List E} : evalE C (.lst es) ρ s = (evalEs C es ρ s).bind fun l s => if l.length ≤ lim then .new l s else .bad := by rw [evalE]
@[simp] theorem ev_bin {o : BinO} {a b : E} : evalE C (.bin o a b) ρ s = (evalE C a ρ s).bind fun x s => (evalE C b ρ s).bind fun y s => binD o x y s := by rw [evalE]
@[simp] theorem ev_neg {a : E} : evalE C (.neg a) ρ s = (evalE C a ρ s).bind fun x s => negK x s := by rw [evalE]; rfl
@[simp] theorem ev_not {a : E} : evalE C (.not a) ρ s = (evalE C a ρ s).bind fun x s => notK (truth s x) s := by rw [evalE]; rfl
@[simp] theorem ev_and {a b : E} : evalE C (.and a b) ρ s = (evalE C a ρ s).bind fun x s => andK (truth s x) x s (evalE C b ρ s) := by rw [evalE]; rfl
@[simp] theorem ev_or {a b : E} : evalE C (.or a b) ρ s = (evalE C a ρ s).bind fun x s => orK (truth s x) x s (evalE C b ρ s) := by rw [evalE]; rfl
@[simp] theorem ev_ite {c a b : E} : evalE C (.ite c a b) ρ s = (evalE C c ρ s).bind fun x s => iteK (truth s x) (evalE C a ρ s) (evalE C b ρ s) := by rw [evalE]; rfl
@[simp] theorem ev_cmp {o : CmpO} {a b : E} : evalE C (.cmp o a b) ρ s = (evalE C a ρ s).bind fun x s => (evalE C b ρ s).bind fun y s => cmpE o x y s := by rw [evalE]
@[simp] theorem ev_cmp2 {o p : CmpO} {a b c : E} : evalE C (.cmp2 o p a b c) ρ s = (evalE C a ρ s).bind fun x s => (evalE C b ρ s).bind fun y s => cmp2K (cmpD o x y s) s ((evalE C c ρ s).bind fun z s => cmpE p y z s) := by rw [evalE]; rfl
@[simp] theorem ev_idx {a i : E} : evalE C (.idx a i) ρ s = (evalE C a ρ s).bind fun x s => (evalE C i ρ s).bind fun y s => idxD x y s := by rw [evalE]
def slK (o : Option (Option Int)) (f : Option Int → RE) : RE := match o with
  | none => .bad
  | some x => f x
@[simp] theorem slK_some {x : Option Int} {f : Option Int → RE} : slK (some x) f = f x := rfl
@[simp] theorem ev_slice {a : E} {lo hi : List E} : evalE C (.slice a lo hi) ρ s = (evalE C a ρ s).bind fun x s => (evalEs C lo ρ s).bind fun l s => slK (part l) fun lo => (evalEs C hi ρ s).bind fun h s => slK (part h) fun hi => sliceD x lo hi s := by
  rw [evalE]
  congr 1
@[simp] theorem ev_call {f : String} {es : List E} : evalE C (.call f es) ρ s = (evalEs C es ρ s).bind fun l s => C.call f l s := by rw [evalE]
@[simp] theorem ev_bi {b : Bi} {es : List E} : evalE C (.bi b es) ρ s = (evalEs C es ρ s).bind fun l s => biD b l s := by rw [evalE]
@[simp] theorem ev_met {m : Me} {o : E} {es : List E} : evalE C (.met m o es) ρ s = (evalE C o ρ s).bind fun x s => if recvOk m s x = true then (evalEs C es ρ s).bind fun l s => metD m x l s else .bad := by rw [evalE]
@[simp] theorem ev_isi {a : E} {ts : List Ty} : evalE C (.isi a ts) ρ s = (evalE C a ρ s).bind fun x s => if typed s x = true then .ok (.bl (ts.any fun t => isTy x t)) s else .bad := by rw [evalE]
/-- a comprehension's loop -/
noncomputable def runComp (C : Ctx) (cs : List E) (elt : E) (tg : List Nat) (g : Guard) (ρ : Env) (ds : List D) (s : Sto) : RL := compLoop (fun ρ s => evalTs C cs ρ s) (fun ρ s => evalE C elt ρ s) tg g ρ ds s
def compK (r : RL) : RE := match r with
  | .ok r s => .new r s
  | _ => .bad
@[simp] theorem compK_ok {l : List D} : compK (.ok l s) = .new l s := rfl
@[simp] theorem ev_comp {elt : E} {tg : List Nat} {k : ItK} {its cs : List E} : evalE C (.comp elt tg k its cs) ρ s = (evalEs C its ρ s).bind fun l s => match items k l s with
    | none => .bad
    | some (ds, g) => if ds.length ≤ lim then compK (runComp C cs elt tg g (wipeE ρ tg) ds s) else .bad := by rw [evalE]; rfl
def attK (C : Ctx) (f : String) (x : D) (s : Sto) : RE := match x with
    | .ref n => match s[n]? with
      | some (.ins c fs) => if C.att c f = true then (match lookF f fs with
        | some d => .ok d s
        | none => .bad) else .bad
      | _ => .bad
    | _ => .bad
noncomputable def runCompX (C : Ctx) (elt : E) (tg : List Nat) (g : Guard) (ρ : Env) (ds : List D) (s : Sto) : RL := compLoopX (fun ρ s => evalE C elt ρ s) tg g ρ ds s
def compXK (r : RL) : RE := match r with
  | .ok r s => .new r s
  | .exn c s => .exn c s
  | .bad => .bad
@[simp] theorem compXK_ok {l : List D} : compXK (.ok l s) = .new l s := rfl
@[simp] theorem compXK_exn {c : String} : compXK (.exn c s) = .exn c s := rfl
@[simp] theorem ev_compX {elt : E} {tg : List Nat} {k : ItK} {its : List E} : evalE C (.compX elt tg k its) ρ s = (evalEs C its ρ s).bind fun l s => match items k l s with
    | none => .bad
    | some (ds, g) => if ds.length ≤ lim then compXK (runCompX C elt tg g (wipeE ρ tg) ds s) else .bad := by rw [evalE]; rfl
@[simp] theorem ev_attr {a : E} {f : String} : evalE C (.attr a f) ρ s = (evalE C a ρ s).bind fun x s => attK C f x s := by rw [evalE]; rfl
@[simp] theorem ev_mk {c : String} {es : List E} : evalE C (.mk c es) ρ s = (evalEs C es ρ s).bind fun l s => C.make c l s := by rw [evalE]
@[simp] theorem evs_nil : evalEs C [] ρ s = .ok [] s := by rw [evalEs]
@[simp] theorem evs_cons {e : E} {es : List E} : evalEs C (e :: es) ρ s = (evalE C e ρ s).bindL fun d s => (evalEs C es ρ s).bindL fun l s => .ok (d :: l) s := by rw [evalEs]
@[simp] theorem evt {e : E} : evalT C e ρ s = (evalE C e ρ s).bindB fun x s => testK (truth s x) s := by unfold evalT; rfl
/-- loops -/
noncomputable def runFor (C : Ctx) (body : List S) (tg : List Nat) (g : Guard) (ds : List D) (ρ : Env) (s : Sto) : RS := forLoop (fun ρ s => execs C body ρ s) tg g ds ρ s
noncomputable def runWhile (C : Ctx) (c : E) (body : List S) (n : Nat) (ρ : Env) (s : Sto) : RS := whileLoop (fun ρ s => evalT C c ρ s) (fun ρ s => execs C body ρ s) n ρ s
def boxK (r : RE) (i : Nat) (ρ : Env) : RS := match r with
    | .new l s => .next (ρ.set i (some (.ref s.length))) (s ++ [.lst l])
    | .ok d s => .next (ρ.set i (some d)) s
    | .exn c s => .exn c ρ s
    | .bad => .bad
@[simp] theorem boxK_new {l : List D} {i : Nat} : boxK (.new l s) i ρ = .next (ρ.set i (some (.ref s.length))) (s ++ [.lst l]) := rfl
@[simp] theorem boxK_ok {d : D} {i : Nat} : boxK (.ok d s) i ρ = .next (ρ.set i (some d)) s := rfl
def unpK (o : Option Env) (s : Sto) : RS := match o with
    | some ρ => .next ρ s
    | none => .bad
@[simp] theorem unpK_some : unpK (some ρ) s = .next ρ s := rfl
def subK (o : Option Sto) (ρ : Env) : RS := match o with
    | some s => .next ρ s
    | none => .bad
@[simp] theorem subK_some : subK (some s) ρ = .next ρ s := rfl
def retK (r : RE) (ρ : Env) : RS := match r with
    | .new l s => .retN l s
    | .ok d s => .ret d s
    | .exn c s => .exn c ρ s
    | .bad => .bad
@[simp] theorem retK_new {l : List D} : retK (.new l s) ρ = .retN l s := rfl
@[simp] theorem retK_ok {d : D} : retK (.ok d s) ρ = .ret d s := rfl
@[simp] theorem retK_exn {c : String} : retK (.exn c s) ρ = .exn c ρ s := rfl
@[simp] theorem ex_asg {i : Nat} {e : E} : exec C (.asg i e) ρ s = (evalE C e ρ s).st ρ fun d s => .next (ρ.set i (some d)) s := by rw [exec]
@[simp] theorem ex_asgB {i : Nat} {e : E} : exec C (.asgB i e) ρ s = boxK (evalE C e ρ s) i ρ := by rw [exec]; rfl
@[simp] theorem ex_unp {is : List Nat} {e : E} : exec C (.unp is e) ρ s = (evalE C e ρ s).st ρ fun d s => unpK (bindT is d ρ) s := by rw [exec]; rfl
@[simp] theorem ex_sub {o k e : E} : exec C (.sub o k e) ρ s = (evalE C e ρ s).st ρ fun d s => (evalE C o ρ s).st ρ fun x s => (evalE C k ρ s).st ρ fun y s => subK (setAt s x y d) ρ := by rw [exec]; rfl
@[simp] theorem ex_expr {e : E} : exec C (.expr e) ρ s = (evalE C e ρ s).st ρ fun _ s => .next ρ s := by rw [exec]
@[simp] theorem ex_ret {e : E} : exec C (.ret e) ρ s = retK (evalE C e ρ s) ρ := by rw [exec]; rfl
@[simp] theorem ex_retN : exec C .retN ρ s = .ret .non s := by rw [exec]
@[simp] theorem ex_if {c : E} {a b : List S} : exec C (.if_ c a b) ρ s = (evalT C c ρ s).st ρ fun k s => if k = true then execs C a ρ s else execs C b ρ s := by rw [exec]
@[simp] theorem ex_for {tg : List Nat} {k : ItK} {its : List E} {body : List S} : exec C (.for_ tg k its body) ρ s = (evalEs C its ρ s).st ρ fun l s => match items k l s with
    | none => .bad
    | some (ds, g) => runFor C body tg g ds ρ s := by rw [exec]; rfl
@[simp] theorem ex_while {c : E} {body : List S} : exec C (.while_ c body) ρ s = runWhile C c body C.wfuel ρ s := by rw [exec]; rfl
@[simp] theorem ex_raise {c : String} : exec C (.raise c) ρ s = .exn c ρ s := by rw [exec]
@[simp] theorem ex_brk : exec C .brk ρ s = .brk ρ s := by rw [exec]
@[simp] theorem ex_cont : exec C .cont ρ s = .cont ρ s := by rw [exec]
@[simp] theorem ex_pass : exec C .pass ρ s = .next ρ s := by rw [exec]
@[simp] theorem exs_nil : execs C [] ρ s = .next ρ s := by rw [execs]
@[simp] theorem exs_cons {st : S} {sts : List S} : execs C (st :: sts) ρ s = (exec C st ρ s).seq fun ρ s => execs C sts ρ s := by rw [execs]

/-! ### values -/
@[simp] theorem add_int {i j : Int} : binD .add (.int i) (.int j) s = .ok (.int (i + j)) s := rfl
@[simp] theorem sub_int {i j : Int} : binD .sub (.int i) (.int j) s = .ok (.int (i - j)) s := rfl
@[simp] theorem mul_int {i j : Int} : binD .mul (.int i) (.int j) s = if (-(2 ^ 64) < i ∧ i < 2 ^ 64) ∨ (-(2 ^ 64) < j ∧ j < 2 ^ 64) then .ok (.int (i * j)) s else .bad := rfl
@[simp] theorem fdiv_int {i j : Int} : binD .fdiv (.int i) (.int j) s = if 0 < j ∧ j < 1073741824 then .ok (.int (i / j)) s else .bad := rfl
@[simp] theorem mod_int {i j : Int} : binD .mod (.int i) (.int j) s = if 0 < j then .ok (.int (i % j)) s else .bad := rfl
@[simp] theorem pow_int {i j : Int} : binD .pow (.int i) (.int j) s = if 0 ≤ j ∧ j ≤ 1000000 ∧ i.natAbs < 2 ^ 64 then .ok (.int (i ^ j.toNat)) s else if 0 ≤ j ∧ j ≤ 1000 ∧ i.natAbs.log2 < 1000 then .ok (.int (i ^ j.toNat)) s else .bad := rfl
@[simp] theorem add_str {a b : String} : binD .add (.str a) (.str b) s = if a.length + b.length ≤ lim then .ok (.str (a ++ b)) s else .bad := rfl
@[simp] theorem add_tup {a b : List D} : binD .add (.tup a) (.tup b) s = if a.length + b.length ≤ lim then .ok (.tup (a ++ b)) s else .bad := rfl
@[simp] theorem mul_str {z : String} {k : Int} : binD .mul (.str z) (.int k) s = if -(2 ^ 40) ≤ k ∧ k ≤ 2 ^ 40 ∧ z.length * k.toNat ≤ lim then .ok (.str (String.ofList (List.replicate k.toNat z.toList).flatten)) s else .bad := rfl
@[simp] theorem mul_lst {a : List D} {k : Int} : binD .mul (.lst a) (.int k) s = if -(2 ^ 40) ≤ k ∧ k ≤ 2 ^ 40 ∧ a.length * k.toNat ≤ lim then .new (List.replicate k.toNat a).flatten s else .bad := rfl
@[simp] theorem cmp_les {a b : String} : cmpD .le (.str a) (.str b) s = some (!decide (b < a)) := rfl
@[simp] theorem cmp_lts {a b : String} : cmpD .lt (.str a) (.str b) s = some (decide (a < b)) := rfl
@[simp] theorem cmp_gts {a b : String} : cmpD .gt (.str a) (.str b) s = some (decide (b < a)) := rfl
@[simp] theorem ev_rev {a : E} : evalE C (.rev a) ρ s = (evalE C a ρ s).bind fun x s => revD x s := by rw [evalE]
@[simp] theorem rev_tup {l : List D} : revD (.tup l) s = .ok (.tup l.reverse) s := rfl
@[simp] theorem ev_ddisp {ks : List String} {es : List E} : evalE C (.ddisp ks es) ρ s = (evalEs C es ρ s).bind fun l s => if l.length = ks.length ∧ ks.Nodup then .ok (.ref s.length) (s ++ [.dct ((ks.map DK.str).zip l)]) else .bad := by rw [evalE]
@[simp] theorem recv_find {z : String} : recvOk .sfind s (.str z) = true := rfl
@[simp] theorem recv_upper {z : String} : recvOk .supper s (.str z) = true := rfl
@[simp] theorem recv_join {z : String} : recvOk .sjoin s (.str z) = true := rfl
@[simp] theorem recv_split {z : String} : recvOk .ssplit s (.str z) = true := rfl
@[simp] theorem recv_lstrip {z : String} : recvOk .slstrip s (.str z) = true := rfl
def findK (a b : String) (s : Sto) : RE := match b.toList with
  | [c] => .ok (.int (findC c a.toList 0)) s
  | _ => .bad
@[simp] theorem met_find {a b : String} : metD .sfind (.str a) [.str b] s = findK a b s := rfl
theorem findK_one {a b : String} {c : Char} (h : b.toList = [c]) : findK a b s = .ok (.int (findC c a.toList 0)) s := by
  unfold findK
  rw [h]
@[simp] theorem met_upper {a : String} : metD .supper (.str a) [] s = if (a.toList.all fun c => decide (c.toNat < 128)) = true ∧ a.length ≤ lim then .ok (.str (String.ofList (a.toList.map upC))) s else .bad := rfl
def joinK (a : String) (o : Option (List D)) (s : Sto) : RE := match o with
  | some l => (match toSs l with
    | some zs => if (zs.map String.length).sum + zs.length * a.length ≤ lim then .ok (.str (String.ofList (joinC a.toList (zs.map String.toList)))) s else .bad
    | none => .bad)
  | none => .bad
@[simp] theorem met_join {a : String} {l : List D} : metD .sjoin (.str a) [.lst l] s = joinK a (some l) s := rfl
@[simp] theorem met_joinR {a : String} {n : Nat} : metD .sjoin (.str a) [.ref n] s = joinK a (asL s (.ref n)) s := rfl
theorem toSs_map (l : List String) : toSs (l.map D.str) = some l := by
  induction l with
  | nil => rfl
  | cons i l ih => simp [toSs, ih]
theorem joinK_strs {a : String} {zs : List String} (h : (zs.map String.length).sum + zs.length * a.length ≤ lim) : joinK a (some (zs.map D.str)) s = .ok (.str (String.ofList (joinC a.toList (zs.map String.toList)))) s := by
  unfold joinK
  simp only [toSs_map]
  rw [if_pos h]
def splitK (a b : String) (s : Sto) : RE := match b.toList with
  | [c] => if c.toNat < 256 ∧ a.length + 2 ≤ lim then .new ((cutC c [] a.toList).map fun l => .str (String.ofList l)) s else .bad
  | _ => .bad
@[simp] theorem met_split {a b : String} : metD .ssplit (.str a) [.str b] s = splitK a b s := rfl
theorem splitK_one {a b : String} {c : Char} (h : b.toList = [c]) (hc : c.toNat < 256) (hl : a.length + 2 ≤ lim) : splitK a b s = .new ((cutC c [] a.toList).map fun l => .str (String.ofList l)) s := by
  unfold splitK
  rw [h]
  exact if_pos ⟨hc, hl⟩
def lstripK (a b : String) (s : Sto) : RE := match b.toList with
  | [c] => if a.length ≤ lim then .ok (.str (String.ofList (a.toList.dropWhile fun x => decide (x = c)))) s else .bad
  | _ => .bad
@[simp] theorem met_lstrip {a b : String} : metD .slstrip (.str a) [.str b] s = lstripK a b s := rfl
theorem lstripK_one {a b : String} {c : Char} (h : b.toList = [c]) (hl : a.length ≤ lim) : lstripK a b s = .ok (.str (String.ofList (a.toList.dropWhile fun x => decide (x = c)))) s := by
  unfold lstripK
  rw [h]
  exact if_pos hl
@[simp] theorem add_lst {a b : List D} : binD .add (.lst a) (.lst b) s = newIf (a ++ b) s := rfl
@[simp] theorem cmp_lt {i j : Int} : cmpD .lt (.int i) (.int j) s = some (decide (i < j)) := rfl
@[simp] theorem cmp_le {i j : Int} : cmpD .le (.int i) (.int j) s = some (decide (i ≤ j)) := rfl
@[simp] theorem cmp_gt {i j : Int} : cmpD .gt (.int i) (.int j) s = some (decide (j < i)) := rfl
@[simp] theorem cmp_ge {i j : Int} : cmpD .ge (.int i) (.int j) s = some (decide (j ≤ i)) := rfl
@[simp] theorem cmp_eqi {i j : Int} : cmpD .eq (.int i) (.int j) s = some (decide (i = j)) := rfl
@[simp] theorem cmp_nei {i j : Int} : cmpD .ne (.int i) (.int j) s = some (!decide (i = j)) := rfl
@[simp] theorem cmp_eqb {i j : Bool} : cmpD .eq (.bl i) (.bl j) s = some (i == j) := rfl
@[simp] theorem cmp_neb {i j : Bool} : cmpD .ne (.bl i) (.bl j) s = some (!(i == j)) := rfl
@[simp] theorem cmp_eqs {i j : String} : cmpD .eq (.str i) (.str j) s = some (i == j) := rfl
@[simp] theorem cmp_nes {i j : String} : cmpD .ne (.str i) (.str j) s = some (!(i == j)) := rfl
@[simp] theorem cmp_eqis {i : Int} {j : String} : cmpD .eq (.int i) (.str j) s = some false := rfl
@[simp] theorem cmp_is_int {i : Int} : cmpD .is_ (.int i) .non s = some false := rfl
@[simp] theorem cmp_is_non : cmpD .is_ .non .non s = some true := rfl
@[simp] theorem cmp_is_tup {l : List D} : cmpD .is_ (.tup l) .non s = some false := rfl
@[simp] theorem cmp_isn_int {i : Int} : cmpD .isnot (.int i) .non s = some true := rfl
@[simp] theorem cmp_isn_non : cmpD .isnot .non .non s = some false := rfl
@[simp] theorem cmp_isn_tup {l : List D} : cmpD .isnot (.tup l) .non s = some true := rfl
theorem cmpE_some {o : CmpO} {a b : D} {k : Bool} (h : cmpD o a b s = some k) : cmpE o a b s = .ok (.bl k) s := by
  unfold cmpE
  rw [h]
def okB (o : Option Bool) (s : Sto) : RE := match o with
  | some k => .ok (.bl k) s
  | none => .bad
@[simp] theorem okB_some {b : Bool} : okB (some b) s = .ok (.bl b) s := rfl
@[simp] theorem cmpE_eq {o : CmpO} {a b : D} : cmpE o a b s = okB (cmpD o a b s) s := rfl
@[simp] theorem ite_and {b c : Bool} : (if b = true then RE.ok (.bl c) s else RE.ok (.bl false) s) = .ok (.bl (b && c)) s := by cases b <;> rfl
@[simp] theorem ite_and2 {b c : Bool} : (if b = true then RE.ok (.bl c) s else RE.ok (.bl b) s) = .ok (.bl (b && c)) s := by cases b <;> rfl
@[simp] theorem ite_or {b c : Bool} : (if b = true then RE.ok (.bl b) s else RE.ok (.bl c) s) = .ok (.bl (b || c)) s := by cases b <;> rfl
@[simp] theorem ite_or2 {b c : Bool} : (if b = true then RE.ok (.bl true) s else RE.ok (.bl c) s) = .ok (.bl (b || c)) s := by cases b <;> rfl
@[simp] theorem ite_andp {p : Prop} [Decidable p] {c : Bool} : (if p then RE.ok (.bl c) s else RE.ok (.bl false) s) = .ok (.bl (decide p && c)) s := by
  by_cases h : p <;> simp [h]
@[simp] theorem ite_orp {p : Prop} [Decidable p] {c : Bool} : (if p then RE.ok (.bl true) s else RE.ok (.bl c) s) = .ok (.bl (decide p || c)) s := by
  by_cases h : p <;> simp [h]
@[simp] theorem isi_ : typed s (.tup []) = true := rfl
@[simp] theorem typed_int {i : Int} : typed s (.int i) = true := rfl
@[simp] theorem typed_bl {i : Bool} : typed s (.bl i) = true := rfl
@[simp] theorem typed_str {i : String} : typed s (.str i) = true := rfl
@[simp] theorem typed_tup {i : List D} : typed s (.tup i) = true := rfl
@[simp] theorem typed_lst {i : List D} : typed s (.lst i) = true := rfl
@[simp] theorem typed_non : typed s .non = true := rfl
/-- the item at a place -/
theorem atD_nat {α : Type} {l : List α} {i : Int} (h0 : 0 ≤ i) : atD l i = l[i.toNat]? := by
  unfold atD
  rw [if_pos h0]
def idK (o : Option D) (s : Sto) : RE := match o with
  | some d => .ok d s
  | none => .bad
@[simp] theorem idK_some {d : D} : idK (some d) s = .ok d s := rfl
@[simp] theorem idx_lst {l : List D} {i : Int} : idxD (.lst l) (.int i) s = idK (atD l i) s := rfl
@[simp] theorem idx_tup {l : List D} {i : Int} : idxD (.tup l) (.int i) s = idK (atD l i) s := rfl
@[simp] theorem len_lst {l : List D} : lenD (.lst l) s = .ok (.int l.length) s := rfl
@[simp] theorem len_tup {l : List D} : lenD (.tup l) s = .ok (.int l.length) s := rfl
@[simp] theorem bi_len {d : D} : biD .len [d] s = lenD d s := rfl
@[simp] theorem bi_tuple {d : D} : biD .tuple [d] s = tupleD d s := rfl
@[simp] theorem bi_tupN {d : D} : biD .tupN [d] s = tupND d s := rfl
@[simp] theorem bi_list {d : D} : biD .list [d] s = listD d s := rfl
@[simp] theorem bi_sorted {d : D} : biD .sorted [d] s = sortD d s := rfl
@[simp] theorem bi_max {i j : Int} : biD .max [.int i, .int j] s = .ok (.int (if j > i then j else i)) s := rfl
@[simp] theorem bi_max1 {d : D} : biD .max [d] s = max1D d s := by cases d <;> rfl
@[simp] theorem bi_dict {d : D} : biD .dict [d] s = dictD d s := rfl
@[simp] theorem bi_ints {z : String} : biD .int [.str z] s = if z.length ≤ 640 then (match intS z.toList with
    | some i => .ok (.int i) s
    | none => .bad) else .bad := rfl
@[simp] theorem bi_min {i j : Int} : biD .min [.int i, .int j] s = .ok (.int (if j < i then j else i)) s := rfl
@[simp] theorem bi_intb {b : Bool} : biD .int [.bl b] s = .ok (.int (if b then 1 else 0)) s := rfl
@[simp] theorem bi_inti {i : Int} : biD .int [.int i] s = .ok (.int i) s := rfl
@[simp] theorem tuple_lst {l : List D} : tupleD (.lst l) s = .ok (.tup l) s := rfl
@[simp] theorem tuple_tup {l : List D} : tupleD (.tup l) s = .ok (.tup l) s := rfl
@[simp] theorem list_lst {l : List D} : listD (.lst l) s = .new l s := rfl
@[simp] theorem list_tup {l : List D} : listD (.tup l) s = .new l s := rfl
@[simp] theorem it_tup {l : List D} : items .seq [.tup l] s = some (l, none) := rfl
@[simp] theorem it_lst {l : List D} : items .seq [.lst l] s = some (l, none) := rfl
@[simp] theorem it_range1 {j : Int} : items .range1 [.int j] s = if smallI j then some (rangeD 0 j, none) else none := rfl
@[simp] theorem it_range2 {i j : Int} : items .range2 [.int i, .int j] s = if smallI i ∧ smallI j then some (rangeD i j, none) else none := rfl
theorem toIs_map (l : List Int) : toIs (l.map D.int) = some l := by
  induction l with
  | nil => rfl
  | cons i l ih => simp [toIs, ih]
@[simp] theorem sort_lst {l : List Int} : sortD (.lst (l.map D.int)) s = .new ((sortI l).map .int) s := by
  show sortL (l.map D.int) s = _
  unfold sortL
  rw [toIs_map]
@[simp] theorem inL_ints {i : Int} {l : List Int} : inL (.int i) (l.map D.int) = decide (i ∈ l) := by
  induction l with
  | nil => simp [inL]
  | cons j l ih =>
    unfold inL at ih ⊢
    rw [List.map_cons, List.any_cons, ih]
    by_cases h : j = i
    · subst h
      simp [eqD]
    · have h' : ¬ i = j := fun e => h e.symm
      simp [eqD, h, h']
theorem flat_ints {l : List Int} : (l.map D.int).all flat = true := by
  rw [List.all_eq_true]
  intro x m
  obtain ⟨i, _, rfl⟩ := List.mem_map.mp m
  rfl
@[simp] theorem cmp_in_tup {i : Int} {l : List Int} : cmpD .in_ (.int i) (.tup (l.map D.int)) s = some (decide (i ∈ l)) := by
  show (if flat (.int i) && (l.map D.int).all flat then some (inL (.int i) (l.map D.int)) else none) = _
  rw [flat_ints]
  simp [flat]
@[simp] theorem cmp_nin_tup {i : Int} {l : List Int} : cmpD .notin (.int i) (.tup (l.map D.int)) s = some (!decide (i ∈ l)) := by
  show (if flat (.int i) && (l.map D.int).all flat then some (!inL (.int i) (l.map D.int)) else none) = _
  rw [flat_ints]
  simp [flat]
@[simp] theorem cmp_in_lst {i : Int} {l : List Int} : cmpD .in_ (.int i) (.lst (l.map D.int)) s = some (decide (i ∈ l)) := by
  show (if flat (.int i) && (l.map D.int).all flat then some (inL (.int i) (l.map D.int)) else none) = _
  rw [flat_ints]
  simp [flat]
@[simp] theorem cmp_nin_lst {i : Int} {l : List Int} : cmpD .notin (.int i) (.lst (l.map D.int)) s = some (!decide (i ∈ l)) := by
  show (if flat (.int i) && (l.map D.int).all flat then some (!inL (.int i) (l.map D.int)) else none) = _
  rw [flat_ints]
  simp [flat]
/-- of a list in a cell -/
def getL : Option Cell → Option (List D)
  | some (.lst l) => some l
  | _ => none
@[simp] theorem getL_some {l : List D} : getL (some (.lst l)) = some l := rfl
theorem asL_ref {n : Nat} : asL s (.ref n) = getL s[n]? := by
  cases h : s[n]? with
  | none => simp [asL, getL, h]
  | some c => cases c <;> simp [asL, getL, h]
theorem asSq_ref {n : Nat} : asSq s (.ref n) = getL s[n]? := asL_ref
theorem cellL_ref {n : Nat} : cellL s (.ref n) = (getL s[n]?).map fun l => (n, l) := by
  unfold cellL getL
  dsimp only
  cases s[n]? with
  | none => rfl
  | some c => cases c <;> rfl
/-- of a list or a tuple in a cell -/
def getS : Option Cell → Option (List D)
  | some (.lst l) => some l
  | some (.tpc ns) => some (ns.map .int)
  | _ => none
@[simp] theorem getS_some {l : List D} : getS (some (.lst l)) = some l := rfl
@[simp] theorem getS_tpc {l : List Int} : getS (some (.tpc l)) = some (l.map .int) := rfl
theorem asSqT_ref {n : Nat} : asSqT s (.ref n) = getS s[n]? := by
  unfold asSqT cellT asSq asL getS
  dsimp only
  cases h : s[n]? with
  | none => simp
  | some c => cases c <;> simp
def lenK (o : Option (List D)) (s : Sto) : RE := match o with
  | some l => .ok (.int l.length) s
  | none => .bad
@[simp] theorem lenK_some {l : List D} : lenK (some l) s = .ok (.int l.length) s := rfl
@[simp] theorem ref_len {n : Nat} : lenD (.ref n) s = lenK (getS s[n]?) s := by rw [← asSqT_ref]; rfl
def tupK (o : Option (List D)) (s : Sto) : RE := match o with
  | some l => .ok (.tup l) s
  | none => .bad
@[simp] theorem tupK_some {l : List D} : tupK (some l) s = .ok (.tup l) s := rfl
@[simp] theorem ref_tuple {n : Nat} : tupleD (.ref n) s = tupK (getL s[n]?) s := by rw [← asSq_ref]; rfl
def lstK (o : Option Cell) (s : Sto) : RE := match o with
  | some (.lst l) => .new l s
  | some (.dct kvs) => .new (kvs.map fun kv => keyV kv.1) s
  | some (.tpc ns) => .new (ns.map .int) s
  | _ => .bad
@[simp] theorem lstK_tpc {l : List Int} : lstK (some (.tpc l)) s = .new (l.map .int) s := rfl
@[simp] theorem lstK_some {l : List D} : lstK (some (.lst l)) s = .new l s := rfl
@[simp] theorem lstK_dct {kvs : List (DK × D)} : lstK (some (.dct kvs)) s = .new (kvs.map fun kv => keyV kv.1) s := rfl
@[simp] theorem ref_list {n : Nat} : listD (.ref n) s = lstK s[n]? s := by
  unfold listD lstK asSqT cellT asSq asL cellK
  dsimp only
  cases s[n]? with
  | none => rfl
  | some c => cases c <;> rfl
def srtK (o : Option Cell) (s : Sto) : RE := match o with
  | some (.lst l) => sortD (.lst l) s
  | some (.dct kvs) => sortK (some (0, kvs)) s
  | _ => .bad
@[simp] theorem srtK_some {l : List D} : srtK (some (.lst l)) s = sortD (.lst l) s := rfl
@[simp] theorem srtK_dct {kvs : List (DK × D)} : srtK (some (.dct kvs)) s = sortK (some (0, kvs)) s := rfl
@[simp] theorem sort_tup {l : List Int} : sortD (.tup (l.map D.int)) s = .new ((sortI l).map .int) s := by
  show (match toIs (l.map D.int) with
    | some ns => RE.new ((sortI ns).map .int) s
    | none => .bad) = _
  rw [toIs_map]
@[simp] theorem ref_sort {n : Nat} : sortD (.ref n) s = srtK s[n]? s := by
  show sortU (.ref n) s = _
  unfold sortU asL cellK srtK
  dsimp only
  cases s[n]? with
  | none => rfl
  | some c => cases c <;> rfl
def inK (x : D) (o : Option (List D)) (s : Sto) : Option Bool := match o with
  | some l => cmpD .in_ x (.lst l) s
  | none => none
@[simp] theorem inK_some {x : D} {l : List D} : inK x (some l) s = cmpD .in_ x (.lst l) s := rfl
@[simp] theorem ref_in {n : Nat} {i : Int} : cmpD .in_ (.int i) (.ref n) s = inK (.int i) (getS s[n]?) s := by
  rw [← asSqT_ref]
  show (match asSqT s (.ref n) with
    | some l => if flat (.int i) && l.all flat then some (inL (.int i) l) else none
    | none => none) = _
  cases asSqT s (.ref n) <;> rfl
def ninK (x : D) (o : Option (List D)) (s : Sto) : Option Bool := match o with
  | some l => cmpD .notin x (.lst l) s
  | none => none
@[simp] theorem ninK_some {x : D} {l : List D} : ninK x (some l) s = cmpD .notin x (.lst l) s := rfl
@[simp] theorem ref_nin {n : Nat} {i : Int} : cmpD .notin (.int i) (.ref n) s = ninK (.int i) (getS s[n]?) s := by
  rw [← asSqT_ref]
  show (match asSqT s (.ref n) with
    | some l => if flat (.int i) && l.all flat then some (!inL (.int i) l) else none
    | none => none) = _
  cases asSqT s (.ref n) <;> rfl
/-- of a dict in a cell -/
def getK : Option Cell → Option (List (DK × D))
  | some (.dct l) => some l
  | _ => none
@[simp] theorem getK_some {l : List (DK × D)} : getK (some (.dct l)) = some l := rfl
def idLK (o : Option Cell) (i : D) (s : Sto) : RE := match o with
  | some (.dct kvs) => dctAt kvs i s
  | some (.lst l) => (match i with
    | .int i => idK (atD l i) s
    | _ => .bad)
  | _ => .bad
@[simp] theorem idLK_some {l : List D} {i : Int} : idLK (some (.lst l)) (.int i) s = idK (atD l i) s := rfl
@[simp] theorem idLK_dct {l : List (DK × D)} {i : D} : idLK (some (.dct l)) i s = dctAt l i s := rfl
@[simp] theorem dctAt_str {l : List (DK × D)} {z : String} : dctAt l (.str z) s = idK (valD l (.str z)) s := rfl
@[simp] theorem dctAt_int {l : List (DK × D)} {z : Int} : dctAt l (.int z) s = idK (valD l (.int z)) s := rfl
@[simp] theorem ref_idx {n : Nat} {i : D} : idxD (.ref n) i s = idLK s[n]? i s := by
  unfold idxD idxR idLK idxS asSq asL
  dsimp only
  cases i <;> cases s[n]? <;> try rfl
  all_goals (rename_i c; cases c <;> rfl)
@[simp] theorem recv_append {n : Nat} : recvOk .append s (.ref n) = (getL s[n]?).isSome := by rw [← asL_ref]; rfl
@[simp] theorem recv_reverse {n : Nat} : recvOk .reverse s (.ref n) = (getL s[n]?).isSome := by rw [← asL_ref]; rfl
@[simp] theorem recv_count {n : Nat} : recvOk .count s (.ref n) = (getL s[n]?).isSome := by rw [← asL_ref]; rfl
@[simp] theorem recv_remove {n : Nat} : recvOk .remove s (.ref n) = (getL s[n]?).isSome := by rw [← asL_ref]; rfl
@[simp] theorem recv_pop {n : Nat} : recvOk .pop s (.ref n) = (getL s[n]?).isSome := by rw [← asL_ref]; rfl
theorem cellK_ref {n : Nat} : cellK s (.ref n) = (getK s[n]?).map fun l => (n, l) := by
  unfold cellK getK
  dsimp only
  cases s[n]? with
  | none => rfl
  | some c => cases c <;> rfl
@[simp] theorem recv_get {n : Nat} : recvOk .get s (.ref n) = (getK s[n]?).isSome := by
  show (cellK s (.ref n)).isSome = _
  rw [cellK_ref]
  cases getK s[n]? <;> rfl
@[simp] theorem recv_setd {n : Nat} : recvOk .setd s (.ref n) = (getK s[n]?).isSome := recv_get
def dictK (o : Option Cell) (s : Sto) : RE := match o with
  | some (.dct kvs) => .ok (.ref s.length) (s ++ [.dct kvs])
  | _ => .bad
@[simp] theorem dictK_some {kvs : List (DK × D)} : dictK (some (.dct kvs)) s = .ok (.ref s.length) (s ++ [.dct kvs]) := rfl
@[simp] theorem ref_dict {n : Nat} : dictD (.ref n) s = dictK s[n]? s := by
  unfold dictD dictK
  rw [cellK_ref]
  cases s[n]? with
  | none => rfl
  | some c => cases c <;> rfl
@[simp] theorem recv_clear {n : Nat} : recvOk .clear s (.ref n) = (getL s[n]?).isSome := by rw [← asL_ref]; rfl
def clearK (o : Option (List D)) (n : Nat) (s : Sto) : RE := match o with
  | some l => .ok .non (s.set n (.lst []))
  | none => .bad
@[simp] theorem clearK_some {l : List D} {n : Nat} : clearK (some l) n s = .ok .non (s.set n (.lst [])) := rfl
@[simp] theorem ref_clear {n : Nat} : metD .clear (.ref n) [] s = clearK (getL s[n]?) n s := by
  unfold metD clearK
  dsimp only
  rw [cellL_ref]
  cases getL s[n]? <;> rfl
def popK (o : Option (List D)) (n : Nat) (i : Int) (s : Sto) : RE := match o with
  | some l => if 0 ≤ i ∧ i < 2 ^ 40 then (match l[i.toNat]? with
      | some d => .ok d (s.set n (.lst (l.eraseIdx i.toNat)))
      | none => .bad) else .bad
  | none => .bad
@[simp] theorem ref_popi {n : Nat} {i : Int} : metD .pop (.ref n) [.int i] s = popK (getL s[n]?) n i s := by
  unfold metD popK
  dsimp only
  rw [cellL_ref]
  cases getL s[n]? <;> rfl
theorem popK_some {l : List D} {n : Nat} {i : Int} {d : D} (h0 : 0 ≤ i) (h1 : i < 2 ^ 40) (h : l[i.toNat]? = some d) : popK (some l) n i s = .ok d (s.set n (.lst (l.eraseIdx i.toNat))) := by
  unfold popK
  dsimp only
  rw [if_pos ⟨h0, h1⟩, h]
def cntS (o : Option (List D)) (k : String) (s : Sto) : RE := match o with
  | some l => (match toSs l with
      | some zs => .ok (.int (zs.count k)) s
      | none => .bad)
  | none => .bad
@[simp] theorem met_cntS {d : D} {k : String} : metD .count d [.str k] s = cntS (asL s d) k s := by cases d <;> rfl
theorem cntS_map {zs : List String} {k : String} : cntS (some (zs.map D.str)) k s = .ok (.int (zs.count k)) s := by
  unfold cntS
  simp only [toSs_map]
def getM (o : Option (List (DK × D))) (k : Option DK) (x : D) (s : Sto) : RE := match o, k with
  | some kvs, some k => .ok ((valD kvs k).getD x) s
  | _, _ => .bad
@[simp] theorem getM_some {kvs : List (DK × D)} {k : DK} {x : D} : getM (some kvs) (some k) x s = .ok ((valD kvs k).getD x) s := rfl
@[simp] theorem ref_get {n : Nat} {k x : D} : metD .get (.ref n) [k, x] s = getM (getK s[n]?) (keyD k) x s := by
  unfold metD getM
  dsimp only
  rw [cellK_ref]
  cases getK s[n]? <;> cases keyD k <;> rfl
def setM (o : Option (List (DK × D))) (n : Nat) (k : Option DK) (x : D) (s : Sto) : RE := match o, k with
  | some kvs, some k => (match valD kvs k with
    | some d => if kvs.length < lim then .ok d s else .bad
    | none => if kvs.length < lim then .ok x (s.set n (.dct (putD kvs k x))) else .bad)
  | _, _ => .bad
@[simp] theorem ref_setd {n : Nat} {k x : D} : metD .setd (.ref n) [k, x] s = setM (getK s[n]?) n (keyD k) x s := by
  unfold metD setM
  dsimp only
  rw [cellK_ref]
  cases getK s[n]? <;> cases keyD k <;> rfl
@[simp] theorem keyD_str {z : String} : keyD (.str z) = some (.str z) := rfl
@[simp] theorem keyD_int {z : Int} : keyD (.int z) = some (.int z) := rfl
@[simp] theorem boxE_new {l : List D} {s : Sto} : boxE (.new l s) = .ok (.ref s.length) (s ++ [.lst l]) := rfl
@[simp] theorem boxE_ok {d : D} {s : Sto} : boxE (.ok d s) = .ok d s := rfl
@[simp] theorem boxE_exn {c : String} {s : Sto} : boxE (.exn c s) = .exn c s := rfl
@[simp] theorem ev_box {C : Ctx} {ρ : Env} {a : E} : evalE C (.box a) ρ s = boxE (evalE C a ρ s) := by rw [evalE]
@[simp] theorem ev_dnew {C : Ctx} {ρ : Env} : evalE C .dnew ρ s = .ok (.ref s.length) (s ++ [.dct []]) := by rw [evalE]
def appK (o : Option (List D)) (n : Nat) (d : D) (s : Sto) : RE := match o with
  | some l => if l.length < lim then .ok .non (s.set n (.lst (l ++ [d]))) else .bad
  | none => .bad
@[simp] theorem appK_some {l : List D} {n : Nat} {d : D} : appK (some l) n d s = if l.length < lim then .ok .non (s.set n (.lst (l ++ [d]))) else .bad := rfl
@[simp] theorem ref_append {n : Nat} {d : D} : metD .append (.ref n) [d] s = appK (getL s[n]?) n d s := by
  unfold metD appK
  dsimp only
  rw [cellL_ref]
  cases getL s[n]? <;> rfl
def revK (o : Option (List D)) (n : Nat) (s : Sto) : RE := match o with
  | some l => .ok .non (s.set n (.lst l.reverse))
  | none => .bad
@[simp] theorem revK_some {l : List D} {n : Nat} : revK (some l) n s = .ok .non (s.set n (.lst l.reverse)) := rfl
@[simp] theorem ref_reverse {n : Nat} : metD .reverse (.ref n) [] s = revK (getL s[n]?) n s := by
  unfold metD revK
  dsimp only
  rw [cellL_ref]
  cases getL s[n]? <;> rfl
def remK (o : Option (List D)) (n : Nat) (k : Int) (s : Sto) : RE := match o with
  | some l => (match toIs l with
    | some ns => if k ∈ ns then .ok .non (s.set n (.lst ((ns.erase k).map .int))) else .bad
    | none => .bad)
  | none => .bad
@[simp] theorem remK_some {l : List Int} {n : Nat} {k : Int} : remK (some (l.map D.int)) n k s = if k ∈ l then .ok .non (s.set n (.lst ((l.erase k).map .int))) else .bad := by
  unfold remK
  dsimp only
  rw [toIs_map]
@[simp] theorem ref_remove {n : Nat} {k : Int} : metD .remove (.ref n) [.int k] s = remK (getL s[n]?) n k s := by
  unfold metD remK
  dsimp only
  rw [cellL_ref]
  cases getL s[n]? <;> rfl
def itK (o : Option (List D)) (n : Nat) : Option (List D × Guard) := match o with
  | some l => some (l, some (n, l))
  | none => none
@[simp] theorem itK_some {l : List D} {n : Nat} : itK (some l) n = some (l, some (n, l)) := rfl
@[simp] theorem ref_it {n : Nat} : items .seq [.ref n] s = itK (getL s[n]?) n := by
  unfold items seqI itK getL
  dsimp only
  cases s[n]? with
  | none => rfl
  | some c => cases c <;> rfl
@[simp] theorem ref_truth {n : Nat} : truth s (.ref n) = (getL s[n]?).map fun l => !l.isEmpty := by
  unfold truth getL
  dsimp only
  cases s[n]? with
  | none => rfl
  | some c => cases c <;> rfl
@[simp] theorem ref_typed {n : Nat} : typed s (.ref n) = (getL s[n]?).isSome := by
  unfold typed getL
  dsimp only
  cases s[n]? with
  | none => rfl
  | some c => cases c <;> rfl
/-! ### the store -/
@[simp] theorem sto_get {t : Sto} {k : Nat} : (s ++ t)[s.length + k]? = t[k]? := by
  rw [List.getElem?_append_right (Nat.le_add_right _ _)]
  simp
@[simp] theorem sto_get0 {t : Sto} : (s ++ t)[s.length]? = t[0]? := by
  rw [List.getElem?_append_right (Nat.le_refl _)]
  simp
@[simp] theorem sto_set {t : Sto} {k : Nat} {c : Cell} : List.set (s ++ t) (s.length + k) c = s ++ List.set t k c := by
  rw [List.set_append_right _ _ (Nat.le_add_right _ _)]
  simp
@[simp] theorem sto_set0 {t : Sto} {c : Cell} : List.set (s ++ t) s.length c = s ++ List.set t 0 c := by
  rw [List.set_append_right _ _ (Nat.le_refl _)]
  simp
end
/-! ### a call's end -/
theorem keptOk_app (s t : Sto) : keptOk s (s ++ t) := ⟨by simp, fun i h => .inl (List.getElem?_append_left h)⟩
theorem keptOk_refl (s : Sto) : keptOk s s := ⟨Nat.le_refl _, fun i h => .inl rfl⟩
@[simp] theorem finish_ret (s : Sto) (d : D) : finish s (.ret d s) = .ok d s := by
  unfold finish
  dsimp only
  rw [if_pos (keptOk_refl s)]
  simp only [List.take_length]
  by_cases hu : d.under s.length
  · rw [if_pos hu]
  · rw [if_neg hu]
    cases d with
    | ref j =>
      have hj : ¬ j < s.length := fun z => hu fun r m => by
        simp [D.refs] at m
        omega
      dsimp only
      rw [List.getElem?_eq_none (by omega)]
    | _ => rfl
theorem finish_app (s t : Sto) {d : D} (h : d.refs = []) : finish s (.ret d (s ++ t)) = .ok d s := by
  unfold finish
  dsimp only
  rw [if_pos (keptOk_app s t), if_pos (show d.under s.length from fun r m => by rw [h] at m; cases m)]
  simp
theorem refs_ints (l : List Int) : D.refsL (l.map D.int) = [] := by
  induction l with
  | nil => rfl
  | cons i l ih => simp [D.refsL, D.refs, ih]
@[simp] theorem refsL_ints (l : List Int) : D.refsL (l.map D.int) = [] := refs_ints l
@[simp] theorem refs_int (i : Int) : D.refs (.int i) = [] := by unfold D.refs; rfl
@[simp] theorem refs_bl (i : Bool) : D.refs (.bl i) = [] := by unfold D.refs; rfl
@[simp] theorem refs_str (i : String) : D.refs (.str i) = [] := by unfold D.refs; rfl
@[simp] theorem refs_non : D.refs .non = [] := by unfold D.refs; rfl
@[simp] theorem refs_tup (l : List D) : D.refs (.tup l) = D.refsL l := by rw [D.refs]
@[simp] theorem refs_lst (l : List D) : D.refs (.lst l) = D.refsL l := by rw [D.refs]
@[simp] theorem refsL_nil : D.refsL [] = [] := by unfold D.refsL; rfl
@[simp] theorem refsL_cons (d : D) (l : List D) : D.refsL (d :: l) = d.refs ++ D.refsL l := by rw [D.refsL]
theorem finish_new (s t : Sto) {j : Nat} {l : List D} (h : t[j]? = some (.lst l)) (hl : D.refsL l = []) : finish s (.ret (.ref (s.length + j)) (s ++ t)) = .new l s := by
  unfold finish
  dsimp only
  rw [if_pos (keptOk_app s t), if_neg (fun q => by
    have := q (s.length + j) (by simp [D.refs])
    omega)]
  simp only [sto_get, h]
  rw [if_pos (show (D.lst l).under s.length from fun r m => by rw [refs_lst, hl] at m; cases m)]
  simp
theorem finish_new0 (s t : Sto) {l : List D} (h : t[0]? = some (.lst l)) (hl : D.refsL l = []) : finish s (.ret (.ref s.length) (s ++ t)) = .new l s := finish_new (j := 0) s t h hl
theorem finish_retN (s t : Sto) {l : List D} (hl : D.refsL l = []) : finish s (.retN l (s ++ t)) = .new l s := by
  unfold finish
  dsimp only
  rw [if_pos ⟨keptOk_app s t, fun r m => by rw [refs_lst, hl] at m; cases m⟩]
  simp
theorem finish_retN0 (s : Sto) {l : List D} : finish s (.retN l s) = .new l s := by
  unfold finish
  dsimp only
  split <;> simp
theorem finish_exn (s : Sto) {c : String} {ρ : Env} : finish s (.exn c ρ s) = .exn c s := by
  unfold finish
  dsimp only
  rw [if_pos (keptOk_refl s)]
  simp
theorem finish_exnA (s t : Sto) {c : String} {ρ : Env} : finish s (.exn c ρ (s ++ t)) = .exn c s := by
  unfold finish
  dsimp only
  rw [if_pos (keptOk_app s t)]
  simp
theorem finish_next (s : Sto) {ρ : Env} : finish s (.next ρ s) = .ok .non s := by
  unfold finish
  dsimp only
  rw [if_pos (keptOk_refl s)]
  simp
theorem run_eq {P : Prog} {wf n : Nat} {f : String} {fd : FDef} {ds : List D} {s : Sto} (h : P.fn f = some fd) (hl : ds.length = fd.np) : run P wf (n + 1) f ds s = finish s (execs (ctxOf P wf (run P wf n)) fd.body (startE fd ds) s) := by
  unfold run
  rw [h]
  simp only [hl, if_true]
@[simp] theorem ctx_call (P : Prog) (wf : Nat) (r : String → List D → Sto → RE) : (ctxOf P wf r).call = r := rfl
@[simp] theorem ctx_wf (P : Prog) (wf : Nat) (r : String → List D → Sto → RE) : (ctxOf P wf r).wfuel = wf := rfl
@[simp] theorem ctx_make (P : Prog) (wf : Nat) (r : String → List D → Sto → RE) : (ctxOf P wf r).make = makeR P r := rfl
@[simp] theorem ctx_att (P : Prog) (wf : Nat) (r : String → List D → Sto → RE) : (ctxOf P wf r).att = P.att := rfl
@[simp] theorem ctx_met (P : Prog) (wf : Nat) (r : String → List D → Sto → RE) : (ctxOf P wf r).met = P.met := rfl

/-! ### loops by an invariant -/
theorem for_next {C : Ctx} {body : List S} {tg : List Nat} {g : Guard} {ds : List D} {ρ : Env} {s : Sto} (I : Nat → Env → Sto → Prop) (h0 : I 0 ρ s)
    (hs : ∀ i d ρ s, ds[i]? = some d → I i ρ s → g.ok s ∧ ∃ ρ' ρ2 s2, bindT tg d ρ = some ρ' ∧ (execs C body ρ' s = .next ρ2 s2 ∨ execs C body ρ' s = .cont ρ2 s2) ∧ I (i + 1) ρ2 s2)
    (he : ∀ ρ s, I ds.length ρ s → g.ok s) : ∃ ρ' s', runFor C body tg g ds ρ s = .next ρ' s' ∧ I ds.length ρ' s' := by
  unfold runFor
  induction ds generalizing I ρ s with
  | nil =>
    refine ⟨ρ, s, ?_, h0⟩
    unfold forLoop
    rw [if_pos (he ρ s h0)]
  | cons d ds ih =>
    obtain ⟨hg, ρ', ρ2, s2, hb, hx, h1⟩ := hs 0 d ρ s rfl h0
    obtain ⟨ρ3, s3, e, h3⟩ := ih (fun i => I (i + 1)) h1 (fun i e ρ s hi hI => hs (i + 1) e ρ s (by simpa using hi) hI) (fun ρ s h => he ρ s h)
    refine ⟨ρ3, s3, ?_, h3⟩
    unfold forLoop
    rw [if_pos hg, hb]
    dsimp only
    rcases hx with hx | hx <;> rw [hx] <;> exact e
/-- a loop that may end early, by a statement that leaves the def -/
theorem for_any {C : Ctx} {body : List S} {tg : List Nat} {g : Guard} {ds : List D} {ρ : Env} {s : Sto} (Q : RS → Prop) (I : Nat → Env → Sto → Prop) (h0 : I 0 ρ s)
    (hs : ∀ i d ρ s, ds[i]? = some d → I i ρ s → g.ok s ∧ ∃ ρ', bindT tg d ρ = some ρ' ∧ ((∃ ρ2 s2, (execs C body ρ' s = .next ρ2 s2 ∨ execs C body ρ' s = .cont ρ2 s2) ∧ I (i + 1) ρ2 s2) ∨ (∃ ρ2 s2, execs C body ρ' s = .brk ρ2 s2 ∧ Q (.next ρ2 s2)) ∨
      (∃ d s2, execs C body ρ' s = .ret d s2 ∧ Q (.ret d s2)) ∨ (∃ c ρ2 s2, execs C body ρ' s = .exn c ρ2 s2 ∧ Q (.exn c ρ2 s2))))
    (he : ∀ ρ s, I ds.length ρ s → g.ok s ∧ Q (.next ρ s)) : Q (runFor C body tg g ds ρ s) := by
  unfold runFor
  induction ds generalizing I ρ s with
  | nil =>
    unfold forLoop
    rw [if_pos (he ρ s h0).1]
    exact (he ρ s h0).2
  | cons d ds ih =>
    obtain ⟨hg, ρ', hb, hx⟩ := hs 0 d ρ s rfl h0
    unfold forLoop
    rw [if_pos hg, hb]
    dsimp only
    rcases hx with ⟨ρ2, s2, hx, h1⟩ | ⟨ρ2, s2, hx, h1⟩ | ⟨d, s2, hx, h1⟩ | ⟨c, ρ2, s2, hx, h1⟩
    · have k := ih (fun i => I (i + 1)) h1 (fun i e ρ s hi hI => hs (i + 1) e ρ s (by simpa using hi) hI) (fun ρ s h => he ρ s h)
      rcases hx with hx | hx <;> rw [hx] <;> exact k
    · rw [hx]; exact h1
    · rw [hx]; exact h1
    · rw [hx]; exact h1
/-- a comprehension whose parts leave the store as it is -/
theorem compX_nil {C : Ctx} {elt : E} {tg : List Nat} {ρ : Env} {s : Sto} : runCompX C elt tg none ρ [] s = .ok [] s := by
  unfold runCompX compLoopX
  rw [if_pos (show Guard.ok none s from trivial)]
theorem compX_ok {C : Ctx} {elt : E} {tg : List Nat} {ρ ρ' : Env} {s s2 : Sto} {d x : D} {ds : List D} (hb : bindT tg d ρ = some ρ') (he : evalE C elt ρ' s = .ok x s2) : runCompX C elt tg none ρ (d :: ds) s = (runCompX C elt tg none ρ ds s2).bindL fun r s => .ok (x :: r) s := by
  show compLoopX _ _ _ _ _ _ = _
  unfold compLoopX
  rw [if_pos (show Guard.ok none s from trivial), hb]
  dsimp only
  rw [he]
  rfl
theorem compX_exn {C : Ctx} {elt : E} {tg : List Nat} {ρ ρ' : Env} {s s2 : Sto} {d : D} {c : String} {ds : List D} (hb : bindT tg d ρ = some ρ') (he : evalE C elt ρ' s = .exn c s2) : runCompX C elt tg none ρ (d :: ds) s = .exn c s2 := by
  show compLoopX _ _ _ _ _ _ = _
  unfold compLoopX
  rw [if_pos (show Guard.ok none s from trivial), hb]
  dsimp only
  rw [he]
  rfl
theorem comp_pure {C : Ctx} {cs : List E} {elt : E} {tg : List Nat} {g : Guard} {ρ : Env} {s : Sto} (hg : g.ok s) (f : D → D) (p : D → Bool) : ∀ {ds : List D},
    (∀ d ∈ ds, ∃ ρ', bindT tg d ρ = some ρ' ∧ evalTs C cs ρ' s = .ok (p d) s ∧ (p d = true → evalE C elt ρ' s = .ok (f d) s)) → runComp C cs elt tg g ρ ds s = .ok ((ds.filter p).map f) s
  | [], _ => by
    unfold runComp compLoop
    rw [if_pos hg]
    rfl
  | d :: ds, h => by
    obtain ⟨ρ', hb, ht, hx⟩ := h d List.mem_cons_self
    have ih := comp_pure (ds := ds) hg f p fun e m => h e (List.mem_cons_of_mem _ m)
    unfold runComp at ih ⊢
    unfold compLoop
    rw [if_pos hg, hb]
    dsimp only
    rw [ht]
    cases hp : p d with
    | false =>
      dsimp only
      rw [ih, List.filter_cons_of_neg (by simp [hp])]
    | true =>
      dsimp only
      rw [hx hp]
      dsimp only
      rw [ih, List.filter_cons_of_pos hp]
      rfl
@[simp] theorem evt_nil {C : Ctx} {ρ : Env} {s : Sto} : evalTs C [] ρ s = .ok true s := by rw [evalTs]
def tsK (o : Option Bool) (s : Sto) (r : RB) : RB := match o with
  | some true => r
  | some false => .ok false s
  | none => .bad
@[simp] theorem tsK_true {b : Bool} {s : Sto} : tsK (some b) s (.ok true s) = .ok b s := by cases b <;> rfl
@[simp] theorem evt_cons {C : Ctx} {ρ : Env} {s : Sto} {e : E} {es : List E} : evalTs C (e :: es) ρ s = (evalE C e ρ s).bindB fun x s => tsK (truth s x) s (evalTs C es ρ s) := by rw [evalTs]; rfl
@[simp] theorem guard_none {s : Sto} : Guard.ok none s := trivial
theorem guard_some {n : Nat} {l : List D} {s : Sto} (h : s[n]? = some (.lst l)) : Guard.ok (some (n, l)) s := h
theorem range_get' (a b : Int) (i : Nat) (d : D) (h : (rangeD a b)[i]? = some d) : d = .int (a + i) ∧ (i : Int) < b - a := by
  unfold rangeD at h
  rw [List.getElem?_map] at h
  cases hq : (List.range (b - a).toNat)[i]? with
  | none => rw [hq] at h; cases h
  | some k =>
    rw [hq] at h
    have hl := (List.getElem?_eq_some_iff.mp hq).1
    rw [List.getElem?_range (by simpa using hl)] at hq
    cases hq
    cases h
    simp at hl
    exact ⟨rfl, by omega⟩
@[simp] theorem range_len (a b : Int) : (rangeD a b).length = (b - a).toNat := by simp [rangeD]
end KL
namespace KL
theorem comp_ints {C : Ctx} {cs : List E} {elt : E} {tg : List Nat} {g : Guard} {ρ : Env} {s : Sto} (hg : g.ok s) (f : Int → D) (p : Int → Bool) {l : List Int}
    (h : ∀ i ∈ l, ∃ ρ', bindT tg (.int i) ρ = some ρ' ∧ evalTs C cs ρ' s = .ok (p i) s ∧ (p i = true → evalE C elt ρ' s = .ok (f i) s)) : runComp C cs elt tg g ρ (l.map .int) s = .ok ((l.filter p).map f) s := by
  induction l with
  | nil =>
    unfold runComp compLoop
    simp only [List.map_nil]
    rw [if_pos hg]
    rfl
  | cons i l ih =>
    obtain ⟨ρ', hb, ht, hx⟩ := h i List.mem_cons_self
    have ih := ih fun e m => h e (List.mem_cons_of_mem _ m)
    unfold runComp at ih ⊢
    rw [List.map_cons]
    unfold compLoop
    rw [if_pos hg, hb]
    dsimp only
    rw [ht]
    cases hp : p i with
    | false =>
      dsimp only
      rw [ih, List.filter_cons_of_neg (by simp [hp])]
    | true =>
      dsimp only
      rw [hx hp]
      dsimp only
      rw [ih, List.filter_cons_of_pos hp]
      rfl
/-- how many below n -/
def cnt (q : Int → Bool) : Nat → Nat
  | 0 => 0
  | i + 1 => cnt q i + if q i then 1 else 0
theorem cnt_le (q : Int → Bool) : ∀ n, cnt q n ≤ n
  | 0 => Nat.le_refl _
  | i + 1 => by
    have := cnt_le q i
    unfold cnt
    split <;> omega
theorem cnt_add {q q1 q2 : Int → Bool} : ∀ n : Nat, (∀ i : Nat, i < n → q i = (q1 i || q2 i) ∧ (q1 i && q2 i) = false) → cnt q n = cnt q1 n + cnt q2 n
  | 0, _ => rfl
  | n + 1, h => by
    have ih := cnt_add n fun i hi => h i (by omega)
    obtain ⟨h1, h2⟩ := h n (by omega)
    unfold cnt
    rw [ih, h1]
    cases e1 : q1 n <;> cases e2 : q2 n <;> simp_all <;> omega
theorem cnt_one (a : Int) (b : Bool) : ∀ n : Nat, 0 ≤ a → cnt (fun i => decide (i = a) && b) n = if a < n ∧ b = true then 1 else 0
  | 0, h => by
    unfold cnt
    rw [if_neg (by omega)]
  | n + 1, h => by
    unfold cnt
    rw [cnt_one a b n h]
    cases b with
    | false => simp
    | true =>
      by_cases e : (n : Int) = a
      · subst e
        simp
        omega
      · simp [e]
        by_cases h1 : a < n
        · rw [if_pos h1, if_pos (by omega)]
        · rw [if_neg h1, if_neg (by omega)]
theorem cnt_ext {q q1 : Int → Bool} : ∀ n : Nat, (∀ i : Nat, i < n → q i = q1 i) → cnt q n = cnt q1 n
  | 0, _ => rfl
  | n + 1, h => by
    unfold cnt
    rw [cnt_ext n fun i hi => h i (by omega), h n (by omega)]
theorem cnt_mem (p : Int → Bool) (n : Nat) : ∀ A : List Int, A.Nodup → (∀ a ∈ A, 0 ≤ a ∧ a < n) → cnt (fun i => decide (i ∈ A) && p i) n = (A.filter p).length
  | [], _, _ => by
    rw [cnt_ext (q1 := fun i => decide (i = 0) && false) n (fun i _ => by simp), cnt_one _ _ _ (Int.le_refl 0)]
    simp
  | a :: A, nd, hA => by
    obtain ⟨na, nd⟩ := List.nodup_cons.mp nd
    have ih := cnt_mem p n A nd fun b m => hA b (List.mem_cons_of_mem _ m)
    have ha := hA a List.mem_cons_self
    rw [cnt_add (q1 := fun i => decide (i = a) && p a) (q2 := fun i => decide (i ∈ A) && p i) n fun i hi => ?_, ih, cnt_one _ _ _ ha.1]
    · by_cases hp : p a = true
      · rw [if_pos ⟨ha.2, hp⟩, List.filter_cons_of_pos hp]
        simp
        omega
      · rw [if_neg (fun q => hp q.2), List.filter_cons_of_neg hp]
        simp
    · by_cases e : (i : Int) = a
      · subst e
        simp [na]
      · simp [e]
end KL
namespace KL
theorem insI_pm (i : Int) : ∀ l : List Int, (insI i l).Perm (i :: l)
  | [] => List.Perm.refl _
  | j :: l => by
    unfold insI
    split
    · exact List.Perm.refl _
    · exact ((insI_pm i l).cons j).trans (List.Perm.swap i j l)
theorem sortI_pm : ∀ l : List Int, (sortI l).Perm l
  | [] => List.Perm.refl _
  | i :: l => (insI_pm i (sortI l)).trans ((sortI_pm l).cons i)
/-- seats: at least one, no number twice, all of 0 to 8 -/
structure Seats (l : List Int) : Prop where
  nd : l.Nodup
  rg : ∀ a ∈ l, 0 ≤ a ∧ a < 9
  ne : l ≠ []
theorem Seats.sort {l : List Int} (h : Seats l) : Seats (sortI l) := ⟨(sortI_pm l).nodup_iff.mpr h.nd, fun a m => h.rg a ((sortI_pm l).mem_iff.mp m), fun e => h.ne (by
  have := (sortI_pm l).length_eq
  rw [e] at this
  exact List.length_eq_zero_iff.mp this.symm)⟩
theorem nodup_len (n : Nat) (l : List Int) (nd : l.Nodup) (h : ∀ a ∈ l, 0 ≤ a ∧ a < n) : l.length ≤ n := by
  have := cnt_mem (fun _ => true) n l nd h
  rw [List.filter_eq_self.mpr (fun _ _ => rfl)] at this
  rw [← this]
  exact cnt_le _ _
end KL
namespace KL
@[simp] theorem ty_non_int : isTy (.non) .int = false := rfl
@[simp] theorem ty_non_bool : isTy (.non) .bool = false := rfl
@[simp] theorem ty_non_str : isTy (.non) .str = false := rfl
@[simp] theorem ty_non_tuple : isTy (.non) .tuple = false := rfl
@[simp] theorem ty_non_list : isTy (.non) .list = false := rfl
@[simp] theorem ty_bl_int {b : Bool} : isTy (.bl b) .int = true := rfl
@[simp] theorem ty_bl_bool {b : Bool} : isTy (.bl b) .bool = true := rfl
@[simp] theorem ty_bl_str {b : Bool} : isTy (.bl b) .str = false := rfl
@[simp] theorem ty_bl_tuple {b : Bool} : isTy (.bl b) .tuple = false := rfl
@[simp] theorem ty_bl_list {b : Bool} : isTy (.bl b) .list = false := rfl
@[simp] theorem ty_int_int {i : Int} : isTy (.int i) .int = true := rfl
@[simp] theorem ty_int_bool {i : Int} : isTy (.int i) .bool = false := rfl
@[simp] theorem ty_int_str {i : Int} : isTy (.int i) .str = false := rfl
@[simp] theorem ty_int_tuple {i : Int} : isTy (.int i) .tuple = false := rfl
@[simp] theorem ty_int_list {i : Int} : isTy (.int i) .list = false := rfl
@[simp] theorem ty_str_int {z : String} : isTy (.str z) .int = false := rfl
@[simp] theorem ty_str_bool {z : String} : isTy (.str z) .bool = false := rfl
@[simp] theorem ty_str_str {z : String} : isTy (.str z) .str = true := rfl
@[simp] theorem ty_str_tuple {z : String} : isTy (.str z) .tuple = false := rfl
@[simp] theorem ty_str_list {z : String} : isTy (.str z) .list = false := rfl
@[simp] theorem ty_tup_int {l : List D} : isTy (.tup l) .int = false := rfl
@[simp] theorem ty_tup_bool {l : List D} : isTy (.tup l) .bool = false := rfl
@[simp] theorem ty_tup_str {l : List D} : isTy (.tup l) .str = false := rfl
@[simp] theorem ty_tup_tuple {l : List D} : isTy (.tup l) .tuple = true := rfl
@[simp] theorem ty_tup_list {l : List D} : isTy (.tup l) .list = false := rfl
@[simp] theorem ty_lst_int {l : List D} : isTy (.lst l) .int = false := rfl
@[simp] theorem ty_lst_bool {l : List D} : isTy (.lst l) .bool = false := rfl
@[simp] theorem ty_lst_str {l : List D} : isTy (.lst l) .str = false := rfl
@[simp] theorem ty_lst_tuple {l : List D} : isTy (.lst l) .tuple = false := rfl
@[simp] theorem ty_lst_list {l : List D} : isTy (.lst l) .list = true := rfl
@[simp] theorem ty_ref_int {n : Nat} : isTy (.ref n) .int = false := rfl
@[simp] theorem ty_ref_bool {n : Nat} : isTy (.ref n) .bool = false := rfl
@[simp] theorem ty_ref_str {n : Nat} : isTy (.ref n) .str = false := rfl
@[simp] theorem ty_ref_tuple {n : Nat} : isTy (.ref n) .tuple = false := rfl
@[simp] theorem ty_ref_list {n : Nat} : isTy (.ref n) .list = true := rfl
end KL
namespace KL
theorem for_list {C : Ctx} {body : List S} {tg : List Nat} {g : Guard} {ds : List D} {ρ : Env} {s : Sto} (I : List D → Env → Sto → Prop) (h0 : I [] ρ s)
    (hs : ∀ pre d suf ρ s, ds = pre ++ d :: suf → I pre ρ s → g.ok s ∧ ∃ ρ' ρ2 s2, bindT tg d ρ = some ρ' ∧ (execs C body ρ' s = .next ρ2 s2 ∨ execs C body ρ' s = .cont ρ2 s2) ∧ I (pre ++ [d]) ρ2 s2)
    (he : ∀ ρ s, I ds ρ s → g.ok s) : ∃ ρ' s', runFor C body tg g ds ρ s = .next ρ' s' ∧ I ds ρ' s' := by
  obtain ⟨ρ', s', e, h⟩ := for_next (C := C) (body := body) (tg := tg) (g := g) (ds := ds) (ρ := ρ) (s := s) (fun i ρ s => I (ds.take i) ρ s) (by simpa using h0) (fun i d ρ s hd hI => by
    have hl := (List.getElem?_eq_some_iff.mp hd).1
    have hg := (List.getElem?_eq_some_iff.mp hd).2
    have e1 : ds = ds.take i ++ d :: ds.drop (i + 1) := by
      rw [← hg, List.getElem_cons_drop, List.take_append_drop]
    obtain ⟨h1, ρ', ρ2, s2, h2, h3, h4⟩ := hs (ds.take i) d (ds.drop (i + 1)) ρ s e1 hI
    refine ⟨h1, ρ', ρ2, s2, h2, h3, ?_⟩
    rw [List.take_succ, hd]
    exact h4) (fun ρ s h => he ρ s (by simpa using h))
  exact ⟨ρ', s', e, by simpa using h⟩
theorem for_ints {C : Ctx} {body : List S} {tg : List Nat} {g : Guard} {l : List Int} {ρ : Env} {s : Sto} (I : List Int → Env → Sto → Prop) (h0 : I [] ρ s)
    (hs : ∀ pre i suf ρ s, l = pre ++ i :: suf → I pre ρ s → g.ok s ∧ ∃ ρ' ρ2 s2, bindT tg (.int i) ρ = some ρ' ∧ (execs C body ρ' s = .next ρ2 s2 ∨ execs C body ρ' s = .cont ρ2 s2) ∧ I (pre ++ [i]) ρ2 s2)
    (he : ∀ ρ s, I l ρ s → g.ok s) : ∃ ρ' s', runFor C body tg g (l.map .int) ρ s = .next ρ' s' ∧ I l ρ' s' := by
  obtain ⟨ρ', s', e, h⟩ := for_next (C := C) (body := body) (tg := tg) (g := g) (ds := l.map .int) (ρ := ρ) (s := s) (fun i ρ s => I (l.take i) ρ s) (by simpa using h0) (fun i d ρ s hd hI => by
    rw [List.getElem?_map] at hd
    cases hq : l[i]? with
    | none => rw [hq] at hd; cases hd
    | some k =>
      rw [hq] at hd
      cases hd
      have hl := (List.getElem?_eq_some_iff.mp hq).1
      have hg := (List.getElem?_eq_some_iff.mp hq).2
      have e1 : l = l.take i ++ k :: l.drop (i + 1) := by
        rw [← hg, List.getElem_cons_drop, List.take_append_drop]
      obtain ⟨h1, ρ', ρ2, s2, h2, h3, h4⟩ := hs (l.take i) k (l.drop (i + 1)) ρ s e1 hI
      refine ⟨h1, ρ', ρ2, s2, h2, h3, ?_⟩
      rw [List.take_succ, hq]
      exact h4) (fun ρ s h => he ρ s (by simpa using h))
  exact ⟨ρ', s', e, by simpa using h⟩
theorem atD_ints {l : List Int} {i : Int} (h0 : 0 ≤ i) (h1 : i < l.length) : atD (l.map D.int) i = some (.int (l.getD i.toNat 0)) := by
  rw [atD_nat h0]
  have h : i.toNat < l.length := by omega
  simp [List.getElem?_eq_getElem h]
theorem eqL_ints : ∀ a b : List Int, eqL (a.map D.int) (b.map D.int) = decide (a = b)
  | [], [] => rfl
  | [], _ :: _ => rfl
  | _ :: _, [] => rfl
  | x :: a, y :: b => by
    simp only [List.map_cons, eqL, eqD, eqL_ints a b]
    by_cases h : x = y <;> simp [h]
theorem deepL_ints (n : Nat) : ∀ a : List Int, deepL n (a.map D.int) = true
  | [] => rfl
  | x :: a => by
    have e : deep n (D.int x) = true := by cases n <;> rfl
    simp only [List.map_cons, deepL, deepL_ints n a, e]
    rfl
@[simp] theorem cmp_eq_tup {a b : List Int} {s : Sto} : cmpD .eq (.tup (a.map D.int)) (.tup (b.map D.int)) s = some (decide (a = b)) := by
  have e : cmpD .eq (.tup (a.map D.int)) (.tup (b.map D.int)) s = if eqOk (.tup (a.map D.int)) (.tup (b.map D.int)) then some (eqL (a.map D.int) (b.map D.int)) else none := rfl
  have q : eqOk (.tup (a.map D.int)) (.tup (b.map D.int)) = true := by
    show ((D.refsL (a.map D.int)).isEmpty && ((D.refsL (b.map D.int)).isEmpty && (deepL 59 (a.map D.int) || deepL 59 (b.map D.int)))) = true
    rw [refs_ints, refs_ints, deepL_ints]
    rfl
  rw [e, q, eqL_ints]
  rfl
@[simp] theorem cmp_ne_tup {a b : List Int} {s : Sto} : cmpD .ne (.tup (a.map D.int)) (.tup (b.map D.int)) s = some (!decide (a = b)) := by
  have e : cmpD .ne (.tup (a.map D.int)) (.tup (b.map D.int)) s = if eqOk (.tup (a.map D.int)) (.tup (b.map D.int)) then some (!eqL (a.map D.int) (b.map D.int)) else none := rfl
  have q : eqOk (.tup (a.map D.int)) (.tup (b.map D.int)) = true := by
    show ((D.refsL (a.map D.int)).isEmpty && ((D.refsL (b.map D.int)).isEmpty && (deepL 59 (a.map D.int) || deepL 59 (b.map D.int)))) = true
    rw [refs_ints, refs_ints, deepL_ints]
    rfl
  rw [e, q, eqL_ints]
  rfl
theorem sortI_srt : ∀ l : List Int, (sortI l).Pairwise (· ≤ ·) := by
  have ins : ∀ (i : Int) (l : List Int), l.Pairwise (· ≤ ·) → (insI i l).Pairwise (· ≤ ·) := by
    intro i l
    induction l with
    | nil => intro _; simp [insI]
    | cons j l ih =>
      intro h
      obtain ⟨h1, h2⟩ := List.pairwise_cons.mp h
      unfold insI
      split
      · rename_i hij
        refine List.pairwise_cons.mpr ⟨fun a m => ?_, h⟩
        rcases List.mem_cons.mp m with rfl | m
        · exact hij
        · exact Int.le_trans hij (h1 a m)
      · rename_i hij
        refine List.pairwise_cons.mpr ⟨fun a m => ?_, ih h2⟩
        rcases List.mem_cons.mp ((insI_pm i l).mem_iff.mp m) with rfl | m
        · omega
        · exact h1 a m
  intro l
  induction l with
  | nil => exact List.Pairwise.nil
  | cons i l ih => exact ins i _ ih
end KL
namespace KL
section
variable {s : Sto}
@[simp] theorem part_nil : part [] = some none := rfl
@[simp] theorem part_int {i : Int} : part [.int i] = some (some i) := rfl
@[simp] theorem sl_tup {l : List D} {lo hi : Option Int} : sliceD (.tup l) lo hi s = .ok (.tup (cutD l lo hi)) s := rfl
@[simp] theorem sl_lst {l : List D} {lo hi : Option Int} : sliceD (.lst l) lo hi s = .new (cutD l lo hi) s := rfl
def slLK (o : Option (List D)) (lo hi : Option Int) (s : Sto) : RE := match o with
  | some l => .new (cutD l lo hi) s
  | none => .bad
@[simp] theorem slLK_some {l : List D} {lo hi : Option Int} : slLK (some l) lo hi s = .new (cutD l lo hi) s := rfl
def slCK (n : Nat) (o : Option Cell) (lo hi : Option Int) (s : Sto) : RE := match o with
  | some (.tpc ns) => if wholeB ns.length lo hi = true then .ok (.ref n) s else .ok (.tup (cutD (ns.map .int) lo hi)) s
  | o => slLK (getL o) lo hi s
@[simp] theorem slCK_tpc {n : Nat} {l : List Int} {lo hi : Option Int} : slCK n (some (.tpc l)) lo hi s = if wholeB l.length lo hi = true then .ok (.ref n) s else .ok (.tup (cutD (l.map .int) lo hi)) s := rfl
@[simp] theorem slCK_lst {n : Nat} {l : List D} {lo hi : Option Int} : slCK n (some (.lst l)) lo hi s = .new (cutD l lo hi) s := rfl
@[simp] theorem sl_ref {n : Nat} {lo hi : Option Int} : sliceD (.ref n) lo hi s = slCK n s[n]? lo hi s := by
  unfold sliceD cellT asL slCK slLK getL
  dsimp only
  cases s[n]? with
  | none => rfl
  | some c => cases c <;> rfl
theorem cut_from {α : Type} {l : List α} {a : Int} (h : 0 ≤ a) : cutD l (some a) none = l.drop a.toNat := by
  unfold cutD sIx
  have h1 : ¬ a < 0 := by omega
  simp only [if_neg h1]
  have h2 : (l.drop (min a.toNat l.length)) = l.drop a.toNat := by
    by_cases q : a.toNat ≤ l.length
    · rw [Nat.min_eq_left q]
    · rw [Nat.min_eq_right (by omega), List.drop_eq_nil_of_le (Nat.le_refl _), List.drop_eq_nil_of_le (by omega)]
  rw [h2]
  apply List.take_of_length_le
  rw [List.length_drop]
  omega
theorem cut_to {α : Type} {l : List α} {a : Int} (h : 0 ≤ a) : cutD l none (some a) = l.take a.toNat := by
  unfold cutD sIx
  have h1 : ¬ a < 0 := by omega
  simp only [if_neg h1, List.drop_zero, Nat.sub_zero]
  by_cases q : a.toNat ≤ l.length
  · rw [Nat.min_eq_left q]
  · rw [Nat.min_eq_right (by omega), List.take_of_length_le (Nat.le_refl _), List.take_of_length_le (by omega)]
end
/-- the least place below n at which q holds -/
def IsLeast (q : Int → Bool) (n : Nat) (r : Option Int) : Prop := match r with
  | none => ∀ j : Nat, j < n → q j = false
  | some i => 0 ≤ i ∧ i < n ∧ q i = true ∧ ∀ j : Nat, (j : Int) < i → q j = false
theorem IsLeast.uniq {q : Int → Bool} {n : Nat} {r r' : Option Int} (h : IsLeast q n r) (h' : IsLeast q n r') : r = r' := by
  have key : ∀ {i : Int} , IsLeast q n none → IsLeast q n (some i) → False := fun {i} a b => by
    obtain ⟨b1, b2, b3, _⟩ := b
    have := a i.toNat (by omega)
    rw [show ((i.toNat : Nat) : Int) = i by omega, b3] at this
    cases this
  cases r with
  | none => cases r' with
    | none => rfl
    | some i => exact (key h h').elim
  | some i => cases r' with
    | none => exact (key h' h).elim
    | some j =>
      obtain ⟨a1, a2, a3, a4⟩ := h
      obtain ⟨b1, b2, b3, b4⟩ := h'
      rcases Int.lt_trichotomy i j with q' | q' | q'
      · have := b4 i.toNat (by omega)
        rw [show ((i.toNat : Nat) : Int) = i by omega, a3] at this
        cases this
      · rw [q']
      · have := a4 j.toNat (by omega)
        rw [show ((j.toNat : Nat) : Int) = j by omega, b3] at this
        cases this
def optD : Option Int → D
  | none => .non
  | some i => .int i
@[simp] theorem optD_none : optD none = .non := rfl
@[simp] theorem optD_some {i : Int} : optD (some i) = .int i := rfl
@[simp] theorem cmp_is_opt {o : Option Int} {s : Sto} : cmpD .is_ (optD o) .non s = some o.isNone := by cases o <;> rfl
theorem cnt_mono {p q : Int → Bool} : ∀ n : Nat, (∀ i : Nat, i < n → p i = true → q i = true) → cnt p n ≤ cnt q n
  | 0, _ => Nat.le_refl _
  | n + 1, h => by
    have := cnt_mono n fun i hi => h i (by omega)
    have h2 := h n (by omega)
    unfold cnt
    cases hp : p n <;> cases hq : q n <;> simp_all <;> omega
/-- two majorities of seats that are the same, or one off, have a number in common -/
theorem meet {A B : List Int} (hA : Seats A) (hB : Seats B) (x y : Int → Bool) (hd : (A.filter fun i => !decide (i ∈ B)).length + (B.filter fun i => !decide (i ∈ A)).length ≤ 1)
    (h1 : A.length < 2 * (A.filter x).length) (h2 : B.length < 2 * (B.filter y).length) : ∃ i : Nat, i < 9 ∧ (i : Int) ∈ A ∧ (i : Int) ∈ B ∧ x i = true ∧ y i = true := by
  apply Classical.byContradiction
  intro hn
  have no : ∀ i : Nat, i < 9 → ((decide ((i : Int) ∈ A) && x i) && (decide ((i : Int) ∈ B) && y i)) = false := fun i hi => by
    cases hq : ((decide ((i : Int) ∈ A) && x i) && (decide ((i : Int) ∈ B) && y i)) with
    | false => rfl
    | true =>
      simp at hq
      exact absurd ⟨i, hi, hq.1.1, hq.2.1, hq.1.2, hq.2.2⟩ hn
  rw [← cnt_mem x 9 A hA.nd hA.rg] at h1
  rw [← cnt_mem y 9 B hB.nd hB.rg] at h2
  rw [← cnt_mem (fun i => !decide (i ∈ B)) 9 A hA.nd hA.rg, ← cnt_mem (fun i => !decide (i ∈ A)) 9 B hB.nd hB.rg] at hd
  have lA := cnt_mem (fun _ => true) 9 A hA.nd hA.rg
  have lB := cnt_mem (fun _ => true) 9 B hB.nd hB.rg
  rw [List.filter_eq_self.mpr (fun _ _ => rfl)] at lA lB
  have e1 := cnt_add (q := fun i => (decide (i ∈ A) && x i) || (decide (i ∈ B) && y i)) (q1 := fun i => decide (i ∈ A) && x i) (q2 := fun i => decide (i ∈ B) && y i) 9 fun i hi => ⟨rfl, no i hi⟩
  have e2 : cnt (fun i => (decide (i ∈ A) && x i) || (decide (i ∈ B) && y i)) 9 ≤ cnt (fun i => decide (i ∈ A) || decide (i ∈ B)) 9 := cnt_mono 9 fun i hi q => by
    simp at q ⊢
    rcases q with q | q
    · exact .inl q.1
    · exact .inr q.1
  have e3 := cnt_add (q := fun i => decide (i ∈ A) || decide (i ∈ B)) (q1 := fun i => decide (i ∈ A) && true) (q2 := fun i => decide (i ∈ B) && !decide (i ∈ A)) 9 fun i hi => by
    by_cases a : (i : Int) ∈ A <;> by_cases b : (i : Int) ∈ B <;> simp [a, b]
  have e4 := cnt_add (q := fun i => decide (i ∈ A) || decide (i ∈ B)) (q1 := fun i => decide (i ∈ B) && true) (q2 := fun i => decide (i ∈ A) && !decide (i ∈ B)) 9 fun i hi => by
    by_cases a : (i : Int) ∈ A <;> by_cases b : (i : Int) ∈ B <;> simp [a, b]
  omega
theorem lt_of_sorted {l : List Int} (h : l.Pairwise (· ≤ ·)) (nd : l.Nodup) : l.Pairwise (· < ·) := by
  have := List.Pairwise.and h nd
  exact this.imp fun {a b} ⟨q1, q2⟩ => by omega
theorem find_least {A : List Int} (so : A.Pairwise (· < ·)) (rg : ∀ a ∈ A, 0 ≤ a ∧ a < 9) (p : Int → Bool) : IsLeast (fun i => decide (i ∈ A) && p i) 9 (A.find? p) := by
  induction A with
  | nil => exact fun j _ => by simp
  | cons a A ih =>
    obtain ⟨s1, s2⟩ := List.pairwise_cons.mp so
    have ih := ih s2 fun b m => rg b (List.mem_cons_of_mem _ m)
    have ra := rg a List.mem_cons_self
    by_cases hp : p a = true
    · rw [List.find?_cons_of_pos hp]
      refine ⟨ra.1, ra.2, by simp [hp], fun j hj => ?_⟩
      simp only [Bool.and_eq_false_iff, decide_eq_false_iff_not]
      left
      intro m
      rcases List.mem_cons.mp m with q | q
      · omega
      · have := s1 _ q
        omega
    · rw [List.find?_cons_of_neg hp]
      have same : ∀ j : Int, (decide (j ∈ a :: A) && p j) = (decide (j ∈ A) && p j) := fun j => by
        by_cases e : j = a
        · subst e
          simp at hp
          simp [hp]
        · simp [e]
      cases hf : A.find? p with
      | none =>
        rw [hf] at ih
        exact fun j hj => (same j).trans (ih j hj)
      | some i =>
        rw [hf] at ih
        obtain ⟨i1, i2, i3, i4⟩ := ih
        exact ⟨i1, i2, (same i).trans i3, fun j hj => (same j).trans (i4 j hj)⟩
end KL
namespace KL
@[simp] theorem refsL_append (a b : List D) : D.refsL (a ++ b) = D.refsL a ++ D.refsL b := by
  induction a with
  | nil => simp
  | cons d a ih => simp [ih]
theorem refsL_iff (l : List D) : D.refsL l = [] ↔ ∀ d ∈ l, d.refs = [] := by
  induction l with
  | nil => simp
  | cons d l ih => simp [ih]
@[simp] theorem refsL_reverse (l : List D) : (D.refsL l.reverse = []) = (D.refsL l = []) := by
  rw [refsL_iff, refsL_iff]
  simp
theorem refsL_take {l : List D} (h : D.refsL l = []) (n : Nat) : D.refsL (l.take n) = [] := by
  rw [refsL_iff] at h ⊢
  exact fun d m => h d (List.mem_of_mem_take m)
theorem refsL_drop {l : List D} (h : D.refsL l = []) (n : Nat) : D.refsL (l.drop n) = [] := by
  rw [refsL_iff] at h ⊢
  exact fun d m => h d (List.mem_of_mem_drop m)
@[simp] theorem refsL_takeI (l : List Int) (n : Nat) : D.refsL ((l.map D.int).take n) = [] := refsL_take (refs_ints l) n
@[simp] theorem refsL_dropI (l : List Int) (n : Nat) : D.refsL ((l.map D.int).drop n) = [] := refsL_drop (refs_ints l) n
end KL
namespace KL
@[simp] theorem ite_andpp {p : Prop} [Decidable p] {c : Bool} {s : Sto} : (if p then RE.ok (.bl c) s else RE.ok (.bl (decide p)) s) = .ok (.bl (decide p && c)) s := by
  by_cases h : p <;> simp [h]
@[simp] theorem ite_orpp {p : Prop} [Decidable p] {c : Bool} {s : Sto} : (if p then RE.ok (.bl (decide p)) s else RE.ok (.bl c) s) = .ok (.bl (decide p || c)) s := by
  by_cases h : p <;> simp [h]
end KL
namespace KL
@[simp] theorem cmp_is_bl {a b : Bool} {s : Sto} : cmpD .is_ (.bl a) (.bl b) s = some (a == b) := rfl
@[simp] theorem cmp_isn_bl {a b : Bool} {s : Sto} : cmpD .isnot (.bl a) (.bl b) s = some (!(a == b)) := rfl
@[simp] theorem cmp_is_bli {a : Int} {b : Bool} {s : Sto} : cmpD .is_ (.int a) (.bl b) s = some false := rfl
@[simp] theorem cmp_isn_bli {a : Int} {b : Bool} {s : Sto} : cmpD .isnot (.int a) (.bl b) s = some true := rfl
end KL
namespace KL
/-! ### data without refs -/
theorem deep_all : ∀ k : Nat, (∀ (d : D), sizeOf d < k → ∀ n m, deep n d = true → n ≤ m → deep m d = true ∧ d.refs = [] ∧ eqD d d = true) ∧ (∀ (l : List D), sizeOf l < k → ∀ n m, deepL n l = true → n ≤ m → deepL m l = true ∧ D.refsL l = [] ∧ eqL l l = true) := by
  intro k
  induction k with
  | zero => exact ⟨fun _ h => absurd h (Nat.not_lt_zero _), fun _ h => absurd h (Nat.not_lt_zero _)⟩
  | succ k ih =>
    refine ⟨fun d hk n m h hm => ?_, fun l hk n m h hm => ?_⟩
    · cases d with
      | non => cases m <;> exact ⟨rfl, by simp, rfl⟩
      | bl b => cases m <;> exact ⟨rfl, by simp, by simp [eqD]⟩
      | int i => cases m <;> exact ⟨rfl, by simp, by simp [eqD]⟩
      | str z => cases m <;> exact ⟨rfl, by simp, by simp [eqD]⟩
      | ref r => cases n <;> cases h
      | tup l =>
        cases n with
        | zero => cases h
        | succ n =>
          cases m with
          | zero => omega
          | succ m =>
            obtain ⟨h1, h2, h3⟩ := ih.2 l (by simp at hk; omega) n m h (by omega)
            exact ⟨h1, by simpa using h2, h3⟩
      | lst l =>
        cases n with
        | zero => cases h
        | succ n =>
          cases m with
          | zero => omega
          | succ m =>
            obtain ⟨h1, h2, h3⟩ := ih.2 l (by simp at hk; omega) n m h (by omega)
            exact ⟨h1, by simpa using h2, h3⟩
    · cases l with
      | nil => cases m <;> exact ⟨rfl, by simp, rfl⟩
      | cons d l =>
        simp at hk
        have h' : (deep n d && deepL n l) = true := by cases n <;> exact h
        obtain ⟨h1, h2⟩ := Bool.and_eq_true_iff.mp h'
        obtain ⟨a1, a2, a3⟩ := ih.1 d (by omega) n m h1 hm
        obtain ⟨b1, b2, b3⟩ := ih.2 l (by omega) n m h2 hm
        refine ⟨?_, by simp [a2, b2], by simp [eqL, a3, b3]⟩
        cases m <;> simp [deepL, a1, b1]
theorem deep_mono {n m : Nat} {d : D} (h : deep n d = true) (hm : n ≤ m) : deep m d = true := ((deep_all _).1 d (Nat.lt_succ_self _) n m h hm).1
theorem deepL_mono {n m : Nat} {l : List D} (h : deepL n l = true) (hm : n ≤ m) : deepL m l = true := ((deep_all _).2 l (Nat.lt_succ_self _) n m h hm).1
theorem deep_refs {n : Nat} {d : D} (h : deep n d = true) : d.refs = [] := ((deep_all _).1 d (Nat.lt_succ_self _) n n h (Nat.le_refl _)).2.1
theorem deepL_refs {n : Nat} {l : List D} (h : deepL n l = true) : D.refsL l = [] := ((deep_all _).2 l (Nat.lt_succ_self _) n n h (Nat.le_refl _)).2.1
theorem eqD_refl {n : Nat} {d : D} (h : deep n d = true) : eqD d d = true := ((deep_all _).1 d (Nat.lt_succ_self _) n n h (Nat.le_refl _)).2.2
theorem deepL_iff {n : Nat} {l : List D} : deepL n l = true ↔ ∀ d ∈ l, deep n d = true := by
  induction l with
  | nil => cases n <;> simp [deepL]
  | cons d l ih =>
    have e : deepL n (d :: l) = (deep n d && deepL n l) := by cases n <;> rfl
    rw [e, Bool.and_eq_true, ih]
    simp
@[simp] theorem deep_tup {n : Nat} {l : List D} : deep (n + 1) (.tup l) = deepL n l := by rw [deep]
@[simp] theorem deep_lst {n : Nat} {l : List D} : deep (n + 1) (.lst l) = deepL n l := by rw [deep]
@[simp] theorem deep_int {n : Nat} {i : Int} : deep n (.int i) = true := by cases n <;> rfl
@[simp] theorem deep_bl {n : Nat} {i : Bool} : deep n (.bl i) = true := by cases n <;> rfl
@[simp] theorem deep_str {n : Nat} {i : String} : deep n (.str i) = true := by cases n <;> rfl
@[simp] theorem deep_non {n : Nat} : deep n .non = true := by cases n <;> rfl
@[simp] theorem deepL_nil {n : Nat} : deepL n [] = true := by cases n <;> rfl
@[simp] theorem deepL_cons {n : Nat} {d : D} {l : List D} : deepL n (d :: l) = (deep n d && deepL n l) := by cases n <;> rfl
@[simp] theorem deepL_int {n : Nat} {l : List Int} : deepL n (l.map D.int) = true := deepL_ints n l
theorem asV_deep {n : Nat} {d : D} {s : Sto} (h : deep n d = true) : asV s d = d := by
  cases d with
  | ref r => cases n <;> cases h
  | _ => rfl
theorem eqOk_deep {a b : D} {n : Nat} (ha : deep n a = true) (hb : deep n b = true) (hn : n ≤ 60) : eqOk a b = true := by
  unfold eqOk
  rw [deep_refs ha, deep_refs hb, deep_mono ha hn]
  rfl
/-- == of data -/
theorem cmp_eq_deep {a b : D} {n : Nat} {s : Sto} (ha : deep n a = true) (hb : deep n b = true) (hn : n ≤ 60) : cmpD .eq a b s = some (eqD a b) := by
  have e : cmpD .eq a b s = if eqOk (asV s a) (asV s b) then some (eqD (asV s a) (asV s b)) else none := by
    cases a <;> cases b <;> rfl
  rw [e, asV_deep ha, asV_deep hb, eqOk_deep ha hb hn]
  rfl
theorem cmp_ne_deep {a b : D} {n : Nat} {s : Sto} (ha : deep n a = true) (hb : deep n b = true) (hn : n ≤ 60) : cmpD .ne a b s = some (!eqD a b) := by
  have e : cmpD .ne a b s = if eqOk (asV s a) (asV s b) then some (!eqD (asV s a) (asV s b)) else none := by
    cases a <;> cases b <;> rfl
  rw [e, asV_deep ha, asV_deep hb, eqOk_deep ha hb hn]
  rfl
/-- a list beside the empty one, however deep -/
theorem cmp_eq_nil {l : List D} {s : Sto} (h : D.refsL l = []) : cmpD .eq (.lst l) (.lst []) s = some l.isEmpty := by
  have e : cmpD .eq (.lst l) (.lst []) s = if eqOk (.lst l) (.lst []) then some (eqD (.lst l) (.lst [])) else none := rfl
  have q : eqOk (.lst l) (.lst []) = true := by
    unfold eqOk
    rw [show (D.lst l).refs = D.refsL l from rfl, h]
    simp
  rw [e, q]
  cases l <;> rfl
theorem cmp_eq_self {a : D} {n : Nat} {s : Sto} (ha : deep n a = true) (hn : n ≤ 60) : cmpD .eq a a s = some true := by rw [cmp_eq_deep ha ha hn, eqD_refl ha]
theorem cmp_ne_self {a : D} {n : Nat} {s : Sto} (ha : deep n a = true) (hn : n ≤ 60) : cmpD .ne a a s = some false := by rw [cmp_ne_deep ha ha hn, eqD_refl ha]; rfl
/-- a sign of a text -/
theorem idx_str {z : String} {i : Int} {s : Sto} (h0 : 0 ≤ i) (h1 : i < z.length) (hl : z.length ≤ lim) : ∃ c, idxD (.str z) (.int i) s = .ok (.str (String.ofList [c])) s := by
  have hlen : z.toList.length = z.length := by first | rfl | simp | exact String.length_toList
  have h2 : i.toNat < z.toList.length := by omega
  refine ⟨z.toList[i.toNat], ?_⟩
  show (match atD z.toList i with
      | some c => if z.length ≤ lim then RE.ok (.str (String.ofList [c])) s else .bad
      | none => .bad) = _
  rw [atD_nat h0, List.getElem?_eq_getElem h2]
  simp [hl]
@[simp] theorem len_sign (c : Char) : (String.ofList [c]).length = 1 := by simp
theorem atD_get {l : List D} {i : Int} (h0 : 0 ≤ i) (h1 : i < l.length) : ∃ d ∈ l, atD l i = some d := by
  rw [atD_nat h0]
  have h : i.toNat < l.length := by omega
  exact ⟨l[i.toNat], List.getElem_mem h, List.getElem?_eq_getElem h⟩
theorem atD_at {α : Type} {l : List α} {i : Int} {n : Nat} (h0 : i = n) : atD l i = l[n]? := by
  subst h0
  rw [atD_nat (by omega)]
  simp
end KL
namespace KL
theorem idx_str1 {z : String} {i : Int} {s : Sto} (h0 : 0 ≤ i) (h1 : i < z.length) (hl : z.length ≤ lim) : ∃ y : String, y.length = 1 ∧ idxD (.str z) (.int i) s = .ok (.str y) s := by
  obtain ⟨c, e⟩ := idx_str (s := s) h0 h1 hl
  exact ⟨_, len_sign c, e⟩
end KL
namespace KL
@[simp] theorem atD_0 {α : Type} {x : α} {l : List α} : atD (x :: l) 0 = some x := by simp [atD]
@[simp] theorem atD_1 {α : Type} {x y : α} {l : List α} : atD (x :: y :: l) 1 = some y := by simp [atD]
@[simp] theorem atD_2 {α : Type} {x y z : α} {l : List α} : atD (x :: y :: z :: l) 2 = some z := by simp [atD]
@[simp] theorem atD_3 {α : Type} {x y z w : α} {l : List α} : atD (x :: y :: z :: w :: l) 3 = some w := by simp [atD]
theorem atD_lt {l : List D} {i : Nat} (h : i < l.length) : atD l (i : Int) = some l[i] := by
  rw [atD_at rfl, List.getElem?_eq_getElem h]
end KL
namespace KL
theorem pickD {l : List D} {i : Int} {s : Sto} (h0 : 0 ≤ i) (h1 : i < l.length) : ∃ d ∈ l, idK (atD l i) s = .ok d s := by
  obtain ⟨d, m, e⟩ := atD_get h0 h1
  exact ⟨d, m, by rw [e]; rfl⟩
end KL

namespace KL
/-! ### exceptions -/
section
variable {C : Ctx} {ρ : Env} {s : Sto} {cls c : String} {i : Nat} {hs : List HS} {cl : List (String × List HS)}
@[simp] theorem ctx_sub (P : Prog) (wf : Nat) (r : String → List D → Sto → RE) : (ctxOf P wf r).sub = P.sub := rfl
@[simp] theorem ctx_xf (P : Prog) (wf : Nat) (r : String → List D → Sto → RE) : (ctxOf P wf r).xf = P.xf := rfl
@[simp] theorem ex_tryAs {body : List S} : exec C (.tryAs body cls i hs) ρ s = catchAs C cls i hs (execs C body ρ s) := by rw [exec]
@[simp] theorem ex_tryM {body : List S} : exec C (.tryM body cl) ρ s = catchM C cl (execs C body ρ s) := by rw [exec]
def tryK (o : Option Bool) (a b : RS) : RS := match o with
  | some true => a
  | some false => b
  | none => .bad
@[simp] theorem tryK_true {a b : RS} : tryK (some true) a b = a := rfl
@[simp] theorem tryK_false {a b : RS} : tryK (some false) a b = b := rfl
@[simp] theorem catchAs_next : catchAs C cls i hs (.next ρ s) = .next ρ s := rfl
@[simp] theorem catchAs_ret {d : D} : catchAs C cls i hs (.ret d s) = .ret d s := rfl
@[simp] theorem catchAs_retN {d : List D} : catchAs C cls i hs (.retN d s) = .retN d s := rfl
@[simp] theorem catchAs_exn : catchAs C cls i hs (.exn c ρ s) = tryK (C.sub c cls) (if i < ρ.length then endH (runHs C.sub C.xf (some i) c (ρ.set i none) hs) (ρ.set i none) s else .bad) (.exn c ρ s) := by
  unfold catchAs tryK
  rfl
@[simp] theorem catchM_next : catchM C cl (.next ρ s) = .next ρ s := rfl
@[simp] theorem catchM_ret {d : D} : catchM C cl (.ret d s) = .ret d s := rfl
@[simp] theorem catchM_retN {d : List D} : catchM C cl (.retN d s) = .retN d s := rfl
@[simp] theorem catchM_exn : catchM C cl (.exn c ρ s) = catchL C c ρ s cl := rfl
@[simp] theorem catchL_cons {k : String} : catchL C c ρ s ((k, hs) :: cl) = tryK (C.sub c k) (endH (runHs C.sub C.xf none c ρ hs) ρ s) (catchL C c ρ s cl) := by
  show (match C.sub c k with
    | some true => _
    | some false => _
    | none => _) = _
  unfold tryK
  rfl
@[simp] theorem catchL_nil : catchL C c ρ s [] = .exn c ρ s := rfl
@[simp] theorem endH_ret {d : D} : endH (some (.ret d)) ρ s = .ret d s := rfl
@[simp] theorem endH_retL : endH (some .retL) ρ s = .retN [] s := rfl
@[simp] theorem endH_next : endH (some .next) ρ s = .next ρ s := rfl
end
section
variable {sub : String → String → Option Bool} {xf : String → String → Option D} {i : Option Nat} {c : String} {ρ : Env}
def retH (o : Option D) : Option HR := match o with
  | some d => some (.ret d)
  | none => none
@[simp] theorem retH_some {d : D} : retH (some d) = some (.ret d) := rfl
def iffH (o : Option D) (a : Option HR) : Option HR := match o with
  | some (.bl true) => a
  | some (.bl false) => some .next
  | _ => none
@[simp] theorem iffH_bl {b : Bool} {a : Option HR} : iffH (some (.bl b)) a = if b = true then a else some .next := by cases b <;> rfl
def seqH (o : Option HR) (a : Option HR) : Option HR := match o with
  | some .next => a
  | r => r
@[simp] theorem seqH_ret {d : D} {a : Option HR} : seqH (some (.ret d)) a = some (.ret d) := rfl
@[simp] theorem seqH_retL {a : Option HR} : seqH (some .retL) a = some .retL := rfl
@[simp] theorem seqH_next {a : Option HR} : seqH (some .next) a = a := rfl
@[simp] theorem runHs_nil : runHs sub xf i c ρ [] = some .next := by unfold runHs; rfl
@[simp] theorem runHs_cons {h : HS} {hs : List HS} : runHs sub xf i c ρ (h :: hs) = seqH (runH sub xf i c ρ h) (runHs sub xf i c ρ hs) := by
  rw [runHs]
  unfold seqH
  rfl
@[simp] theorem runH_ret {e : HE} : runH sub xf i c ρ (.ret e) = retH (evalH sub xf i c ρ e) := by
  rw [runH]
  rfl
@[simp] theorem runH_retL : runH sub xf i c ρ .retL = some .retL := by rw [runH]
@[simp] theorem runH_iff {t : HE} {a : List HS} : runH sub xf i c ρ (.iff t a) = iffH (evalH sub xf i c ρ t) (runHs sub xf i c ρ a) := by
  rw [runH]
  rfl
def varHK (o : Option (Option D)) : Option D := match o with
  | some (some d) => if flat d then some d else none
  | _ => none
@[simp] theorem varHK_some {d : D} : varHK (some (some d)) = if flat d then some d else none := rfl
@[simp] theorem evH_var {j : Nat} : evalH sub xf i c ρ (.var j) = varHK ρ[j]? := rfl
@[simp] theorem evH_con {d : D} : evalH sub xf i c ρ (.con d) = if flat d then some d else none := rfl
@[simp] theorem flat_bl {b : Bool} : flat (.bl b) = true := rfl
@[simp] theorem flat_int {b : Int} : flat (.int b) = true := rfl
@[simp] theorem flat_str {b : String} : flat (.str b) = true := rfl
@[simp] theorem flat_non : flat .non = true := rfl
def notH (o : Option D) : Option D := match o with
  | some (.bl b) => some (.bl (!b))
  | _ => none
@[simp] theorem notH_bl {b : Bool} : notH (some (.bl b)) = some (.bl (!b)) := rfl
@[simp] theorem evH_not {a : HE} : evalH sub xf i c ρ (.not a) = notH (evalH sub xf i c ρ a) := by rw [evalH]; rfl
def andH (o : Option D) (r : Option D) : Option D := match o with
  | some (.bl true) => r
  | some (.bl false) => some (.bl false)
  | _ => none
@[simp] theorem andH_bl {b d : Bool} : andH (some (.bl b)) (some (.bl d)) = some (.bl (b && d)) := by cases b <;> rfl
theorem andH_f {r : Option D} : andH (some (.bl false)) r = some (.bl false) := rfl
@[simp] theorem evH_and {a b : HE} : evalH sub xf i c ρ (.and a b) = andH (evalH sub xf i c ρ a) (evalH sub xf i c ρ b) := by rw [evalH]; rfl
def orH (o : Option D) (r : Option D) : Option D := match o with
  | some (.bl true) => some (.bl true)
  | some (.bl false) => r
  | _ => none
@[simp] theorem orH_bl {b d : Bool} : orH (some (.bl b)) (some (.bl d)) = some (.bl (b || d)) := by cases b <;> rfl
@[simp] theorem evH_or {a b : HE} : evalH sub xf i c ρ (.or a b) = orH (evalH sub xf i c ρ a) (evalH sub xf i c ρ b) := by rw [evalH]; rfl
def isNoneK (o : Option (Option D)) : Option D := match o with
  | some (some .non) => some (.bl true)
  | some (some _) => some (.bl false)
  | _ => none
@[simp] theorem isNoneK_non : isNoneK (some (some .non)) = some (.bl true) := rfl
@[simp] theorem isNoneK_int {k : Int} : isNoneK (some (some (.int k))) = some (.bl false) := rfl
@[simp] theorem isNoneK_opt {o : Option Int} : isNoneK (some (some (optD o))) = some (.bl o.isNone) := by cases o <;> rfl
@[simp] theorem evH_isNone {j : Nat} : evalH sub xf i c ρ (.isNone j) = isNoneK ρ[j]? := by
  rw [evalH]
  unfold isNoneK
  rfl
def blH (o : Option Bool) : Option D := match o with
  | some b => some (.bl b)
  | none => none
@[simp] theorem blH_some {b : Bool} : blH (some b) = some (.bl b) := rfl
@[simp] theorem evH_isx {j : Nat} {cs : List String} : evalH sub xf i c ρ (.isx j cs) = if i = some j then blH (isAny sub c cs) else none := by
  rw [evalH]
  rfl
def anyK (o : Option Bool) (r : Option Bool) : Option Bool := match o with
  | some true => some true
  | some false => r
  | none => none
@[simp] theorem anyK_t {r : Option Bool} : anyK (some true) r = some true := rfl
@[simp] theorem anyK_f {r : Option Bool} : anyK (some false) r = r := rfl
@[simp] theorem isAny_nil : isAny sub c [] = some false := rfl
@[simp] theorem isAny_cons {k : String} {cs : List String} : isAny sub c (k :: cs) = anyK (sub c k) (isAny sub c cs) := by
  show (match sub c k with
    | some true => some true
    | some false => isAny sub c cs
    | none => none) = _
  unfold anyK
  rfl
def xcK (o : Option D) : Option D := match o with
  | some d => if flat d then some d else none
  | none => none
@[simp] theorem xcK_some {d : D} : xcK (some d) = if flat d then some d else none := rfl
@[simp] theorem evH_xcall {f : String} {j : Nat} : evalH sub xf i c ρ (.xcall f j) = if i = some j then xcK (xf f c) else none := by
  rw [evalH]
  rfl
def pickK (ss : List String) (o : Option D) : Option D := match o with
  | some (.bl k) => (match ss[(if k then 1 else 0)]? with
      | some z => some (.str z)
      | none => none)
  | _ => none
@[simp] theorem pickK_bl {a b : String} {k : Bool} : pickK [a, b] (some (.bl k)) = some (.str (if k then b else a)) := by cases k <;> rfl
@[simp] theorem evH_pick {ss : List String} {b : HE} : evalH sub xf i c ρ (.pick ss b) = pickK ss (evalH sub xf i c ρ b) := by
  rw [evalH]
  rfl
end
end KL

set_option Elab.async false
set_option linter.all false
set_option maxRecDepth 100000
set_option maxHeartbeats 0
set_option autoImplicit false
namespace Qk20
open PySem PySem.Spec PyProof.Rows L2 KL
def fd_most_e1 : E := .var 3
def fd_most_c2 : List E := [(.cmp .in_ (.var 3) (.var 1))]
def fd_most : FDef := ⟨2, 4, [.asg 2 (.bi .len [(.comp fd_most_e1 [3] .seq [(.var 0)] fd_most_c2)]),
    .ret (.cmp .gt (.bin .mul (.con (.int 2)) (.var 2)) (.bi .len [(.var 0)]))]⟩
def fd__law_cell_at : FDef := ⟨2, 2, [.if_ (.cmp .lt (.var 1) (.bi .len [(.var 0)])) [.ret (.idx (.var 0) (.var 1))] [],
    .ret (.con (.int 0))]⟩
def fd__law_whole : FDef := ⟨1, 1, [.ret (.and (.isi (.var 0) [.int]) (.not (.isi (.var 0) [.bool])))]⟩
def fd__law_mixed : FDef := ⟨2, 3, [.asg 2 (.bin .mod (.bin .mul (.bin .add (.var 0) (.bin .mul (.con (.int 7919)) (.var 1))) (.con (.int 48271))) (.con (.int 2147483647))),
    .ret (.bin .mod (.bin .mul (.var 2) (.var 2)) (.con (.int 2147483647)))]⟩
def fd__law_some_b1 : List S := [.if_ (.cmp .eq (.bin .mod (.var 1) (.con (.int 2))) (.con (.int 1))) [.expr (.met .append (.var 2) [(.var 3)])] [],
    .asg 1 (.bin .fdiv (.var 1) (.con (.int 2)))]
def fd__law_some : FDef := ⟨1, 4, [.asg 1 (.bin .mod (.var 0) (.con (.int 512))),
    .asgB 2 (.lst []),
    .for_ [3] .range1 [(.con (.int 9))] fd__law_some_b1,
    .ret (.var 2)]⟩
def fd__law_seats : FDef := ⟨1, 2, [.asg 1 (.call "_law_some" [(.var 0)]),
    .if_ (.cmp .eq (.bi .len [(.var 1)]) (.con (.int 0))) [.asg 1 (.lst [(.bin .mod (.bin .fdiv (.var 0) (.con (.int 512))) (.con (.int 9)))])] [],
    .ret (.bi .tuple [(.var 1)])]⟩
def fd__law_turned : FDef := ⟨2, 4, [.asg 2 (.bin .mod (.var 1) (.bi .max [(.con (.int 1)), (.bi .len [(.var 0)])])),
    .asgB 3 (.bin .add (.bi .list [(.slice (.var 0) [(.var 2)] [])]) (.bi .list [(.slice (.var 0) [] [(.var 2)])])),
    .if_ (.cmp .eq (.bin .mod (.bin .fdiv (.var 1) (.con (.int 9))) (.con (.int 2))) (.con (.int 1))) [.expr (.met .reverse (.var 3) [])] [],
    .ret (.bi .tupN [(.var 3)])]⟩
def fd__law_near_e1 : E := .var 3
def fd__law_near_c2 : List E := [(.cmp .notin (.var 3) (.var 0))]
def fd__law_near : FDef := ⟨2, 4, [.asg 2 (.bi .max [(.con (.int 0)), (.bin .sub (.bin .add (.bin .fdiv (.bi .len [(.var 0)]) (.con (.int 2))) (.bin .mod (.var 1) (.con (.int 3)))) (.con (.int 1)))]),
    .ret (.bin .add (.bi .list [(.slice (.var 0) [] [(.var 2)])]) (.comp fd__law_near_e1 [3] .seq [(.call "_law_some" [(.bin .fdiv (.var 1) (.con (.int 3)))])] fd__law_near_c2))]⟩
def fd_law_b1 : List S := [.asg 3 (.bin .add (.var 3) (.met .tcount (.var 2) [(.var 4)]))]
def fd_law : FDef := ⟨1, 6, [.asg 1 (.call "_law_seats" [(.call "_law_cell_at" [(.var 0), (.con (.int 0))])]),
    .asg 2 (.call "_law_some" [(.call "_law_cell_at" [(.var 0), (.con (.int 1))])]),
    .if_ (.cmp .eq (.bin .mod (.call "_law_cell_at" [(.var 0), (.con (.int 2))]) (.con (.int 3))) (.con (.int 1))) [.asg 2 (.call "_law_near" [(.call "_law_turned" [(.var 1), (.call "_law_cell_at" [(.var 0), (.con (.int 3))])]), (.call "_law_cell_at" [(.var 0), (.con (.int 1))])])] [],
    .asg 2 (.call "_law_turned" [(.var 2), (.bin .fdiv (.call "_law_cell_at" [(.var 0), (.con (.int 2))]) (.con (.int 3)))]),
    .asg 3 (.con (.int 0)),
    .for_ [4] .seq [(.var 1)] fd_law_b1,
    .asg 5 (.call "most" [(.var 1), (.var 2)]),
    .ret (.and (.isi (.var 5) [.bool]) (.cmp .eq (.var 5) (.cmp .gt (.bin .add (.var 3) (.var 3)) (.bi .len [(.var 1)]))))]⟩
abbrev top (i : Nat) : Stmt := PySem.Challenge.pw_keeplog_k20_most_of_seats.main.body.getD i (.Pass ⟨0, 0, 0, 0⟩)
def inn (s : Stmt) (j : Nat) : Stmt := match s with
  | .ClassDef _ _ _ body _ _ _ _ _ _ _ => body.getD j (.Pass ⟨0, 0, 0, 0⟩)
  | _ => .Pass ⟨0, 0, 0, 0⟩
def t_most : FnT := ⟨none, "most", ⟨("most", none), "most", "most", defArgs (top 1), defBody (top 1), defScope (top 1), [], []⟩, ["seats", "those"], ["seats", "those", "among", "seat"], fd_most⟩
theorem b_most : BdOk t_most := fun _ _ _ _ _ _ us hl => match us, hl with | [_, _], _ => rfl
def t__law_cell_at : FnT := ⟨none, "_law_cell_at", ⟨("_law_cell_at", none), "_law_cell_at", "_law_cell_at", defArgs (top 3), defBody (top 3), defScope (top 3), [], []⟩, ["_law_script", "_law_k"], ["_law_script", "_law_k"], fd__law_cell_at⟩
theorem b__law_cell_at : BdOk t__law_cell_at := fun _ _ _ _ _ _ us hl => match us, hl with | [_, _], _ => rfl
def t__law_whole : FnT := ⟨none, "_law_whole", ⟨("_law_whole", none), "_law_whole", "_law_whole", defArgs (top 4), defBody (top 4), defScope (top 4), [], []⟩, ["_law_found"], ["_law_found"], fd__law_whole⟩
theorem b__law_whole : BdOk t__law_whole := fun _ _ _ _ _ _ us hl => match us, hl with | [_], _ => rfl
def t__law_mixed : FnT := ⟨none, "_law_mixed", ⟨("_law_mixed", none), "_law_mixed", "_law_mixed", defArgs (top 5), defBody (top 5), defScope (top 5), [], []⟩, ["_law_cell", "_law_k"], ["_law_cell", "_law_k", "_law_drawn"], fd__law_mixed⟩
theorem b__law_mixed : BdOk t__law_mixed := fun _ _ _ _ _ _ us hl => match us, hl with | [_, _], _ => rfl
def t__law_some : FnT := ⟨none, "_law_some", ⟨("_law_some", none), "_law_some", "_law_some", defArgs (top 6), defBody (top 6), defScope (top 6), [], []⟩, ["_law_cell"], ["_law_cell", "_law_left", "_law_found", "_law_seat"], fd__law_some⟩
theorem b__law_some : BdOk t__law_some := fun _ _ _ _ _ _ us hl => match us, hl with | [_], _ => rfl
def t__law_seats : FnT := ⟨none, "_law_seats", ⟨("_law_seats", none), "_law_seats", "_law_seats", defArgs (top 7), defBody (top 7), defScope (top 7), [], []⟩, ["_law_cell"], ["_law_cell", "_law_found"], fd__law_seats⟩
theorem b__law_seats : BdOk t__law_seats := fun _ _ _ _ _ _ us hl => match us, hl with | [_], _ => rfl
def t__law_turned : FnT := ⟨none, "_law_turned", ⟨("_law_turned", none), "_law_turned", "_law_turned", defArgs (top 8), defBody (top 8), defScope (top 8), [], []⟩, ["_law_row", "_law_cell"], ["_law_row", "_law_cell", "_law_at", "_law_found"], fd__law_turned⟩
theorem b__law_turned : BdOk t__law_turned := fun _ _ _ _ _ _ us hl => match us, hl with | [_, _], _ => rfl
def t__law_near : FnT := ⟨none, "_law_near", ⟨("_law_near", none), "_law_near", "_law_near", defArgs (top 9), defBody (top 9), defScope (top 9), [], []⟩, ["_law_seats_here", "_law_cell"], ["_law_seats_here", "_law_cell", "_law_many", "_law_seat"], fd__law_near⟩
theorem b__law_near : BdOk t__law_near := fun _ _ _ _ _ _ us hl => match us, hl with | [_, _], _ => rfl
def t_law : FnT := ⟨none, "law", ⟨("law", none), "law", "law", defArgs (top 10), defBody (top 10), defScope (top 10), [], []⟩, ["_law_script"], ["_law_script", "_law_seats_here", "_law_those", "_law_among", "_law_seat", "_law_found"], fd_law⟩
theorem b_law : BdOk t_law := fun _ _ _ _ _ _ us hl => match us, hl with | [_], _ => rfl
def fns : List FnT := [t_most, t__law_cell_at, t__law_whole, t__law_mixed, t__law_some, t__law_seats, t__law_turned, t__law_near, t_law]
def PDt : PD := ⟨fns, ["len", "isinstance", "bool", "int", "range", "tuple", "max", "list"], [], ["_law_some", "_law_seats", "_law_cell_at", "_law_near", "_law_turned", "most", "law"], [], [], [], [], [], [], [], [], []⟩
theorem hB : BdP PDt := ⟨⟨b_most, b__law_cell_at, b__law_whole, b__law_mixed, b__law_some, b__law_seats, b__law_turned, b__law_near, b_law, trivial⟩, trivial⟩
theorem ok : PDt.ok = true := by decide +kernel
@[simp] theorem fn_most : PDt.prog.fn "most" = some fd_most := rfl
@[simp] theorem fn__law_cell_at : PDt.prog.fn "_law_cell_at" = some fd__law_cell_at := rfl
@[simp] theorem fn__law_whole : PDt.prog.fn "_law_whole" = some fd__law_whole := rfl
@[simp] theorem fn__law_mixed : PDt.prog.fn "_law_mixed" = some fd__law_mixed := rfl
@[simp] theorem fn__law_some : PDt.prog.fn "_law_some" = some fd__law_some := rfl
@[simp] theorem fn__law_seats : PDt.prog.fn "_law_seats" = some fd__law_seats := rfl
@[simp] theorem fn__law_turned : PDt.prog.fn "_law_turned" = some fd__law_turned := rfl
@[simp] theorem fn__law_near : PDt.prog.fn "_law_near" = some fd__law_near := rfl
@[simp] theorem fn_law : PDt.prog.fn "law" = some fd_law := rfl
def names : List PySem.Str := (["most", "_law_cell_at", "_law_whole", "_law_mixed", "_law_some", "_law_seats", "_law_turned", "_law_near"] : List PySem.Str)
def lawAt : Nat := 10

def steps : Nat := 12000
theorem law_in : t_law ∈ PDt.fns := by simp [PDt, fns]
theorem law_calls : t_law.nm ∈ PDt.calls := by simp [PDt, t_law]
abbrev R : PySem.W.OpenRow := PySem.W.OpenLaw.row PySem.Challenge.rw_keeplog_k20_most_of_seats
abbrev hk : PySem.W.Hook := KL.hookY 1000 PDt.fa PDt.defs (chk PDt)
def ob (s : PySem.W.SharedT) : He.AlX := KL.obsY 1000 PDt.fa PDt.defs (chk PDt) (HandSHeadRun.getT s) s.n
theorem ob_eq (s : PySem.W.SharedT) : ob s = hk.obs s.abs := KL.obsY_eq (HandSHeadRun.getT_eq s) (PySem.W.absHeap_size s.tree s.n s.life).symm
theorem hp1 (w : World) : KL.HP1 R (PySem.W.view R.prog [lawAt]) steps names w := by
  intro os
  kernel_rfl
theorem hp2 (w : World) : KL.HP2 R 1000 steps (PDt.fa.take 80) w := by
  intro os
  kernel_rfl
theorem hp2b (w : World) : KL.HP2 R 1000 steps (PDt.fa.drop 80) w := by
  intro os
  kernel_rfl
theorem hp3 (w : World) : KL.HP3 R 1000 steps (PDt.defs.take 50) w := by
  intro os
  kernel_rfl
theorem hp3b (w : World) : KL.HP3 R 1000 steps (PDt.defs.drop 50) w := by
  intro os
  kernel_rfl
theorem hp4 (w : World) : KL.HP4 R 1000 steps (PDt.defs.take 50) w := by
  intro os
  kernel_rfl
theorem hp4b (w : World) : KL.HP4 R 1000 steps (PDt.defs.drop 50) w := by
  intro os
  kernel_rfl
theorem hp5 (w : World) : KL.HP5 R 1000 steps (chk PDt) w := by
  intro os
  kernel_rfl
theorem head (w : World) : HandSHeadRun.RunEq R (PySem.W.view R.prog [lawAt]) hk ob steps names w :=
  KL.head_parts (fun _ => rfl) 50 80 (hp1 w) (hp2 w) (hp2b w) (hp3 w) (hp3b w) (hp4 w) (hp4b w) (hp5 w)
end Qk20

set_option linter.all false
set_option autoImplicit false
/-! KLMore: more of the interpreter, stepped by simp. -/
namespace KL
@[simp] theorem it_enum {l : List D} {s : Sto} : items .enum [.tup l] s = some (enumD 0 l, none) := rfl
@[simp] theorem it_enumL {l : List D} {s : Sto} : items .enum [.lst l] s = some (enumD 0 l, none) := rfl
@[simp] theorem enumD_len : ∀ (l : List D) (k : Nat), (enumD k l).length = l.length
  | [], _ => rfl
  | d :: l, k => by rw [enumD, List.length_cons, enumD_len l (k + 1), List.length_cons]
theorem enumD_get : ∀ (l : List D) (k i : Nat) (d : D), (enumD k l)[i]? = some d → ∃ x, l[i]? = some x ∧ d = .tup [.int ((k + i : Nat) : Int), x]
  | [], _, _, _, h => by simp [enumD] at h
  | x :: l, k, 0, d, h => by
    simp [enumD] at h
    exact ⟨x, rfl, by rw [← h]; simp⟩
  | x :: l, k, i + 1, d, h => by
    simp only [enumD, List.getElem?_cons_succ] at h
    obtain ⟨y, h1, h2⟩ := enumD_get l (k + 1) i d h
    exact ⟨y, by simpa using h1, by rw [h2]; congr 3; omega⟩
theorem atD_getD {l : List D} {i : Int} (h0 : 0 ≤ i) (h1 : i < l.length) : atD l i = some (l.getD i.toNat .non) := by
  have hi : i.toNat < l.length := by omega
  have := atD_lt hi
  rw [show ((i.toNat : Nat) : Int) = i by omega] at this
  rw [this, List.getD_eq_getElem?_getD, List.getElem?_eq_getElem hi]
  rfl
theorem cut_mid {l : List D} {a m : Int} (h0 : 0 ≤ a) (hm : 0 ≤ m) : cutD l (some a) (some (a + m)) = (l.drop a.toNat).take m.toNat := by
  unfold cutD sIx
  have h1 : ¬ a < 0 := by omega
  have h2 : ¬ a + m < 0 := by omega
  simp only [if_neg h1, if_neg h2]
  by_cases q : a.toNat ≤ l.length
  · rw [Nat.min_eq_left q, List.take_eq_take_iff, List.length_drop]
    omega
  · have e1 : min a.toNat l.length = l.length := by omega
    have e2 : l.drop a.toNat = [] := List.drop_eq_nil_of_le (by omega)
    rw [e1, e2]
    simp
theorem least_exists (q : Int → Bool) : ∀ n : Nat, ∃ r, IsLeast q n r
  | 0 => ⟨none, fun j hj => absurd hj (Nat.not_lt_zero _)⟩
  | n + 1 => by
    obtain ⟨r, hr⟩ := least_exists q n
    cases r with
    | some i =>
      obtain ⟨h1, h2, h3, h4⟩ := hr
      exact ⟨some i, h1, by omega, h3, h4⟩
    | none =>
      by_cases hq : q n = true
      · exact ⟨some n, by omega, by omega, hq, fun j hj => hr j (by omega)⟩
      · refine ⟨none, fun j hj => ?_⟩
        by_cases e : j = n
        · subst e
          simpa using hq
        · exact hr j (by omega)
/-! ### objects -/
section
variable {C : Ctx} {ρ : Env} {s : Sto} {f m c : String} {n : Nat} {d : D}
def attG (C : Ctx) (f : String) (o : Option Cell) (s : Sto) : RE := match o with
  | some (.ins c fs) => if C.att c f = true then idK (lookF f fs) s else .bad
  | _ => .bad
@[simp] theorem attG_some {fs : List (String × D)} : attG C f (some (.ins c fs)) s = if C.att c f = true then idK (lookF f fs) s else .bad := rfl
@[simp] theorem attK_ref : attK C f (.ref n) s = attG C f s[n]? s := by
  unfold attK attG idK
  rfl
def fldG (C : Ctx) (f : String) (d : D) (n : Nat) (o : Option Cell) (ρ : Env) (s : Sto) : RS := match o with
  | some (.ins c fs) => if C.att c f = true ∧ fs.length < 100 then .next ρ (s.set n (.ins c (putF f d fs))) else .bad
  | _ => .bad
@[simp] theorem fldG_some {fs : List (String × D)} : fldG C f d n (some (.ins c fs)) ρ s = if C.att c f = true ∧ fs.length < 100 then .next ρ (s.set n (.ins c (putF f d fs))) else .bad := rfl
def fldK (C : Ctx) (f : String) (d x : D) (ρ : Env) (s : Sto) : RS := match x with
  | .ref n => fldG C f d n s[n]? ρ s
  | _ => .bad
@[simp] theorem fldK_ref : fldK C f d (.ref n) ρ s = fldG C f d n s[n]? ρ s := rfl
@[simp] theorem ex_fld {o e : E} : exec C (.fld o f e) ρ s = (evalE C e ρ s).st ρ fun d s => (evalE C o ρ s).st ρ fun x s => fldK C f d x ρ s := by
  rw [exec]
  rfl
def noK (o : Option D) (r : RE) : RE := match o with
  | none => r
  | some _ => .bad
@[simp] theorem noK_none {r : RE} : noK none r = r := rfl
def umG (C : Ctx) (m : String) (o : Option Cell) (k : String → RE) : RE := match o with
  | some (.ins c fs) => if C.met c m = true then noK (lookF m fs) (k c) else .bad
  | _ => .bad
@[simp] theorem umG_some {fs : List (String × D)} {k : String → RE} : umG C m (some (.ins c fs)) k = if C.met c m = true then noK (lookF m fs) (k c) else .bad := rfl
def umK (C : Ctx) (m : String) (x : D) (s : Sto) (k : Nat → String → RE) : RE := match x with
  | .ref n => umG C m s[n]? (k n)
  | _ => .bad
@[simp] theorem umK_ref {k : Nat → String → RE} : umK C m (.ref n) s k = umG C m s[n]? (k n) := rfl
@[simp] theorem ev_umet {o : E} {es : List E} : evalE C (.umet m o es) ρ s = (evalE C o ρ s).bind fun x s => umK C m x s fun n c => (evalEs C es ρ s).bind fun l s => C.call (c ++ "." ++ m) (.ref n :: l) s := by
  rw [evalE]
  rfl
def mkK (n : Nat) (r : RE) : RE := match r with
  | .ok .non s' => .ok (.ref n) s'
  | .exn c s' => .exn c s'
  | _ => .bad
@[simp] theorem mkK_ok : mkK n (.ok .non s) = .ok (.ref n) s := rfl
@[simp] theorem mkK_exn : mkK n (.exn c s) = .exn c s := rfl
@[simp] theorem makeR_eq {P : Prog} {r : String → List D → Sto → RE} {l : List D} : makeR P r c l s = if P.cls c = true then mkK s.length (r (c ++ "." ++ "__init__") (.ref s.length :: l) (s ++ [.ins c []])) else .bad := rfl
end
/-! ### a call's end, where no cell is new -/
theorem finish_ret_len {s s' : Sto} {d : D} (h : s'.length = s.length) : finish s (.ret d s') = .ok d s' := by
  have ht : s'.take s.length = s' := by rw [← h]; exact List.take_length
  unfold finish
  dsimp only
  by_cases hk : keptOk s s'
  · rw [if_pos hk, ht]
    by_cases hu : d.under s.length
    · rw [if_pos hu]
    · rw [if_neg hu]
      cases d with
      | ref j =>
        have hj : ¬ j < s.length := fun z => hu fun r m => by
          simp [D.refs] at m
          omega
        dsimp only
        rw [List.getElem?_eq_none (by omega)]
      | _ => rfl
  · rw [if_neg hk]
theorem finish_next_len {s s' : Sto} {ρ : Env} (h : s'.length = s.length) : finish s (.next ρ s') = .ok .non s' := by
  have ht : s'.take s.length = s' := by rw [← h]; exact List.take_length
  unfold finish
  dsimp only
  rw [ht]
  by_cases hk : keptOk s s'
  · rw [if_pos hk]
  · rw [if_neg hk]
theorem finish_retN_len {s s' : Sto} {l : List D} (h : s'.length = s.length) : finish s (.retN l s') = .new l s' := by
  have ht : s'.take s.length = s' := by rw [← h]; exact List.take_length
  unfold finish
  dsimp only
  rw [ht]
  split <;> rfl
theorem finish_exn_len {s s' : Sto} {c : String} {ρ : Env} (h : s'.length = s.length) : finish s (.exn c ρ s') = .exn c s' := by
  have ht : s'.take s.length = s' := by rw [← h]; exact List.take_length
  unfold finish
  dsimp only
  rw [ht]
  split <;> rfl
/-- cells that are written, and new ones that are dropped -/
theorem finish_drop {s t u : Sto} {d : D} (h : t.length = s.length) (hk : keptOk s (t ++ u)) (hd : d.refs = []) : finish s (.ret d (t ++ u)) = .ok d t := by
  unfold finish
  dsimp only
  rw [if_pos hk, if_pos (show d.under s.length from fun r m => by rw [hd] at m; cases m), ← h]
  simp
section
variable {s : Sto}
@[simp] theorem setAt_ref {n : Nat} {i d : D} : setAt s (.ref n) i d = setC s n i d s[n]? := rfl
@[simp] theorem setC_lst {l : List D} {n : Nat} {i : Int} {d : D} : setC s n (.int i) d (some (.lst l)) = if 0 ≤ i ∧ i < l.length then some (s.set n (.lst (l.set i.toNat d))) else none := rfl
@[simp] theorem setC_str {l : List (DK × D)} {n : Nat} {i : String} {d : D} : setC s n (.str i) d (some (.dct l)) = if l.length < lim then some (s.set n (.dct (putD l (.str i) d))) else none := rfl
@[simp] theorem setC_int {l : List (DK × D)} {n : Nat} {i : Int} {d : D} : setC s n (.int i) d (some (.dct l)) = if l.length < lim then some (s.set n (.dct (putD l (.int i) d))) else none := rfl
def catK (a : Option (List D)) (b : Option (List D)) (s : Sto) : RE := match a, b with
  | some a, some b => newIf (a ++ b) s
  | _, _ => .bad
@[simp] theorem catK_some {a b : List D} : catK (some a) (some b) s = newIf (a ++ b) s := rfl
@[simp] theorem add_lr {a : List D} {m : Nat} : binD .add (.lst a) (.ref m) s = catK (some a) (getL s[m]?) s := by
  show (match asL s (.ref m) with
    | some b => newIf (a ++ b) s
    | none => .bad) = _
  rw [asL_ref]
  cases getL s[m]? <;> rfl
@[simp] theorem add_rl {b : List D} {n : Nat} : binD .add (.ref n) (.lst b) s = catK (getL s[n]?) (some b) s := by
  show (match asL s (.ref n) with
    | some a => newIf (a ++ b) s
    | none => .bad) = _
  rw [asL_ref]
  cases getL s[n]? <;> rfl
@[simp] theorem add_rr {n m : Nat} : binD .add (.ref n) (.ref m) s = catK (getL s[n]?) (getL s[m]?) s := by
  show (match asL s (.ref n), asL s (.ref m) with
    | some a, some b => newIf (a ++ b) s
    | _, _ => .bad) = _
  rw [asL_ref, asL_ref]
  cases getL s[n]? <;> cases getL s[m]? <;> rfl
end
@[simp] theorem mul_tup {a : List D} {k : Int} {s : Sto} : binD .mul (.tup a) (.int k) s = if a ≠ [] ∧ 2 ≤ k ∧ k ≤ 1000 ∧ a.length ≤ 1000 then .ok (.tup (List.replicate k.toNat a).flatten) s else .bad := rfl
theorem tupN_ref {s : Sto} {n : Nat} {l : List Int} (h : s[n]? = some (.lst (l.map D.int))) : tupND (.ref n) s = .ok (.ref s.length) (s ++ [Cell.tpc l]) := by
  unfold tupND
  rw [asL_ref, h]
  show (match toIs (l.map D.int) with
    | some ns => RE.ok (.ref s.length) (s ++ [Cell.tpc ns])
    | none => .bad) = _
  rw [toIs_map]
def cntTK (o : Option Cell) (k : Int) (s : Sto) : RE := match o with
  | some (.tpc ns) => .ok (.int (ns.count k)) s
  | _ => .bad
@[simp] theorem cntTK_some {s : Sto} {l : List Int} {k : Int} : cntTK (some (.tpc l)) k s = .ok (.int (l.count k)) s := rfl
@[simp] theorem met_tcount {s : Sto} {n : Nat} {k : Int} : metD .tcount (.ref n) [.int k] s = cntTK s[n]? k s := by
  unfold metD cntTK cellT
  dsimp only
  cases s[n]? with
  | none => rfl
  | some c => cases c <;> rfl
def isTpc : Option Cell → Bool
  | some (.tpc _) => true
  | _ => false
@[simp] theorem isTpc_some {l : List Int} : isTpc (some (.tpc l)) = true := rfl
@[simp] theorem recv_tcount {s : Sto} {n : Nat} : recvOk .tcount s (.ref n) = isTpc s[n]? := by
  unfold recvOk cellT isTpc
  dsimp only
  cases s[n]? with
  | none => rfl
  | some c => cases c <;> rfl
theorem set_same {s : Sto} {i : Nat} {c : Cell} (h : s[i]? = some c) : s.set i c = s := by
  apply List.ext_getElem?
  intro j
  by_cases e : i = j
  · subst e
    rw [List.getElem?_set_self (List.getElem?_eq_some_iff.mp h).1, h]
  · rw [List.getElem?_set_ne e]
@[simp] theorem deepL_rep {n k : Nat} {d : D} : deepL n (List.replicate k d) = (decide (k = 0) || deep n d) := by
  induction k with
  | zero => simp
  | succ k ih =>
    rw [List.replicate_succ, deepL_cons, ih]
    cases deep n d <;> simp
theorem asV_ref {s : Sto} {n : Nat} {l : List D} (h : s[n]? = some (.lst l)) : asV s (.ref n) = .lst l := by
  simp [asV, h]
theorem cmp_ne_lr {s : Sto} {n k : Nat} {l : List D} (h : s[n]? = some (.lst l)) (hd : deepL k l = true) (hk : k < 60) : cmpD .ne (.lst l) (.ref n) s = some false := by
  have dl : deep (k + 1) (.lst l) = true := by simpa using hd
  have e : cmpD .ne (.lst l) (.ref n) s = if eqOk (asV s (.lst l)) (asV s (.ref n)) then some (!eqD (asV s (.lst l)) (asV s (.ref n))) else none := rfl
  rw [e, asV_ref h, asV_deep dl, eqOk_deep dl dl (by omega), eqD_refl dl]
  rfl
@[simp] theorem cmp_is_optt {o : Option Int} {s : Sto} : cmpD .isnot (optD o) .non s = some (!o.isNone) := by cases o <;> rfl
@[simp] theorem deep_opt {n : Nat} {o : Option Int} : deep n (optD o) = true := by cases o <;> simp
@[simp] theorem atD_4 {α : Type} {a b c d e : α} {l : List α} : atD (a :: b :: c :: d :: e :: l) 4 = some e := by simp [atD]
@[simp] theorem atD_5 {α : Type} {a b c d e f : α} {l : List α} : atD (a :: b :: c :: d :: e :: f :: l) 5 = some f := by simp [atD]
@[simp] theorem atD_6 {α : Type} {a b c d e f g : α} {l : List α} : atD (a :: b :: c :: d :: e :: f :: g :: l) 6 = some g := by simp [atD]
@[simp] theorem atD_7 {α : Type} {a b c d e f g h : α} {l : List α} : atD (a :: b :: c :: d :: e :: f :: g :: h :: l) 7 = some h := by simp [atD]
@[simp] theorem atD_8 {α : Type} {a b c d e f g h i : α} {l : List α} : atD (a :: b :: c :: d :: e :: f :: g :: h :: i :: l) 8 = some i := by simp [atD]
end KL

set_option linter.all false
set_option autoImplicit false
set_option maxRecDepth 10000
/-! RfA: logs, seats, quorums; what was agreed is in all later heads' logs. Plain Lean. -/
namespace Rf
class En (E : Type) where
  tm : E → Int
  st : E → Option (List Int)
open En
variable {E : Type} [En E]
/-! ### seats of a log -/
def cfg (F : List Int) (G : List E) : List Int := G.foldl (fun A e => (st e).getD A) F
theorem cfg_app (F : List Int) (G H : List E) : cfg F (G ++ H) = cfg (cfg F G) H := List.foldl_append
theorem cfg_one (A : List Int) (e : E) : cfg A [e] = (st e).getD A := rfl
theorem cfg_nost (A : List Int) : ∀ H : List E, (∀ e ∈ H, st e = none) → cfg A H = A
  | [], _ => rfl
  | e :: H, h => by
    show cfg ((st e).getD A) H = A
    rw [h e List.mem_cons_self]
    exact cfg_nost A H fun x m => h x (List.mem_cons_of_mem _ m)
/-- no seats stand from a on up to b -/
def Nost (G : List E) (a b : Nat) : Prop := ∀ i e, a ≤ i → i < b → G[i]? = some e → st e = none
theorem cfg_ext (F : List Int) (G : List E) {a b : Nat} (h : a ≤ b) (n : Nost G a b) : cfg F (G.take b) = cfg F (G.take a) := by
  have e : G.take b = G.take a ++ (G.drop a).take (b - a) := by
    rw [← List.take_add, Nat.add_sub_cancel' h]
  rw [e, cfg_app, cfg_nost]
  intro x m
  obtain ⟨i, hi, q⟩ := List.mem_iff_getElem.mp m
  rw [List.length_take, List.length_drop] at hi
  have q2 : ((G.drop a).take (b - a))[i]? = some x := by rw [← q]; exact List.getElem?_eq_getElem _
  rw [List.getElem?_take_of_lt (by omega), List.getElem?_drop] at q2
  exact n (a + i) x (by omega) (by omega) q2
theorem Nost.all {G : List E} {a : Nat} (F : List Int) (n : Nost G a G.length) (h : a ≤ G.length) : cfg F G = cfg F (G.take a) := by
  have := cfg_ext F G h n
  rwa [List.take_length] at this
/-- the last seats, or none from the beginning on -/
theorem last_st (G : List E) : ∀ n, n ≤ G.length → Nost G 0 n ∨ ∃ q e B, q < n ∧ G[q]? = some e ∧ st e = some B ∧ Nost G (q + 1) n
  | 0, _ => .inl fun i e _ h => absurd h (Nat.not_lt_zero _)
  | n + 1, h => by
    have hn : n < G.length := h
    cases hs : st G[n] with
    | some B => exact .inr ⟨n, G[n], B, Nat.lt_succ_self _, List.getElem?_eq_getElem hn, hs, fun i e h1 h2 => absurd h2 (by omega)⟩
    | none =>
      have add : ∀ a, Nost G a n → Nost G a (n + 1) := fun a q i e h1 h2 h3 => by
        by_cases hi : i = n
        · subst hi
          rw [List.getElem?_eq_getElem hn] at h3
          cases h3
          exact hs
        · exact q i e h1 (by omega) h3
      rcases last_st G n (by omega) with q | ⟨q, e, B, h1, h2, h3, h4⟩
      · exact .inl (add 0 q)
      · exact .inr ⟨q, e, B, by omega, h2, h3, add _ h4⟩
theorem Nost.take {G H : List E} {a b n : Nat} (h : Nost G a b) (e : H.take n = G.take n) (hb : b ≤ n) : Nost H a b := fun i x h1 h2 h3 => by
  refine h i x h1 h2 ?_
  have q : (H.take n)[i]? = (G.take n)[i]? := by rw [e]
  rw [List.getElem?_take_of_lt (by omega), List.getElem?_take_of_lt (by omega)] at q
  rw [← q]; exact h3
/-! ### most -/
def maj (A Q : List Int) : Prop := A.length < 2 * (A.filter fun i => decide (i ∈ Q)).length
def offN (A B : List Int) : Nat := (A.filter fun i => !decide (i ∈ B)).length + (B.filter fun i => !decide (i ∈ A)).length
def near (A B : List Int) : Prop := offN A B ≤ 1
theorem near.symm {A B : List Int} (h : near A B) : near B A := by unfold near offN at *; omega
theorem near.refl (A : List Int) : near A A := by
  unfold near offN
  have : A.filter (fun i => !decide (i ∈ A)) = [] := List.filter_eq_nil_iff.mpr fun x m => by simp [m]
  rw [this]
  exact Nat.zero_le _
theorem filter_split {α : Type} (p : α → Bool) : ∀ l : List α, (l.filter p).length + (l.filter fun x => !p x).length = l.length
  | [] => rfl
  | x :: l => by
    have ih := filter_split p l
    cases h : p x with
    | true => rw [List.filter_cons_of_pos h, List.filter_cons_of_neg (by simp [h])]; simp; omega
    | false => rw [List.filter_cons_of_neg (by simp [h]), List.filter_cons_of_pos (by simp [h])]; simp; omega
theorem sub_len : ∀ (A B : List Int), A.Nodup → (∀ x ∈ A, x ∈ B) → A.length ≤ B.length
  | [], _, _, _ => Nat.zero_le _
  | a :: A, B, nd, h => by
    obtain ⟨n1, n2⟩ := List.nodup_cons.mp nd
    have ha := h a List.mem_cons_self
    have ih := sub_len A (B.erase a) n2 fun x m => by
      have ne : x ≠ a := fun z => n1 (z ▸ m)
      exact (List.mem_erase_of_ne ne).mpr (h x (List.mem_cons_of_mem _ m))
    rw [List.length_erase_of_mem ha] at ih
    have : 0 < B.length := List.length_pos_of_mem ha
    rw [List.length_cons]
    omega
theorem meet {A B Q R : List Int} (nA : A.Nodup) (nB : B.Nodup) (h : near A B) (hQ : maj A Q) (hR : maj B R) : ∃ j, j ∈ Q ∧ j ∈ R := by
  apply Classical.byContradiction
  intro hn
  have hn : ∀ j, j ∈ Q → ¬ j ∈ R := fun j a b => hn ⟨j, a, b⟩
  unfold near offN at h
  unfold maj at hQ hR
  -- A's that are in Q: those in B, those not
  have s1 := filter_split (fun i => decide (i ∈ B)) (A.filter fun i => decide (i ∈ Q))
  have s2 := filter_split (fun i => decide (i ∈ A)) (B.filter fun i => decide (i ∈ R))
  have s3 := filter_split (fun i => decide (i ∈ B)) A
  have s4 := filter_split (fun i => decide (i ∈ A)) B
  have a1 : ((A.filter fun i => decide (i ∈ Q)).filter fun i => !decide (i ∈ B)).length ≤ (A.filter fun i => !decide (i ∈ B)).length :=
    sub_len _ _ ((nA.filter _).filter _) fun x m => by obtain ⟨m1, m2⟩ := List.mem_filter.mp m; exact List.mem_filter.mpr ⟨(List.mem_filter.mp m1).1, m2⟩
  have a2 : ((B.filter fun i => decide (i ∈ R)).filter fun i => !decide (i ∈ A)).length ≤ (B.filter fun i => !decide (i ∈ A)).length :=
    sub_len _ _ ((nB.filter _).filter _) fun x m => by obtain ⟨m1, m2⟩ := List.mem_filter.mp m; exact List.mem_filter.mpr ⟨(List.mem_filter.mp m1).1, m2⟩
  have a3 : (B.filter fun i => decide (i ∈ A)).length ≤ (A.filter fun i => decide (i ∈ B)).length :=
    sub_len _ _ (nB.filter _) fun x m => by obtain ⟨m1, m2⟩ := List.mem_filter.mp m; exact List.mem_filter.mpr ⟨of_decide_eq_true m2, decide_eq_true m1⟩
  have a3' : (A.filter fun i => decide (i ∈ B)).length ≤ (B.filter fun i => decide (i ∈ A)).length :=
    sub_len _ _ (nA.filter _) fun x m => by obtain ⟨m1, m2⟩ := List.mem_filter.mp m; exact List.mem_filter.mpr ⟨of_decide_eq_true m2, decide_eq_true m1⟩
  have a4 : ((A.filter fun i => decide (i ∈ Q)).filter fun i => decide (i ∈ B)).length + ((B.filter fun i => decide (i ∈ R)).filter fun i => decide (i ∈ A)).length ≤ (A.filter fun i => decide (i ∈ B)).length := by
    rw [← List.length_append]
    refine sub_len _ _ (List.nodup_append.mpr ⟨(nA.filter _).filter _, (nB.filter _).filter _, fun x m y m2 e => ?_⟩) fun x m => ?_
    · subst e
      exact hn x (of_decide_eq_true (List.mem_filter.mp (List.mem_filter.mp m).1).2) (of_decide_eq_true (List.mem_filter.mp (List.mem_filter.mp m2).1).2)
    · rcases List.mem_append.mp m with m | m
      · obtain ⟨m1, m2⟩ := List.mem_filter.mp m
        exact List.mem_filter.mpr ⟨(List.mem_filter.mp m1).1, m2⟩
      · obtain ⟨m1, m2⟩ := List.mem_filter.mp m
        exact List.mem_filter.mpr ⟨of_decide_eq_true m2, decide_eq_true (List.mem_filter.mp m1).1⟩
  omega
/-! ### logs -/
def lastT (G : List E) : Int := match G.getLast? with
  | some e => tm e
  | none => 0
def asNew (X V : List E) : Prop := lastT V < lastT X ∨ lastT V = lastT X ∧ V.length ≤ X.length
structure Rec (E : Type) where
  m : Int
  X : List E
  Q : List Int
structure Gh (E : Type) where
  el : Int → Option (Rec E)
  L : Int → List E
  vt : Int → Int → Option (Int × List E)
  ak : Int → Int → Nat
  cm : Int → Nat → Nat → Prop
/-- each entry is one of the head's of its term, and so is all ahead of it -/
def LM (g : Gh E) (G : List E) : Prop := ∀ p e, G[p]? = some e → ∃ r, g.el (tm e) = some r ∧ r.X.length ≤ p ∧ p < (g.L (tm e)).length ∧ G.take (p + 1) = (g.L (tm e)).take (p + 1)
/-- what a voice's log has -/
def VoteS (g : Gh E) (j T : Int) (V : List E) : Prop := ∀ T0 p, T0 < T → p ≤ g.ak j T0 → (∀ T1 r, T0 < T1 → T1 < T → g.el T1 = some r → (g.L T0).take p <+: r.X) → (g.L T0).take p <+: V
def VoteW (g : Gh E) (j T : Int) (V : List E) : Prop := ∀ T0 p, T0 < T → p ≤ g.ak j T0 → (∀ T1 r, T0 < T1 → T1 ≤ T → g.el T1 = some r → (g.L T0).take p <+: r.X) → (g.L T0).take p <+: V
structure GInv (F : List Int) (g : Gh E) : Prop where
  nF : F.Nodup
  pos : ∀ T r, g.el T = some r → 1 ≤ T
  pre : ∀ T r, g.el T = some r → r.X <+: g.L T
  own : ∀ T r p e, g.el T = some r → r.X.length ≤ p → (g.L T)[p]? = some e → tm e = T
  nd : ∀ T e B, e ∈ g.L T → st e = some B → B.Nodup
  lm : ∀ T r, g.el T = some r → LM g r.X
  lt : ∀ T r, g.el T = some r → ∀ e ∈ r.X, tm e < T
  mj : ∀ T r, g.el T = some r → maj (cfg F r.X) r.Q
  vo : ∀ T r j, g.el T = some r → j ∈ r.Q → ∃ V, g.vt j T = some (r.m, V) ∧ asNew r.X V ∧ VoteS g j T V
  vl : ∀ j T m V, g.vt j T = some (m, V) → LM g V
  vw : ∀ j T m V, g.vt j T = some (m, V) → VoteW g j T V
  mv : ∀ T r q e B, g.el T = some r → r.X.length ≤ q → (g.L T)[q]? = some e → st e = some B → near (cfg F ((g.L T).take q)) B ∧ ∃ a n, g.cm T a n ∧ a ≤ q ∧ n ≤ q ∧ Nost (g.L T) a q
  cm : ∀ T p n, g.cm T p n → ∃ r, g.el T = some r ∧ r.X.length < p ∧ p ≤ n ∧ n ≤ (g.L T).length ∧ ∃ Q, maj (cfg F ((g.L T).take n)) Q ∧ ∀ j ∈ Q, p ≤ g.ak j T
/-! small things about lists -/
theorem pre_take {X G : List E} (h : X <+: G) : G.take X.length = X := (List.prefix_iff_eq_take.mp h).symm
theorem take_pre_len {G : List E} {p : Nat} (h : p ≤ G.length) : (G.take p).length = p := by rw [List.length_take]; omega
theorem pre_getElem {X G : List E} (h : X <+: G) {i : Nat} {e : E} (he : X[i]? = some e) : G[i]? = some e := by
  obtain ⟨t, rfl⟩ := h
  rw [List.getElem?_append_left (List.getElem?_eq_some_iff.mp he).1]
  exact he
theorem take_get {G H : List E} {n i : Nat} (e : G.take n = H.take n) (h : i < n) : G[i]? = H[i]? := by
  have q : (G.take n)[i]? = (H.take n)[i]? := by rw [e]
  rwa [List.getElem?_take_of_lt h, List.getElem?_take_of_lt h] at q
theorem take_sub {G H : List E} {n m : Nat} (e : G.take n = H.take n) (h : m ≤ n) : G.take m = H.take m := by
  have q : (G.take n).take m = (H.take n).take m := by rw [e]
  rwa [List.take_take, List.take_take, Nat.min_eq_left h] at q
theorem lastT_get {G : List E} (h : 0 < G.length) : lastT G = tm (G[G.length - 1]'(by omega)) := by
  unfold lastT
  rw [List.getLast?_eq_getElem?, List.getElem?_eq_getElem (by omega)]
theorem lastT_nil : lastT ([] : List E) = 0 := rfl
section
variable {F : List Int} {g : Gh E}
theorem GInv.fits (I : GInv F g) {G : List E} (h : LM g G) {p : Nat} {e : E} (he : G[p]? = some e) : 1 ≤ tm e := by
  obtain ⟨r, h1, _⟩ := h p e he
  exact I.pos _ _ h1
theorem LM.take {G : List E} (h : LM g G) (n : Nat) : LM g (G.take n) := fun p e he => by
  have hp : p < n := by
    have := (List.getElem?_eq_some_iff.mp he).1
    rw [List.length_take] at this
    omega
  rw [List.getElem?_take_of_lt hp] at he
  obtain ⟨r, h1, h2, h3, h4⟩ := h p e he
  refine ⟨r, h1, h2, h3, ?_⟩
  rw [← h4, List.take_take, Nat.min_eq_left (by omega)]
theorem LM.pre {X G : List E} (h : LM g G) (x : X <+: G) : LM g X := by rw [← pre_take x]; exact h.take _
theorem GInv.lmL (I : GInv F g) {T : Int} {r : Rec E} (h : g.el T = some r) : LM g (g.L T) := fun p e he => by
  by_cases hp : p < r.X.length
  · have hx : r.X[p]? = some e := by
      have q := pre_take (I.pre T r h)
      rw [← q, List.getElem?_take_of_lt hp]
      exact he
    obtain ⟨r', h1, h2, h3, h4⟩ := I.lm T r h p e hx
    refine ⟨r', h1, h2, h3, ?_⟩
    rw [← h4]
    exact (take_sub (by rw [pre_take (I.pre T r h), List.take_length]) (show p + 1 ≤ r.X.length by omega))
  · have ht := I.own T r p e h (by omega) he
    rw [ht]
    exact ⟨r, h, by omega, (List.getElem?_eq_some_iff.mp he).1, rfl⟩
/-- terms never fall along a log -/
theorem GInv.mono (I : GInv F g) {G : List E} (h : LM g G) {p q : Nat} {e f : E} (pq : p ≤ q) (he : G[p]? = some e) (hf : G[q]? = some f) : tm e ≤ tm f := by
  obtain ⟨r, h1, h2, h3, h4⟩ := h q f hf
  have he2 : (g.L (tm f))[p]? = some e := by rw [← take_get h4 (by omega)]; exact he
  by_cases hp : p < r.X.length
  · have hx : r.X[p]? = some e := by
      rw [← pre_take (I.pre _ r h1), List.getElem?_take_of_lt hp]
      exact he2
    have := I.lt _ r h1 e (List.mem_of_getElem? hx)
    omega
  · have := I.own _ r p e h1 (by omega) he2
    omega
theorem GInv.last_le (I : GInv F g) {G : List E} (h : LM g G) {p : Nat} {e : E} (he : G[p]? = some e) : tm e ≤ lastT G := by
  have hp := (List.getElem?_eq_some_iff.mp he).1
  rw [lastT_get (by omega)]
  exact I.mono h (show p ≤ G.length - 1 by omega) he (List.getElem?_eq_getElem (by omega))
theorem GInv.last_nn (I : GInv F g) {G : List E} (h : LM g G) : 0 ≤ lastT G := by
  by_cases hG : 0 < G.length
  · have := I.fits h (List.getElem?_eq_getElem (show G.length - 1 < G.length by omega))
    rw [lastT_get hG]
    omega
  · have : G = [] := List.length_eq_zero_iff.mp (by omega)
    subst this
    exact Int.le_refl _
/-- a log is the beginning of that of its last term's head -/
theorem GInv.last_pre (I : GInv F g) {G : List E} (h : LM g G) (hG : 0 < G.length) : ∃ r, g.el (lastT G) = some r ∧ r.X.length < G.length ∧ G.length ≤ (g.L (lastT G)).length ∧ G = (g.L (lastT G)).take G.length := by
  have he : G[G.length - 1]? = some (G[G.length - 1]'(by omega)) := List.getElem?_eq_getElem (by omega)
  obtain ⟨r, h1, h2, h3, h4⟩ := h _ _ he
  rw [← lastT_get hG] at h1 h3 h4
  rw [show G.length - 1 + 1 = G.length by omega, List.take_length] at h4
  exact ⟨r, h1, by omega, by omega, h4⟩
theorem GInv.cfg_nd (I : GInv F g) {G : List E} (h : LM g G) : (cfg F G).Nodup := by
  rcases last_st G G.length (Nat.le_refl _) with q | ⟨q, e, B, h1, h2, h3, h4⟩
  · have := q.all F (Nat.zero_le _)
    rw [this]
    exact I.nF
  · rw [h4.all F h1, List.take_add_one, h2, Option.toList_some, cfg_app, cfg_one, h3]
    obtain ⟨r, a1, a2, a3, a4⟩ := h q e h2
    have : (g.L (tm e))[q]? = some e := by rw [← take_get a4 (by omega)]; exact h2
    exact I.nd _ e B (List.mem_of_getElem? this) h3
theorem cfg_at {G : List E} {q : Nat} {e : E} {B : List Int} (h2 : G[q]? = some e) (h3 : st e = some B) : cfg F (G.take (q + 1)) = B := by
  rw [List.take_add_one, h2, Option.toList_some, cfg_app, cfg_one, h3]
  rfl
/-- what is agreed in lower terms is in two logs: their seats are near -/
theorem GInv.nearH (I : GInv F g) {X Y : List E} (hX : LM g X) (hY : LM g Y) {q : Nat} {e : E} {B : List Int} (h1 : q < X.length) (h2 : X[q]? = some e) (h3 : st e = some B) (h4 : Nost X (q + 1) X.length)
    (hc : ∀ a n, g.cm (tm e) a n → (g.L (tm e)).take a <+: Y)
    (hs : ∀ q' e' B', Y[q']? = some e' → st e' = some B' → (tm e' < tm e ∨ tm e' = tm e ∧ q' < q)) : near (cfg F X) (cfg F Y) := by
  obtain ⟨r, a1, a2, a3, a4⟩ := hX q e h2
  have hL : (g.L (tm e))[q]? = some e := by rw [← take_get a4 (by omega)]; exact h2
  obtain ⟨nr, a, n, c1, c2, c3, c4⟩ := I.mv _ r q e B a1 a2 hL h3
  obtain ⟨r', b1, b2, b3, b4, _⟩ := I.cm _ a n c1
  rw [a1] at b1
  cases b1
  have pY := hc a n c1
  have la : ((g.L (tm e)).take a).length = a := take_pre_len (by omega)
  have aY : a ≤ Y.length := by rw [← la]; exact pY.length_le
  have tY : Y.take a = (g.L (tm e)).take a := by
    have := pre_take pY
    rwa [la] at this
  -- the entry at a - 1 is of this term
  have hA : (g.L (tm e))[a - 1]? = some ((g.L (tm e))[a - 1]'(by omega)) := List.getElem?_eq_getElem (by omega)
  have tA := I.own _ r (a - 1) _ a1 (by omega) hA
  have hYA : Y[a - 1]? = some ((g.L (tm e))[a - 1]'(by omega)) := by rw [take_get tY (by omega)]; exact hA
  have nY : Nost Y a Y.length := fun i x i1 i2 i3 => by
    cases hx : st x with
    | none => rfl
    | some B' =>
      rcases hs i x B' i3 hx with z | ⟨z1, z2⟩
      · have := I.mono hY (show a - 1 ≤ i by omega) hYA i3
        omega
      · obtain ⟨r2, d1, d2, d3, d4⟩ := hY i x i3
        rw [z1] at d4
        have : (g.L (tm e))[i]? = some x := by rw [← take_get d4 (by omega)]; exact i3
        have := c4 i x i1 z2 this
        rw [hx] at this
        cases this
  have e1 : cfg F X = B := by rw [h4.all F h1]; exact cfg_at h2 h3
  have e2 : cfg F Y = cfg F ((g.L (tm e)).take q) := by
    rw [nY.all F aY, tY, cfg_ext F (g.L (tm e)) c2 c4]
  rw [e1, e2]
  exact nr.symm
theorem GInv.nearT (I : GInv F g) {X Y : List E} (hX : LM g X) (hY : LM g Y) {T : Int} (lX : ∀ e ∈ X, tm e < T) (lY : ∀ e ∈ Y, tm e < T)
    (cX : ∀ t a n, t < T → g.cm t a n → (g.L t).take a <+: X) (cY : ∀ t a n, t < T → g.cm t a n → (g.L t).take a <+: Y) : near (cfg F X) (cfg F Y) := by
  rcases last_st X X.length (Nat.le_refl _) with nX | ⟨q, e, B, h1, h2, h3, h4⟩
  · rcases last_st Y Y.length (Nat.le_refl _) with nY | ⟨q', e', B', k1, k2, k3, k4⟩
    · rw [nX.all F (Nat.zero_le _), nY.all F (Nat.zero_le _), List.take_zero, List.take_zero]
      exact near.refl _
    · refine (I.nearH hY hX k1 k2 k3 k4 (fun a n c => cX _ a n (lY _ (List.mem_of_getElem? k2)) c) fun q e B z1 z2 => ?_).symm
      have := nX q e (Nat.zero_le _) (List.getElem?_eq_some_iff.mp z1).1 z1
      rw [this] at z2
      cases z2
  · have noX : ∀ i x B', X[i]? = some x → st x = some B' → i ≤ q := fun i x B' z1 z2 => by
      apply Classical.byContradiction
      intro z
      have := h4 i x (by omega) (List.getElem?_eq_some_iff.mp z1).1 z1
      rw [this] at z2
      cases z2
    rcases last_st Y Y.length (Nat.le_refl _) with nY | ⟨q', e', B', k1, k2, k3, k4⟩
    · refine I.nearH hX hY h1 h2 h3 h4 (fun a n c => cY _ a n (lX _ (List.mem_of_getElem? h2)) c) fun q e B z1 z2 => ?_
      have := nY q e (Nat.zero_le _) (List.getElem?_eq_some_iff.mp z1).1 z1
      rw [this] at z2
      cases z2
    · have noY : ∀ i x B', Y[i]? = some x → st x = some B' → i ≤ q' := fun i x B' z1 z2 => by
        apply Classical.byContradiction
        intro z
        have := k4 i x (by omega) (List.getElem?_eq_some_iff.mp z1).1 z1
        rw [this] at z2
        cases z2
      by_cases c1 : tm e' < tm e ∨ tm e' = tm e ∧ q' < q
      · refine I.nearH hX hY h1 h2 h3 h4 (fun a n c => cY _ a n (lX _ (List.mem_of_getElem? h2)) c) fun i x B2 z1 z2 => ?_
        have m := I.mono hY (noY i x B2 z1 z2) z1 k2
        have := noY i x B2 z1 z2
        omega
      · by_cases c2 : tm e < tm e' ∨ tm e = tm e' ∧ q < q'
        · refine (I.nearH hY hX k1 k2 k3 k4 (fun a n c => cX _ a n (lY _ (List.mem_of_getElem? k2)) c) fun i x B2 z1 z2 => ?_).symm
          have m := I.mono hX (noX i x B2 z1 z2) z1 h2
          have := noX i x B2 z1 z2
          omega
        · have t1 : tm e = tm e' := by omega
          have t2 : q = q' := by omega
          subst t2
          obtain ⟨r, a1, a2, a3, a4⟩ := hX q e h2
          obtain ⟨r', b1, b2, b3, b4⟩ := hY q e' k2
          rw [← t1] at b4
          rw [h4.all F h1, k4.all F k1, a4, b4]
          exact near.refl _
/-- one step of: what is agreed is in all later heads' logs -/
theorem GInv.comp1 (I : GInv F g) {T T' : Int} {p n : Nat} (c : g.cm T p n) {r : Rec E} (hr : g.el T = some r) {X : List E} {Q : List Int} (hT : T < T') (hX : LM g X) (lX : ∀ e ∈ X, tm e < T') (mX : maj (cfg F X) Q)
    (h1 : ∀ t a n', t < T → g.cm t a n' → (g.L t).take a <+: X) (h1' : ∀ t a n', t < T → g.cm t a n' → (g.L t).take a <+: r.X)
    (h2 : ∀ a n', n' < n → g.cm T a n' → (g.L T).take a <+: X)
    (h3 : ∀ T1 r1, T < T1 → T1 < T' → g.el T1 = some r1 → (g.L T).take p <+: r1.X)
    (h4 : ∀ j ∈ Q, p ≤ g.ak j T → ∃ V, LM g V ∧ asNew X V ∧ (g.L T).take p <+: V) : (g.L T).take p <+: X := by
  obtain ⟨r', a1, a2, a3, a4, Q0, m0, k0⟩ := I.cm T p n c
  rw [hr] at a1
  cases a1
  have lmL := I.lmL hr
  have lp : ((g.L T).take p).length = p := take_pre_len (by omega)
  -- the last entry ahead of p is of the term T
  have hA : (g.L T)[p - 1]? = some ((g.L T)[p - 1]'(by omega)) := List.getElem?_eq_getElem (by omega)
  have tA := I.own _ r (p - 1) _ hr (by omega) hA
  by_cases c1 : T < lastT X
  · -- X is of a head between
    have hG : 0 < X.length := by
      apply Classical.byContradiction
      intro z
      have : X = [] := List.length_eq_zero_iff.mp (by omega)
      rw [this, lastT_nil] at c1
      have := I.pos T r hr
      omega
    obtain ⟨r1, b1, b2, b3, b4⟩ := I.last_pre hX hG
    have hl : lastT X < T' := by
      rw [lastT_get hG]
      exact lX _ (List.getElem_mem _)
    have p1 := h3 _ r1 c1 hl b1
    have p2 : r1.X <+: X := by
      have q := pre_take (I.pre _ r1 b1)
      have q2 : X.take r1.X.length = r1.X := by
        rw [b4, List.take_take, Nat.min_eq_left (by omega)]
        exact q
      exact List.prefix_iff_eq_take.mpr q2.symm
    exact p1.trans p2
  · -- where X is of T's own log: X is a beginning of it
    have ofT : lastT X = T → p ≤ X.length → (g.L T).take p <+: X := fun e hp => by
      have hG : 0 < X.length := by omega
      obtain ⟨r1, b1, b2, b3, b4⟩ := I.last_pre hX hG
      rw [e] at b4
      rw [b4]
      exact List.prefix_iff_eq_take.mpr (by rw [List.take_take, lp, Nat.min_eq_left hp])
    -- a keeper that holds p and gave its voice
    have quo : near (cfg F X) (cfg F ((g.L T).take n)) → (g.L T).take p <+: X := fun nr => by
      obtain ⟨j, j1, j2⟩ := meet (I.cfg_nd hX) (I.cfg_nd (lmL.take n)) nr mX m0
      obtain ⟨V, v1, v2, v3⟩ := h4 j j1 (k0 j j2)
      have hV : V[p - 1]? = some ((g.L T)[p - 1]'(by omega)) := by
        refine pre_getElem v3 ?_
        rw [List.getElem?_take_of_lt (by omega)]
        exact hA
      have t1 := I.last_le v1 hV
      have l1 : p ≤ V.length := by rw [← lp]; exact v3.length_le
      rcases v2 with z | ⟨z1, z2⟩
      · omega
      · exact ofT (by omega) (by omega)
    by_cases c2 : lastT X = T
    · -- X is a beginning of T's log
      by_cases c3 : p ≤ X.length
      · exact ofT c2 c3
      · have hG : 0 < X.length := by
          apply Classical.byContradiction
          intro z
          have : X = [] := List.length_eq_zero_iff.mp (by omega)
          rw [this, lastT_nil] at c2
          have := I.pos T r hr
          omega
        obtain ⟨r1, b1, b2, b3, b4⟩ := I.last_pre hX hG
        rw [c2] at b1 b3 b4
        rw [hr] at b1
        cases b1
        -- the last seats of T's log ahead of n
        have eX : cfg F X = cfg F ((g.L T).take X.length) := by rw [← b4]
        rcases last_st (g.L T) n a4 with nn | ⟨q, e, B, q1, q2, q3, q4⟩
        · refine quo ?_
          rw [eX, cfg_ext F (g.L T) (show X.length ≤ n by omega) (fun i x i1 i2 => nn i x (Nat.zero_le _) i2)]
          exact near.refl _
        · by_cases c4 : q < X.length
          · refine quo ?_
            rw [eX, cfg_ext F (g.L T) (show X.length ≤ n by omega) (fun i x i1 i2 => q4 i x (by omega) i2)]
            exact near.refl _
          · obtain ⟨nr, a, n', d1, d2, d3, d4⟩ := I.mv T r q e B hr (by omega) q2 q3
            have := h2 a n' (by omega) d1
            obtain ⟨r2, e1, e2, e3, e4, _⟩ := I.cm T a n' d1
            have la : a ≤ X.length := by
              have l := this.length_le
              rw [take_pre_len (by omega)] at l
              exact l
            refine quo ?_
            have x1 : cfg F ((g.L T).take n) = B := by rw [cfg_ext F (g.L T) (show q + 1 ≤ n by omega) q4]; exact cfg_at q2 q3
            have x2 : cfg F ((g.L T).take q) = cfg F ((g.L T).take X.length) := cfg_ext F (g.L T) (by omega) (fun i x i1 i2 => d4 i x (by omega) i2)
            rw [x1, eX, ← x2]
            exact nr
    · have c3 : lastT X < T := by omega
      have lX2 : ∀ e ∈ X, tm e < T := fun e m => by
        obtain ⟨i, hi, q⟩ := List.mem_iff_getElem.mp m
        have := I.last_le hX (show X[i]? = some e by rw [← q]; exact List.getElem?_eq_getElem hi)
        omega
      have nr := I.nearT hX (I.lm T r hr) lX2 (I.lt T r hr) (fun t a n' h c => h1 t a n' h c) (fun t a n' h c => h1' t a n' h c)
      -- no seats of T's own are ahead of n
      have own : Nost (g.L T) r.X.length n := fun i x i1 i2 i3 => by
        cases hx : st x with
        | none => rfl
        | some B =>
          obtain ⟨_, a, n', d1, d2, d3, d4⟩ := I.mv T r i x B hr i1 i3 hx
          have := h2 a n' (by omega) d1
          obtain ⟨r2, e1, e2, e3, e4, _⟩ := I.cm T a n' d1
          rw [hr] at e1
          cases e1
          have hB : (g.L T)[a - 1]? = some ((g.L T)[a - 1]'(by omega)) := List.getElem?_eq_getElem (by omega)
          have tB := I.own _ r (a - 1) _ hr (by omega) hB
          have := pre_getElem this (i := a - 1) (by rw [List.getElem?_take_of_lt (by omega)]; exact hB)
          have := I.last_le hX this
          omega
      refine quo ?_
      rw [cfg_ext F (g.L T) (show r.X.length ≤ n by omega) own, pre_take (I.pre T r hr)]
      exact nr

structure CandW (F : List Int) (g : Gh E) (T m : Int) (X : List E) (Q : List Int) : Prop where
  lm : LM g X
  lt : ∀ e ∈ X, tm e < T
  mj : maj (cfg F X) Q
  vo : ∀ j ∈ Q, ∃ V, g.vt j T = some (m, V) ∧ asNew X V
theorem GInv.cand (I : GInv F g) {T : Int} {r : Rec E} (h : g.el T = some r) : CandW F g T r.m r.X r.Q := ⟨I.lm T r h, I.lt T r h, I.mj T r h, fun j hj => by
  obtain ⟨V, v1, v2, _⟩ := I.vo T r j h hj
  exact ⟨V, v1, v2⟩⟩
theorem GInv.complete (I : GInv F g) : ∀ (N : Nat) (T : Int), T.toNat ≤ N → ∀ p n, g.cm T p n → ∀ T' r', T < T' → g.el T' = some r' → (g.L T).take p <+: r'.X := by
  intro N
  induction N with
  | zero =>
    intro T hT p n c
    obtain ⟨r, a1, _⟩ := I.cm T p n c
    have := I.pos T r a1
    omega
  | succ N ihT =>
    intro T hT p n c T' r' hTT he
    obtain ⟨r, a1, _⟩ := I.cm T p n c
    have low : ∀ t a n' T'' r'', t < T → g.cm t a n' → t < T'' → g.el T'' = some r'' → (g.L t).take a <+: r''.X := fun t a n' T'' r'' h1 h2 h3 h4 => by
      obtain ⟨r2, b1, _⟩ := I.cm t a n' h2
      have := I.pos t r2 b1
      exact ihT t (by omega) a n' h2 T'' r'' h3 h4
    have inner : ∀ (M : Nat) (T' : Int) (r' : Rec E), T < T' → g.el T' = some r' → (T' - T).toNat ≤ M → ∀ (K n p : Nat), n ≤ K → g.cm T p n → (g.L T).take p <+: r'.X := by
      intro M
      induction M with
      | zero => intro T' r' h1 h2 h3; omega
      | succ M ihM =>
        intro T' r' h1 h2 h3 K
        induction K with
        | zero =>
          intro n p hn c
          obtain ⟨r2, b1, b2, b3, _⟩ := I.cm T p n c
          omega
        | succ K ihK =>
          intro n p hn c
          have h3' : ∀ T1 r1, T < T1 → T1 < T' → g.el T1 = some r1 → (g.L T).take p <+: r1.X := fun T1 r1 q1 q2 q3 => ihM T1 r1 q1 q3 (by omega) n n p (Nat.le_refl _) c
          refine I.comp1 c a1 h1 (I.lm T' r' h2) (I.lt T' r' h2) (I.mj T' r' h2) (fun t a n' q1 q2 => low t a n' T' r' q1 q2 (by omega) h2) (fun t a n' q1 q2 => low t a n' T r q1 q2 q1 a1) (fun a n' q1 q2 => ihK n' a (by omega) q2) h3' fun j j1 j2 => ?_
          obtain ⟨V, v1, v2, v3⟩ := I.vo T' r' j h2 j1
          exact ⟨V, I.vl j T' _ V v1, v2, v3 T p h1 j2 h3'⟩
    exact inner _ T' r' hTT he (Nat.le_refl _) n n p (Nat.le_refl _) c
theorem GInv.comp (I : GInv F g) {T : Int} {p n : Nat} (c : g.cm T p n) {T' : Int} {r' : Rec E} (h : T < T') (he : g.el T' = some r') : (g.L T).take p <+: r'.X := I.complete _ T (Nat.le_refl _) p n c T' r' h he
/-- .. and in the logs of those that may come to be head -/
theorem GInv.compW (I : GInv F g) {T' m : Int} {X : List E} {Q : List Int} (C : CandW F g T' m X Q) : ∀ (N : Nat) (T : Int), T.toNat ≤ N → T < T' → ∀ (K n p : Nat), n ≤ K → g.cm T p n → (g.L T).take p <+: X := by
  intro N
  induction N with
  | zero =>
    intro T hT _ K n p _ c
    obtain ⟨r, a1, _⟩ := I.cm T p n c
    have := I.pos T r a1
    omega
  | succ N ihT =>
    intro T hT hTT K
    induction K with
    | zero =>
      intro n p hn c
      obtain ⟨r2, b1, b2, b3, _⟩ := I.cm T p n c
      omega
    | succ K ihK =>
      intro n p hn c
      obtain ⟨r, a1, _⟩ := I.cm T p n c
      refine I.comp1 c a1 hTT C.lm C.lt C.mj (fun t a n' q1 q2 => ?_) (fun t a n' q1 q2 => I.comp q2 q1 a1) (fun a n' q1 q2 => ihK n' a (by omega) q2) (fun T1 r1 q1 q2 q3 => I.comp c q1 q3) fun j j1 j2 => ?_
      · obtain ⟨r2, b1, _⟩ := I.cm t a n' q2
        have := I.pos t r2 b1
        exact ihT t (by omega) (by omega) n' n' a (Nat.le_refl _) q2
      · obtain ⟨V, v1, v2⟩ := C.vo j j1
        exact ⟨V, I.vl j T' _ V v1, v2, I.vw j T' _ V v1 T p hTT j2 fun T1 r1 q1 q2 q3 => I.comp c q1 q3⟩
theorem GInv.compC (I : GInv F g) {T' m : Int} {X : List E} {Q : List Int} (C : CandW F g T' m X Q) {T : Int} {p n : Nat} (c : g.cm T p n) (h : T < T') : (g.L T).take p <+: X := I.compW C _ T (Nat.le_refl _) h n n p (Nat.le_refl _) c
/-- one head in a term -/
theorem GInv.one (I : GInv F g) {T m1 m2 : Int} {X1 X2 : List E} {Q1 Q2 : List Int} (C1 : CandW F g T m1 X1 Q1) (C2 : CandW F g T m2 X2 Q2) : m1 = m2 := by
  have nr := I.nearT C1.lm C2.lm C1.lt C2.lt (fun t a n h c => I.compC C1 c h) (fun t a n h c => I.compC C2 c h)
  obtain ⟨j, j1, j2⟩ := meet (I.cfg_nd C1.lm) (I.cfg_nd C2.lm) nr C1.mj C2.mj
  obtain ⟨V1, v1, _⟩ := C1.vo j j1
  obtain ⟨V2, v2, _⟩ := C2.vo j j2
  rw [v1] at v2
  exact (Prod.mk.inj (Option.some.inj v2)).1
/-- what is agreed is in the logs of all heads of this term and later ones -/
theorem GInv.cmL (I : GInv F g) {T T' : Int} {p n : Nat} {r' : Rec E} (c : g.cm T p n) (h : T ≤ T') (he : g.el T' = some r') : (g.L T).take p <+: g.L T' := by
  by_cases e : T = T'
  · subst e
    exact List.take_prefix _ _
  · exact (I.comp c (show T < T' by omega) he).trans (I.pre T' r' he)
end
end Rf

set_option linter.all false
set_option autoImplicit false
/-! RfB: keepers, letters, and what holds of all of them at all times. -/
namespace Rf
open En
variable {E : Type} [En E]
structure Kp (E : Type) where
  T : Int
  v : Option Int
  G : List E
  b : Nat
  ag : Nat
  way : String
  vs : List Int
  hl : Int → Int
/-- letters, as far as they bind: voices that are given, places that are held -/
inductive Lt (E : Type) where
  | ask (i T : Int) (pl : Nat) (la : Int)
  | voice (j i T : Int)
  | hand (i T : Int) (pl : Nat) (es : List E) (ag : Nat)
  | pack (i T : Int) (X : List E)
  | held (j i T : Int) (p : Nat)
def newP (la : Int) (pl : Nat) (V : List E) : Prop := lastT V < la ∨ lastT V = la ∧ V.length ≤ pl
def AgOk (g : Gh E) (T : Int) (G : List E) (a : Nat) : Prop := a ≤ G.length ∧ (a = 0 ∨ ∃ T0 p n, g.cm T0 p n ∧ T0 ≤ T ∧ a ≤ p ∧ G.take a = (g.L T0).take a)
structure KI (g : Gh E) (Ls : Lt E → Prop) (i : Int) (k : Kp E) : Prop where
  lm : LM g k.G
  T0 : 0 ≤ k.T
  tm : ∀ e ∈ k.G, tm e ≤ k.T
  hd : k.way = "head" → ∃ r, g.el k.T = some r ∧ r.m = i ∧ g.L k.T = k.G
  sd : k.way = "standing" → 1 ≤ k.T ∧ (∀ e ∈ k.G, En.tm e < k.T) ∧ ∀ j ∈ k.vs, ∃ V, g.vt j k.T = some (i, V) ∧ asNew k.G V
  vt : ∀ T x, g.vt i T = some x → T ≤ k.T
  vs : ∀ c, k.v = some c → ∃ V, g.vt i k.T = some (c, V)
  vn : k.v = none → g.vt i k.T = none
  el : ∀ T r, g.el T = some r → r.m = i → T ≤ k.T ∧ (T = k.T → k.way ≠ "standing")
  ak : ∀ T, 0 < g.ak i T → T ≤ k.T ∧ (∃ r, g.el T = some r) ∧ g.ak i T ≤ (g.L T).length
  ac : ∀ T p, p ≤ g.ak i T → (∀ T1 r, T < T1 → T1 ≤ k.T → g.el T1 = some r → (g.L T).take p <+: r.X) → (g.L T).take p <+: k.G
  ag : AgOk g k.T k.G k.ag
  b : k.b ≤ k.ag
  hl : k.way = "head" → ∀ j, k.hl j ≤ (g.ak j k.T : Nat)
  ask : ∀ T pl la, Ls (.ask i T pl la) → T ≤ k.T ∧ (T = k.T → k.way = "standing" → la = lastT k.G ∧ pl = k.G.length)
structure LI (g : Gh E) (Ls : Lt E → Prop) : Prop where
  vt : ∀ j T c V, g.vt j T = some (c, V) → c = j ∨ ∃ pl la, Ls (.ask c T pl la) ∧ newP la pl V
  voice : ∀ j i T, Ls (.voice j i T) → i ≠ j ∧ ∃ V, g.vt j T = some (i, V)
  hand : ∀ i T pl es ag, Ls (.hand i T pl es ag) → ∃ r, g.el T = some r ∧ r.m = i ∧ pl + es.length ≤ (g.L T).length ∧ es = ((g.L T).drop pl).take es.length ∧ AgOk g T (g.L T) ag
  pack : ∀ i T X, Ls (.pack i T X) → ∃ r, g.el T = some r ∧ r.m = i ∧ X <+: g.L T ∧ AgOk g T (g.L T) X.length
  held : ∀ j i T p, Ls (.held j i T p) → p ≤ g.ak j T
structure Inv (F : List Int) (K : Int → Kp E) (Ls : Lt E → Prop) (g : Gh E) : Prop where
  gi : GInv F g
  ki : ∀ i, KI g Ls i (K i)
  li : LI g Ls
def upd {α : Type} (K : Int → α) (i : Int) (k : α) : Int → α := fun j => if j = i then k else K j
theorem upd_self {α : Type} (K : Int → α) (i : Int) (k : α) : upd K i k i = k := if_pos rfl
theorem upd_ne {α : Type} (K : Int → α) {i j : Int} (k : α) (h : j ≠ i) : upd K i k j = K j := if_neg h
theorem upd_same {α : Type} (K : Int → α) (i : Int) : upd K i (K i) = K := by
  funext j
  unfold upd
  split
  · rename_i h; rw [h]
  · rfl
/-! ### what only grows -/
structure Ext (g g' : Gh E) : Prop where
  el : ∀ T r, g.el T = some r → g'.el T = some r
  L : ∀ T r, g.el T = some r → g.L T <+: g'.L T
  vt : ∀ j T x, g.vt j T = some x → g'.vt j T = some x
  ak : ∀ j T, g.ak j T ≤ g'.ak j T
  cm : ∀ T p n, g.cm T p n → g'.cm T p n
theorem Ext.refl (g : Gh E) : Ext g g := ⟨fun _ _ h => h, fun _ _ _ => List.prefix_rfl, fun _ _ _ h => h, fun _ _ => Nat.le_refl _, fun _ _ _ h => h⟩
theorem Ext.trans {g g' g2 : Gh E} (x : Ext g g') (y : Ext g' g2) : Ext g g2 := ⟨fun T r h => y.el T r (x.el T r h), fun T r h => (x.L T r h).trans (y.L T r (x.el T r h)), fun j T z h => y.vt j T z (x.vt j T z h), fun j T => Nat.le_trans (x.ak j T) (y.ak j T), fun T p n h => y.cm T p n (x.cm T p n h)⟩
section
variable {F : List Int} {g g' : Gh E} {Ls Ls' : Lt E → Prop} {i : Int} {k : Kp E}
theorem Ext.take (x : Ext g g') {T : Int} {r : Rec E} (h : g.el T = some r) {p : Nat} (hp : p ≤ (g.L T).length) : (g'.L T).take p = (g.L T).take p := by
  obtain ⟨t, e⟩ := x.L T r h
  rw [← e, List.take_append_of_le_length hp]
theorem LM.ext {G : List E} (h : LM g G) (x : Ext g g') : LM g' G := fun p e he => by
  obtain ⟨r, h1, h2, h3, h4⟩ := h p e he
  refine ⟨r, x.el _ r h1, h2, Nat.lt_of_lt_of_le h3 (x.L _ r h1).length_le, ?_⟩
  rw [h4, x.take h1 (by omega)]
theorem AgOk.ext {T : Int} {G : List E} {a : Nat} (I : GInv F g) (h : AgOk g T G a) (x : Ext g g') : AgOk g' T G a := by
  refine ⟨h.1, ?_⟩
  rcases h.2 with z | ⟨T0, p, n, c, h1, h2, h3⟩
  · exact .inl z
  · obtain ⟨r, a1, a2, a3, a4, _⟩ := I.cm T0 p n c
    exact .inr ⟨T0, p, n, x.cm _ _ _ c, h1, h2, by rw [h3, x.take a1 (by omega)]⟩
theorem AgOk.app {T : Int} {G H : List E} {a : Nat} (h : AgOk g T G a) : AgOk g T (G ++ H) a := by
  refine ⟨by rw [List.length_append]; have := h.1; omega, ?_⟩
  rcases h.2 with z | ⟨T0, p, n, c, h1, h2, h3⟩
  · exact .inl z
  · exact .inr ⟨T0, p, n, c, h1, h2, by rw [List.take_append_of_le_length h.1, h3]⟩
theorem AgOk.mono {T T' : Int} {G : List E} {a : Nat} (h : AgOk g T G a) (ht : T ≤ T') : AgOk g T' G a := by
  refine ⟨h.1, ?_⟩
  rcases h.2 with z | ⟨T0, p, n, c, h1, h2, h3⟩
  · exact .inl z
  · exact .inr ⟨T0, p, n, c, by omega, h2, h3⟩
theorem AgOk.less {T : Int} {G : List E} {a b : Nat} (h : AgOk g T G a) (hb : b ≤ a) : AgOk g T G b := by
  refine ⟨Nat.le_trans hb h.1, ?_⟩
  rcases h.2 with z | ⟨T0, p, n, c, h1, h2, h3⟩
  · exact .inl (by omega)
  · exact .inr ⟨T0, p, n, c, h1, by omega, take_sub h3 hb⟩
/-- what is agreed is in the log of the head of a term from then on -/
theorem AgOk.pre {T T' : Int} {G : List E} {a : Nat} (I : GInv F g) (h : AgOk g T G a) (ht : T ≤ T') {r : Rec E} (he : g.el T' = some r) : G.take a <+: g.L T' := by
  rcases h.2 with z | ⟨T0, p, n, c, h1, h2, h3⟩
  · rw [z]; exact List.nil_prefix
  · rw [h3]
    have := I.cmL c (show T0 ≤ T' by omega) he
    exact (List.take_prefix_take_left h2).trans this
theorem KI.ext (h : KI g Ls i k) (I : GInv F g) (x : Ext g g') (v1 : ∀ T, g'.vt i T = g.vt i T) (a1 : ∀ T, g'.ak i T = g.ak i T) (l1 : k.way = "head" → g'.L k.T = g.L k.T)
    (e1 : ∀ T r, g'.el T = some r → r.m = i → g.el T = some r) (s1 : ∀ T pl la, Ls' (.ask i T pl la) → Ls (.ask i T pl la)) : KI g' Ls' i k where
  lm := h.lm.ext x
  T0 := h.T0
  tm := h.tm
  hd := fun q => by
    obtain ⟨r, h1, h2, h3⟩ := h.hd q
    exact ⟨r, x.el _ r h1, h2, (l1 q).trans h3⟩
  sd := fun q => by
    obtain ⟨h1, h2, h3⟩ := h.sd q
    refine ⟨h1, h2, fun j m => ?_⟩
    obtain ⟨V, w1, w2⟩ := h3 j m
    exact ⟨V, x.vt _ _ _ w1, w2⟩
  vt := fun T y q => h.vt T y (by rw [← v1]; exact q)
  vs := fun c q => by
    obtain ⟨V, w⟩ := h.vs c q
    exact ⟨V, by rw [v1]; exact w⟩
  vn := fun q => by rw [v1]; exact h.vn q
  el := fun T r q1 q2 => h.el T r (e1 T r q1 q2) q2
  ak := fun T q => by
    rw [a1] at q ⊢
    obtain ⟨h1, ⟨r, h2⟩, h3⟩ := h.ak T q
    exact ⟨h1, ⟨r, x.el _ r h2⟩, Nat.le_trans h3 (x.L _ r h2).length_le⟩
  ac := fun T p hp pr => by
    rw [a1] at hp
    by_cases z : p = 0
    · rw [z]; exact List.nil_prefix
    · obtain ⟨h1, ⟨r, h2⟩, h3⟩ := h.ak T (by omega)
      rw [x.take h2 (by omega)] at pr ⊢
      exact h.ac T p hp fun T1 r1 q1 q2 q3 => pr T1 r1 q1 q2 (x.el _ _ q3)
  ag := h.ag.ext I x
  b := h.b
  hl := fun q j => by
    have := h.hl q j
    have := x.ak j k.T
    omega
  ask := fun T pl la q => h.ask T pl la (s1 T pl la q)
theorem LI.ext (h : LI g Ls) (I : GInv F g) (x : Ext g g') (v1 : ∀ j T c V, g'.vt j T = some (c, V) → g.vt j T = some (c, V)) : LI g' Ls where
  vt := fun j T c V q => h.vt j T c V (v1 j T c V q)
  voice := fun j i T q => by
    obtain ⟨h1, V, h2⟩ := h.voice j i T q
    exact ⟨h1, V, x.vt _ _ _ h2⟩
  hand := fun i T pl es ag q => by
    obtain ⟨r, h1, h2, h3, h4, h5⟩ := h.hand i T pl es ag q
    obtain ⟨t, e⟩ := x.L T r h1
    refine ⟨r, x.el _ r h1, h2, Nat.le_trans h3 (x.L T r h1).length_le, ?_, ?_⟩
    · rw [← e, List.drop_append_of_le_length (by omega), List.take_append_of_le_length (by rw [List.length_drop]; omega)]
      exact h4
    · have := h5.ext I x
      rw [← e]
      exact this.app
  pack := fun i T X q => by
    obtain ⟨r, h1, h2, h3, h4⟩ := h.pack i T X q
    obtain ⟨t, e⟩ := x.L T r h1
    refine ⟨r, x.el _ r h1, h2, h3.trans (x.L T r h1), ?_⟩
    have := h4.ext I x
    rw [← e]
    exact this.app
  held := fun j i T p q => Nat.le_trans (h.held j i T p q) (x.ak j T)
/-! ### letters are added -/
def Add (Ls M : Lt E → Prop) : Lt E → Prop := fun l => Ls l ∨ M l
/-! ### the ghosts' steps -/
def addV (g : Gh E) (i T : Int) (x : Int × List E) : Gh E := { g with vt := fun j T' => if j = i ∧ T' = T then some x else g.vt j T' }
theorem addV_ext {T : Int} {x : Int × List E} (h : g.vt i T = none) : Ext g (addV g i T x) := ⟨fun _ _ h => h, fun _ _ _ => List.prefix_rfl, fun j T' y q => by
  show (if j = i ∧ T' = T then some x else g.vt j T') = some y
  rw [if_neg (fun z => by rw [z.1, z.2, h] at q; cases q)]
  exact q, fun _ _ => Nat.le_refl _, fun _ _ _ h => h⟩
theorem addV_inv (I : GInv F g) {T c : Int} {V : List E} (h : g.vt i T = none) (lm : LM g V) (w : VoteW g i T V) : GInv F (addV g i T (c, V)) :=
  ⟨I.nF, I.pos, I.pre, I.own, I.nd, I.lm, I.lt, I.mj, fun T' r j q1 q2 => by
    obtain ⟨V', w1, w2, w3⟩ := I.vo T' r j q1 q2
    exact ⟨V', (addV_ext h).vt _ _ _ w1, w2, w3⟩, fun j T' m V' q => by
    replace q : (if j = i ∧ T' = T then some (c, V) else g.vt j T') = some (m, V') := q
    split at q
    · cases q; exact lm
    · exact I.vl j T' m V' q, fun j T' m V' q => by
    replace q : (if j = i ∧ T' = T then some (c, V) else g.vt j T') = some (m, V') := q
    split at q
    · rename_i z; cases q; rw [z.1, z.2]; exact w
    · exact I.vw j T' m V' q, I.mv, I.cm⟩
def addA (g : Gh E) (i T : Int) (p : Nat) : Gh E := { g with ak := fun j T' => if j = i ∧ T' = T then max (g.ak j T') p else g.ak j T' }
theorem addA_ext {T : Int} {p : Nat} : Ext g (addA g i T p) := ⟨fun _ _ h => h, fun _ _ _ => List.prefix_rfl, fun _ _ _ h => h, fun j T' => by
  show _ ≤ (if j = i ∧ T' = T then max (g.ak j T') p else g.ak j T')
  split <;> omega, fun _ _ _ h => h⟩
theorem addA_ne {T T' : Int} {p : Nat} {j : Int} (h : ¬ (j = i ∧ T' = T)) : (addA g i T p).ak j T' = g.ak j T' := if_neg h
theorem addA_self {T : Int} {p : Nat} : (addA g i T p).ak i T = max (g.ak i T) p := if_pos ⟨rfl, rfl⟩
theorem addA_inv (I : GInv F g) {T : Int} {p : Nat} (h : ∀ T' x, g.vt i T' = some x → T' ≤ T) : GInv F (addA g i T p) :=
  ⟨I.nF, I.pos, I.pre, I.own, I.nd, I.lm, I.lt, I.mj, fun T' r j q1 q2 => by
    obtain ⟨V', w1, w2, w3⟩ := I.vo T' r j q1 q2
    refine ⟨V', w1, w2, fun T0 p' z1 z2 z3 => w3 T0 p' z1 ?_ z3⟩
    by_cases z : j = i ∧ T0 = T
    · have := h T' _ (by rw [← z.1]; exact w1)
      omega
    · rwa [addA_ne z] at z2, I.vl, fun j T' m V' q T0 p' z1 z2 z3 => I.vw j T' m V' q T0 p' z1 (by
    by_cases z : j = i ∧ T0 = T
    · have := h T' _ (by rw [← z.1]; exact q)
      omega
    · rwa [addA_ne z] at z2) z3, I.mv, fun T' p' n c => by
    obtain ⟨r, a1, a2, a3, a4, Q, m, q⟩ := I.cm T' p' n c
    exact ⟨r, a1, a2, a3, a4, Q, m, fun j hj => Nat.le_trans (q j hj) (addA_ext.ak j T')⟩⟩
def addC (g : Gh E) (T : Int) (p n : Nat) : Gh E := { g with cm := fun T' p' n' => g.cm T' p' n' ∨ T' = T ∧ p' = p ∧ n' = n }
theorem addC_ext {T : Int} {p n : Nat} : Ext g (addC g T p n) := ⟨fun _ _ h => h, fun _ _ _ => List.prefix_rfl, fun _ _ _ h => h, fun _ _ => Nat.le_refl _, fun _ _ _ h => .inl h⟩
theorem addC_inv (I : GInv F g) {T : Int} {p n : Nat} {r : Rec E} (h1 : g.el T = some r) (h2 : r.X.length < p) (h3 : p ≤ n) (h4 : n ≤ (g.L T).length) {Q : List Int} (h5 : maj (cfg F ((g.L T).take n)) Q) (h6 : ∀ j ∈ Q, p ≤ g.ak j T) : GInv F (addC g T p n) :=
  ⟨I.nF, I.pos, I.pre, I.own, I.nd, I.lm, I.lt, I.mj, I.vo, I.vl, I.vw, fun T' r' q e B a1 a2 a3 a4 => by
    obtain ⟨nr, a, n', c, c2⟩ := I.mv T' r' q e B a1 a2 a3 a4
    exact ⟨nr, a, n', .inl c, c2⟩, fun T' p' n' c => by
    rcases c with c | ⟨rfl, rfl, rfl⟩
    · exact I.cm T' p' n' c
    · exact ⟨r, h1, h2, h3, h4, Q, h5, h6⟩⟩
/-- the head of T puts an entry at its log's end -/
def addE (g : Gh E) (T : Int) (e : E) : Gh E := { g with L := fun T' => if T' = T then g.L T' ++ [e] else g.L T' }
theorem addE_self {T : Int} {e : E} : (addE g T e).L T = g.L T ++ [e] := if_pos rfl
theorem addE_ne {T T' : Int} {e : E} (h : T' ≠ T) : (addE g T e).L T' = g.L T' := if_neg h
theorem addE_ext {T : Int} {e : E} : Ext g (addE g T e) := ⟨fun _ _ h => h, fun T' _ _ => by
  show g.L T' <+: if T' = T then g.L T' ++ [e] else g.L T'
  split
  · exact List.prefix_append _ _
  · exact List.prefix_rfl, fun _ _ _ h => h, fun _ _ => Nat.le_refl _, fun _ _ _ h => h⟩
theorem VoteS.ext {j T : Int} {V : List E} (w : VoteS g j T V) (x : Ext g g') (a1 : ∀ T0, g'.ak j T0 = g.ak j T0) (a2 : ∀ T0, 0 < g.ak j T0 → ∃ r, g.el T0 = some r ∧ g.ak j T0 ≤ (g.L T0).length) : VoteS g' j T V := fun T0 p z1 z2 z3 => by
  rw [a1] at z2
  by_cases z : p = 0
  · rw [z]; exact List.nil_prefix
  · obtain ⟨r, h1, h2⟩ := a2 T0 (by omega)
    rw [x.take h1 (by omega)] at z3 ⊢
    exact w T0 p z1 z2 fun T1 r1 q1 q2 q3 => z3 T1 r1 q1 q2 (x.el _ _ q3)
theorem VoteW.ext {j T : Int} {V : List E} (w : VoteW g j T V) (x : Ext g g') (a1 : ∀ T0, g'.ak j T0 = g.ak j T0) (a2 : ∀ T0, 0 < g.ak j T0 → ∃ r, g.el T0 = some r ∧ g.ak j T0 ≤ (g.L T0).length) : VoteW g' j T V := fun T0 p z1 z2 z3 => by
  rw [a1] at z2
  by_cases z : p = 0
  · rw [z]; exact List.nil_prefix
  · obtain ⟨r, h1, h2⟩ := a2 T0 (by omega)
    rw [x.take h1 (by omega)] at z3 ⊢
    exact w T0 p z1 z2 fun T1 r1 q1 q2 q3 => z3 T1 r1 q1 q2 (x.el _ _ q3)
theorem addE_inv (I : GInv F g) (aa : ∀ j T0, 0 < g.ak j T0 → ∃ r, g.el T0 = some r ∧ g.ak j T0 ≤ (g.L T0).length) {T : Int} {e : E} (ht : tm e = T)
    (hs : ∀ B, st e = some B → B.Nodup ∧ near (cfg F (g.L T)) B ∧ ∃ a n, g.cm T a n ∧ Nost (g.L T) a (g.L T).length) : GInv F (addE g T e) where
  nF := I.nF
  pos := I.pos
  pre := fun T' r h => (I.pre T' r h).trans (addE_ext.L T' r h)
  own := fun T' r p f h1 h2 h3 => by
    by_cases z : T' = T
    · subst z
      rw [addE_self] at h3
      by_cases hp : p < (g.L T').length
      · rw [List.getElem?_append_left hp] at h3
        exact I.own T' r p f h1 h2 h3
      · rw [List.getElem?_append_right (by omega)] at h3
        have := List.mem_of_getElem? h3
        rw [List.mem_singleton.mp this]
        exact ht
    · rw [addE_ne z] at h3
      exact I.own T' r p f h1 h2 h3
  nd := fun T' f B h1 h2 => by
    by_cases z : T' = T
    · subst z
      rw [addE_self] at h1
      rcases List.mem_append.mp h1 with m | m
      · exact I.nd T' f B m h2
      · rw [List.mem_singleton.mp m] at h2
        exact (hs B h2).1
    · rw [addE_ne z] at h1
      exact I.nd T' f B h1 h2
  lm := fun T' r h => (I.lm T' r h).ext addE_ext
  lt := I.lt
  mj := I.mj
  vo := fun T' r j q1 q2 => by
    obtain ⟨V', w1, w2, w3⟩ := I.vo T' r j q1 q2
    exact ⟨V', w1, w2, w3.ext addE_ext (fun _ => rfl) (aa j)⟩
  vl := fun j T' m V q => (I.vl j T' m V q).ext addE_ext
  vw := fun j T' m V q => (I.vw j T' m V q).ext addE_ext (fun _ => rfl) (aa j)
  mv := fun T' r q f B h1 h2 h3 h4 => by
    by_cases z : T' = T
    · subst z
      by_cases hp : q < (g.L T').length
      · rw [addE_self, List.getElem?_append_left hp] at h3
        obtain ⟨nr, a, n, c1, c2, c3, c4⟩ := I.mv T' r q f B h1 h2 h3 h4
        refine ⟨?_, a, n, c1, c2, c3, ?_⟩
        · rw [addE_self, List.take_append_of_le_length (by omega)]
          exact nr
        · rw [addE_self]
          exact c4.take (n := q) (by rw [List.take_append_of_le_length (by omega)]) (Nat.le_refl _)
      · rw [addE_self, List.getElem?_append_right (by omega)] at h3
        have hq : q = (g.L T').length := by
          have := (List.getElem?_eq_some_iff.mp h3).1
          simp at this
          omega
        have hf : f = e := List.mem_singleton.mp (List.mem_of_getElem? h3)
        subst hf
        obtain ⟨n1, n2, a, n, c1, c2⟩ := hs B h4
        obtain ⟨r', b1, b2, b3, b4, _⟩ := I.cm T' a n c1
        refine ⟨?_, a, n, c1, by omega, by omega, ?_⟩
        · rw [addE_self, hq, List.take_append_of_le_length (Nat.le_refl _), List.take_length]
          exact n2
        · rw [addE_self, hq]
          exact c2.take (n := (g.L T').length) (by rw [List.take_append_of_le_length (Nat.le_refl _)]) (Nat.le_refl _)
    · rw [addE_ne z] at h3 ⊢
      exact I.mv T' r q f B h1 h2 h3 h4
  cm := fun T' p n c => by
    obtain ⟨r, a1, a2, a3, a4, Q, m, q⟩ := I.cm T' p n c
    refine ⟨r, a1, a2, a3, Nat.le_trans a4 (addE_ext.L T' r a1).length_le, Q, ?_, q⟩
    rw [addE_ext.take a1 a4]
    exact m
/-- one comes to be head -/
def addH (g : Gh E) (T : Int) (r : Rec E) : Gh E := { g with el := fun T' => if T' = T then some r else g.el T', L := fun T' => if T' = T then r.X else g.L T' }
theorem addH_ext {T : Int} {r : Rec E} (h : g.el T = none) : Ext g (addH g T r) := ⟨fun T' r' q => by
  show (if T' = T then some r else g.el T') = some r'
  rw [if_neg (fun z => by rw [z, h] at q; cases q)]
  exact q, fun T' r' q => by
  show g.L T' <+: if T' = T then r.X else g.L T'
  rw [if_neg (fun z => by rw [z, h] at q; cases q)]
  exact List.prefix_rfl, fun _ _ _ h => h, fun _ _ => Nat.le_refl _, fun _ _ _ h => h⟩
theorem addH_el {T T' : Int} {r r' : Rec E} (q : (addH g T r).el T' = some r') : T' = T ∧ r' = r ∨ T' ≠ T ∧ g.el T' = some r' := by
  replace q : (if T' = T then some r else g.el T') = some r' := q
  split at q
  · rename_i z; cases q; exact .inl ⟨z, rfl⟩
  · rename_i z; exact .inr ⟨z, q⟩
theorem addH_self {T : Int} {r : Rec E} : (addH g T r).L T = r.X := if_pos rfl
theorem addH_ne {T T' : Int} {r : Rec E} (h : T' ≠ T) : (addH g T r).L T' = g.L T' := if_neg h
theorem addH_inv (I : GInv F g) (aa : ∀ j T0, 0 < g.ak j T0 → ∃ r, g.el T0 = some r ∧ g.ak j T0 ≤ (g.L T0).length) {T : Int} {r : Rec E} (h : g.el T = none) (hT : 1 ≤ T) (C : CandW F g T r.m r.X r.Q) : GInv F (addH g T r) := by
  have x := addH_ext (r := r) h
  have ndX : ∀ e B, e ∈ r.X → st e = some B → B.Nodup := fun e B m hs => by
    obtain ⟨p, hp, q⟩ := List.mem_iff_getElem.mp m
    obtain ⟨r', h1, h2, h3, h4⟩ := C.lm p e (by rw [← q]; exact List.getElem?_eq_getElem hp)
    have : (g.L (tm e))[p]? = some e := by rw [← take_get h4 (by omega), ← q]; exact List.getElem?_eq_getElem hp
    exact I.nd _ e B (List.mem_of_getElem? this) hs
  have no : ∀ {T' p n}, g.cm T' p n → T' ≠ T := fun c z => by
    obtain ⟨r', a1, _⟩ := I.cm _ _ _ c
    rw [z, h] at a1
    cases a1
  refine ⟨I.nF, fun T' r' q => ?_, fun T' r' q => ?_, fun T' r' p e q1 q2 q3 => ?_, fun T' e B q1 q2 => ?_, fun T' r' q => ?_, fun T' r' q => ?_, fun T' r' q => ?_, fun T' r' j q1 q2 => ?_, fun j T' m V q => (I.vl j T' m V q).ext x, fun j T' m V q => (I.vw j T' m V q).ext x (fun _ => rfl) (aa j), fun T' r' q e B q1 q2 q3 q4 => ?_, fun T' p n c => ?_⟩
  · rcases addH_el q with ⟨z, rfl⟩ | ⟨z, q⟩
    · rw [z]; exact hT
    · exact I.pos T' r' q
  · rcases addH_el q with ⟨z, rfl⟩ | ⟨z, q⟩
    · subst z; rw [addH_self]; exact List.prefix_rfl
    · rw [addH_ne z]; exact I.pre T' r' q
  · rcases addH_el q1 with ⟨z, rfl⟩ | ⟨z, q⟩
    · subst z
      rw [addH_self] at q3
      have := (List.getElem?_eq_some_iff.mp q3).1
      omega
    · rw [addH_ne z] at q3; exact I.own T' r' p e q q2 q3
  · by_cases z : T' = T
    · subst z; rw [addH_self] at q1; exact ndX e B q1 q2
    · rw [addH_ne z] at q1; exact I.nd T' e B q1 q2
  · rcases addH_el q with ⟨z, rfl⟩ | ⟨z, q⟩
    · exact C.lm.ext x
    · exact (I.lm T' r' q).ext x
  · rcases addH_el q with ⟨z, rfl⟩ | ⟨z, q⟩
    · rw [z]; exact C.lt
    · exact I.lt T' r' q
  · rcases addH_el q with ⟨z, rfl⟩ | ⟨z, q⟩
    · exact C.mj
    · exact I.mj T' r' q
  · rcases addH_el q1 with ⟨z, rfl⟩ | ⟨z, q⟩
    · subst z
      obtain ⟨V, v1, v2⟩ := C.vo j q2
      refine ⟨V, v1, v2, ?_⟩
      have w := I.vw j T' _ V v1
      have ws : VoteS g j T' V := fun T0 p z1 z2 z3 => w T0 p z1 z2 fun T1 r1 y1 y2 y3 => z3 T1 r1 y1 (by
        by_cases y : T1 = T'
        · rw [y, h] at y3; cases y3
        · omega) y3
      exact ws.ext x (fun _ => rfl) (aa j)
    · obtain ⟨V, v1, v2, v3⟩ := I.vo T' r' j q q2
      exact ⟨V, v1, v2, v3.ext x (fun _ => rfl) (aa j)⟩
  · rcases addH_el q1 with ⟨z, rfl⟩ | ⟨z, q'⟩
    · subst z
      rw [addH_self] at q3
      have := (List.getElem?_eq_some_iff.mp q3).1
      omega
    · rw [addH_ne z] at q3 ⊢
      exact I.mv T' r' q e B q' q2 q3 q4
  · obtain ⟨r', a1, a2⟩ := I.cm T' p n c
    rw [addH_ne (no c)]
    exact ⟨r', x.el _ _ a1, a2⟩
end
end Rf

set_option linter.all false
set_option autoImplicit false
/-! RfC: the steps of keepers. -/
namespace Rf
open En
variable {E : Type} [En E]
section
variable {F : List Int} {K : Int → Kp E} {g g' : Gh E} {Ls Ls' : Lt E → Prop} {i : Int} {k k' : Kp E}
theorem Inv.aa (I : Inv F K Ls g) : ∀ j T0, 0 < g.ak j T0 → ∃ r, g.el T0 = some r ∧ g.ak j T0 ≤ (g.L T0).length := fun j T0 h => by
  obtain ⟨_, ⟨r, h2⟩, h3⟩ := (I.ki j).ak T0 h
  exact ⟨r, h2, h3⟩
theorem Inv.upd (I : Inv F K Ls g) (gi' : GInv F g') (x : Ext g g') (ki : KI g' Ls' i k')
    (o1 : ∀ j, j ≠ i → ∀ T, g'.vt j T = g.vt j T) (o2 : ∀ j, j ≠ i → ∀ T, g'.ak j T = g.ak j T) (o3 : ∀ j, j ≠ i → (K j).way = "head" → g'.L (K j).T = g.L (K j).T)
    (o4 : ∀ j, j ≠ i → ∀ T r, g'.el T = some r → r.m = j → g.el T = some r) (o5 : ∀ j, j ≠ i → ∀ T pl la, Ls' (.ask j T pl la) → Ls (.ask j T pl la)) (li : LI g' Ls') : Inv F (upd K i k') Ls' g' :=
  ⟨gi', fun j => by
    by_cases h : j = i
    · subst h; rw [upd_self]; exact ki
    · rw [upd_ne K k' h]
      exact (I.ki j).ext I.gi x (o1 j h) (o2 j h) (o3 j h) (o4 j h) (o5 j h), li⟩
/-- only the keeper changes -/
theorem Inv.upd0 (I : Inv F K Ls g) (ki : KI g Ls i k') : Inv F (Rf.upd K i k') Ls g :=
  I.upd I.gi (Ext.refl g) ki (fun _ _ _ => rfl) (fun _ _ _ => rfl) (fun _ _ _ => rfl) (fun _ _ _ _ h _ => h) (fun _ _ _ _ _ h => h) I.li
/-! hearing of a term -/
def hearK (k : Kp E) (T : Int) : Kp E := if k.T < T then { k with T := T, v := none, way := "plain", vs := [] } else k
theorem KI.hear (h : KI g Ls i k) (T : Int) : KI g Ls i (hearK k T) := by
  unfold hearK
  split
  · rename_i lt
    have T0 := h.T0
    refine ⟨h.lm, by show 0 ≤ T; omega, fun e m => ?_, fun q => absurd q (by simp), fun q => absurd q (by simp), fun T' x q => ?_, fun c q => (by cases q), fun _ => ?_, fun T' r q1 q2 => ?_, fun T' q => ?_, fun T' p hp pr => ?_, h.ag.mono (by show k.T ≤ T; omega), h.b, fun q => absurd q (by simp), fun T' pl la q => ?_⟩
    · have := h.tm e m; show En.tm e ≤ T; omega
    · have := h.vt T' x q; show T' ≤ T; omega
    · show g.vt i T = none
      cases hv : g.vt i T with
      | none => rfl
      | some x => have := h.vt T x hv; omega
    · have := (h.el T' r q1 q2).1
      exact ⟨by show T' ≤ T; omega, fun z => by have z : T' = T := z; omega⟩
    · obtain ⟨h1, h2, h3⟩ := h.ak T' q
      exact ⟨by show T' ≤ T; omega, h2, h3⟩
    · exact h.ac T' p hp fun T1 r q1 q2 q3 => pr T1 r q1 (by show T1 ≤ T; omega) q3
    · have := (h.ask T' pl la q).1
      exact ⟨by show T' ≤ T; omega, fun z => by have z : T' = T := z; omega⟩
  · exact h
theorem Inv.hear (I : Inv F K Ls g) (i T : Int) : Inv F (Rf.upd K i (hearK (K i) T)) Ls g := I.upd0 ((I.ki i).hear T)
/-! being plain; waking; packing up -/
theorem KI.plain (h : KI g Ls i k) {vs : List Int} {hl : Int → Int} {a : Nat} (ha : a ≤ k.ag) (hb : k.b ≤ a) : KI g Ls i { k with way := "plain", vs := vs, hl := hl, ag := a } :=
  ⟨h.lm, h.T0, h.tm, fun q => absurd q (by simp), fun q => absurd q (by simp), h.vt, h.vs, h.vn, fun T r q1 q2 => ⟨(h.el T r q1 q2).1, fun _ => by simp⟩, h.ak, h.ac, h.ag.less ha, hb, fun q => absurd q (by simp), fun T pl la q => ⟨(h.ask T pl la q).1, fun _ z => absurd z (by simp)⟩⟩
theorem KI.base (h : KI g Ls i k) {b : Nat} (hb : b ≤ k.ag) : KI g Ls i { k with b := b } :=
  ⟨h.lm, h.T0, h.tm, h.hd, h.sd, h.vt, h.vs, h.vn, h.el, h.ak, h.ac, h.ag, hb, h.hl, h.ask⟩
/-! letters -/
theorem LI.add {M : Lt E → Prop} (h : LI g Ls) (m1 : ∀ j i T, M (.voice j i T) → i ≠ j ∧ ∃ V, g.vt j T = some (i, V))
    (m2 : ∀ i T pl es ag, M (.hand i T pl es ag) → ∃ r, g.el T = some r ∧ r.m = i ∧ pl + es.length ≤ (g.L T).length ∧ es = ((g.L T).drop pl).take es.length ∧ AgOk g T (g.L T) ag)
    (m3 : ∀ i T X, M (.pack i T X) → ∃ r, g.el T = some r ∧ r.m = i ∧ X <+: g.L T ∧ AgOk g T (g.L T) X.length)
    (m4 : ∀ j i T p, M (.held j i T p) → p ≤ g.ak j T) : LI g (Add Ls M) :=
  ⟨fun j T c V q => (h.vt j T c V q).imp id fun ⟨pl, la, q1, q2⟩ => ⟨pl, la, .inl q1, q2⟩, fun j i T q => q.elim (h.voice j i T) (m1 j i T), fun i T pl es ag q => q.elim (h.hand i T pl es ag) (m2 i T pl es ag), fun i T X q => q.elim (h.pack i T X) (m3 i T X), fun j i T p q => q.elim (h.held j i T p) (m4 j i T p)⟩
theorem KI.letters {M : Lt E → Prop} (h : KI g Ls i k) (m : ∀ T pl la, M (.ask i T pl la) → T ≤ k.T ∧ (T = k.T → k.way = "standing" → la = lastT k.G ∧ pl = k.G.length)) : KI g (Add Ls M) i k :=
  ⟨h.lm, h.T0, h.tm, h.hd, h.sd, h.vt, h.vs, h.vn, h.el, h.ak, h.ac, h.ag, h.b, h.hl, fun T pl la q => q.elim (h.ask T pl la) (m T pl la)⟩
theorem Inv.letters {M : Lt E → Prop} (I : Inv F K Ls g) (m0 : ∀ i T pl la, M (.ask i T pl la) → T ≤ (K i).T ∧ (T = (K i).T → (K i).way = "standing" → la = lastT (K i).G ∧ pl = (K i).G.length))
    (m1 : ∀ j i T, M (.voice j i T) → i ≠ j ∧ ∃ V, g.vt j T = some (i, V))
    (m2 : ∀ i T pl es ag, M (.hand i T pl es ag) → ∃ r, g.el T = some r ∧ r.m = i ∧ pl + es.length ≤ (g.L T).length ∧ es = ((g.L T).drop pl).take es.length ∧ AgOk g T (g.L T) ag)
    (m3 : ∀ i T X, M (.pack i T X) → ∃ r, g.el T = some r ∧ r.m = i ∧ X <+: g.L T ∧ AgOk g T (g.L T) X.length)
    (m4 : ∀ j i T p, M (.held j i T p) → p ≤ g.ak j T) : Inv F K (Add Ls M) g :=
  ⟨I.gi, fun i => (I.ki i).letters (m0 i), I.li.add m1 m2 m3 m4⟩
/-- letters that bind nobody -/
theorem Inv.silent (I : Inv F K Ls g) : Inv F K (Add Ls fun _ => False) g := I.letters (fun _ _ _ _ h => h.elim) (fun _ _ _ h => h.elim) (fun _ _ _ _ _ h => h.elim) (fun _ _ _ h => h.elim) (fun _ _ _ _ h => h.elim)
/-- fewer letters -/
theorem Inv.fewer (I : Inv F K Ls g) (h : ∀ l, Ls' l → Ls l) (hv : ∀ i T pl la, Ls (.ask i T pl la) → Ls' (.ask i T pl la)) : Inv F K Ls' g :=
  ⟨I.gi, fun i => by
    have k := I.ki i
    exact ⟨k.lm, k.T0, k.tm, k.hd, k.sd, k.vt, k.vs, k.vn, k.el, k.ak, k.ac, k.ag, k.b, k.hl, fun T pl la q => k.ask T pl la (h _ q)⟩,
   ⟨fun j T c V q => (I.li.vt j T c V q).imp id fun ⟨pl, la, q1, q2⟩ => ⟨pl, la, hv _ _ _ _ q1, q2⟩, fun j i T q => I.li.voice j i T (h _ q), fun i T pl es ag q => I.li.hand i T pl es ag (h _ q), fun i T X q => I.li.pack i T X (h _ q), fun j i T p q => I.li.held j i T p (h _ q)⟩⟩
/-! standing -/
theorem Inv.stand (I : Inv F K Ls g) (i : Int) : Inv F (Rf.upd K i { K i with T := (K i).T + 1, v := some i, way := "standing", vs := [i] }) Ls (addV g i ((K i).T + 1) (i, (K i).G)) := by
  have h := I.ki i
  have T0 := h.T0
  have hn : g.vt i ((K i).T + 1) = none := by
    cases hv : g.vt i ((K i).T + 1) with
    | none => rfl
    | some x => have := h.vt _ x hv; omega
  have x := addV_ext (x := (i, (K i).G)) hn
  have w : VoteW g i ((K i).T + 1) (K i).G := fun T1 p z1 z2 z3 => h.ac T1 p z2 fun T2 r q1 q2 q3 => z3 T2 r q1 (by omega) q3
  have gi := addV_inv (c := i) I.gi hn h.lm w
  have own : (addV g i ((K i).T + 1) (i, (K i).G)).vt i ((K i).T + 1) = .some (i, (K i).G) := if_pos ⟨rfl, rfl⟩
  have vt' : ∀ j T y, (addV g i ((K i).T + 1) (i, (K i).G)).vt j T = .some y → (j = i ∧ T = (K i).T + 1 ∧ y = (i, (K i).G)) ∨ g.vt j T = .some y := fun j T y q => by
    replace q : (if j = i ∧ T = (K i).T + 1 then Option.some (i, (K i).G) else g.vt j T) = .some y := q
    split at q
    · rename_i z; cases q; exact .inl ⟨z.1, z.2, rfl⟩
    · exact .inr q
  refine I.upd gi x ⟨h.lm.ext x, by show 0 ≤ (K i).T + 1; omega, fun e m => ?_, fun q => absurd q (by simp), fun _ => ⟨by show 1 ≤ (K i).T + 1; omega, fun e m => ?_, fun j m => ?_⟩, fun T y q => ?_, fun c q => ?_, fun q => (by cases q), fun T r q1 q2 => ?_, fun T q => ?_, fun T p hp pr => ?_, (h.ag.ext I.gi x).mono (by show (K i).T ≤ (K i).T + 1; omega), h.b, fun q => absurd q (by simp), fun T pl la q => ?_⟩ (fun j hj T => ?_) (fun _ _ _ => rfl) (fun _ _ _ => rfl) (fun _ _ _ _ q _ => q) (fun _ _ _ _ _ q => q) ⟨fun j T c V q => ?_, fun j i T q => ?_, (I.li.ext I.gi (Ext.refl g) fun _ _ _ _ h => h).hand, fun i T X q => ?_, I.li.held⟩
  · have := h.tm e m; show tm e ≤ (K i).T + 1; omega
  · have := h.tm e m; show tm e < (K i).T + 1; omega
  · rw [List.mem_singleton.mp m]
    exact ⟨_, own, .inr ⟨rfl, Nat.le_refl _⟩⟩
  · rcases vt' i T y q with ⟨_, z, _⟩ | z
    · rw [z]; exact Int.le_refl _
    · have := h.vt T y z; show T ≤ (K i).T + 1; omega
  · cases q
    exact ⟨_, own⟩
  · have := (h.el T r q1 q2).1
    exact ⟨by show T ≤ (K i).T + 1; omega, fun z => by have z : T = (K i).T + 1 := z; omega⟩
  · obtain ⟨h1, h2, h3⟩ := h.ak T q
    exact ⟨by show T ≤ (K i).T + 1; omega, h2, h3⟩
  · exact h.ac T p hp fun T1 r q1 q2 q3 => pr T1 r q1 (by show T1 ≤ (K i).T + 1; omega) q3
  · have := (h.ask T pl la q).1
    exact ⟨by show T ≤ (K i).T + 1; omega, fun z => by have z : T = (K i).T + 1 := z; omega⟩
  · show (if j = i ∧ T = (K i).T + 1 then _ else g.vt j T) = _
    rw [if_neg fun z => hj z.1]
  · rcases vt' j T (c, V) q with ⟨z1, z2, z3⟩ | z
    · cases z3
      exact .inl z1.symm
    · exact I.li.vt j T c V z
  · obtain ⟨h1, V, h2⟩ := I.li.voice j i T q
    exact ⟨h1, V, x.vt _ _ _ h2⟩
  · exact I.li.pack i T X q
/-! a voice is given -/
theorem Inv.give (I : Inv F K Ls g) (i c : Int) (pl : Nat) (la : Int) (hc : c ≠ i) (hs : Ls (.ask c (K i).T pl la)) (hv : (K i).v = none ∨ (K i).v = some c) (hn : newP la pl (K i).G) :
    ∃ g', Ext g g' ∧ (g'.el = g.el ∧ g'.cm = g.cm) ∧ g'.L = g.L ∧ Inv F (Rf.upd K i { K i with v := .some c }) (Add Ls fun l => l = .voice i c (K i).T) g' := by
  have h := I.ki i
  rcases hv with hv | hv
  · have vn := h.vn hv
    have x := addV_ext (x := (c, (K i).G)) vn
    have w : VoteW g i (K i).T (K i).G := fun T1 p z1 z2 z3 => h.ac T1 p z2 fun T2 r q1 q2 q3 => z3 T2 r q1 q2 q3
    have gi := addV_inv (c := c) I.gi vn h.lm w
    have own : (addV g i (K i).T (c, (K i).G)).vt i (K i).T = .some (c, (K i).G) := if_pos ⟨rfl, rfl⟩
    have vt' : ∀ j T y, (addV g i (K i).T (c, (K i).G)).vt j T = .some y → (j = i ∧ T = (K i).T ∧ y = (c, (K i).G)) ∨ g.vt j T = .some y := fun j T y q => by
      replace q : (if j = i ∧ T = (K i).T then Option.some (c, (K i).G) else g.vt j T) = .some y := q
      split at q
      · rename_i z; cases q; exact .inl ⟨z.1, z.2, rfl⟩
      · exact .inr q
    refine ⟨addV g i (K i).T (c, (K i).G), x, ⟨rfl, rfl⟩, rfl, I.upd gi x ⟨h.lm.ext x, h.T0, h.tm, h.hd, fun q => ?_, fun T y q => ?_, fun c' q => ?_, fun q => (by cases q), h.el, h.ak, h.ac, h.ag.ext I.gi x, h.b, h.hl, fun T pl la q => ?_⟩ (fun j hj T => ?_) (fun _ _ _ => rfl) (fun _ _ _ => rfl) (fun _ _ _ _ q _ => q) (fun j hj T pl la q => ?_) ⟨fun j T c' V q => ?_, fun j i' T q => ?_, fun i' T pl es ag q => ?_, fun i' T X q => ?_, fun j i' T p q => ?_⟩⟩
    · obtain ⟨h1, h2, h3⟩ := h.sd q
      refine ⟨h1, h2, fun j m => ?_⟩
      obtain ⟨V, w1, w2⟩ := h3 j m
      exact ⟨V, x.vt _ _ _ w1, w2⟩
    · rcases vt' i T y q with ⟨_, z, _⟩ | z
      · rw [z]; exact Int.le_refl _
      · exact h.vt T y z
    · cases q
      exact ⟨_, own⟩
    · exact q.elim (h.ask T pl la) fun z => by cases z
    · show (if j = i ∧ T = (K i).T then _ else g.vt j T) = _
      rw [if_neg fun z => hj z.1]
    · exact q.elim id fun z => by cases z
    · rcases vt' j T (c', V) q with ⟨z1, z2, z3⟩ | z
      · cases z3
        exact .inr ⟨pl, la, .inl (by rw [z2]; exact hs), hn⟩
      · exact (I.li.vt j T c' V z).imp id fun ⟨pl, la, q1, q2⟩ => ⟨pl, la, .inl q1, q2⟩
    · rcases q with q | q
      · obtain ⟨h1, V, h2⟩ := I.li.voice j i' T q
        exact ⟨h1, V, x.vt _ _ _ h2⟩
      · cases q
        exact ⟨hc, _, own⟩
    · rcases q with q | q
      · exact I.li.hand i' T pl es ag q
      · cases q
    · rcases q with q | q
      · exact I.li.pack i' T X q
      · cases q
    · rcases q with q | q
      · exact I.li.held j i' T p q
      · cases q
  · have e : { K i with v := .some c } = K i := by rw [← hv]
    rw [e, upd_same]
    refine ⟨g, Ext.refl g, ⟨rfl, rfl⟩, rfl, I.letters (fun _ _ _ _ h => by cases h) (fun j i' T q => ?_) (fun _ _ _ _ _ h => by cases h) (fun _ _ _ h => by cases h) (fun _ _ _ _ h => by cases h)⟩
    cases q
    exact ⟨hc, h.vs c hv⟩
/-! a voice is taken -/
theorem Inv.voice (I : Inv F K Ls g) (i j : Int) (hw : (K i).way = "standing") (hs : Ls (.voice j i (K i).T)) {vs : List Int} (h1 : ∀ x ∈ vs, x ∈ (K i).vs ∨ x = j) : Inv F (Rf.upd K i { K i with vs := vs }) Ls g := by
  have h := I.ki i
  refine I.upd0 ⟨h.lm, h.T0, h.tm, h.hd, fun q => ?_, h.vt, h.vs, h.vn, h.el, h.ak, h.ac, h.ag, h.b, h.hl, h.ask⟩
  obtain ⟨h2, h3, h4⟩ := h.sd q
  refine ⟨h2, h3, fun x m => ?_⟩
  rcases h1 x m with z | rfl
  · exact h4 x z
  · obtain ⟨ne, V, hv⟩ := I.li.voice x i _ hs
    rcases I.li.vt x _ i V hv with z | ⟨pl, la, z1, z2⟩
    · exact absurd z ne
    · obtain ⟨e1, e2⟩ := (h.ask _ pl la z1).2 rfl hw
      refine ⟨V, hv, ?_⟩
      rw [e1, e2] at z2
      exact z2
/-! coming to be head; putting an entry -/
theorem GInv.tmL (I : GInv F g) {T : Int} {r : Rec E} (h : g.el T = .some r) : ∀ e ∈ g.L T, tm e ≤ T := fun e m => by
  obtain ⟨p, hp, q⟩ := List.mem_iff_getElem.mp m
  have he : (g.L T)[p]? = .some e := by rw [← q]; exact List.getElem?_eq_getElem hp
  by_cases hx : p < r.X.length
  · have : r.X[p]? = .some e := by
      rw [← pre_take (I.pre T r h), List.getElem?_take_of_lt hx]
      exact he
    have := I.lt T r h e (List.mem_of_getElem? this)
    omega
  · have := I.own T r p e h (by omega) he
    omega
theorem Inv.elect (I : Inv F K Ls g) (i : Int) (hw : (K i).way = "standing") (hm : maj (cfg F (K i).G) (K i).vs) {hl : Int → Int} (hh : ∀ j, hl j ≤ 0) :
    Inv F (Rf.upd K i { K i with way := "head", hl := hl }) Ls (addH g (K i).T ⟨i, (K i).G, (K i).vs⟩) := by
  have h := I.ki i
  obtain ⟨h1, h2, h3⟩ := h.sd hw
  have C : CandW F g (K i).T i (K i).G (K i).vs := ⟨h.lm, h2, hm, h3⟩
  have hn : g.el (K i).T = none := by
    cases he : g.el (K i).T with
    | none => rfl
    | some r =>
      have := I.gi.one (I.gi.cand he) C
      exact absurd hw ((h.el _ r he this).2 rfl)
  have x := addH_ext (r := ⟨i, (K i).G, (K i).vs⟩) hn
  have gi := addH_inv (r := ⟨i, (K i).G, (K i).vs⟩) I.gi I.aa hn h1 C
  refine I.upd gi x ⟨h.lm.ext x, h.T0, h.tm, fun _ => ⟨_, if_pos rfl, rfl, addH_self⟩, fun q => absurd q (by simp), h.vt, h.vs, h.vn, fun T r q1 q2 => ?_, fun T q => ?_, fun T p hp pr => ?_, h.ag.ext I.gi x, h.b, fun _ j => ?_, fun T pl la q => ⟨(h.ask T pl la q).1, fun _ z => absurd z (by simp)⟩⟩ (fun _ _ _ => rfl) (fun _ _ _ => rfl) (fun j hj q => ?_) (fun j hj T r q1 q2 => ?_) (fun _ _ _ _ _ q => q) (I.li.ext I.gi x fun _ _ _ _ q => q)
  · rcases addH_el q1 with ⟨z, rfl⟩ | ⟨z, q⟩
    · exact ⟨by rw [z]; exact Int.le_refl _, fun _ => by simp⟩
    · exact ⟨(h.el T r q q2).1, fun _ => by simp⟩
  · obtain ⟨a1, ⟨r, a2⟩, a3⟩ := h.ak T q
    exact ⟨a1, ⟨r, x.el _ _ a2⟩, Nat.le_trans a3 (x.L T r a2).length_le⟩
  · by_cases z : p = 0
    · rw [z]; exact List.nil_prefix
    · obtain ⟨a1, ⟨r, a2⟩, a3⟩ := h.ak T (by have : (addH g (K i).T ⟨i, (K i).G, (K i).vs⟩).ak i T = g.ak i T := rfl; omega)
      have hp : p ≤ g.ak i T := hp
      rw [x.take a2 (by omega)] at pr ⊢
      exact h.ac T p hp fun T1 r1 q1 q2 q3 => pr T1 r1 q1 q2 (x.el _ _ q3)
  · have := hh j
    show hl j ≤ _
    omega
  · obtain ⟨r, a1, a2, a3⟩ := (I.ki j).hd q
    refine addH_ne fun z => ?_
    rw [z, hn] at a1
    cases a1
  · rcases addH_el q1 with ⟨z, rfl⟩ | ⟨z, q⟩
    · exact absurd q2.symm hj
    · exact q
theorem Inv.put (I : Inv F K Ls g) (i : Int) (hw : (K i).way = "head") {e : E} (ht : tm e = (K i).T)
    (hs : ∀ B, st e = .some B → B.Nodup ∧ near (cfg F (K i).G) B ∧ ∃ a n, g.cm (K i).T a n ∧ Nost (K i).G a (K i).G.length) :
    Inv F (Rf.upd K i { K i with G := (K i).G ++ [e] }) Ls (addE g (K i).T e) := by
  have h := I.ki i
  obtain ⟨r, h1, h2, h3⟩ := h.hd hw
  have x := addE_ext (g := g) (T := (K i).T) (e := e)
  have gi := addE_inv (T := (K i).T) I.gi I.aa ht (fun B q => by rw [h3]; exact hs B q)
  have lX : r.X.length ≤ (K i).G.length := by rw [← h3]; exact (I.gi.pre _ r h1).length_le
  refine I.upd gi x ⟨fun p f hp => ?_, h.T0, fun f m => ?_, fun _ => ⟨r, h1, h2, by rw [addE_self, h3]⟩, fun q => by rw [show ({ K i with G := (K i).G ++ [e] } : Kp E).way = (K i).way from rfl, hw] at q; exact absurd q (by decide), h.vt, h.vs, h.vn, h.el, fun T q => ?_, fun T p hp pr => ?_, (h.ag.ext I.gi x).app, h.b, h.hl, fun T pl la q => ⟨(h.ask T pl la q).1, fun _ z => by rw [show ({ K i with G := (K i).G ++ [e] } : Kp E).way = (K i).way from rfl, hw] at z; exact absurd z (by decide)⟩⟩ (fun _ _ _ => rfl) (fun _ _ _ => rfl) (fun j hj q => ?_) (fun _ _ _ _ q _ => q) (fun _ _ _ _ _ q => q) (I.li.ext I.gi x fun _ _ _ _ q => q)
  · by_cases lp : p < (K i).G.length
    · replace hp : ((K i).G ++ [e])[p]? = Option.some f := hp
      rw [List.getElem?_append_left lp] at hp
      obtain ⟨r', a1, a2, a3, a4⟩ := (h.lm.ext x) p f hp
      refine ⟨r', a1, a2, a3, ?_⟩
      rw [← a4]
      exact List.take_append_of_le_length (by omega)
    · replace hp : ((K i).G ++ [e])[p]? = Option.some f := hp
      rw [List.getElem?_append_right (by omega)] at hp
      have hl := (List.getElem?_eq_some_iff.mp hp).1
      have hf : f = e := List.mem_singleton.mp (List.mem_of_getElem? hp)
      simp at hl
      subst hf
      rw [ht, addE_self, h3]
      exact ⟨r, h1, by omega, by simp; omega, rfl⟩
  · rcases List.mem_append.mp m with m | m
    · exact h.tm f m
    · rw [List.mem_singleton.mp m, ht]
      exact Int.le_refl _
  · obtain ⟨a1, ⟨r, a2⟩, a3⟩ := h.ak T q
    exact ⟨a1, ⟨r, a2⟩, Nat.le_trans a3 (x.L T r a2).length_le⟩
  · by_cases z : p = 0
    · rw [z]; exact List.nil_prefix
    · have hp : p ≤ g.ak i T := hp
      obtain ⟨a1, ⟨r, a2⟩, a3⟩ := h.ak T (by omega)
      rw [x.take a2 (by omega)] at pr ⊢
      exact (h.ac T p hp fun T1 r1 q1 q2 q3 => pr T1 r1 q1 q2 q3).trans (List.prefix_append _ _)
  · obtain ⟨r', a1, a2, a3⟩ := (I.ki j).hd q
    refine addE_ne fun z => hj ?_
    rw [z, h1] at a1
    cases a1
    rw [← a2, h2]
/-! what is held is noted -/
theorem Inv.note (I : Inv F K Ls g) (i : Int) {p : Nat} {r : Rec E} (h1 : g.el (K i).T = .some r) (h2 : p ≤ (g.L (K i).T).length) (h3 : (g.L (K i).T).take p <+: (K i).G) : Inv F K Ls (addA g i (K i).T p) := by
  have h := I.ki i
  have x := addA_ext (g := g) (i := i) (T := (K i).T) (p := p)
  have gi := addA_inv (T := (K i).T) (p := p) I.gi (fun T' y q => h.vt T' y q)
  have ki : KI (addA g i (K i).T p) Ls i (K i) := by
    refine ⟨h.lm.ext x, h.T0, h.tm, h.hd, h.sd, h.vt, h.vs, h.vn, h.el, fun T q => ?_, fun T p' hp pr => ?_, h.ag.ext I.gi x, h.b, fun q j => ?_, h.ask⟩
    · by_cases z : T = (K i).T
      · subst z
        refine ⟨Int.le_refl _, ⟨r, h1⟩, ?_⟩
        rw [addA_self]
        show max _ p ≤ (g.L (K i).T).length
        by_cases y : 0 < g.ak i (K i).T
        · have := (h.ak _ y).2.2
          omega
        · omega
      · rw [addA_ne fun y => z y.2] at q ⊢
        exact h.ak T q
    · by_cases z : T = (K i).T
      · subst z
        rw [addA_self] at hp
        by_cases y : p' ≤ g.ak i (K i).T
        · exact h.ac _ p' y pr
        · exact (List.take_prefix_take_left (by omega)).trans h3
      · rw [addA_ne fun y => z y.2] at hp
        exact h.ac T p' hp pr
    · have := h.hl q j
      have := x.ak j (K i).T
      omega
  have := I.upd gi x ki (fun _ _ _ => rfl) (fun j hj T => addA_ne fun z => hj z.1) (fun _ _ _ => rfl) (fun _ _ _ _ q _ => q) (fun _ _ _ _ _ q => q) (I.li.ext I.gi x fun _ _ _ _ q => q)
  rwa [upd_same] at this
/-! agreeing -/
theorem Inv.agree (I : Inv F K Ls g) (i : Int) (hw : (K i).way = "head") {R : Nat} (h1 : (K i).ag < R) (h2 : R ≤ (K i).G.length) (h3 : tm ((K i).G[R - 1]'(by omega)) = (K i).T) {Q : List Int} (h4 : maj (cfg F (K i).G) Q) (h5 : ∀ j ∈ Q, j ≠ i → (R : Int) ≤ (K i).hl j) :
    ∃ g', Ext g g' ∧ (g'.el = g.el ∧ ∀ T p n, g'.cm T p n → g.cm T p n ∨ p = R) ∧ g'.L = g.L ∧ Inv F (Rf.upd K i { K i with ag := R }) Ls g' ∧ g'.cm (K i).T R (K i).G.length := by
  obtain ⟨r, a1, a2, a3⟩ := (I.ki i).hd hw
  have J := I.note i (p := (K i).G.length) a1 (by rw [a3]; exact Nat.le_refl _) (by rw [a3, List.take_length]; exact List.prefix_rfl)
  generalize hg : addA g i (K i).T (K i).G.length = g1 at J
  have b1 : g1.el (K i).T = .some r := by rw [← hg]; exact a1
  have b3 : g1.L (K i).T = (K i).G := by rw [← hg]; exact a3
  have h := J.ki i
  have x := addC_ext (g := g1) (T := (K i).T) (p := R) (n := (K i).G.length)
  have rX : r.X.length < R := by
    apply Classical.byContradiction
    intro z
    have e1 : (K i).G[R - 1]? = .some ((K i).G[R - 1]'(by omega)) := List.getElem?_eq_getElem (by omega)
    have e2 : r.X[R - 1]? = .some ((K i).G[R - 1]'(by omega)) := by
      rw [← pre_take (J.gi.pre _ r b1), b3, List.getElem?_take_of_lt (by omega)]
      exact e1
    have := J.gi.lt _ r b1 _ (List.mem_of_getElem? e2)
    omega
  have gi := addC_inv (p := R) (n := (K i).G.length) (Q := Q) J.gi b1 rX h2 (by rw [b3]; exact Nat.le_refl _) (by rw [b3, List.take_length]; exact h4) (fun j hj => by
    by_cases z : j = i
    · subst z
      rw [← hg, addA_self]
      omega
    · have := h5 j hj z
      have := h.hl hw j
      omega)
  have x0 : Ext g g1 := by rw [← hg]; exact addA_ext
  refine ⟨addC g1 (K i).T R (K i).G.length, x0.trans x, ⟨by rw [← hg]; rfl, fun T p n q => by
    rcases q with q | ⟨_, q, _⟩
    · rw [← hg] at q; exact .inl q
    · exact .inr q⟩, by rw [← hg]; rfl, J.upd gi x ⟨h.lm.ext x, h.T0, h.tm, h.hd, h.sd, h.vt, h.vs, h.vn, h.el, h.ak, h.ac, ⟨h2, .inr ⟨(K i).T, R, (K i).G.length, .inr ⟨rfl, rfl, rfl⟩, Int.le_refl _, Nat.le_refl _, ?_⟩⟩, ?_, h.hl, h.ask⟩ (fun _ _ _ => rfl) (fun _ _ _ => rfl) (fun _ _ _ => rfl) (fun _ _ _ _ q _ => q) (fun _ _ _ _ _ q => q) (J.li.ext J.gi x fun _ _ _ _ q => q), .inr ⟨rfl, rfl, rfl⟩⟩
  · show (K i).G.take R = (g1.L (K i).T).take R
    rw [b3]
  · have := h.b
    show (K i).b ≤ R
    omega
/-! seats are moved -/
theorem Inv.moved (I : Inv F K Ls g) (i : Int) (hw : (K i).way = "head") {a : Nat} (h1 : 0 < a) (ha : a = (K i).ag) (h2 : a ≤ (K i).G.length) (h3 : tm ((K i).G[a - 1]'(by omega)) = (K i).T) (h4 : Nost (K i).G a (K i).G.length) : ∃ a n, g.cm (K i).T a n ∧ Nost (K i).G a (K i).G.length := by
  have h := I.ki i
  obtain ⟨r, a1, a2, a3⟩ := h.hd hw
  rcases h.ag.2 with z | ⟨T0, p, n, c, c1, c2, c3⟩
  · omega
  · obtain ⟨r', b1, b2, b3, b4, _⟩ := I.gi.cm T0 p n c
    have e1 : (K i).G[a - 1]? = .some ((K i).G[a - 1]'(by omega)) := List.getElem?_eq_getElem (by omega)
    have e2 : (g.L T0)[a - 1]? = .some ((K i).G[a - 1]'(by omega)) := by rw [← take_get c3 (by omega)]; exact e1
    have := I.gi.tmL b1 _ (List.mem_of_getElem? e2)
    have : T0 = (K i).T := by omega
    subst this
    exact ⟨p, n, c, fun j f q1 q2 q3 => h4 j f (by omega) q2 q3⟩
/-! held places come in -/
theorem Inv.heldIn (I : Inv F K Ls g) (i j : Int) {p : Nat} {i0 : Int} (hs : Ls (.held j i0 (K i).T p)) {hl : Int → Int} (hh : ∀ x, hl x ≤ (K i).hl x ∨ x = j ∧ hl x ≤ p) : Inv F (Rf.upd K i { K i with hl := hl }) Ls g := by
  have h := I.ki i
  refine I.upd0 ⟨h.lm, h.T0, h.tm, h.hd, h.sd, h.vt, h.vs, h.vn, h.el, h.ak, h.ac, h.ag, h.b, fun q x => ?_, h.ask⟩
  rcases hh x with z | ⟨z1, z2⟩
  · have := h.hl q x
    show hl x ≤ (g.ak x (K i).T : Nat)
    omega
  · have := I.li.held j i0 _ p hs
    subst z1
    show hl x ≤ (g.ak x (K i).T : Nat)
    omega
/-! a hand is taken -/
def fillG (b : Nat) (G : List E) : Nat → List E → List E
  | _, [] => G
  | pl, e :: es => if b ≤ pl ∧ (G.length ≤ pl ∨ ∀ f, G[pl]? = some f → tm f ≠ tm e) then G.take pl ++ e :: es else fillG b G (pl + 1) es
/-- how the filled log stands to the head's -/
structure FillR (b : Nat) (G LL R : List E) (m : Nat) : Prop where
  len : m ≤ R.length
  tk : R.take m = LL.take m
  or : R = G ∨ R = LL.take m ∧ ∃ n, n < m ∧ b ≤ n ∧ (G.length ≤ n ∨ ∃ f f', G[n]? = some f ∧ LL[n]? = some f' ∧ tm f ≠ tm f')
theorem same_tm (I : GInv F g) {G H : List E} (hG : LM g G) (hH : LM g H) {p : Nat} {e f : E} (he : G[p]? = .some e) (hf : H[p]? = .some f) (h : tm e = tm f) : G.take (p + 1) = H.take (p + 1) := by
  obtain ⟨r, a1, a2, a3, a4⟩ := hG p e he
  obtain ⟨r', b1, b2, b3, b4⟩ := hH p f hf
  rw [a4, b4, h]
theorem fill_ok {G LL : List E} (sm : ∀ p e f, G[p]? = .some e → LL[p]? = .some f → tm e = tm f → G.take (p + 1) = LL.take (p + 1)) {b : Nat} (b1 : b ≤ G.length) (b2 : G.take b = LL.take b) : ∀ (es : List E) (pl : Nat), pl + es.length ≤ LL.length → es = (LL.drop pl).take es.length → (pl < b ∨ pl ≤ G.length ∧ G.take pl = LL.take pl) →
    FillR b G LL (fillG b G pl es) (max (pl + es.length) b)
  | [], pl, h1, h2, h3 => by
    unfold fillG
    rcases h3 with h | ⟨h, h'⟩
    · rw [show max (pl + ([] : List E).length) b = b by simp; omega]
      exact ⟨b1, b2, .inl rfl⟩
    · refine ⟨by simp; omega, ?_, .inl rfl⟩
      by_cases z : pl ≤ b
      · rw [show max (pl + ([] : List E).length) b = b by simp; omega]; exact b2
      · rw [show max (pl + ([] : List E).length) b = pl by simp; omega]; exact h'
  | e :: es, pl, h1, h2, h3 => by
    have hl : pl < LL.length := by rw [List.length_cons] at h1; omega
    have he : LL[pl]? = .some e := by
      have q : (e :: es)[0]? = ((LL.drop pl).take (e :: es).length)[0]? := by rw [← h2]
      rw [List.getElem?_take_of_lt (by simp), List.getElem?_drop] at q
      exact q.symm
    have h2' : es = (LL.drop (pl + 1)).take es.length := by
      have q : (e :: es).drop 1 = ((LL.drop pl).take (e :: es).length).drop 1 := by rw [← h2]
      rw [List.drop_take, List.drop_drop] at q
      exact q
    unfold fillG
    split
    · rename_i c
      have h3 : pl ≤ G.length ∧ G.take pl = LL.take pl := h3.resolve_left (by omega)
      have e1 : G.take pl ++ e :: es = LL.take (pl + (e :: es).length) := by rw [h3.2, List.take_add, ← h2]
      have m1 : max (pl + (e :: es).length) b = pl + (e :: es).length := by rw [List.length_cons]; omega
      rw [m1, e1]
      refine ⟨by rw [List.length_take]; omega, by rw [List.take_take, Nat.min_self], .inr ⟨rfl, pl, by rw [List.length_cons]; omega, c.1, ?_⟩⟩
      rcases c.2 with c2 | c2
      · exact .inl c2
      · by_cases z : G.length ≤ pl
        · exact .inl z
        · have hg : G[pl]? = .some (G[pl]'(by omega)) := List.getElem?_eq_getElem (by omega)
          exact .inr ⟨_, e, hg, he, c2 _ hg⟩
    · rename_i c
      have := fill_ok sm b1 b2 es (pl + 1) (by rw [List.length_cons] at h1; omega) h2' (by
        by_cases z : pl < b
        · by_cases z2 : pl + 1 < b
          · exact .inl z2
          · have : pl + 1 = b := by omega
            rw [this]
            exact .inr ⟨b1, b2⟩
        · have h3 := h3.resolve_left z
          have : ∃ f, G[pl]? = .some f ∧ tm f = tm e := by
            apply Classical.byContradiction
            intro y
            exact c ⟨by omega, .inr fun f hf w => y ⟨f, hf, w⟩⟩
          obtain ⟨f, f1, f2⟩ := this
          exact .inr ⟨(List.getElem?_eq_some_iff.mp f1).1, sm _ _ _ f1 he f2⟩)
      rw [show pl + (e :: es).length = pl + 1 + es.length by rw [List.length_cons]; omega]
      exact this
theorem FillR.pre {b m : Nat} {G LL R X : List E} (h : FillR b G LL R m) (x1 : X <+: G) (x2 : X <+: LL) : X <+: R := by
  rcases h.or with z | ⟨z, n, n1, n2, n3⟩
  · rw [z]; exact x1
  · have hx : X.length ≤ n := by
      apply Classical.byContradiction
      intro y
      have hX : X[n]? = .some (X[n]'(by omega)) := List.getElem?_eq_getElem (by omega)
      have g1 := pre_getElem x1 hX
      have g2 := pre_getElem x2 hX
      rcases n3 with q | ⟨f, f', q1, q2, q3⟩
      · have := (List.getElem?_eq_some_iff.mp g1).1
        omega
      · rw [g1] at q1
        rw [g2] at q2
        cases q1
        cases q2
        exact q3 rfl
    rw [z, ← pre_take x2]
    exact List.take_prefix_take_left (by omega)
theorem AgOk.tr {T : Int} {G R : List E} {a : Nat} (h : AgOk g T G a) (hl : a ≤ R.length) (e : R.take a = G.take a) : AgOk g T R a := by
  refine ⟨hl, ?_⟩
  rcases h.2 with z | ⟨T0, p, n, c, h1, h2, h3⟩
  · exact .inl z
  · exact .inr ⟨T0, p, n, c, h1, h2, e.trans h3⟩
theorem AgOk.pre_in {T T' : Int} {G : List E} {a : Nat} (h : AgOk g T G a) {X : List E} (x : G.take a <+: X) : a ≤ X.length ∧ X.take a = G.take a := by
  have l : (G.take a).length = a := take_pre_len h.1
  have := pre_take x
  rw [l] at this
  exact ⟨by rw [← l]; exact x.length_le, this⟩
/-- the log is changed to one that has all that both it and the head's have -/
theorem KI.change (I : GInv F g) (h : KI g Ls i k) {r : Rec E} (hr : g.el k.T = .some r) {R : List E} {a b : Nat} (lm : LM g R) (tmR : ∀ e ∈ R, En.tm e ≤ k.T) (hX : ∀ X, X <+: k.G → X <+: g.L k.T → X <+: R) (ha : AgOk g k.T R a) (hb : b ≤ a) {hl : Int → Int} {vs : List Int} :
    KI g Ls i { k with way := "plain", vs := vs, G := R, ag := a, b := b, hl := hl } := by
  refine ⟨lm, h.T0, tmR, fun q => absurd q (by simp), fun q => absurd q (by simp), h.vt, h.vs, h.vn, fun T r q1 q2 => ⟨(h.el T r q1 q2).1, fun _ => by simp⟩, h.ak, fun T p hp pr => ?_, ha, hb, fun q => absurd q (by simp), fun T pl la q => ⟨(h.ask T pl la q).1, fun _ z => absurd z (by simp)⟩⟩
  have q := h.ac T p hp pr
  by_cases z : p = 0
  · rw [z]; exact List.nil_prefix
  · obtain ⟨t1, _⟩ := h.ak T (by omega)
    refine hX _ q ?_
    by_cases e : T = k.T
    · rw [e]; exact List.take_prefix _ _
    · exact (pr k.T r (by omega) (Int.le_refl _) hr).trans (I.pre _ r hr)
theorem Inv.hand (I : Inv F K Ls g) (i i0 : Int) {pl : Nat} {es : List E} {ag : Nat} (hs : Ls (.hand i0 (K i).T pl es ag)) (hp : pl < (K i).b ∨ pl ≤ (K i).G.length ∧ lastT ((K i).G.take pl) = lastT ((g.L (K i).T).take pl)) {vs : List Int} {hl : Int → Int} :
    ∃ g', Ext g g' ∧ (g'.el = g.el ∧ g'.cm = g.cm) ∧ g'.L = g.L ∧ Inv F (Rf.upd K i { K i with way := "plain", vs := vs, G := fillG (K i).b (K i).G pl es, ag := max (K i).ag (min ag (pl + es.length)), hl := hl }) (Add Ls fun l => l = .held i i0 (K i).T (max (pl + es.length) (K i).b)) g' ∧ (K i).ag ≤ (fillG (K i).b (K i).G pl es).length ∧ (fillG (K i).b (K i).G pl es).take (K i).ag = (K i).G.take (K i).ag := by
  have h := I.ki i
  obtain ⟨r, h1, h2, h3, h4, h5⟩ := I.li.hand i0 _ pl es ag hs
  have lmL := I.gi.lmL h1
  -- what the keeper knows to be agreed is the head's
  obtain ⟨ga1, ga2⟩ := h.ag.pre_in (T' := (K i).T) (h.ag.pre I.gi (Int.le_refl _) h1)
  have hb := h.b
  have ag1 := h.ag.1
  have gb : (K i).G.take (K i).b = (g.L (K i).T).take (K i).b := (take_sub ga2 hb).symm
  have hp' : pl < (K i).b ∨ pl ≤ (K i).G.length ∧ (K i).G.take pl = (g.L (K i).T).take pl := by
    rcases hp with z | ⟨z1, z2⟩
    · exact .inl z
    · refine .inr ⟨z1, ?_⟩
      by_cases y : pl = 0
      · rw [y, List.take_zero, List.take_zero]
      · have l1 : ((K i).G.take pl).length = pl := take_pre_len z1
        have l2 : ((g.L (K i).T).take pl).length = pl := take_pre_len (by omega)
        rw [lastT_get (by omega), lastT_get (by omega)] at z2
        have e1 : ((K i).G.take pl)[pl - 1]? = .some (((K i).G.take pl)[((K i).G.take pl).length - 1]'(by omega)) := by
          rw [List.getElem?_eq_getElem (by omega)]
          congr 2
          omega
        have e2 : ((g.L (K i).T).take pl)[pl - 1]? = .some (((g.L (K i).T).take pl)[((g.L (K i).T).take pl).length - 1]'(by omega)) := by
          rw [List.getElem?_eq_getElem (by omega)]
          congr 2
          omega
        have := same_tm I.gi (h.lm.take pl) (lmL.take pl) e1 e2 z2
        rw [show pl - 1 + 1 = pl by omega, List.take_take, List.take_take, Nat.min_self] at this
        exact this
  have fr := fill_ok (fun p e f q1 q2 q3 => same_tm I.gi h.lm lmL q1 q2 q3) (by omega) gb es pl h3 h4 hp'
  generalize hR : fillG (K i).b (K i).G pl es = R at fr
  have lmR : LM g R := by
    rcases fr.or with z | ⟨z, _⟩
    · rw [z]; exact h.lm
    · rw [z]; exact lmL.take _
  have tmR : ∀ e ∈ R, tm e ≤ (K i).T := by
    rcases fr.or with z | ⟨z, _⟩
    · rw [z]; exact h.tm
    · rw [z]; exact fun e m => I.gi.tmL h1 e (List.mem_of_mem_take m)
  have old : (K i).ag ≤ R.length ∧ R.take (K i).ag = (K i).G.take (K i).ag := h.ag.pre_in (T' := (K i).T) (fr.pre (List.take_prefix _ _) (h.ag.pre I.gi (Int.le_refl _) h1))
  have aR : AgOk g (K i).T R (max (K i).ag (min ag (pl + es.length))) := by
    by_cases z : min ag (pl + es.length) ≤ (K i).ag
    · rw [Nat.max_eq_left z]
      exact h.ag.tr old.1 old.2
    · rw [Nat.max_eq_right (by omega)]
      have l := fr.len
      exact (h5.less (Nat.min_le_left _ _)).tr (by omega) (take_sub fr.tk (by omega))
  have ki := h.change I.gi (hl := hl) (vs := vs) h1 lmR tmR (fun X x1 x2 => fr.pre x1 x2) aR (show (K i).b ≤ _ by omega)
  have J := I.upd0 ki
  have J2 := J.note i (p := max (pl + es.length) (K i).b) (r := r) (by rw [upd_self]; exact h1) (by
    rw [upd_self]
    show _ ≤ (g.L (K i).T).length
    omega) (by
    rw [upd_self]
    show (g.L (K i).T).take _ <+: R
    rw [← fr.tk]
    exact List.take_prefix _ _)
  rw [upd_self] at J2
  refine ⟨_, addA_ext, ⟨rfl, rfl⟩, rfl, J2.letters (fun _ _ _ _ q => (by cases q)) (fun _ _ _ q => (by cases q)) (fun _ _ _ _ _ q => (by cases q)) (fun _ _ _ q => (by cases q)) (fun j i' T p q => ?_), old⟩
  cases q
  rw [addA_self]
  omega
/-! a pack is taken -/
theorem Inv.pack (I : Inv F K Ls g) (i i0 : Int) {X : List E} (hs : Ls (.pack i0 (K i).T X)) {vs : List Int} {hl : Int → Int} {R : List E} {a b : Nat}
    (hR : (K i).ag < X.length ∧ a = X.length ∧ b = X.length ∧ (R = (K i).G ∧ X.length ≤ (K i).G.length ∧ lastT ((K i).G.take X.length) = lastT X ∨ R = X ∧ ¬ (X.length ≤ (K i).G.length ∧ lastT ((K i).G.take X.length) = lastT X)) ∨ X.length ≤ (K i).ag ∧ R = (K i).G ∧ a = (K i).ag ∧ b = (K i).b) :
    ∃ g', Ext g g' ∧ (g'.el = g.el ∧ g'.cm = g.cm) ∧ g'.L = g.L ∧ Inv F (Rf.upd K i { K i with way := "plain", vs := vs, G := R, ag := a, b := b, hl := hl }) (Add Ls fun l => l = .held i i0 (K i).T X.length) g' ∧ X <+: R := by
  have h := I.ki i
  obtain ⟨r, h1, h2, h3, h4⟩ := I.li.pack i0 _ X hs
  have lmL := I.gi.lmL h1
  have lmX := lmL.pre h3
  have tX := pre_take h3
  have key : X <+: R ∧ KI g Ls i { K i with way := "plain", vs := vs, G := R, ag := a, b := b, hl := hl } := by
    rcases hR with ⟨z1, z2, z3, z4⟩ | ⟨z1, z2, z3, z4⟩
    · subst z2 z3
      have x0 : 0 < X.length := by omega
      -- one term at the end: all alike
      have al : ∀ {G : List E}, LM g G → X.length ≤ G.length → lastT (G.take X.length) = lastT X → X <+: G := fun {G} lG y1 y2 => by
        have l1 : (G.take X.length).length = X.length := take_pre_len y1
        rw [lastT_get (by omega), lastT_get x0] at y2
        have e1 : (G.take X.length)[X.length - 1]? = .some ((G.take X.length)[(G.take X.length).length - 1]'(by omega)) := by
          rw [List.getElem?_eq_getElem (by omega)]
          congr 2
          omega
        have e2 : X[X.length - 1]? = .some (X[X.length - 1]'(by omega)) := List.getElem?_eq_getElem (by omega)
        have := same_tm I.gi (lG.take X.length) lmX e1 e2 y2
        rw [show X.length - 1 + 1 = X.length by omega, List.take_take, Nat.min_self, List.take_length] at this
        exact List.prefix_iff_eq_take.mpr this.symm
      rcases z4 with ⟨rfl, y1, y2⟩ | ⟨rfl, y⟩
      · have px := al h.lm y1 y2
        refine ⟨px, h.change I.gi h1 h.lm h.tm (fun _ x1 _ => x1) ?_ (Nat.le_refl _)⟩
        exact h4.tr px.length_le (by rw [pre_take px, tX])
      · refine ⟨List.prefix_rfl, h.change I.gi h1 lmX (fun e m => I.gi.tmL h1 e (h3.subset m)) (fun Y y1 y2 => ?_) ?_ (Nat.le_refl _)⟩
        · by_cases c : Y.length ≤ R.length
          · exact List.prefix_of_prefix_length_le y2 h3 c
          · have xy : R <+: Y := List.prefix_of_prefix_length_le h3 y2 (by omega)
            have xg := xy.trans y1
            exact absurd ⟨xg.length_le, by rw [pre_take xg]⟩ y
        · exact h4.tr (Nat.le_refl _) (by rw [List.take_length, tX])
    · rw [z2, z3, z4]
      obtain ⟨g1, g2⟩ := h.ag.pre_in (T' := (K i).T) (h.ag.pre I.gi (Int.le_refl _) h1)
      refine ⟨?_, h.change I.gi h1 h.lm h.tm (fun _ x1 _ => x1) h.ag h.b⟩
      rw [← tX, take_sub g2 z1]
      exact List.take_prefix _ _
  have J := I.upd0 key.2
  have J2 := J.note i (p := X.length) (r := r) (by rw [upd_self]; exact h1) (by rw [upd_self]; exact h3.length_le) (by
    rw [upd_self]
    show (g.L (K i).T).take _ <+: R
    rw [tX]
    exact key.1)
  rw [upd_self] at J2
  refine ⟨_, addA_ext, ⟨rfl, rfl⟩, rfl, J2.letters (fun _ _ _ _ q => (by cases q)) (fun _ _ _ q => (by cases q)) (fun _ _ _ _ _ q => (by cases q)) (fun _ _ _ q => (by cases q)) (fun j i' T p q => ?_), key.1⟩
  cases q
  rw [addA_self]
  omega
/-! a head's letters -/
theorem Inv.beatHand (I : Inv F K Ls g) (i : Int) (hw : (K i).way = "head") {pl : Nat} {es : List E} (h1 : pl + es.length ≤ (K i).G.length) (h2 : es = ((K i).G.drop pl).take es.length) : Inv F K (Add Ls fun l => l = .hand i (K i).T pl es (K i).ag) g := by
  have h := I.ki i
  obtain ⟨r, a1, a2, a3⟩ := h.hd hw
  refine I.letters (fun _ _ _ _ q => (by cases q)) (fun _ _ _ q => (by cases q)) (fun i' T pl' es' ag' q => ?_) (fun _ _ _ q => (by cases q)) (fun _ _ _ _ q => (by cases q))
  cases q
  rw [a3]
  exact ⟨r, a1, a2, h1, h2, h.ag⟩
theorem Inv.beatPack (I : Inv F K Ls g) (i : Int) (hw : (K i).way = "head") : Inv F K (Add Ls fun l => l = .pack i (K i).T ((K i).G.take (K i).b)) g := by
  have h := I.ki i
  obtain ⟨r, a1, a2, a3⟩ := h.hd hw
  have hb := h.b
  have ag1 := h.ag.1
  refine I.letters (fun _ _ _ _ q => (by cases q)) (fun _ _ _ q => (by cases q)) (fun _ _ _ _ _ q => (by cases q)) (fun i' T X q => ?_) (fun _ _ _ _ q => (by cases q))
  cases q
  rw [a3, take_pre_len (by omega)]
  exact ⟨r, a1, a2, List.take_prefix _ _, h.ag.less hb⟩
theorem Inv.asks (I : Inv F K Ls g) (i : Int) : Inv F K (Add Ls fun l => l = .ask i (K i).T (K i).G.length (lastT (K i).G)) g :=
  I.letters (fun i' T pl la q => by
    cases q
    exact ⟨Int.le_refl _, fun _ _ => ⟨rfl, rfl⟩⟩) (fun _ _ _ q => (by cases q)) (fun _ _ _ _ _ q => (by cases q)) (fun _ _ _ q => (by cases q)) (fun _ _ _ _ q => (by cases q))
/-! at first -/
theorem Inv.begin {F : List Int} (nF : F.Nodup) {K : Int → Kp E} (h : ∀ i, (K i).T = 0 ∧ (K i).v = none ∧ (K i).G = [] ∧ (K i).b = 0 ∧ (K i).ag = 0 ∧ (K i).way = "plain") : Inv F K (fun _ => False) ⟨fun _ => none, fun _ => [], fun _ _ => none, fun _ _ => 0, fun _ _ _ => False⟩ := by
  have no : ∀ {α β : Type} {x : β} {p : α → Option β} {a : α}, (fun _ => none : α → Option β) a = Option.some x → False := fun q => by cases q
  refine ⟨⟨nF, (fun _ _ q => by cases q), (fun _ _ q => by cases q), (fun _ _ _ _ q => by cases q), (fun _ _ _ m => nomatch m), (fun _ _ q => by cases q), (fun _ _ q => by cases q), (fun _ _ q => by cases q), (fun _ _ _ q => by cases q), (fun _ _ _ _ q => by cases q), (fun _ _ _ _ q => by cases q), (fun _ _ _ _ _ q => by cases q), (fun _ _ _ q => q.elim)⟩, fun i => ?_, ⟨(fun _ _ _ _ q => by cases q), (fun _ _ _ q => q.elim), (fun _ _ _ _ _ q => q.elim), (fun _ _ _ q => q.elim), (fun _ _ _ _ q => q.elim)⟩⟩
  obtain ⟨h1, h2, h3, h4, h5, h6⟩ := h i
  refine ⟨by rw [h3]; intro p e q; simp at q, by rw [h1]; exact Int.le_refl _, by rw [h3]; intro e m; simp at m, fun q => by rw [h6] at q; exact absurd q (by decide), fun q => by rw [h6] at q; exact absurd q (by decide), (fun _ _ q => by cases q), (fun c q => by rw [h2] at q; cases q), fun _ => rfl, (fun _ _ q => by cases q), fun _ q => absurd q (Nat.lt_irrefl _), fun T p hp _ => ?_, ⟨by rw [h5]; exact Nat.zero_le _, .inl h5⟩, by rw [h4, h5]; exact Nat.le_refl _, fun q => by rw [h6] at q; exact absurd q (by decide), (fun _ _ _ q => q.elim)⟩
  have hp : p ≤ 0 := hp
  rw [show p = 0 by omega]
  exact List.nil_prefix
/-! what follows -/
/-- one head in a term -/
theorem Inv.oneHead (I : Inv F K Ls g) {i j : Int} (hi : (K i).way = "head") (hj : (K j).way = "head") (h : (K i).T = (K j).T) : i = j := by
  obtain ⟨r, a1, a2, _⟩ := (I.ki i).hd hi
  obtain ⟨r', b1, b2, _⟩ := (I.ki j).hd hj
  rw [h, b1] at a1
  cases a1
  rw [← a2, b2]
end
end Rf

set_option Elab.async false
set_option linter.all false
set_option maxRecDepth 100000
set_option maxHeartbeats 4000000
set_option autoImplicit false
namespace Qk20
open KL
variable {wf n : Nat} {s : Sto}
abbrev P : Prog := PDt.prog
theorem r_cell (ns : List Int) (k : Nat) : run P wf (n + 1) "_law_cell_at" [.lst (ns.map .int), .int k] s = .ok (.int (ns.getD k 0)) s := by
  rw [run_eq fn__law_cell_at rfl]
  by_cases h : k < ns.length
  · have h' : (k : Int) < (ns.length : Int) := by omega
    simp [fd__law_cell_at, startE, h', atD_nat, h]
  · have h' : ¬ (k : Int) < (ns.length : Int) := by omega
    simp [fd__law_cell_at, startE, h', h]
def someStep (x : Int × List Int) (i : Nat) : Int × List Int := (x.1 / 2, if x.1 % 2 = 1 then x.2 ++ [(i : Int)] else x.2)
def someAt (c : Int) : Nat → Int × List Int
  | 0 => (c % 512, [])
  | i + 1 => someStep (someAt c i) i
def some9 (c : Int) : List Int := (someAt c 9).2
theorem some_len (c : Int) : ∀ i : Nat, (someAt c i).2.length ≤ i
  | 0 => by simp [someAt]
  | i + 1 => by
    have := some_len c i
    unfold someAt someStep
    dsimp only
    split <;> simp <;> omega
theorem r_some (c : Int) : run P wf (n + 1) "_law_some" [.int c] s = .new ((some9 c).map .int) s := by
  rw [run_eq fn__law_some rfl]
  obtain ⟨ρ', s', e, x, h1, h2⟩ := for_next (C := ctxOf P wf (run P wf n)) (body := fd__law_some_b1) (tg := [3]) (g := none) (ds := rangeD 0 9) (ρ := [some (.int c), some (.int (c % 512)), some (.ref s.length), none]) (s := s ++ [.lst []])
    (fun i ρ s' => ∃ x, ρ = [some (.int c), some (.int (someAt c i).1), some (.ref s.length), x] ∧ s' = s ++ [.lst ((someAt c i).2.map .int)]) ⟨none, rfl, rfl⟩ (fun i d ρ s' hd ⟨x, h1, h2⟩ => by
      obtain ⟨rfl, hi⟩ := range_get' _ _ _ _ hd
      subst h1 h2
      refine ⟨trivial, _, _, _, rfl, .inl ?_, some (.int (0 + i)), rfl, rfl⟩
      have hl := some_len c i
      have hl2 : (someAt c i).2.length < 1000000 := by omega
      by_cases hm : (someAt c i).1 % 2 = 1
      · simp [fd__law_some_b1, someAt, someStep, hm, lim, hl2]
      · simp [fd__law_some_b1, someAt, someStep, hm]) (fun _ _ _ => trivial)
  simp at h1 h2
  subst h1 h2
  simp [fd__law_some, startE, lim, smallI]
  rw [e]
  simp
  rw [finish_new0 (l := (some9 c).map .int)] <;> simp [some9]
theorem some_ok (c : Int) : ∀ i : Nat, (someAt c i).2.Nodup ∧ ∀ a ∈ (someAt c i).2, 0 ≤ a ∧ a < i
  | 0 => by simp [someAt]
  | i + 1 => by
    obtain ⟨h1, h2⟩ := some_ok c i
    unfold someAt someStep
    dsimp only
    split
    · refine ⟨?_, fun a m => ?_⟩
      · rw [List.nodup_append]
        refine ⟨h1, by simp, fun a ha b hb => ?_⟩
        have := h2 a ha
        simp at hb
        omega
      · rcases List.mem_append.mp m with m | m
        · have := h2 a m
          omega
        · simp at m
          omega
    · exact ⟨h1, fun a m => by have := h2 a m; omega⟩
def seats (c : Int) : List Int := if (some9 c).length = 0 then [c / 512 % 9] else some9 c
theorem r_seats (c : Int) : run P wf (n + 2) "_law_seats" [.int c] s = .ok (.tup ((seats c).map .int)) s := by
  rw [run_eq fn__law_seats rfl]
  by_cases h : (some9 c).length = 0
  · simp [fd__law_seats, startE, r_some, seats, h, lim]
  · have h' : ¬ ((some9 c).length : Int) = 0 := by omega
    have h'' : ¬ some9 c = [] := fun e => h (by rw [e]; rfl)
    simp [fd__law_seats, startE, r_some, seats, h'', lim]
theorem seats_ok (c : Int) : Seats (seats c) := by
  unfold seats
  split
  · refine ⟨by simp, fun a m => ?_, by simp⟩
    simp at m
    omega
  · rename_i h
    obtain ⟨h1, h2⟩ := some_ok c 9
    exact ⟨h1, fun a m => h2 a m, fun e => h (by rw [e]; rfl)⟩
theorem execs_nx {C : Ctx} {st : S} {sts : List S} {ρ ρ' : Env} {s s' : Sto} (h : exec C st ρ s = .next ρ' s') : execs C (st :: sts) ρ s = execs C sts ρ' s' := by
  rw [exs_cons, h]
  rfl
theorem execs_rt {C : Ctx} {st : S} {sts : List S} {ρ : Env} {s s' : Sto} {d : D} (h : exec C st ρ s = .ret d s') : execs C (st :: sts) ρ s = .ret d s' := by
  rw [exs_cons, h]
  rfl
theorem execs_rtN {C : Ctx} {st : S} {sts : List S} {ρ : Env} {s s' : Sto} {l : List D} (h : exec C st ρ s = .retN l s') : execs C (st :: sts) ρ s = .retN l s' := by
  rw [exs_cons, h]
  rfl
theorem newIf_le {l : List D} {s : Sto} (h : l.length ≤ 1000000) : newIf l s = .new l s := if_pos h
def mx1 (l : List Int) : Int := if (l.length : Int) > 1 then l.length else 1
theorem mx1_pos (l : List Int) : 0 < mx1 l := by
  unfold mx1
  split <;> omega
def rot (l : List Int) (c : Int) : List Int := l.drop (c % mx1 l).toNat ++ l.take (c % mx1 l).toNat
def turned (l : List Int) (c : Int) : List Int := if c / 9 % 2 = 1 then (rot l c).reverse else rot l c
theorem turned_perm (l : List Int) (c : Int) : (turned l c).Perm l := by
  have h : (rot l c).Perm l := by
    unfold rot
    have := List.perm_append_comm (l₁ := l.drop (c % mx1 l).toNat) (l₂ := l.take (c % mx1 l).toNat)
    rwa [List.take_append_drop] at this
  unfold turned
  split
  · exact (List.reverse_perm _).trans h
  · exact h
theorem fin_tpc (a : List D) (b : List Int) : finish s (.ret (.ref (s.length + 1)) (s ++ [.lst a, .tpc b])) = .ok (.ref (s.length + 1)) (s ++ [.lst a, .tpc b]) := by
  have g : (s ++ [Cell.lst a, .tpc b])[s.length + 1]? = some (.tpc b) := by
    rw [List.getElem?_append_right (by omega), show s.length + 1 - s.length = 1 by omega]
    rfl
  have nu : ¬ (D.ref (s.length + 1)).under s.length := fun h => by
    have := h (s.length + 1) (by simp [D.refs])
    omega
  unfold finish
  dsimp only
  by_cases hk : keptOk s (s ++ [Cell.lst a, .tpc b])
  · rw [if_pos hk, if_neg nu, g]
  · rw [if_neg hk]
theorem r_turnedN (x : D) (l : List Int) (c : Int) (hl : l.length ≤ 1000) (hx : x = .tup (l.map .int) ∨ x = .lst (l.map .int)) : run P wf (n + 1) "_law_turned" [x, .int c] s = .ok (.ref (s.length + 1)) (s ++ [.lst ((turned l c).map .int), .tpc (turned l c)]) := by
  rw [run_eq fn__law_turned rfl]
  have h0 := Int.emod_nonneg c (Int.ne_of_gt (mx1_pos l))
  have hp := mx1_pos l
  have hm : (if (l.length : Int) > 1 then (l.length : Int) else 1) = mx1 l := rfl
  obtain ⟨m, em⟩ : ∃ m, m = mx1 l := ⟨_, rfl⟩
  rw [← em] at h0 hp hm
  obtain ⟨k, ek⟩ : ∃ k, k = c % m := ⟨_, rfl⟩
  rw [← ek] at h0
  have er : rot l c = l.drop k.toNat ++ l.take k.toNat := by unfold rot; rw [← em, ← ek]
  have c1 : cutD (l.map D.int) (some k) none = (l.drop k.toNat).map .int := by rw [cut_from h0, List.map_drop]
  have c2 : cutD (l.map D.int) none (some k) = (l.take k.toNat).map .int := by rw [cut_to h0, List.map_take]
  have lF : ((l.drop k.toNat).map D.int ++ (l.take k.toNat).map D.int).length ≤ 1000000 := by
    rw [List.length_append, List.length_map, List.length_map, List.length_drop, List.length_take]
    omega
  have eF : (l.drop k.toNat).map D.int ++ (l.take k.toNat).map D.int = (rot l c).map .int := by rw [er, List.map_append]
  have hlen : lenD x s = .ok (.int l.length) s := by rcases hx with rfl | rfl <;> simp
  have t1 : exec (ctxOf P wf (run P wf n)) (.asg 2 (.bin .mod (.var 1) (.bi .max [(.con (.int 1)), (.bi .len [(.var 0)])]))) [some x, some (.int c), none, none] s = .next [some x, some (.int c), some (.int k), none] s := by
    simp [hlen, hm, hp, ← ek]
  have t2 : exec (ctxOf P wf (run P wf n)) (.asgB 3 (.bin .add (.bi .list [(.slice (.var 0) [(.var 2)] [])]) (.bi .list [(.slice (.var 0) [] [(.var 2)])]))) [some x, some (.int c), some (.int k), none] s = .next [some x, some (.int c), some (.int k), some (.ref s.length)] (s ++ [.lst ((rot l c).map .int)]) := by
    rw [← eF]
    have nf := newIf_le (s := s) lF
    rcases hx with rfl | rfl
    · simp only [ex_asgB, ev_bin, ev_bi, evs_cons, evs_nil, ev_slice, ev_var, varK_some, List.getElem?_cons_succ, List.getElem?_cons_zero, RE.bind_ok, RE.bindL_ok, RL.bind_ok, RL.bindL_ok, part_nil, part_int, slK_some, sl_tup, bi_list, list_tup, c1, c2, RE.bind_new, add_lst, nf, boxK_new, List.set_cons_succ, List.set_cons_zero]
    · simp only [ex_asgB, ev_bin, ev_bi, evs_cons, evs_nil, ev_slice, ev_var, varK_some, List.getElem?_cons_succ, List.getElem?_cons_zero, RE.bind_ok, RE.bindL_ok, RE.bindL_new, RL.bind_ok, RL.bindL_ok, part_nil, part_int, slK_some, sl_lst, bi_list, list_lst, c1, c2, RE.bind_new, add_lst, nf, boxK_new, List.set_cons_succ, List.set_cons_zero]
  have t3 : exec (ctxOf P wf (run P wf n)) (.if_ (.cmp .eq (.bin .mod (.bin .fdiv (.var 1) (.con (.int 9))) (.con (.int 2))) (.con (.int 1))) [.expr (.met .reverse (.var 3) [])] []) [some x, some (.int c), some (.int k), some (.ref s.length)] (s ++ [.lst ((rot l c).map .int)]) = .next [some x, some (.int c), some (.int k), some (.ref s.length)] (s ++ [.lst ((turned l c).map .int)]) := by
    unfold turned
    generalize rot l c = F
    by_cases q : c / 9 % 2 = 1
    · simp [q]
    · simp [q]
  have t4 : exec (ctxOf P wf (run P wf n)) (.ret (.bi .tupN [(.var 3)])) [some x, some (.int c), some (.int k), some (.ref s.length)] (s ++ [.lst ((turned l c).map .int)]) = .ret (.ref (s.length + 1)) (s ++ [.lst ((turned l c).map .int), .tpc (turned l c)]) := by
    have e := tupN_ref (s := s ++ [.lst ((turned l c).map .int)]) (n := s.length) (l := turned l c) (by simp)
    rw [List.length_append, List.append_assoc] at e
    generalize turned l c = T at *
    have e : tupND (.ref s.length) (s ++ [.lst (T.map .int)]) = .ok (.ref (s.length + 1)) (s ++ [.lst (T.map .int), .tpc T]) := e
    generalize (s ++ [Cell.lst (T.map .int)]) = S1 at *
    simp [e]
  have bd : fd__law_turned.body = (.asg 2 (.bin .mod (.var 1) (.bi .max [(.con (.int 1)), (.bi .len [(.var 0)])]))) :: (.asgB 3 (.bin .add (.bi .list [(.slice (.var 0) [(.var 2)] [])]) (.bi .list [(.slice (.var 0) [] [(.var 2)])]))) :: (.if_ (.cmp .eq (.bin .mod (.bin .fdiv (.var 1) (.con (.int 9))) (.con (.int 2))) (.con (.int 1))) [.expr (.met .reverse (.var 3) [])] []) :: (.ret (.bi .tupN [(.var 3)])) :: [] := rfl
  have S0 : startE fd__law_turned [x, .int c] = [some x, some (.int c), none, none] := rfl
  rw [S0, bd, execs_nx t1, execs_nx t2, execs_nx t3, execs_rt t4]
  exact fin_tpc _ _
def nearL (T : List Int) (c : Int) : List Int := T.take (if ((T.length : Int) / 2 + c % 3 - 1) > 0 then (T.length : Int) / 2 + c % 3 - 1 else 0).toNat ++ (some9 (c / 3)).filter fun i => !decide (i ∈ T)
theorem nearL_nd {T : List Int} (h : T.Nodup) (c : Int) : (nearL T c).Nodup := by
  unfold nearL
  rw [List.nodup_append]
  refine ⟨h.sublist (List.take_sublist _ _), List.Pairwise.filter _ (some_ok (c / 3) 9).1, fun a ha b hb e => ?_⟩
  subst e
  have := (List.mem_filter.mp hb).2
  have hm := List.mem_of_mem_take ha
  simp [hm] at this
theorem nearL_len (T : List Int) (c : Int) : (nearL T c).length ≤ T.length + 9 := by
  unfold nearL
  have h1 := some_len (c / 3) 9
  have h2 := List.length_filter_le (fun i => !decide (i ∈ T)) (some9 (c / 3))
  have h3 : (some9 (c / 3)).length ≤ 9 := h1
  rw [List.length_append, List.length_take]
  omega
theorem r_nearN (j : Nat) (T : List Int) (c : Int) (hj : s[j]? = some (.tpc T)) (hl : T.length ≤ 1000) : run P wf (n + 2) "_law_near" [.ref j, .int c] s = .new ((nearL T c).map .int) s := by
  rw [run_eq fn__law_near rfl]
  obtain ⟨m, em⟩ : ∃ m : Int, m = if ((T.length : Int) / 2 + c % 3 - 1) > 0 then (T.length : Int) / 2 + c % 3 - 1 else 0 := ⟨_, rfl⟩
  have m0 : 0 ≤ m := by rw [em]; split <;> omega
  have hn : nearL T c = T.take m.toNat ++ (some9 (c / 3)).filter fun i => !decide (i ∈ T) := by unfold nearL; rw [← em]
  obtain ⟨S9, eS⟩ : ∃ S9, S9 = some9 (c / 3) := ⟨_, rfl⟩
  have l9 : S9.length ≤ 9 := by rw [eS]; exact some_len (c / 3) 9
  have e1 : run P wf (n + 1) "_law_some" [.int (c / 3)] s = .new (S9.map .int) s := eS ▸ r_some (c / 3)
  rw [← eS] at hn
  have mx : ∀ s : Sto, biD .max [.int 0, .int ((T.length : Int) / 2 + c % 3 - 1)] s = .ok (.int m) s := fun s => by rw [em]; rfl
  have t1 : exec (ctxOf P wf (run P wf (n + 1))) (.asg 2 (.bi .max [(.con (.int 0)), (.bin .sub (.bin .add (.bin .fdiv (.bi .len [(.var 0)]) (.con (.int 2))) (.bin .mod (.var 1) (.con (.int 3)))) (.con (.int 1)))])) [some (.ref j), some (.int c), none, none] s = .next [some (.ref j), some (.int c), some (.int m), none] s := by
    simp [hj, mx, -bi_max]
  have cf : ∀ y : Option D, runComp (ctxOf P wf (run P wf (n + 1))) fd__law_near_c2 fd__law_near_e1 [3] none [some (.ref j), some (.int c), some (.int m), y] (S9.map .int) s = .ok ((S9.filter fun i => !decide (i ∈ T)).map .int) s := fun y =>
    comp_ints (C := ctxOf P wf (run P wf (n + 1))) (cs := fd__law_near_c2) (elt := fd__law_near_e1) (tg := [3]) (g := none) (ρ := [some (.ref j), some (.int c), some (.int m), y]) (s := s) trivial D.int (fun i => !decide (i ∈ T)) (l := S9) fun i mi => ⟨_, rfl, by simp [fd__law_near_c2, hj], fun _ => by simp [fd__law_near_e1]⟩
  have sl : (evalE (ctxOf P wf (run P wf (n + 1))) (.bi .list [(.slice (.var 0) [] [(.var 2)])]) [some (.ref j), some (.int c), some (.int m), none] s) = .new ((T.take m.toNat).map .int) s := by
    have ct : cutD (T.map D.int) none (some m) = (T.take m.toNat).map .int := by rw [cut_to m0, List.map_take]
    by_cases w : wholeB T.length none (some m) = true
    · have ew : T.take m.toNat = T := by
        unfold wholeB at w
        have := (Bool.and_eq_true_iff.mp w).2
        have w2 : sIx T.length T.length (some m) = T.length := of_decide_eq_true this
        unfold sIx at w2
        dsimp only at w2
        rw [if_neg (by omega)] at w2
        exact List.take_of_length_le (by omega)
      rw [ew]
      simp [hj, w]
    · simp [hj, w, ct]
  have lT : (S9.map D.int).length ≤ 1000000 := by rw [List.length_map]; omega
  have lR : ((T.take m.toNat).map D.int ++ (S9.filter fun i => !decide (i ∈ T)).map D.int).length ≤ 1000000 := by
    have := List.length_filter_le (fun i => !decide (i ∈ T)) S9
    rw [List.length_append, List.length_map, List.length_map, List.length_take]
    omega
  have bd : fd__law_near.body = (.asg 2 (.bi .max [(.con (.int 0)), (.bin .sub (.bin .add (.bin .fdiv (.bi .len [(.var 0)]) (.con (.int 2))) (.bin .mod (.var 1) (.con (.int 3)))) (.con (.int 1)))])) :: (.ret (.bin .add (.bi .list [(.slice (.var 0) [] [(.var 2)])]) (.comp fd__law_near_e1 [3] .seq [(.call "_law_some" [(.bin .fdiv (.var 1) (.con (.int 3)))])] fd__law_near_c2))) :: [] := rfl
  have S0 : startE fd__law_near [.ref j, .int c] = [some (.ref j), some (.int c), none, none] := rfl
  have t2 : exec (ctxOf P wf (run P wf (n + 1))) (.ret (.bin .add (.bi .list [(.slice (.var 0) [] [(.var 2)])]) (.comp fd__law_near_e1 [3] .seq [(.call "_law_some" [(.bin .fdiv (.var 1) (.con (.int 3)))])] fd__law_near_c2))) [some (.ref j), some (.int c), some (.int m), none] s = .retN ((nearL T c).map .int) s := by
    rw [ex_ret, ev_bin, sl, hn, List.map_append]
    have cf0 := cf none
    have lT9 : S9.length ≤ 1000000 := by omega
    have nf := newIf_le (s := s) lR
    generalize (T.take m.toNat).map D.int = X1 at *
    generalize (S9.filter fun i => !decide (i ∈ T)).map D.int = X2 at *
    obtain ⟨X3, e3⟩ : ∃ X3, X3 = S9.map D.int := ⟨_, rfl⟩
    rw [← e3] at e1 cf0 lT
    simp [e1, lT, lim, wipeE, cf0, nf]
  rw [S0, bd, execs_nx t1, execs_rtN t2]
  exact finish_retN0 s
theorem r_mostN (A M : List Int) (j : Nat) (hj : s[j]? = some (.tpc M)) (hA : A.length ≤ 9) : run P wf (n + 1) "most" [.tup (A.map .int), .ref j] s = .ok (.bl (decide ((A.length : Int) < 2 * ((A.filter fun i => decide (i ∈ M)).length : Int)))) s := by
  rw [run_eq fn_most rfl]
  have hl : A.length ≤ 1000000 := by omega
  have e1 := comp_ints (C := ctxOf P wf (run P wf n)) (cs := fd_most_c2) (elt := fd_most_e1) (tg := [3]) (g := none) (ρ := [some (.tup (A.map .int)), some (.ref j), none, none]) (s := s) trivial D.int (fun i => decide (i ∈ M)) (l := A) fun i m => ⟨_, rfl, by simp [fd_most_c2, hj], fun _ => by simp [fd_most_e1]⟩
  simp [fd_most, startE, lim, hl, wipeE, e1]
def cntS : List Int → List Int → Nat
  | [], _ => 0
  | i :: A, T => T.count i + cntS A T
theorem cntS_nd {T : List Int} (h : T.Nodup) : ∀ A : List Int, cntS A T = (A.filter fun i => decide (i ∈ T)).length
  | [] => rfl
  | i :: A => by
    have ih := cntS_nd h A
    show T.count i + cntS A T = _
    by_cases q : i ∈ T
    · rw [List.filter_cons_of_pos (by simpa using q), List.length_cons, ih, h.count]
      rw [if_pos q]
      omega
    · rw [List.filter_cons_of_neg (by simpa using q), ih, List.count_eq_zero.mpr q]
      omega
theorem cntS_app (T : List Int) : ∀ A B : List Int, cntS (A ++ B) T = cntS A T + cntS B T
  | [], B => (Nat.zero_add _).symm
  | i :: A, B => by
    show T.count i + cntS (A ++ B) T = T.count i + cntS A T + cntS B T
    rw [cntS_app T A B]
    omega
theorem law_run (ns : List Int) (hn : ns.length ≤ 63) : ∃ s', run PDt.prog 10 (9 + 1) t_law.key [.lst (ns.map .int)] [] = .ok (.bl true) s' := by
  show ∃ s', run P 10 (9 + 1) "law" [.lst (ns.map .int)] [] = .ok (.bl true) s'
  obtain ⟨a, ea⟩ : ∃ a, a = ns.getD 0 0 := ⟨_, rfl⟩
  obtain ⟨b, eb⟩ : ∃ b, b = ns.getD 1 0 := ⟨_, rfl⟩
  obtain ⟨c, ec⟩ : ∃ c, c = ns.getD 2 0 := ⟨_, rfl⟩
  obtain ⟨d, ed⟩ : ∃ d, d = ns.getD 3 0 := ⟨_, rfl⟩
  have e0 : ∀ s : Sto, run P 10 9 "_law_cell_at" [.lst (ns.map .int), .int 0] s = .ok (.int a) s := fun s => ea ▸ r_cell ns 0
  have e1 : ∀ s : Sto, run P 10 9 "_law_cell_at" [.lst (ns.map .int), .int 1] s = .ok (.int b) s := fun s => eb ▸ r_cell ns 1
  have e2 : ∀ s : Sto, run P 10 9 "_law_cell_at" [.lst (ns.map .int), .int 2] s = .ok (.int c) s := fun s => ec ▸ r_cell ns 2
  have e3 : ∀ s : Sto, run P 10 9 "_law_cell_at" [.lst (ns.map .int), .int 3] s = .ok (.int d) s := fun s => ed ▸ r_cell ns 3
  obtain ⟨A, eA⟩ : ∃ A, A = seats a := ⟨_, rfl⟩
  have hA : Seats A := eA ▸ seats_ok _
  have lA := nodup_len 9 A hA.nd hA.rg
  have es : run P 10 9 "_law_seats" [.int a] [] = .ok (.tup (A.map .int)) [] := eA ▸ r_seats a
  obtain ⟨B, eB⟩ : ∃ B, B = some9 b := ⟨_, rfl⟩
  have lB : B.length ≤ 9 := by rw [eB]; exact some_len b 9
  have eb2 : run P 10 9 "_law_some" [.int b] [] = .new (B.map .int) [] := eB ▸ r_some b
  -- whom it asks about
  obtain ⟨M, s1, hM, lM, st3⟩ : ∃ (M : List Int) (s1 : Sto), M.Nodup ∧ M.length ≤ 100 ∧ exec (ctxOf P 10 (run P 10 9)) (.if_ (.cmp .eq (.bin .mod (.call "_law_cell_at" [(.var 0), (.con (.int 2))]) (.con (.int 3))) (.con (.int 1))) [.asg 2 (.call "_law_near" [(.call "_law_turned" [(.var 1), (.call "_law_cell_at" [(.var 0), (.con (.int 3))])]), (.call "_law_cell_at" [(.var 0), (.con (.int 1))])])] []) [some (.lst (ns.map .int)), some (.tup (A.map .int)), some (.lst (B.map .int)), none, none, none] [] = .next [some (.lst (ns.map .int)), some (.tup (A.map .int)), some (.lst (M.map .int)), none, none, none] s1 := by
    by_cases q : c % 3 = 1
    · obtain ⟨T, eT⟩ : ∃ T, T = turned A d := ⟨_, rfl⟩
      have pT := turned_perm A d
      rw [← eT] at pT
      have lT : T.length = A.length := pT.length_eq
      have et : run P 10 9 "_law_turned" [.tup (A.map .int), .int d] [] = .ok (.ref 1) [.lst (T.map .int), .tpc T] := by rw [eT]; exact r_turnedN (wf := 10) (n := 8) (s := []) (.tup (A.map .int)) A d (by omega) (.inl rfl)
      have en : run P 10 9 "_law_near" [.ref 1, .int b] [.lst (T.map .int), .tpc T] = .new ((nearL T b).map .int) [.lst (T.map .int), .tpc T] := r_nearN (wf := 10) (n := 7) 1 T b rfl (by omega)
      have ln := nearL_len T b
      refine ⟨nearL T b, [.lst (T.map .int), .tpc T], nearL_nd (pT.nodup_iff.mpr hA.nd) b, by omega, ?_⟩
      generalize (nearL T b).map D.int = NL at *
      generalize [Cell.lst (T.map .int), .tpc T] = S1 at *
      generalize ns.map D.int = NS at *
      generalize A.map D.int = AD at *
      simp [e2, q, e3, et, e1, en]
    · refine ⟨B, [], eB ▸ (some_ok b 9).1, by omega, ?_⟩
      generalize ns.map D.int = NS at *
      simp [e2, q]
  obtain ⟨T, eT⟩ : ∃ T, T = turned M (c / 3) := ⟨_, rfl⟩
  have pT := turned_perm M (c / 3)
  rw [← eT] at pT
  have nT : T.Nodup := pT.nodup_iff.mpr hM
  have et : run P 10 9 "_law_turned" [.lst (M.map .int), .int (c / 3)] s1 = .ok (.ref (s1.length + 1)) (s1 ++ [.lst (T.map .int), .tpc T]) := by rw [eT]; exact r_turnedN (wf := 10) (n := 8) (s := s1) (.lst (M.map .int)) M (c / 3) (by omega) (.inr rfl)
  obtain ⟨s2, es2⟩ : ∃ s2, s2 = s1 ++ [Cell.lst (T.map .int), .tpc T] := ⟨_, rfl⟩
  have g : s2[s1.length + 1]? = some (.tpc T) := by
    rw [es2, List.getElem?_append_right (by omega), show s1.length + 1 - s1.length = 1 by omega]
    rfl
  rw [← es2] at et
  obtain ⟨j, ej⟩ : ∃ j, j = s1.length + 1 := ⟨_, rfl⟩
  rw [← ej] at et g
  have em : run P 10 9 "most" [.tup (A.map .int), .ref j] s2 = _ := r_mostN (wf := 10) (n := 8) A T j g lA
  obtain ⟨ρ', s', e7, y4, h1, h2⟩ := for_ints (C := ctxOf P 10 (run P 10 9)) (body := fd_law_b1) (tg := [4]) (g := none) (l := A) (ρ := [some (.lst (ns.map .int)), some (.tup (A.map .int)), some (.ref j), some (.int 0), none, none]) (s := s2)
    (fun pre ρ s' => ∃ y4, ρ = [some (.lst (ns.map .int)), some (.tup (A.map .int)), some (.ref j), some (.int (cntS pre T)), y4, none] ∧ s' = s2) ⟨none, rfl, rfl⟩ (fun pre i suf ρ s' hd ⟨y4, h1, h2⟩ => by
      subst h1
      rw [h2]
      refine ⟨trivial, _, [some (.lst (ns.map .int)), some (.tup (A.map .int)), some (.ref j), some (.int (cntS (pre ++ [i]) T)), some (.int i), none], s2, rfl, .inl ?_, some (.int i), rfl, rfl⟩
      have ec : cntS (pre ++ [i]) T = cntS pre T + T.count i := by rw [cntS_app]; rfl
      rw [ec]
      generalize cntS pre T = k
      simp [fd_law_b1, g]) (fun _ _ _ => trivial)
  rw [h2, h1] at e7
  have ec := cntS_nd nT A
  obtain ⟨k, ek⟩ : ∃ k, k = cntS A T := ⟨_, rfl⟩
  rw [← ek] at e7 ec
  rw [← ec] at em
  have fin : ∀ b : Bool, finish [] (.ret (.bl b) s2) = .ok (.bl b) [] := fun b => finish_app [] s2 rfl
  refine ⟨[], ?_⟩
  rw [run_eq fn_law rfl]
  have t1 : exec (ctxOf P 10 (run P 10 9)) (.asg 1 (.call "_law_seats" [(.call "_law_cell_at" [(.var 0), (.con (.int 0))])])) [some (.lst (ns.map .int)), none, none, none, none, none] [] = .next [some (.lst (ns.map .int)), some (.tup (A.map .int)), none, none, none, none] [] := by
    generalize ns.map D.int = NS at *
    simp [e0, es]
  have t2 : exec (ctxOf P 10 (run P 10 9)) (.asg 2 (.call "_law_some" [(.call "_law_cell_at" [(.var 0), (.con (.int 1))])])) [some (.lst (ns.map .int)), some (.tup (A.map .int)), none, none, none, none] [] = .next [some (.lst (ns.map .int)), some (.tup (A.map .int)), some (.lst (B.map .int)), none, none, none] [] := by
    generalize ns.map D.int = NS at *
    simp [e1, eb2]
  have t4 : exec (ctxOf P 10 (run P 10 9)) (.asg 2 (.call "_law_turned" [(.var 2), (.bin .fdiv (.call "_law_cell_at" [(.var 0), (.con (.int 2))]) (.con (.int 3)))])) [some (.lst (ns.map .int)), some (.tup (A.map .int)), some (.lst (M.map .int)), none, none, none] s1 = .next [some (.lst (ns.map .int)), some (.tup (A.map .int)), some (.ref j), none, none, none] s2 := by
    generalize ns.map D.int = NS at *
    generalize M.map D.int = MD at *
    simp [e2, et]
  have bd : fd_law.body = (.asg 1 (.call "_law_seats" [(.call "_law_cell_at" [(.var 0), (.con (.int 0))])])) :: (.asg 2 (.call "_law_some" [(.call "_law_cell_at" [(.var 0), (.con (.int 1))])])) :: (.if_ (.cmp .eq (.bin .mod (.call "_law_cell_at" [(.var 0), (.con (.int 2))]) (.con (.int 3))) (.con (.int 1))) [.asg 2 (.call "_law_near" [(.call "_law_turned" [(.var 1), (.call "_law_cell_at" [(.var 0), (.con (.int 3))])]), (.call "_law_cell_at" [(.var 0), (.con (.int 1))])])] []) :: (.asg 2 (.call "_law_turned" [(.var 2), (.bin .fdiv (.call "_law_cell_at" [(.var 0), (.con (.int 2))]) (.con (.int 3)))])) :: fd_law.body.drop 4 := rfl
  have S0 : startE fd_law [.lst (ns.map .int)] = [some (.lst (ns.map .int)), none, none, none, none, none] := rfl
  rw [S0, bd, execs_nx t1, execs_nx t2, execs_nx st3, execs_nx t4]
  have it : ∀ s : Sto, items .seq [.tup (A.map D.int)] s = some (A.map .int, none) := fun _ => rfl
  have lAD : (A.map D.int).length = A.length := List.length_map _
  have dd : decide ((A.length : Int) < 2 * (k : Int)) = decide ((A.length : Int) < (k : Int) + (k : Int)) := by congr 1; apply propext; omega
  rw [dd] at em
  generalize ns.map D.int = NS at *
  obtain ⟨AD, eAD⟩ : ∃ AD, AD = A.map D.int := ⟨_, rfl⟩
  rw [← eAD] at e7 em it lAD ⊢
  simp [fd_law, it]
  rw [e7]
  by_cases q : (A.length : Int) < (k : Int) + (k : Int)
  · simp [em, lAD, q, fin]
  · simp [em, lAD, q, fin]

end Qk20

namespace Qk20
end Qk20
open PySem PySem.W PySem.Calls PyProof.Rows
theorem PySem.Challenge.cw_keeplog_k20_most_of_seats_holds : PySem.Challenge.rw_keeplog_k20_most_of_seats.Holds := by
  w_on; o_law
  refine HandSHeadRun.head_any (r := OpenLaw.row PySem.Challenge.rw_keeplog_k20_most_of_seats) (q := view (OpenLaw.row PySem.Challenge.rw_keeplog_k20_most_of_seats).prog [Qk20.lawAt]) (H := Qk20.hk) (ob := Qk20.ob) (M := Qk20.steps) (loose := Qk20.names)
    (d := HandSHeadRun.topDef (OpenLaw.row PySem.Challenge.rw_keeplog_k20_most_of_seats).prog Qk20.lawAt) (kwd := []) Qk20.ob_eq (by kernel_rfl) (fun s => by kernel_rfl) Qk20.head (by kernel_rfl) (by kernel_rfl) (by kernel_rfl) (by rfl) (by first | assumption | decide +kernel) (by decide +kernel) ⟨rfl, rfl, rfl, rfl, rfl, by decide +kernel⟩ ?hw ?hc
  case hw => w_witness2
  case hc =>
    refine L2.walk_ofE (l := PySem.Challenge.rw_keeplog_k20_most_of_seats) (n := 63) (k := 2 * 9 + 2) (x := "_law_script") (CX := L2.CX0) rfl (by decide) (by kernel_rfl) ⟨rfl, by decide, by decide⟩ ?F (fun _ _ _ _ z => z)
    intro w mg fa h Y G hmg0
    obtain ⟨K, KX, c⟩ := Y
    have hmg : mg ("law" : PySem.Str) = some (.ref fa) := by
      have e : (HandSHeadRun.topDef (OpenLaw.row PySem.Challenge.rw_keeplog_k20_most_of_seats).prog Qk20.lawAt).name = ("law" : PySem.Str) := by kernel_rfl
      rw [← e]
      exact hmg0
    obtain ⟨fd, sp, h1, h2, h3⟩ := KL.top_of (D := Qk20.PDt) Qk20.ok Qk20.hB (t := Qk20.t_law) Qk20.law_in (x := "_law_script") rfl (P := (PySem.Challenge.rw_keeplog_k20_most_of_seats).prog) (w := w) 10 9 KX G rfl Qk20.law_calls hmg c (mo := 63) Qk20.law_run
    exact ⟨K, fd, sp, KX, h1, h2, h3⟩
